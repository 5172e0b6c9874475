import PyProof.Rows.All
import Wide.All
import OpenK.AllK
import Wide.FinOn
import KE.KStateDown
import Lean
import HandS.ForMost
import HandS.Exc
import HandS.ExcOwn
import HandS.WordsExc
import HandS.Defaults
import HandS.Walk
import HandS.Zip
import HandS.IsInst
import HandS.Base
import HandS.Text
import KE.DataEq
import KE.DataFind
import HandS.StrMore
import HandS.Wide
import HandS.TupLe
import HandS.TupAny
import HandS.TupMul
import KE.KDictPairs
import HandS.More
import KE.SortData
import HandS.TryOnly
import HandS.Set
import HandS.SetKeys
import HandS.SetFor
import HandS.Strs
import HandS.Conv
import KE.KRevSl
import HandS.Style
import HandS.HotCalls
import HandS.ExcIs
import HandS.Deep
import HandS.Head0
import HandS.Head1
import HandS.Head2
import HandS.HeadEnd
import HandS.HeadHook1
import HandS.HeadHook2
import PySem.Challenge.RW_hangstill_k19_whole_one_changed
section
set_option Elab.async false
set_option linter.all false
set_option autoImplicit false
/-! A0: plain data, a small syntax tree, and what it computes: no heap, no model. -/
namespace Hg

/-- a text: its code points -/
abbrev T := List Nat

/-- plain data. scr: the script; fn f: the def number f; cel k: a list that its holders change; pr: what zip, enumerate, items give at a turn -/
inductive D where
  | non | bl (b : Bool) | int (i : Int) | str (x : T)
  | tup (xs : List D) | lst (xs : List D) | dct (kvs : List (T × D))
  | scr (ns : List Int) | fn (f : Nat) | cel (k : Nat) | pr (xs : List D)

abbrev Cells := List D

inductive Res (α : Type) where
  | ok (a : α) (c : Cells)
  | exc (x : Nat) (c : Cells)
  | bad

def M (α : Type) := Cells → Res α
def M.pure {α : Type} (a : α) : M α := fun c => .ok a c
def M.bind {α β : Type} (m : M α) (f : α → M β) : M β := fun c => match m c with
  | .ok a c' => f a c'
  | .exc x c' => .exc x c'
  | .bad => .bad
instance : Monad M where
  pure := M.pure
  bind := M.bind
def M.bad {α : Type} : M α := fun _ => .bad
def M.ofO {α : Type} : Option α → M α
  | some a => M.pure a
  | none => M.bad
theorem M.pure_eq {α : Type} (a : α) (c : Cells) : (pure a : M α) c = .ok a c := rfl
theorem M.bind_eq {α β : Type} (m : M α) (f : α → M β) (c : Cells) : (m >>= f) c = M.bind m f c := rfl
theorem M.bind_ok {α β : Type} {m : M α} {f : α → M β} {c c' : Cells} {a : α} (h : m c = .ok a c') : (m >>= f) c = f a c' := by
  show M.bind m f c = f a c'
  unfold M.bind; rw [h]
theorem M.bind_exc {α β : Type} {m : M α} {f : α → M β} {c c' : Cells} {x : Nat} (h : m c = .exc x c') : (m >>= f) c = .exc x c' := by
  show M.bind m f c = _
  unfold M.bind; rw [h]
theorem M.bind_bad {α β : Type} {m : M α} {f : α → M β} {c : Cells} (h : m c = .bad) : (m >>= f) c = .bad := by
  show M.bind m f c = _
  unfold M.bind; rw [h]

/-! ### names of operations -/
inductive TyN where | int | bool | str | tup | lst
inductive BOp where | add | sub | mul | fdiv | mod | pow
inductive COp where | eq | ne | lt | le | gt | ge | inn | nin
/-- built-ins and methods of built-ins that change nothing -/
inductive Prim where
  | len | srt | sset | lset | list | tupl | dict | all | any | max1 | min1 | max2 | min2 | sum | abs | int1 | str1
  | isi (t : TyN) | strip | cntS | split | join | part | count | index | get | zipl | rngt | srtIt | maxv
/-- what is walked -/
inductive SrcK where | e | rng1 | rng2 | zip | enum | items
inductive Tg where
  | nm (i : Nat)
  | tp (ts : List Tg)

/-- expressions, names resolved to slots -/
inductive E where
  | var (i : Nat) | int (i : Int) | str (x : T) | bl (b : Bool) | non
  | gint (x : T) (i : Int) | gstr (x z : T) | fn (f : Nat)
  | bin (o : BOp) (a b : E) | neg (a : E) | not (a : E)
  | cmp (o : COp) (a b : E) | isn (a : E) | nisn (a : E) | chn (o1 o2 : COp) (a b c : E)
  | and (a b : E) | or (a b : E) | ite (c a b : E)
  | tup (es : List E) | lst (es : List E)
  | ix (a b : E) | sl (a lo hi : E)
  | call (f : Nat) (es : List E) | calln (f : Nat) (es : List E) | callv (g : E) (es : List E)
  | prim (p : Prim) (es : List E) | mth (p : Prim) (o : E) (es : List E)
  | lc (k : SrcK) (ses : List E) (tg : Tg) (vs : List Nat) (cond elt : E)
  | rev (a : E) | cpop (i : Nat) (e : E)
  | olst (i : Nat) | oget (i : Nat) (k d : E)
  | osub (i : Nat) (e : E) | ocr (o : COp) (e : E) (i : Nat) | ocl (o : COp) (i : Nat) (e : E) | oln (i : Nat) | cln (i : Nat)

/-! ### operations on data -/
mutual
/-- == -/
def eqD : D → D → Bool
  | .non, .non => true
  | .bl a, .bl b => a == b
  | .bl a, .int j => (if a then 1 else 0) == j
  | .int i, .bl b => i == (if b then 1 else 0)
  | .int i, .int j => i == j
  | .str x, .str y => x == y
  | .lst xs, .lst ys => eqDs xs ys
  | .tup xs, .tup ys => eqDs xs ys
  | _, _ => false
def eqDs : List D → List D → Bool
  | [], [] => true
  | x :: xs, y :: ys => eqD x y && eqDs xs ys
  | _, _ => false
end
mutual
/-- no dict, no def, no cell within: what == takes -/
def plainD : D → Bool
  | .non => true
  | .bl _ => true
  | .int _ => true
  | .str _ => true
  | .tup xs => plainDs xs
  | .lst xs => plainDs xs
  | _ => false
def plainDs : List D → Bool
  | [] => true
  | x :: xs => plainD x && plainDs xs
end
mutual
def depD : D → Nat
  | .tup xs => depDs xs + 1
  | .lst xs => depDs xs + 1
  | _ => 0
def depDs : List D → Nat
  | [] => 0
  | x :: xs => max (depD x) (depDs xs)
end
mutual
/-- of one kind, place by place -/
def alikeD : D → D → Bool
  | .int _, .int _ => true
  | .str _, .str _ => true
  | .tup xs, .tup ys => alikeDs xs ys
  | .lst xs, .lst ys => alikeDs xs ys
  | _, _ => false
def alikeDs : List D → List D → Bool
  | x :: xs, y :: ys => alikeD x y && alikeDs xs ys
  | [], _ => true
  | _ :: _, [] => true
end
mutual
/-- < of what is of one kind -/
def ltD : D → D → Bool
  | .int i, .int j => decide (i < j)
  | .str x, .str y => decide (x < y)
  | .tup xs, .tup ys => ltDs xs ys
  | .lst xs, .lst ys => ltDs xs ys
  | _, _ => false
def ltDs : List D → List D → Bool
  | [], [] => false
  | [], _ :: _ => true
  | _ :: _, [] => false
  | x :: xs, y :: ys => if eqD x y then ltDs xs ys else ltD x y
end
mutual
/-- < where the first places that differ are of one kind -/
def ltO : D → D → Option Bool
  | .int i, .int j => some (decide (i < j))
  | .str x, .str y => some (decide (x < y))
  | .tup xs, .tup ys => ltOs xs ys
  | _, _ => none
def ltOs : List D → List D → Option Bool
  | [], [] => some false
  | [], _ :: _ => some true
  | _ :: _, [] => some false
  | x :: xs, y :: ys => if eqD x y then ltOs xs ys else ltO x y
end
/-- < of tuples with what it asks -/
def ltG (a b : D) : Option Bool := if plainD a && plainD b && decide (depD a ≤ 64) && decide (depD b ≤ 64) then ltO a b else none
mutual
/-- <= where the first places that differ are of one kind -/
def leO : D → D → Option Bool
  | .int i, .int j => some (decide (i ≤ j))
  | .str x, .str y => some (decide (x ≤ y))
  | .tup xs, .tup ys => leOs xs ys
  | _, _ => none
def leOs : List D → List D → Option Bool
  | [], [] => some true
  | [], _ :: _ => some true
  | _ :: _, [] => some false
  | x :: xs, y :: ys => if eqD x y then leOs xs ys else leO x y
end
/-- <= of tuples with what it asks -/
def leG (a b : D) : Option Bool := if plainD a && plainD b && decide (depD a ≤ 64) && decide (depD b ≤ 64) then leO a b else none
/-- == with what it asks -/
def eqO (a b : D) : Option Bool :=
  match a, b with
  | .scr ns, .lst [] => some ns.isEmpty
  | a, b => if plainD a && plainD b && decide (min (depD a) (depD b) ≤ 64) then some (eqD a b) else none

def bigI : Nat := 2 ^ 200000
def addD : D → D → Option D
  | .int i, .int j => some (.int (i + j))
  | .str x, .str y => if x.length + y.length ≤ 1000000 then some (.str (x ++ y)) else none
  | .lst xs, .lst ys => if xs.length + ys.length ≤ 1000000 then some (.lst (xs ++ ys)) else none
  | .tup [], .tup ys => some (.tup ys)
  | .tup (x :: xs), .tup ys => if xs.length + ys.length < 1000000 then some (.tup (x :: xs ++ ys)) else none
  | _, _ => none
def binD : BOp → D → D → Option D
  | .add, a, b => addD a b
  | .sub, .int i, .int j => some (.int (i - j))
  | .mul, .int i, .int j => if (i.natAbs < 2 ^ 64 ∨ j.natAbs < 2 ^ 64) ∨ (i.natAbs < bigI ∧ j.natAbs < bigI) then some (.int (i * j)) else none
  | .mul, .lst xs, .int k => if 0 ≤ k ∧ k ≤ 64 ∧ xs.length ≤ 10000 then some (.lst (List.replicate k.toNat xs).flatten) else none
  | .mul, .tup xs, .int k => if xs ≠ [] ∧ 2 ≤ k ∧ k ≤ 64 ∧ xs.length ≤ 1000 then some (.tup (List.replicate k.toNat xs).flatten) else none
  | .fdiv, .int i, .int j => if 0 < j ∧ j.natAbs < 2 ^ 8000 then some (.int (i / j)) else none
  | .mod, .int i, .int j => if 0 < j then some (.int (i % j)) else none
  | .pow, .int i, .int j => if 0 ≤ j ∧ j ≤ 1000000 ∧ i.natAbs < 2 ^ 64 then some (.int (i ^ j.toNat)) else none
  | _, _, _ => none

def lkD (k : T) : List (T × D) → Option D
  | [] => none
  | (x, d) :: r => if x = k then some d else lkD k r
def putD (k : T) (d : D) (kvs : List (T × D)) : List (T × D) :=
  if (kvs.any fun p => decide (p.1 = k)) = true then kvs.map (fun p => if p.1 = k then (p.1, d) else p) else kvs ++ [(k, d)]

/-- the place that an index of any sign means -/
def ixP (n : Nat) (i : Int) : Option Nat := if 0 ≤ i then (if i < n then some i.toNat else none) else if -(n : Int) ≤ i then some (i + n).toNat else none
/-- the same of a row that is not too long -/
def ixG (n : Nat) (i : Int) : Option Nat := if n ≤ 1000000 then ixP n i else none
def ixD : D → D → Option D
  | .tup xs, .int i => (ixP xs.length i).bind fun j => xs[j]?
  | .lst xs, .int i => (ixP xs.length i).bind fun j => xs[j]?
  | .str x, .int i => if x.length ≤ 1000000 then (ixP x.length i).bind fun j => x[j]?.map fun c => .str [c] else none
  | .scr ns, .int i => (ixP ns.length i).bind fun j => ns[j]?.map .int
  | .dct kvs, .str k => lkD k kvs
  | _, _ => none
def sBnd (n d : Nat) : D → Option Nat
  | .non => some d
  | .int v => some (if v < 0 then (v + (n : Int)).toNat else min v.toNat n)
  | _ => none
def cutL {α : Type} (xs : List α) (lo hi : Nat) : List α := (xs.drop lo).take (hi - lo)
def slD : D → D → D → Option D
  | .lst xs, lo, hi => do let a ← sBnd xs.length 0 lo; let b ← sBnd xs.length xs.length hi; some (.lst (cutL xs a b))
  | .tup xs, lo, hi => do let a ← sBnd xs.length 0 lo; let b ← sBnd xs.length xs.length hi; some (.tup (cutL xs a b))
  | .str xs, lo, hi => if xs.length ≤ 1000000 then (do let a ← sBnd xs.length 0 lo; let b ← sBnd xs.length xs.length hi; some (.str (cutL xs a b))) else none
  | _, _, _ => none

def ltT : T → T → Bool := fun a b => decide (a < b)
/-- is the one text within the other -/
def subT (x : T) : T → Bool
  | [] => x.isEmpty
  | c :: r => x.isPrefixOf (c :: r) || subT x r
def inL (d : D) (xs : List D) : Option Bool :=
  if plainD d && plainDs xs && decide (min (depD d) (depDs xs) ≤ 64) then some (xs.any fun y => eqD y d) else none
def inD : D → D → Option Bool
  | .str k, .dct kvs => some (lkD k kvs).isSome
  | d, .lst xs => inL d xs
  | d, .tup xs => inL d xs
  | .str [c], .str z => some (decide (c ∈ z))
  | _, _ => none
def cmpD : COp → D → D → Option Bool
  | .eq, a, b => eqO a b
  | .ne, a, b => (eqO a b).map (!·)
  | .lt, .int i, .int j => some (decide (i < j))
  | .le, .int i, .int j => some (decide (i ≤ j))
  | .gt, .int i, .int j => some (decide (j < i))
  | .ge, .int i, .int j => some (decide (j ≤ i))
  | .lt, .str x, .str y => some (decide (x < y))
  | .le, .str x, .str y => some (decide (x ≤ y))
  | .lt, .tup xs, .tup ys => ltG (.tup xs) (.tup ys)
  | .le, .tup xs, .tup ys => leG (.tup xs) (.tup ys)
  | .inn, a, b => inD a b
  | .nin, a, b => (inD a b).map (!·)
  | _, _, _ => none

def toBl : D → Option Bool
  | .bl b => some b
  | _ => none
def allBl : List D → Option (List Bool)
  | [] => some []
  | .bl b :: r => (allBl r).map (b :: ·)
  | _ => none
def allInt : List D → Option (List Int)
  | [] => some []
  | .int b :: r => (allInt r).map (b :: ·)
  | _ => none
def allStr : List D → Option (List T)
  | [] => some []
  | .str b :: r => (allStr r).map (b :: ·)
  | _ => none
def seqD : D → Option (List D)
  | .lst xs => some xs
  | .tup xs => some xs
  | _ => none

/-- insertion into a rising row, what is there is not put twice -/
def insU {α : Type} (lt : α → α → Bool) (x : α) : List α → List α
  | [] => [x]
  | y :: r => if lt x y then x :: y :: r else if lt y x then y :: insU lt x r else y :: r
def srtU {α : Type} (lt : α → α → Bool) : List α → List α
  | [] => []
  | x :: r => insU lt x (srtU lt r)
/-- insertion into a row that does not fall, ahead of none that is equal -/
def insS {α : Type} (lt : α → α → Bool) (x : α) : List α → List α
  | [] => [x]
  | y :: r => if lt y x then y :: insS lt x r else x :: y :: r
def srtS {α : Type} (lt : α → α → Bool) : List α → List α
  | [] => []
  | x :: r => insS lt x (srtS lt r)
/-- what sorted takes: all of one kind -/
def sortOk (xs : List D) : Bool := decide (xs.length ≤ 1000000) && plainDs xs && decide (depDs xs ≤ 64) && (xs.all fun a => xs.all fun b => alikeD a b) &&
  ((xs.all fun d => match d with | .tup (_ :: _) => true | _ => false) || xs.all fun d => match d with | .int _ => true | .str _ => true | .lst _ => true | _ => false)
def leD (a b : D) : Bool := !ltD b a
def srtD (xs : List D) : Option D := if sortOk xs then some (.lst (xs.mergeSort leD)) else none
/-- what is not there is put in front -/
def addU {α : Type} [DecidableEq α] (l : List α) (k : α) : List α := if (l.any fun j => decide (j = k)) = true then l else k :: l
def dedup {α : Type} [DecidableEq α] (l : List α) : List α := l.foldl addU []

/-- sorted(set(xs)) of texts, or of whole numbers -/
def ssetD (xs : List D) : Option D :=
  match allStr xs with
  | some ts => if ts.length < 64 then some (.lst ((srtU ltT ts).map .str)) else none
  | none => match allInt xs with
    | some ns => if ns.length < 64 then some (.lst ((srtU (fun a b => decide (a < b)) ns).map .int)) else none
    | none => none
def lsetD (xs : List D) : Option D :=
  match allStr xs with
  | some ts => if ts.length < 64 then some (.int (dedup ts).length) else none
  | none => match allInt xs with
    | some ns => if ns.length < 64 then some (.int (dedup ns).length) else none
    | none => none

def pairsD : List D → Option (List (T × D))
  | [] => some []
  | .tup [.str k, v] :: r => (pairsD r).map ((k, v) :: ·)
  | _ => none
def dictD (ps : List (T × D)) : List (T × D) := ps.foldl (fun a p => putD p.1 p.2 a) []

def isiD : TyN → D → Option Bool
  | .int, .int _ => some true
  | .int, .bl _ => some true
  | .bool, .bl _ => some true
  | .str, .str _ => some true
  | .tup, .tup _ => some true
  | .lst, .lst _ => some true
  | _, .non => some false
  | _, .bl _ => some false
  | _, .int _ => some false
  | _, .str _ => some false
  | _, .tup _ => some false
  | _, .lst _ => some false
  | _, _ => none
def stripT (x cs : T) : T := (PySem.Txt.stripChars ⟨x.toArray⟩ ⟨cs.toArray⟩).cps.toList
def zipT : List D → List D → List D
  | x :: xs, y :: ys => .pr [x, y] :: zipT xs ys
  | _, _ => []
/-- pairs as tuples -/
def zipP : List D → List D → List D
  | x :: xs, y :: ys => .tup [x, y] :: zipP xs ys
  | _, _ => []
/-- a whole number's text -/
def intT (i : Int) : T := (PySem.Str.ofString (toString i)).cps.toList
def maxI : List Int → Option Int
  | [] => none
  | x :: r => some (r.foldl max x)

def rngL (lo hi : Int) : List D := (List.range (hi - lo).toNat).map fun k => .int (lo + (k : Nat))
def primD : Prim → List D → Option D
  | .len, [.tup xs] => some (.int xs.length)
  | .len, [.lst xs] => some (.int xs.length)
  | .len, [.scr xs] => some (.int xs.length)
  | .len, [.str xs] => if xs.length ≤ 1000000 then some (.int xs.length) else none
  | .list, [.lst xs] => some (.lst xs)
  | .list, [.tup xs] => some (.lst xs)
  | .list, [.dct kvs] => some (.lst (kvs.map fun p => .str p.1))
  | .tupl, [.lst xs] => some (.tup xs)
  | .tupl, [.tup xs] => some (.tup xs)
  | .dict, [.lst xs] => (pairsD xs).map fun ps => .dct (dictD ps)
  | .dict, [.tup xs] => (pairsD xs).map fun ps => .dct (dictD ps)
  | .all, [.lst xs] => (allBl xs).map fun bs => .bl (bs.all id)
  | .any, [.lst xs] => (allBl xs).map fun bs => .bl (bs.any id)
  | .sset, [d] => (seqD d).bind ssetD
  | .lset, [d] => (seqD d).bind lsetD
  | .max1, [.lst xs] => ((allInt xs).bind maxI).map .int
  | .max2, [.int a, .int b] => some (.int (if b > a then b else a))
  | .min2, [.int a, .int b] => some (.int (if b < a then b else a))
  | .min2, [.tup xs, .tup ys] => (ltG (.tup ys) (.tup xs)).map fun k => if k then .tup ys else .tup xs
  | .sum, [.lst xs] => (allInt xs).map fun ns => .int ns.sum
  | .abs, [.int a] => some (.int (if a < 0 then -a else a))
  | .int1, [.bl b] => some (.int (if b then 1 else 0))
  | .isi t, [d] => (isiD t d).map .bl
  | .srt, [.lst xs] => srtD xs
  | .zipl, [.lst xs, .lst ys] => if min xs.length ys.length ≤ 1000000 then some (.lst (zipP xs ys)) else none
  | .count, [.lst xs, d] => if plainDs xs && plainD d && decide (min (depDs xs) (depD d) ≤ 64) then some (.int (xs.countP fun y => eqD y d)) else none
  | .cntS, [.str x, .str y] => some (.int (PySem.Txt.count ⟨x.toArray⟩ ⟨y.toArray⟩))
  | .str1, [.int i] => if i.natAbs < 2 ^ 1900 then some (.str (intT i)) else none
  | .int1, [.str x] => if x.length ≤ 640 then (PySem.intText? ⟨x.toArray⟩).map .int else none
  | .split, [.str x, .str y] => if x.length ≤ 1000000 ∧ y ≠ [] then some (.lst ((PySem.Txt.split ⟨x.toArray⟩ ⟨y.toArray⟩).map fun z => .str z.cps.toList)) else none
  | .part, [.str x, .str y] => if x.length ≤ 1000000 ∧ y ≠ [] then (match PySem.Txt.partition ⟨x.toArray⟩ ⟨y.toArray⟩ with | (a, b, c) => some (.pr [.str a.cps.toList, .str b.cps.toList, .str c.cps.toList])) else none
  | .join, [.str x, .lst ys] => match allStr ys with
    | some ts => if (ts.map List.length).sum + ts.length * x.length ≤ 1000000 then some (.str (PySem.Txt.join ⟨x.toArray⟩ (ts.map fun t => ⟨t.toArray⟩)).cps.toList) else none
    | none => none
  | .strip, [.str x, .str cs] => if x.length ≤ 1000000 then some (.str (stripT x cs)) else none
  | .rngt, [.int a, .int b] => if a ≤ 1000000 ∧ -1000000 ≤ a ∧ b ≤ 1000000 ∧ -1000000 ≤ b then some (.tup (rngL a b)) else none
  | .srtIt, [.dct kvs] => srtD (kvs.map fun p => .tup [.str p.1, p.2])
  | .maxv, [.dct kvs] => ((allInt (kvs.map (·.2))).bind maxI).map .int
  | _, _ => none

/-! ### slots -/
inductive Slot where
  | emp | val (d : D) | own (d : D)
abbrev Env := List Slot
def getV (env : Env) (i : Nat) : Option D := match env[i]? with
  | some (.val d) => some d
  | _ => none
def getO (env : Env) (i : Nat) : Option D := match env[i]? with
  | some (.own d) => some d
  | _ => none
def Slot.lend : Slot → Slot
  | .own d => .val d
  | s => s
def wipeE (env : Env) : List Nat → Env
  | [] => env
  | v :: vs => (wipeE env vs).set v .emp
mutual
def bindT : Tg → D → Env → Option Env
  | .nm i, d, env => some (env.set i (.val d))
  | .tp ts, .tup ds, env => bindTs ts ds env
  | .tp ts, .pr ds, env => bindTs ts ds env
  | .tp ts, .lst ds, env => bindTs ts ds env
  | .tp _, _, _ => none
def bindTs : List Tg → List D → Env → Option Env
  | [], [], env => some env
  | t :: ts, d :: ds, env => (bindT t d env).bind fun env' => bindTs ts ds env'
  | _, _, _ => none
end
def enumL : Nat → List D → List D
  | _, [] => []
  | n, x :: r => .pr [.int n, x] :: enumL (n + 1) r
/-- what is walked, item by item -/
def srcD : SrcK → List D → Option (List D)
  | .e, [.lst xs] => some xs
  | .e, [.tup xs] => some xs
  | .e, [.str x] => some (x.map fun c => .str [c])
  | .e, [.dct kvs] => some (kvs.map fun p => .str p.1)
  | .rng1, [.int n] => if n ≤ 1000000 ∧ -1000000 ≤ n then some (rngL 0 n) else none
  | .rng2, [.int a, .int b] => if a ≤ 1000000 ∧ -1000000 ≤ a ∧ b ≤ 1000000 ∧ -1000000 ≤ b then some (rngL a b) else none
  | .zip, [.lst xs, .lst ys] => some (zipT xs ys)
  | .zip, [.tup xs, .tup ys] => some (zipT xs ys)
  | .enum, [.lst xs] => some (enumL 0 xs)
  | .items, [.dct kvs] => some (kvs.map fun p => .pr [.str p.1, p.2])
  | _, _ => none

/-- a test -/
def M.toB (m : M D) : M Bool := do M.ofO (toBl (← m))
/-- a comprehension's turns; acc: what is made so far -/
def lcL (tg : Tg) (test elt : Env → M D) (env : Env) : List D → List D → M (List D)
  | [], acc => pure acc
  | x :: r, acc => match bindT tg x env with
    | none => M.bad
    | some env' => do
      if ← M.toB (test env') then
        let y ← elt env'
        if acc.length < 1000000 then lcL tg test elt env r (acc ++ [y]) else M.bad
      else lcL tg test elt env r acc

mutual
/-- no cell within -/
def noCel : D → Bool
  | .tup xs => noCels xs
  | .lst xs => noCels xs
  | .dct kvs => noCelK kvs
  | .cel _ => false
  | .pr xs => noCels xs
  | _ => true
def noCels : List D → Bool
  | [] => true
  | x :: xs => noCel x && noCels xs
def noCelK : List (T × D) → Bool
  | [] => true
  | (_, x) :: xs => noCel x && noCelK xs
end
section
variable (cf : Nat → List D → M D)
/-- what leaves a comprehension: no exception -/
def M.calm {α : Type} (m : M α) : M α := fun c => match m c with
  | .exc _ _ => .bad
  | r => r
def lenD : D → Option D
  | .lst xs => some (.int xs.length)
  | _ => none
/-- what a method may be asked of -/
def rcvOk : Prim → D → Bool
  | .strip, .str _ => true
  | .split, .str _ => true
  | .part, .str _ => true
  | .join, .str _ => true
  | .count, .lst _ => true
  | .cntS, .str _ => true
  | .index, .lst _ => true
  | .get, .dct _ => true
  | _, _ => false
/-- a slice's bound is left out or whole -/
def bOk : E → D → Bool
  | .non, _ => true
  | _, .int _ => true
  | _, _ => false
/-- a call whose last argument is a list of its own, still empty -/
def outN (g : List D → M D) (ds : List D) : M D := fun c => match g (ds ++ [.cel c.length]) (c ++ [.lst []]) with
  | .ok d c2 => if noCel d then .ok d (c2.take c.length) else .bad
  | .exc x c2 => .exc x (c2.take c.length)
  | .bad => .bad
def evB (e : E) (m : M D) : M D := do let d ← m; if bOk e d then pure d else M.bad
mutual
def evE : E → Env → M D
  | .var i, env => M.ofO (getV env i)
  | .int i, _ => pure (.int i)
  | .str x, _ => pure (.str x)
  | .bl b, _ => pure (.bl b)
  | .non, _ => pure .non
  | .gint _ i, _ => pure (.int i)
  | .gstr _ z, _ => pure (.str z)
  | .fn f, _ => pure (.fn f)
  | .bin o a b, env => do let x ← evE a env; let y ← evE b env; M.ofO (binD o x y)
  | .neg a, env => do match ← evE a env with
    | .int i => pure (.int (-i))
    | _ => M.bad
  | .not a, env => do let b ← M.toB (evE a env); pure (.bl (!b))
  | .cmp o a b, env => do let x ← evE a env; let y ← evE b env; let r ← M.ofO (cmpD o x y); pure (.bl r)
  | .isn a, env => do match ← evE a env with
    | .non => pure (.bl true)
    | _ => pure (.bl false)
  | .nisn a, env => do match ← evE a env with
    | .non => pure (.bl false)
    | _ => pure (.bl true)
  | .chn o1 o2 a b c, env => do
    let x ← evE a env; let y ← evE b env
    let r ← M.ofO (cmpD o1 x y)
    if r then do let z ← evE c env; let r2 ← M.ofO (cmpD o2 y z); pure (.bl r2) else pure (.bl false)
  | .and a b, env => do if ← M.toB (evE a env) then (do let r ← M.toB (evE b env); pure (.bl r)) else pure (.bl false)
  | .or a b, env => do if ← M.toB (evE a env) then pure (.bl true) else (do let r ← M.toB (evE b env); pure (.bl r))
  | .ite c a b, env => do if ← M.toB (evE c env) then evE a env else evE b env
  | .tup es, env => do let ds ← evEs es env; pure (.tup ds)
  | .lst es, env => do let ds ← evEs es env; pure (.lst ds)
  | .ix a b, env => do let x ← evE a env; let y ← evE b env; M.ofO (ixD x y)
  | .sl a lo hi, env => do let x ← evE a env; let l ← evB lo (evE lo env); let h ← evB hi (evE hi env); M.ofO (slD x l h)
  | .call f es, env => do let ds ← evEs es env; cf f ds
  | .calln f es, env => do let ds ← evEs es env; outN (cf f) ds
  | .callv g es, env => do
    match ← evE g env with
    | .fn f => do let ds ← evEs es env; cf f ds
    | _ => M.bad
  | .prim p es, env => do let ds ← evEs es env; M.ofO (primD p ds)
  | .mth p o es, env => do
    let x ← evE o env
    if rcvOk p x then (do let ds ← evEs es env; M.ofO (primD p (x :: ds))) else M.bad
  | .lc k ses tg vs cond elt, env => do
    let ds ← evEs ses env
    let xs ← M.ofO (srcD k ds)
    let r ← M.calm (lcL tg (evE cond) (evE elt) (wipeE env vs) xs [])
    pure (.lst r)
  | .rev a, env => do match ← evE a env with
    | .lst xs => pure (.lst xs.reverse)
    | .tup xs => pure (.tup xs.reverse)
    | _ => M.bad
  | .cpop i e, env => do
    match ← evE e env with
    | .int j => fun c => match getV env i with
      | some (.cel k) => match c[k]? with
        | some (.lst xs) => match ixG xs.length j with
          | some m => match xs[m]? with
            | some d => .ok d (c.set k (.lst (xs.eraseIdx m)))
            | none => .bad
          | none => .bad
        | _ => .bad
      | _ => .bad
    | _ => M.bad
  | .olst i, env => M.ofO ((getO env i).bind fun d => primD .list [d])
  | .oget i k z, env => match getO env i with
    | some (.dct kvs) => do
      match ← evE k env with
      | .str x => do let d ← evE z env; pure ((lkD x kvs).getD d)
      | _ => M.bad
    | _ => M.bad
  | .osub i e, env => match getO env i with
    | some d => do let k ← evE e env; M.ofO (ixD d k)
    | none => M.bad
  | .ocr o e i, env => match getO env i with
    | some d => do let x ← evE e env; M.ofO ((cmpD o x d).map D.bl)
    | none => M.bad
  | .ocl o i e, env => match getO env i with
    | some d => do let x ← evE e env; M.ofO ((cmpD o d x).map D.bl)
    | none => M.bad
  | .oln i, env => M.ofO ((getO env i).bind lenD)
  | .cln i, env => fun c => match getV env i with
    | some (.cel k) => (M.ofO (c[k]?.bind lenD)) c
    | _ => .bad
def evEs : List E → Env → M (List D)
  | [], _ => pure []
  | e :: es, env => do let d ← evE e env; let ds ← evEs es env; pure (d :: ds)
end
end

/-! ### statements -/
inductive S where
  | set (i : Nat) (e : E)
  | setO (i : Nat) (e : E)
  | setN (i : Nat) (e : E)
  | setD (i : Nat) (kv : Option (E × E))
  | frz (i : Nat)
  | unp (tg : Tg) (e : E)
  | par (i j : Nat) (a b : E)
  | app (i : Nat) (e : E) | ext (i : Nat) (e : E) | pop (j i : Nat) (e : E)
  | put (i : Nat) (k e : E)
  | lput (i : Nat) (k e : E)
  | capp (i : Nat) (e : E)
  | ex (e : E)
  | ifs (c : E) (a b : List S)
  | forr (k : SrcK) (ses : List E) (tg : Tg) (b : List S)
  | whl (c : E) (b : List S)
  | ret (e : E)
  | rse (x : Nat)
  | tri (b : List S) (h : Nat) (tbl : List (Nat × D))
  | nev
inductive Fl where
  | nx (env : Env)
  | rt (d : D)
def fresh : E → Bool
  | .lst _ => true
  | _ => false
def forL (tg : Tg) (b : Env → M Fl) : List D → Env → M Fl
  | [], env => pure (.nx env)
  | x :: r, env => match bindT tg x env with
    | none => M.bad
    | some env' => do match ← b env' with
      | .nx env2 => forL tg b r env2
      | .rt d => pure (.rt d)
def whlL (c : Env → M D) (b : Env → M Fl) : Nat → Env → M Fl
  | 0, _ => M.bad
  | n + 1, env => do
    if ← M.toB (c env) then (do match ← b env with
      | .nx env2 => whlL c b n env2
      | .rt d => pure (.rt d))
    else pure (.nx env)
def lkE (x : Nat) : List (Nat × D) → Option D
  | [] => none
  | (y, d) :: r => if y = x then some d else lkE x r
def setCell (c : Cells) (k : Nat) (d : D) : Cells := c.set k d
section
variable (cf : Nat → List D → M D) (wf : Nat)
mutual
def evS : S → Env → M Fl
  | .set i e, env => do let d ← evE cf e env; pure (.nx (env.set i (.val d)))
  | .setO i e, env => do let d ← evE cf e env; pure (.nx (env.set i (.own d)))
  | .setN i e, env => do
    let d ← evE cf e env
    fun c => if noCel d then .ok (.nx (env.set i (.val (.cel c.length)))) (c ++ [d]) else .bad
  | .setD i none, env => pure (.nx (env.set i (.own (.dct []))))
  | .setD i (some (k, e)), env => do
    match ← evE cf k env with
    | .str x => do let d ← evE cf e env; pure (.nx (env.set i (.own (.dct [(x, d)]))))
    | _ => M.bad
  | .frz i, env => match getO env i with
    | some d => pure (.nx (env.set i (.val d)))
    | none => M.bad
  | .unp tg e, env => do let d ← evE cf e env; let env' ← M.ofO (bindT tg d env); pure (.nx env')
  | .par i j a b, env => do let x ← evE cf a env; let y ← evE cf b env; pure (.nx ((env.set i (.val x)).set j (.val y)))
  | .app i e, env => match getO env i with
    | some (.lst xs) => do
      let d ← evE cf e env
      if xs.length < 1000000 then pure (.nx (env.set i (.own (.lst (xs ++ [d]))))) else M.bad
    | _ => M.bad
  | .ext i e, env => match getO env i with
    | some (.lst xs) => do
      match ← evE cf e env with
      | .lst ys => if xs.length + ys.length < 1000000 then pure (.nx (env.set i (.own (.lst (xs ++ ys))))) else M.bad
      | _ => M.bad
    | _ => M.bad
  | .pop j i e, env => match getO env i with
    | some (.lst xs) => do
      match ← evE cf e env with
      | .int k => match ixG xs.length k with
        | some m => match xs[m]? with
          | some d => pure (.nx ((env.set i (.own (.lst (xs.eraseIdx m)))).set j (.val d)))
          | none => M.bad
        | none => M.bad
      | _ => M.bad
    | _ => M.bad
  | .put i k e, env => match getO env i with
    | some (.dct kvs) => do
      let d ← evE cf e env
      match ← evE cf k env with
      | .str x => if kvs.length < 1000000 then pure (.nx (env.set i (.own (.dct (putD x d kvs))))) else M.bad
      | _ => M.bad
    | _ => M.bad
  | .lput i k e, env => match getO env i with
    | some (.lst xs) => do
      let d ← evE cf e env
      match ← evE cf k env with
      | .int j => match ixG xs.length j with
        | some m => pure (.nx (env.set i (.own (.lst (xs.set m d)))))
        | none => M.bad
      | _ => M.bad
    | _ => M.bad
  | .capp i e, env => fun c => match getV env i with
    | some (.cel k) => match c[k]? with
      | some (.lst _) => (do
        let d ← evE cf e env
        fun c => match c[k]? with
          | some (.lst xs) => if xs.length < 1000000 ∧ noCel d = true then Res.ok (Fl.nx env) (c.set k (.lst (xs ++ [d]))) else .bad
          | _ => .bad : M Fl) c
      | _ => .bad
    | _ => .bad
  | .ex e, env => do let _ ← evE cf e env; pure (.nx env)
  | .ifs c a b, env => do if ← M.toB (evE cf c env) then evSs a env else evSs b env
  | .forr k ses tg b, env => do
    let ds ← evEs cf ses env
    let xs ← M.ofO (srcD k ds)
    forL tg (evSs b) xs env
  | .whl c b, env => whlL (evE cf c) (evSs b) wf env
  | .ret e, env => do let d ← evE cf e env; pure (.rt d)
  | .rse x, _ => fun c => .exc x c
  | .tri b _ tbl, env => fun c => match evSs b env c with
    | .exc x c' => match lkE x tbl with
      | some d => .ok (.rt d) c'
      | none => .bad
    | r => r
  | .nev, _ => M.bad
def evSs : List S → Env → M Fl
  | [], env => pure (.nx env)
  | s :: ss, env => do match ← evS s env with
    | .nx env' => evSs ss env'
    | .rt d => pure (.rt d)
end
end

/-- what the known handlers give -/
def tblNon : List (Nat × D) := [(0, .non), (1, .non), (2, .non), (3, .non), (4, .non), (5, .non), (6, .non), (7, .non), (8, .non), (9, .non)]
def refD (i : Int) : D := .tup [.str [114, 101, 102, 117, 115, 101, 100], .int i]
def tblWh (m : Nat) : List (Nat × D) := (List.range m).map fun x => (x, refD (if x < m then (x : Int) else -1))
/-! ### defs -/
structure FD where
  name : T
  np : Nat
  nv : Nat
  body : List S
def cutC (n : Nat) (c : Cells) : Cells := if c.length = n then c else c.take n
/-- what a call gives of what its body gave: the cells of its own are gone -/
def outF (n : Nat) : Res Fl → Res D
  | .ok (.nx _) c => .ok .non (cutC n c)
  | .ok (.rt d) c => if c.length = n then .ok d c else if noCel d then .ok d (c.take n) else .bad
  | .exc x c => .exc x (cutC n c)
  | .bad => .bad
def wFuel : Nat := 2 ^ 8000
/-- a call, so many calls deep at most -/
def callF (tab : Nat → Option FD) : Nat → Nat → List D → M D
  | 0, _, _ => M.bad
  | n + 1, f, ds => match tab f with
    | none => M.bad
    | some fd => if ds.length = fd.np then fun c => outF c.length (evSs (callF tab n) wFuel fd.body (ds.map Slot.val ++ List.replicate (fd.nv - fd.np) .emp) c) else M.bad
def bodyF (tab : Nat → Option FD) (n : Nat) (fd : FD) (ds : List D) : M D := fun c => outF c.length (evSs (callF tab n) wFuel fd.body (ds.map Slot.val ++ List.replicate (fd.nv - fd.np) .emp) c)
theorem callF_some {tab : Nat → Option FD} {n f : Nat} {fd : FD} {ds : List D} (h : tab f = some fd) : callF tab (n + 1) f ds = if ds.length = fd.np then bodyF tab n fd ds else M.bad := by
  show (match tab f with | none => M.bad | some fd => _) = _
  rw [h]
  rfl
/-- a written text's code points -/
def tx (s : String) : T := s.toList.map Char.toNat
/-- a def of the law's text: its name, its place in the top, its names, its body -/
structure DR where
  ix : Nat
  x : T
  i : Nat
  N : List T
  np : Nat
  body : List S
def DR.fd (r : DR) : FD := ⟨r.x, r.np, r.N.length, r.body⟩
def lkR (rs : List DR) (f : Nat) : Option DR := rs.find? fun r => r.ix == f
theorem lkR_mem {rs : List DR} {f : Nat} {r : DR} (h : lkR rs f = some r) : r ∈ rs := List.mem_of_find?_eq_some h
def tabOf (rs : List DR) : Nat → Option FD := fun f => (lkR rs f).map DR.fd
end Hg
end
section
set_option Elab.async false
set_option linter.all false
set_option autoImplicit false
set_option maxRecDepth 100000
/-! A1: data as it stands in the abstract heap. -/
namespace Hg
open PySem PySem.Spec PyProof.Rows L2

/-- a text as the model has it -/
def toS (x : T) : Str := ⟨x.toArray⟩
theorem toS_inj {x y : T} (h : toS x = toS y) : x = y := by
  have h1 : x.toArray = y.toArray := congrArg Str.cps h
  have h2 := congrArg Array.toList h1
  simpa using h2
theorem toS_cps (x : T) : (toS x).cps.toList = x := by simp [toS]
theorem toS_len (x : T) : (toS x).length = x.length := by simp [toS, Str.length]

/-- where the defs stand, and the errors' classes -/
structure Pl where
  K : PySem.W.Frag
  fn : Nat → Addr
  er : Nat → Addr
  has : Nat → Bool

/-- a set of addresses whose objects never change again -/
abbrev Fz := Addr → Prop

mutual
inductive Rep (L : Pl) (F : Fz) (C : List Addr) (H : Hp) : V → D → Prop
  | non : Rep L F C H .non .non
  | bl (b : Bool) : Rep L F C H (.bl b) (.bl b)
  | int (i : Int) : Rep L F C H (.int i) (.int i)
  | str (x : T) : Rep L F C H (.str (toS x)) (.str x)
  | tup {a : Addr} {vs : List V} {ds : List D} (o : Obj) : F a → H a = some (.frz o (.tup vs)) → o.dict = none → Reps L F C H vs ds → Rep L F C H (.ref a) (.tup ds)
  | pr {a : Addr} {vs : List V} {ds : List D} : F a → H a = some (.tup vs) → Reps L F C H vs ds → Rep L F C H (.ref a) (.pr ds)
  | lst {a : Addr} {vs : List V} {ds : List D} : F a → H a = some (.lst vs) → Reps L F C H vs ds → Rep L F C H (.ref a) (.lst ds)
  | dct {a : Addr} {kvs : List (Key × V)} {ds : List (T × D)} (o : Obj) : F a → H a = some (.frz o (.dK kvs)) → RepK L F C H kvs ds → Rep L F C H (.ref a) (.dct ds)
  | scr {a : Addr} {ns : List Int} (o : Obj) : F a → H a = some (.frz o (.lst (ns.map V.int))) → Rep L F C H (.ref a) (.scr ns)
  | scrK {a : Addr} {ns : List Int} : (∀ H' : Hp, SqL L.K H' a (ns.map V.int)) → Rep L F C H (.ref a) (.scr ns)
  | fn (f : Nat) : L.has f = true → Rep L F C H (.ref (L.fn f)) (.fn f)
  | cel {a : Addr} {k : Nat} : C[k]? = some a → Rep L F C H (.ref a) (.cel k)
inductive Reps (L : Pl) (F : Fz) (C : List Addr) (H : Hp) : List V → List D → Prop
  | nil : Reps L F C H [] []
  | cons {v : V} {d : D} {vs : List V} {ds : List D} : Rep L F C H v d → Reps L F C H vs ds → Reps L F C H (v :: vs) (d :: ds)
inductive RepK (L : Pl) (F : Fz) (C : List Addr) (H : Hp) : List (Key × V) → List (T × D) → Prop
  | nil : RepK L F C H [] []
  | cons {k : T} {v : V} {d : D} {vs : List (Key × V)} {ds : List (T × D)} : Rep L F C H v d → RepK L F C H vs ds → RepK L F C H ((.inr (toS k), v) :: vs) ((k, d) :: ds)
end

section
variable {L : Pl} {F F' : Fz} {C C' : List Addr} {H H' : Hp}
mutual
theorem Rep.mono (hF : ∀ a, F a → F' a ∧ H' a = H a) (hC : ∀ (k : Nat) (a : Addr), C[k]? = some a → C'[k]? = some a) : ∀ {v : V} {d : D}, Rep L F C H v d → Rep L F' C' H' v d
  | _, _, .non => .non
  | _, _, .bl b => .bl b
  | _, _, .int i => .int i
  | _, _, .str x => .str x
  | _, _, .tup o f h d r => .tup o (hF _ f).1 ((hF _ f).2.trans h) d (Reps.mono hF hC r)
  | _, _, .pr f h r => .pr (hF _ f).1 ((hF _ f).2.trans h) (Reps.mono hF hC r)
  | _, _, .lst f h r => .lst (hF _ f).1 ((hF _ f).2.trans h) (Reps.mono hF hC r)
  | _, _, .dct o f h r => .dct o (hF _ f).1 ((hF _ f).2.trans h) (RepK.mono hF hC r)
  | _, _, .scr o f h => .scr o (hF _ f).1 ((hF _ f).2.trans h)
  | _, _, .scrK h => .scrK h
  | _, _, .fn f h => .fn f h
  | _, _, .cel h => .cel (hC _ _ h)
theorem Reps.mono (hF : ∀ a, F a → F' a ∧ H' a = H a) (hC : ∀ (k : Nat) (a : Addr), C[k]? = some a → C'[k]? = some a) : ∀ {v : List V} {d : List D}, Reps L F C H v d → Reps L F' C' H' v d
  | _, _, .nil => .nil
  | _, _, .cons h r => .cons (Rep.mono hF hC h) (Reps.mono hF hC r)
theorem RepK.mono (hF : ∀ a, F a → F' a ∧ H' a = H a) (hC : ∀ (k : Nat) (a : Addr), C[k]? = some a → C'[k]? = some a) : ∀ {v : List (Key × V)} {d : List (T × D)}, RepK L F C H v d → RepK L F' C' H' v d
  | _, _, .nil => .nil
  | _, _, .cons h r => .cons (Rep.mono hF hC h) (RepK.mono hF hC r)
end
theorem Reps.len : ∀ {vs : List V} {ds : List D}, Reps L F C H vs ds → vs.length = ds.length
  | _, _, .nil => rfl
  | _, _, .cons _ r => by simp [Reps.len r]
theorem RepK.len : ∀ {vs : List (Key × V)} {ds : List (T × D)}, RepK L F C H vs ds → vs.length = ds.length
  | _, _, .nil => rfl
  | _, _, .cons _ r => by simp [RepK.len r]
theorem Reps.app : ∀ {vs ws : List V} {ds es : List D}, Reps L F C H vs ds → Reps L F C H ws es → Reps L F C H (vs ++ ws) (ds ++ es)
  | _, _, _, _, .nil, s => s
  | _, _, _, _, .cons h r, s => .cons h (Reps.app r s)
theorem Reps.at : ∀ {vs : List V} {ds : List D} {i : Nat} {d : D}, Reps L F C H vs ds → ds[i]? = some d → ∃ v, vs[i]? = some v ∧ Rep L F C H v d
  | _, _, _, _, .nil, h => by simp at h
  | _, _, 0, _, .cons h _, e => by simp at e; subst e; exact ⟨_, rfl, h⟩
  | _, _, i + 1, _, .cons _ r, e => by simpa using Reps.at (i := i) r (by simpa using e)
theorem Reps.atV : ∀ {vs : List V} {ds : List D} {i : Nat} {v : V}, Reps L F C H vs ds → vs[i]? = some v → ∃ d, ds[i]? = some d ∧ Rep L F C H v d
  | _, _, _, _, .nil, h => by simp at h
  | _, _, 0, _, .cons h _, e => by simp at e; subst e; exact ⟨_, rfl, h⟩
  | _, _, i + 1, _, .cons _ r, e => by simpa using Reps.atV (i := i) r (by simpa using e)
theorem Reps.take (n : Nat) : ∀ {vs : List V} {ds : List D}, Reps L F C H vs ds → Reps L F C H (vs.take n) (ds.take n) := by
  induction n with
  | zero => intro vs ds _; exact .nil
  | succ n ih => intro vs ds h; cases h with
    | nil => exact .nil
    | cons a r => exact .cons a (ih r)
theorem Reps.drop (n : Nat) : ∀ {vs : List V} {ds : List D}, Reps L F C H vs ds → Reps L F C H (vs.drop n) (ds.drop n) := by
  induction n with
  | zero => intro vs ds h; exact h
  | succ n ih => intro vs ds h; cases h with
    | nil => exact .nil
    | cons a r => exact ih r
theorem Reps.set {v : V} {d : D} (r : Rep L F C H v d) : ∀ {vs : List V} {ds : List D} (i : Nat), Reps L F C H vs ds → Reps L F C H (vs.set i v) (ds.set i d)
  | _, _, _, .nil => .nil
  | _, _, 0, .cons _ t => .cons r t
  | _, _, i + 1, .cons q t => .cons q (Reps.set r i t)
theorem Reps.erase : ∀ {vs : List V} {ds : List D} (i : Nat), Reps L F C H vs ds → Reps L F C H (vs.eraseIdx i) (ds.eraseIdx i)
  | _, _, _, .nil => .nil
  | _, _, 0, .cons _ t => t
  | _, _, i + 1, .cons q t => .cons q (Reps.erase i t)
theorem Reps.get2 {v w : V} {ds : List D} (h : Reps L F C H [v, w] ds) : ∃ a b, ds = [a, b] ∧ Rep L F C H v a ∧ Rep L F C H w b := by
  cases h with
  | cons h1 r => cases r with
    | cons h2 r => cases r; exact ⟨_, _, rfl, h1, h2⟩
theorem Reps.get1 {v : V} {ds : List D} (h : Reps L F C H [v] ds) : ∃ a, ds = [a] ∧ Rep L F C H v a := by
  cases h with
  | cons h1 r => cases r; exact ⟨_, rfl, h1⟩

/-- how a heap goes on: what is frozen stays so, what is new is frozen or new, what stood and is no cell stays -/
structure Ext (F : Fz) (C : List Addr) (H : Hp) (F' : Fz) (H' : Hp) : Prop where
  mono : ∀ a, F a → F' a
  new : ∀ a, F' a → F a ∨ H a = none
  keep : ∀ a o, H a = some o → a ∉ C → H' a = some o
  trk : ∀ a, H a ≠ none → H' a ≠ none
  fin : ∀ a, F' a → H' a ≠ none
def Fin (F : Fz) (H : Hp) : Prop := ∀ a, F a → H a ≠ none
theorem Ext.refl (h : Fin F H) : Ext F C H F H := ⟨fun _ x => x, fun _ x => .inl x, fun _ _ x _ => x, fun _ x => x, h⟩
theorem Ext.trans {F2 : Fz} {H2 : Hp} (a : Ext F C H F' H') (b : Ext F' C H' F2 H2) : Ext F C H F2 H2 where
  mono := fun x h => b.mono x (a.mono x h)
  new := fun x h => by
    rcases b.new x h with h | h
    · exact a.new x h
    · right
      cases e : H x with
      | none => rfl
      | some o => exact absurd h (a.trk x (by rw [e]; simp))
  keep := fun x o h n => b.keep x o (a.keep x o h n) n
  trk := fun x h => b.trk x (a.trk x h)
  fin := b.fin
/-- fewer cells: more is kept -/
theorem Ext.cells (a : Ext F C' H F' H') (h : ∀ x ∈ C', x ∈ C) : Ext F C H F' H' :=
  ⟨a.mono, a.new, fun x o e n => a.keep x o e fun q => n (h x q), a.trk, a.fin⟩
/-- what stands apart from the frozen: the cells -/
def Apart (F : Fz) (C : List Addr) : Prop := ∀ a, F a → a ∉ C
theorem Ext.rep {v : V} {d : D} (e : Ext F C H F' H') (ap : Apart F C) (fin : Fin F H) (r : Rep L F C H v d) : Rep L F' C H' v d :=
  r.mono (fun a f => ⟨e.mono a f, by
    cases h : H a with
    | none => exact absurd h (fin a f)
    | some o => exact e.keep a o h (ap a f)⟩) fun _ _ h => h
theorem Ext.reps {v : List V} {d : List D} (e : Ext F C H F' H') (ap : Apart F C) (fin : Fin F H) (r : Reps L F C H v d) : Reps L F' C H' v d :=
  r.mono (fun a f => ⟨e.mono a f, by
    cases h : H a with
    | none => exact absurd h (fin a f)
    | some o => exact e.keep a o h (ap a f)⟩) fun _ _ h => h
theorem Ext.repK {v : List (Key × V)} {d : List (T × D)} (e : Ext F C H F' H') (ap : Apart F C) (fin : Fin F H) (r : RepK L F C H v d) : RepK L F' C H' v d :=
  r.mono (fun a f => ⟨e.mono a f, by
    cases h : H a with
    | none => exact absurd h (fin a f)
    | some o => exact e.keep a o h (ap a f)⟩) fun _ _ h => h

/-- a list or dict that can still change, its items frozen -/
inductive Own (L : Pl) (F : Fz) (C : List Addr) (H : Hp) (a : Addr) : D → Prop
  | lst {vs : List V} {ds : List D} : H a = some (.lst vs) → Reps L F C H vs ds → Own L F C H a (.lst ds)
  | dct {kvs : List (Key × V)} {ds : List (T × D)} : H a = some (.dK kvs) → RepK L F C H kvs ds → Own L F C H a (.dct ds)
theorem Own.trk {a : Addr} {d : D} (h : Own L F C H a d) : H a ≠ none := by
  cases h with
  | lst e _ => rw [e]; simp
  | dct e _ => rw [e]; simp
theorem Own.mut {a : Addr} {d : D} (h : Own L F C H a d) : L2.Mut (H a) := by
  cases h with
  | lst e _ => rw [e]; trivial
  | dct e _ => rw [e]; trivial
theorem Own.mono {a : Addr} {d : D} (hF : ∀ a, F a → F' a ∧ H' a = H a) (hC : ∀ (k : Nat) (a : Addr), C[k]? = some a → C'[k]? = some a) (ha : H' a = H a) (h : Own L F C H a d) : Own L F' C' H' a d := by
  cases h with
  | lst e r => exact .lst (ha.trans e) (r.mono hF hC)
  | dct e r => exact .dct (ha.trans e) (r.mono hF hC)
/-- the cells -/
structure Cok (L : Pl) (F : Fz) (C : List Addr) (H : Hp) (c : Cells) : Prop where
  len : C.length = c.length
  nd : C.Nodup
  own : ∀ (k : Nat) (a : Addr) (d : D), C[k]? = some a → c[k]? = some d → Own L F C H a d
  ap : Apart F C
  fin : Fin F H
  nc : ∀ (k : Nat) (d : D), c[k]? = some d → noCel d = true
theorem Cok.trk {c : Cells} (k : Cok L F C H c) : ∀ a ∈ C, H a ≠ none := fun a h => by
  obtain ⟨i, hi, e⟩ := List.getElem_of_mem h
  have e1 : C[i]? = some a := by rw [List.getElem?_eq_getElem hi, e]
  have hi' : i < c.length := by rw [← k.len]; exact hi
  exact (k.own i a c[i] e1 (List.getElem?_eq_getElem hi')).trk
/-- what changes no cell -/
theorem Cok.ext0 {c : Cells} (k : Cok L F C H c) (e : Ext F [] H F' H') : Cok L F' C H' c where
  len := k.len
  nd := k.nd
  own := fun i a d h1 h2 => by
    have o := k.own i a d h1 h2
    refine o.mono (fun b f => ⟨e.mono b f, ?_⟩) (fun _ _ h => h) ?_
    · cases h : H b with
      | none => exact absurd h (k.fin b f)
      | some o => exact e.keep b o h (by simp)
    · cases h : H a with
      | none => exact absurd h o.trk
      | some o => exact e.keep a o h (by simp)
  ap := fun a f => by
    rcases e.new a f with f | f
    · exact k.ap a f
    · exact fun h => k.trk a h f
  fin := e.fin
  nc := k.nc
end
end Hg
end
section
set_option Elab.async false
set_option linter.all false
set_option autoImplicit false
set_option maxRecDepth 100000
/-! A2: the state of a body, and readings that say what the small syntax computes. -/
namespace Hg
open PySem PySem.Spec PyProof.Rows L2

abbrev Sg := L2.St
structure SI (L : Pl) (F : Fz) (C : List Addr) (σ : Sg) (H : Hp) (env : Env) (c : Cells) : Prop where
  cok : Cok L F C H c
  len : env.length = σ.length
  val : ∀ (i : Nat) (d : D), env[i]? = some (.val d) → ∃ v, σ[i]? = some (some v) ∧ Rep L F C H v d
  own : ∀ (i : Nat) (d : D), env[i]? = some (.own d) → ∃ a, σ[i]? = some (some (.ref a)) ∧ Own L F C H a d ∧ ¬ F a ∧ a ∉ C
  dis : ∀ (i j : Nat) (a : Addr) (d d' : D), i ≠ j → env[i]? = some (.own d) → env[j]? = some (.own d') → σ[i]? = some (some (.ref a)) → σ[j]? = some (some (.ref a)) → False
section
variable {L : Pl} {F F' : Fz} {C : List Addr} {H H' : Hp} {σ : Sg} {env : Env} {c c' : Cells}
theorem SI.step (s : SI L F C σ H env c) (e : Ext F C H F' H') (k : Cok L F' C H' c') : SI L F' C σ H' env c' where
  cok := k
  len := s.len
  val := fun i d h => by
    obtain ⟨v, h1, r⟩ := s.val i d h
    exact ⟨v, h1, e.rep s.cok.ap s.cok.fin r⟩
  own := fun i d h => by
    obtain ⟨a, h1, o, nf, nc⟩ := s.own i d h
    have he : H' a = H a := by
      cases h : H a with
      | none => exact absurd h o.trk
      | some u => exact e.keep a u h nc
    refine ⟨a, h1, o.mono (fun b f => ⟨e.mono b f, ?_⟩) (fun _ _ h => h) he, fun f => ?_, nc⟩
    · cases h : H b with
      | none => exact absurd h (s.cok.fin b f)
      | some u => exact e.keep b u h (s.cok.ap b f)
    · rcases e.new a f with f | f
      · exact nf f
      · exact o.trk f
  dis := s.dis
end

/-- how data of a kind stand for values of a kind -/
abbrev RTy (β α : Type) := Pl → List Addr → Fz → Hp → β → α → Prop
abbrev RV : RTy V D := fun L C F H v d => Rep L F C H v d
abbrev RL : RTy (List V) (List D) := fun L C F H v d => Reps L F C H v d
abbrev RB : RTy Bool Bool := fun _ _ _ _ b b' => b = b'
/-- what must be wanted, so that the outcome gives it -/
def Out {α β : Type} (R : RTy β α) (L : Pl) (F : Fz) (C : List Addr) (H : Hp) (Ex : XK) (Q : β → Hp → Prop) : Res α → Prop
  | .ok d c' => ∀ v F' H', Ext F C H F' H' → Cok L F' C H' c' → R L C F' H' v d → Q v H'
  | .exc x c' => ∀ F' H', Ext F C H F' H' → Cok L F' C H' c' → Ex (.ref (L.er x)) none H'
  | .bad => False
theorem Out.imp {α β : Type} {R : RTy β α} {L : Pl} {F : Fz} {C : List Addr} {H : Hp} {Ex : XK} {Q Q' : β → Hp → Prop} (h : ∀ v H', Q v H' → Q' v H') : ∀ {r : Res α}, Out R L F C H Ex Q r → Out R L F C H Ex Q' r
  | .ok _ _, o => fun v F' H' a b c => h v H' (o v F' H' a b c)
  | .exc _ _, o => o
  | .bad, o => o
/-- further on -/
theorem Out.later {α β : Type} {R : RTy β α} {L : Pl} {F F1 : Fz} {C : List Addr} {H H1 : Hp} {Ex : XK} {Q : β → Hp → Prop} (e : Ext F C H F1 H1) : ∀ {r : Res α}, Out R L F C H Ex Q r → Out R L F1 C H1 Ex Q r
  | .ok _ _, o => fun v F' H' a b c => o v F' H' (e.trans a) b c
  | .exc _ _, o => fun F' H' a b => o F' H' (e.trans a) b
  | .bad, o => o
/-- a reading with things held -/
def SK {γ α β : Type} (Rs : Pl → List Addr → Fz → Hp → γ → Prop) (R : RTy β α) (L : Pl) (Ex : Sg → XK) (k : γ → Env → M α) : Sg → Hp → (β → Hp → Prop) → Prop :=
  fun σ H Q => ∃ F C env c g, SI L F C σ H env c ∧ Rs L C F H g ∧ Out R L F C H (Ex σ) Q (k g env c)
def SG {α β : Type} (R : RTy β α) (L : Pl) (Ex : Sg → XK) (m : Env → M α) : Sg → Hp → (β → Hp → Prop) → Prop :=
  fun σ H Q => ∃ F C env c, SI L F C σ H env c ∧ Out R L F C H (Ex σ) Q (m env c)
abbrev SE (L : Pl) (Ex : Sg → XK) (m : Env → M D) : TE := SG RV L Ex m
abbrev SA (L : Pl) (Ex : Sg → XK) (m : Env → M (List D)) : TA := SG RL L Ex m
abbrev SB (L : Pl) (Ex : Sg → XK) (m : Env → M Bool) : TT := SG RB L Ex m
/-- what is held stays -/
def Stab {γ : Type} (Rs : Pl → List Addr → Fz → Hp → γ → Prop) : Prop := ∀ L C F H F' H' g, Ext F C H F' H' → Apart F C → Fin F H → Rs L C F H g → Rs L C F' H' g
abbrev R0 : Pl → List Addr → Fz → Hp → Unit → Prop := fun _ _ _ _ _ => True
abbrev RC {γ α β : Type} (Rs : Pl → List Addr → Fz → Hp → γ → Prop) (R : RTy β α) (v : β) : Pl → List Addr → Fz → Hp → γ × α → Prop := fun L C F H g => Rs L C F H g.1 ∧ R L C F H v g.2
theorem stab0 : Stab R0 := fun _ _ _ _ _ _ _ _ _ _ _ => trivial
theorem stabV {γ : Type} {Rs : Pl → List Addr → Fz → Hp → γ → Prop} (s : Stab Rs) (v : V) : Stab (RC Rs RV v) := fun L C F H F' H' g e a f h => ⟨s L C F H F' H' g.1 e a f h.1, e.rep a f h.2⟩
theorem stabL {γ : Type} {Rs : Pl → List Addr → Fz → Hp → γ → Prop} (s : Stab Rs) (v : List V) : Stab (RC Rs RL v) := fun L C F H F' H' g e a f h => ⟨s L C F H F' H' g.1 e a f h.1, e.reps a f h.2⟩
theorem stabB {γ : Type} {Rs : Pl → List Addr → Fz → Hp → γ → Prop} (s : Stab Rs) (v : Bool) : Stab (RC Rs RB v) := fun L C F H F' H' g e a f h => ⟨s L C F H F' H' g.1 e a f h.1, h.2⟩
section
variable {γ α α' β β' : Type} {Rs : Pl → List Addr → Fz → Hp → γ → Prop} {R : RTy β α} {R' : RTy β' α'} {L : Pl} {Ex : Sg → XK} {σ : Sg} {H : Hp} {Q : β' → Hp → Prop}
/-- one step of a reading -/
theorem SK.bind (st : Stab Rs) {m : Env → M α} {k : γ → α → Env → M α'} (h : SK Rs R' L Ex (fun g env => m env >>= fun a => k g a env) σ H Q) :
    SG R L Ex m σ H fun v H1 => SK (RC Rs R v) R' L Ex (fun g env => k g.1 g.2 env) σ H1 Q := by
  obtain ⟨F, C, env, c, g, si, rs, o⟩ := h
  refine ⟨F, C, env, c, si, ?_⟩
  have o : Out R' L F C H (Ex σ) Q ((m env >>= fun a => k g a env) c) := o
  cases e : m env c with
  | bad => rw [M.bind_bad e] at o; exact o
  | exc x c1 => rw [M.bind_exc e] at o; exact o
  | ok a c1 =>
    rw [M.bind_ok e] at o
    intro v F1 H1 ex ck r
    exact ⟨F1, C, env, c1, (g, a), si.step ex ck, ⟨st L C F H F1 H1 g ex si.cok.ap si.cok.fin rs, r⟩, o.later ex⟩
theorem SG.bind {m : Env → M α} {k : α → Env → M α'} (h : SG R' L Ex (fun env => m env >>= fun a => k a env) σ H Q) :
    SG R L Ex m σ H fun v H1 => SK (RC R0 R v) R' L Ex (fun g env => k g.2 env) σ H1 Q := by
  obtain ⟨F, C, env, c, si, o⟩ := h
  exact SK.bind (k := fun (_ : Unit) a env => k a env) stab0 ⟨F, C, env, c, (), si, trivial, o⟩
theorem SG.imp {m : Env → M α'} {Q' : β' → Hp → Prop} (hq : ∀ v H', Q v H' → Q' v H') (h : SG R' L Ex m σ H Q) : SG R' L Ex m σ H Q' := by
  obtain ⟨F, C, env, c, si, o⟩ := h
  exact ⟨F, C, env, c, si, o.imp hq⟩
end
/-- the wish at a datum that an operation gives, which touches no cell -/
def Cont (L : Pl) (F : Fz) (C : List Addr) (H : Hp) (d : D) (Q : VK) : Prop := ∀ v F' H', Ext F [] H F' H' → Rep L F' C H' v d → Q v H'
section
variable {γ : Type} {Rs : Pl → List Addr → Fz → Hp → γ → Prop} {L : Pl} {Ex : Sg → XK} {σ : Sg} {H : Hp} {Q : VK} {F : Fz} {C : List Addr} {d : D}
theorem SK.fin {f : γ → Option D} (h : SK Rs RV L Ex (fun g _ => M.ofO (f g)) σ H Q) : ∃ F C c g d, Cok L F C H c ∧ Rs L C F H g ∧ f g = some d ∧ Cont L F C H d Q := by
  obtain ⟨F, C, env, c, g, si, rs, o⟩ := h
  have o : Out RV L F C H (Ex σ) Q (M.ofO (f g) c) := o
  cases e : f g with
  | none => rw [e] at o; exact o.elim
  | some d =>
    rw [e] at o
    exact ⟨F, C, c, g, d, si.cok, rs, e, fun v F' H' ex r => o v F' H' (ex.cells (by simp)) (si.cok.ext0 ex) r⟩
theorem SK.finE {f : γ → Env → Option D} (h : SK Rs RV L Ex (fun g env => M.ofO (f g env)) σ H Q) : ∃ F C env c g d, SI L F C σ H env c ∧ Rs L C F H g ∧ f g env = some d ∧ Cont L F C H d Q := by
  obtain ⟨F, C, env, c, g, si, rs, o⟩ := h
  have o : Out RV L F C H (Ex σ) Q (M.ofO (f g env) c) := o
  cases e : f g env with
  | none => rw [e] at o; exact o.elim
  | some d =>
    rw [e] at o
    exact ⟨F, C, env, c, g, d, si, rs, e, fun v F' H' ex r => o v F' H' (ex.cells (by simp)) (si.cok.ext0 ex) r⟩
theorem SG.fin {f : Env → Option D} (h : SG RV L Ex (fun env => M.ofO (f env)) σ H Q) : ∃ F C env c d, SI L F C σ H env c ∧ f env = some d ∧ Cont L F C H d Q := by
  obtain ⟨F, C, env, c, si, o⟩ := h
  have o : Out RV L F C H (Ex σ) Q (M.ofO (f env) c) := o
  cases e : f env with
  | none => rw [e] at o; exact o.elim
  | some d =>
    rw [e] at o
    exact ⟨F, C, env, c, d, si, e, fun v F' H' ex r => o v F' H' (ex.cells (by simp)) (si.cok.ext0 ex) r⟩
theorem Cont.now {v : V} (k : Cont L F C H d Q) (f : Fin F H) (r : Rep L F C H v d) : Q v H := k v F H (.refl f) r
/-- an object is laid -/
theorem ext_new (f : Fin F H) {p : Addr} {o : HO} (hp : H p = none) : Ext F [] H (fun a => F a ∨ a = p) (upd H p o) where
  mono := fun a h => .inl h
  new := fun a h => by
    rcases h with h | h
    · exact .inl h
    · subst h; exact .inr hp
  keep := fun a u e _ => by rw [upd_ne (ne_of_none e hp)]; exact e
  trk := fun a h => by
    by_cases e : a = p
    · subst e; exact absurd hp h
    · rw [upd_ne e]; exact h
  fin := fun a h => by
    by_cases e : a = p
    · subst e; rw [upd_same]; simp
    · rw [upd_ne e]
      rcases h with h | h
      · exact f a h
      · exact absurd h e
theorem rep_new (ap : Apart F C) (f : Fin F H) {p : Addr} {o : HO} (hp : H p = none) {v : V} {d : D} (r : Rep L F C H v d) : Rep L (fun a => F a ∨ a = p) C (upd H p o) v d :=
  r.mono (fun a h => ⟨.inl h, upd_ne (show a ≠ p from fun e => f a h (by rw [e]; exact hp))⟩) fun _ _ h => h
theorem reps_new (f : Fin F H) {p : Addr} {o : HO} (hp : H p = none) {v : List V} {d : List D} (r : Reps L F C H v d) : Reps L (fun a => F a ∨ a = p) C (upd H p o) v d :=
  r.mono (fun a h => ⟨.inl h, upd_ne (show a ≠ p from fun e => f a h (by rw [e]; exact hp))⟩) fun _ _ h => h
theorem repK_new (f : Fin F H) {p : Addr} {o : HO} (hp : H p = none) {v : List (Key × V)} {d : List (T × D)} (r : RepK L F C H v d) : RepK L (fun a => F a ∨ a = p) C (upd H p o) v d :=
  r.mono (fun a h => ⟨.inl h, upd_ne (show a ≠ p from fun e => f a h (by rw [e]; exact hp))⟩) fun _ _ h => h
theorem Cont.newL {p : Addr} {vs : List V} {ds : List D} (k : Cont L F C H (.lst ds) Q) (f : Fin F H) (hp : H p = none) (r : Reps L F C H vs ds) : Q (.ref p) (upd H p (.lst vs)) :=
  k _ _ _ (ext_new f hp) (.lst (.inr rfl) upd_same (reps_new f hp r))
theorem Cont.newT {p : Addr} {vs : List V} {ds : List D} (k : Cont L F C H (.tup ds) Q) (f : Fin F H) (hp : H p = none) (r : Reps L F C H vs ds) {o : Obj} (ho : o.dict = none) : Q (.ref p) (upd H p (.frz o (.tup vs))) :=
  k _ _ _ (ext_new f hp) (.tup o (.inr rfl) upd_same ho (reps_new f hp r))
theorem Cont.newK {p : Addr} {vs : List (Key × V)} {ds : List (T × D)} (k : Cont L F C H (.dct ds) Q) (f : Fin F H) (hp : H p = none) (r : RepK L F C H vs ds) {o : Obj} : Q (.ref p) (upd H p (.frz o (.dK vs))) :=
  k _ _ _ (ext_new f hp) (.dct o (.inr rfl) upd_same (repK_new f hp r))
end
section
variable {X : Cx} {e : Expr}
theorem PEimp {t t' : TE} (h : PE X e t) (i : ∀ σ H Q, t' σ H Q → t σ H Q) : PE X e t' := ⟨fun pins s σ H Q I q => h.run pins s σ H Q I (i σ H Q q)⟩
theorem PTimp {t t' : TT} (h : PT X e t) (i : ∀ σ H Q, t' σ H Q → t σ H Q) : PT X e t' := ⟨fun pins s σ H Q I q => h.run pins s σ H Q I (i σ H Q q)⟩
theorem PAimp {es : List Expr} {t t' : TA} (h : PA X es t) (i : ∀ σ H Q, t' σ H Q → t σ H Q) : PA X es t' := ⟨fun pos pins s σ H Q I q => h.run pos pins s σ H Q I (i σ H Q q)⟩
theorem PSimp {s : Stmt} {t t' : TS} (h : PS X s t) (i : ∀ D σ H, t' D σ H → t D σ H) : PS X s t' := ⟨fun pins s σ H D I q => h.run pins s σ H D I (i D σ H q)⟩
theorem PSsimp {s : List Stmt} {t t' : TS} (h : PSs X s t) (i : ∀ D σ H, t' D σ H → t D σ H) : PSs X s t' := ⟨fun pins s σ H D I q => h.run pins s σ H D I (i D σ H q)⟩
theorem OpRimp {f : Value → Value → Sem Value} {t t' : R2} (h : OpR X f t) (i : ∀ x y H Q, t' x y H Q → t x y H Q) : OpR X f t' := fun pins s σ H x y v u Q I a b q => h pins s σ H x y v u Q I a b (i x y H Q q)
theorem CallRimp {f : Value} {t t' : List V → Hp → VK → Prop} (h : CallR X f t) (i : ∀ xs H Q, t' xs H Q → t xs H Q) : CallR X f t' := fun pins s σ H xs us Q I a q => h pins s σ H xs us Q I a (i xs H Q q)
end

/-- an operation of two values: the datum g tells -/
def rD2 (L : Pl) (g : D → D → Option D) : R2 := fun x y H Q => ∃ F C c dx dy d, Cok L F C H c ∧ Rep L F C H x dx ∧ Rep L F C H y dy ∧ g dx dy = some d ∧ Cont L F C H d Q
/-- a call of a built-in with values -/
def rDs (L : Pl) (g : List D → Option D) : List V → Hp → VK → Prop := fun xs H Q => ∃ F C c ds d, Cok L F C H c ∧ Reps L F C H xs ds ∧ g ds = some d ∧ Cont L F C H d Q
section
variable {X : Cx} {L : Pl} {Ex : Sg → XK} {a b c : Expr} {ma mb mc : Env → M D} {pos : Pos}
theorem snd_bin {op : Operator} {g : D → D → Option D} (ho : OpR X (binaryOp op) (rD2 L g)) (ha : PE X a (SE L Ex ma)) (hb : PE X b (SE L Ex mb)) : PE X (.BinOp a op b pos) (SE L Ex fun env => do let x ← ma env; let y ← mb env; M.ofO (g x y)) := by
  refine PEimp (pe_op ho ha hb) fun σ H Q h => ?_
  refine (SG.bind (R := RV) (k := fun x env => do let y ← mb env; M.ofO (g x y)) h).imp fun x H1 h1 => ?_
  refine (SK.bind (R := RV) (k := fun gx y env => M.ofO (g gx.2 y)) (stabV stab0 x) h1).imp fun y H2 h2 => ?_
  obtain ⟨F, C, c, ⟨⟨_, dx⟩, dy⟩, d, ck, ⟨⟨_, rx⟩, ry⟩, e, k⟩ := h2.fin
  exact ⟨F, C, c, dx, dy, d, ck, rx, ry, e, k⟩
end
end Hg
end
section
set_option Elab.async false
set_option linter.all false
set_option autoImplicit false
set_option maxRecDepth 100000
set_option maxHeartbeats 1000000
/-! A3: the operations on values do what the small syntax says. -/
namespace Hg
open PySem PySem.Spec PyProof.Rows PySem.SeqAt L2

/-! ### data of the library -/
mutual
def toP : D → PyData
  | .non => .none
  | .bl b => .bool b
  | .int i => .int i
  | .str x => .str (toS x)
  | .tup xs => .tuple (toPs xs)
  | .lst xs => .list (toPs xs)
  | .dct _ => .none
  | .scr ns => .list (ns.map .int)
  | .fn _ => .none
  | .cel _ => .none
  | .pr _ => .none
def toPs : List D → List PyData
  | [] => []
  | x :: xs => toP x :: toPs xs
end
mutual
theorem toP_plain : ∀ d : D, plainD d = true → (toP d).plain = true
  | .non, _ => rfl
  | .bl _, _ => rfl
  | .int _, _ => rfl
  | .str _, _ => rfl
  | .tup xs, h => by simp only [plainD] at h; simp only [toP, PyData.plain]; exact toPs_plain xs h
  | .lst xs, h => by simp only [plainD] at h; simp only [toP, PyData.plain]; exact toPs_plain xs h
  | .dct _, h => by simp [plainD] at h
  | .scr _, h => by simp [plainD] at h
  | .fn _, h => by simp [plainD] at h
  | .cel _, h => by simp [plainD] at h
  | .pr _, h => by simp [plainD] at h
theorem toPs_plain : ∀ d : List D, plainDs d = true → PyData.plainAll (toPs d) = true
  | [], _ => rfl
  | x :: xs, h => by
    simp only [plainDs, Bool.and_eq_true] at h
    simp only [toPs, PyData.plainAll, Bool.and_eq_true]
    exact ⟨toP_plain x h.1, toPs_plain xs h.2⟩
end
mutual
theorem toP_depth : ∀ d : D, plainD d = true → (toP d).depth = depD d
  | .non, _ => rfl
  | .bl _, _ => rfl
  | .int _, _ => rfl
  | .str _, _ => rfl
  | .tup xs, h => by simp only [plainD] at h; simp only [toP, PyData.depth, depD, toPs_depth xs h]
  | .lst xs, h => by simp only [plainD] at h; simp only [toP, PyData.depth, depD, toPs_depth xs h]
  | .dct _, h => by simp [plainD] at h
  | .scr _, h => by simp [plainD] at h
  | .fn _, h => by simp [plainD] at h
  | .cel _, h => by simp [plainD] at h
  | .pr _, h => by simp [plainD] at h
theorem toPs_depth : ∀ d : List D, plainDs d = true → PyData.depthAll (toPs d) = depDs d
  | [], _ => rfl
  | x :: xs, h => by
    simp only [plainDs, Bool.and_eq_true] at h
    simp only [toPs, PyData.depthAll, depDs, toP_depth x h.1, toPs_depth xs h.2]
end
theorem toS_beq (x y : T) : (toS x == toS y) = (x == y) := by
  by_cases h : x = y
  · subst h; simp
  · have h1 : toS x ≠ toS y := fun e => h (toS_inj e)
    rw [beq_eq_false_iff_ne.mpr h1, beq_eq_false_iff_ne.mpr h]
mutual
theorem toP_eqv : ∀ a b : D, plainD a = true → plainD b = true → PyData.eqv (toP a) (toP b) = eqD a b := by
  intro a b ha hb
  cases a <;> cases b <;> first
    | (simp only [plainD] at ha hb; done)
    | (simp [plainD] at ha; done)
    | (simp [plainD] at hb; done)
    | rfl
    | (simp only [toP, PyData.eqv, eqD]; exact toS_beq _ _)
    | (simp only [plainD] at ha hb; simp only [toP, PyData.eqv, eqD]; exact toPs_eqv _ _ ha hb)
theorem toPs_eqv : ∀ a b : List D, plainDs a = true → plainDs b = true → PyData.eqvAll (toPs a) (toPs b) = eqDs a b
  | [], [], _, _ => rfl
  | [], _ :: _, _, _ => rfl
  | _ :: _, [], _, _ => rfl
  | x :: xs, y :: ys, ha, hb => by
    simp only [plainDs, Bool.and_eq_true] at ha hb
    simp only [toPs, PyData.eqvAll, eqDs, toP_eqv x y ha.1 hb.1, toPs_eqv xs ys ha.2 hb.2]
end
theorem toPs_any (d : D) (hd : plainD d = true) : ∀ xs : List D, plainDs xs = true → ((toPs xs).any fun y => PyData.eqv y (toP d)) = xs.any fun y => eqD y d
  | [], _ => rfl
  | x :: xs, h => by
    simp only [plainDs, Bool.and_eq_true] at h
    simp only [toPs, List.any_cons, toP_eqv x d h.1 hd, toPs_any d hd xs h.2]
section
variable {L : Pl} {F : Fz} {C : List Addr} {H : Hp}
mutual
theorem Rep.dp {K : PySem.W.Frag} : ∀ {v : V} {d : D}, plainD d = true → Rep L F C H v d → Dp K H v (toP d)
  | _, _, _, .non => .non
  | _, _, _, .bl b => .bl b
  | _, _, _, .int i => .int i
  | _, _, _, .str x => .str _
  | _, _, p, .tup o f h _ r => .tup (.inl (.inr ⟨o, h⟩)) (Reps.dp (by simpa only [plainD] using p) r)
  | _, _, p, .lst f h r => .lst (.of h) (Reps.dp (by simpa only [plainD] using p) r)
  | _, _, p, .dct _ _ _ _ => absurd p (by simp [plainD])
  | _, _, p, .scr _ _ _ => absurd p (by simp [plainD])
  | _, _, p, .scrK _ => absurd p (by simp [plainD])
  | _, _, p, .fn _ _ => absurd p (by simp [plainD])
  | _, _, p, .cel _ => absurd p (by simp [plainD])
  | _, _, p, .pr _ _ _ => absurd p (by simp [plainD])
theorem Reps.dp {K : PySem.W.Frag} : ∀ {v : List V} {d : List D}, plainDs d = true → Reps L F C H v d → DpAll K H v (toPs d)
  | _, _, _, .nil => .nil
  | _, _, p, .cons h r => by
    simp only [plainDs, Bool.and_eq_true] at p
    exact .cons (Rep.dp p.1 h) (Reps.dp p.2 r)
end
theorem dpInts {K : PySem.W.Frag} : ∀ ns : List Int, DpAll K H (ns.map V.int) (ns.map PyData.int)
  | [] => .nil
  | n :: r => .cons (.int n) (dpInts r)
/-- the script as a sequence -/
theorem Rep.scrSeq {a : V} {ns : List Int} {K : PySem.W.Frag} (hK : K = L.K) (r : Rep L F C H a (.scr ns)) : ∃ p, a = .ref p ∧ SqL K H p (ns.map V.int) := by
  subst hK
  cases r with
  | scr o f h => exact ⟨_, rfl, .inl (.inr ⟨o, h⟩)⟩
  | scrK h => exact ⟨_, rfl, h H⟩
end

/-! ### == and in -/
section
variable {X : Cx} {L : Pl}
theorem eq_run {pins : List (Addr × Obj)} {s : Shared} {σ : Sg} {H : Hp} {x y : V} {v u : Value} {F : Fz} {C : List Addr} {dx dy : D} {b : Bool} {Q : Value → Shared → Prop} (hK : X.K = L.K) (hu : X.A.units + 64 < cLine) (I : Inv X pins σ H s) (rx : RelV x v) (ry : RelV y u)
    (hx : Rep L F C H x dx) (hy : Rep L F C H y dy) (e : eqO dx dy = some b) (ne : Bool) (q : Q (.bool (if ne then !b else b)) s) :
    wpAny (model X.prog X.w) X.A (compareOp (if ne then .NotEq else .Eq) v u) Q X.xe s := by
  have key : ∃ (da db : PyData) (as bs : List Addr), Reads s.heap v da as ∧ Reads s.heap u db bs ∧ da.plain = true ∧ db.plain = true ∧ min da.depth db.depth ≤ 64 ∧ PyData.eqv da db = b := by
    unfold eqO at e
    split at e
    · rename_i ns
      obtain ⟨p, rfl, hs⟩ := Rep.scrSeq hK hx
      cases rx
      obtain ⟨as, r1⟩ := Dp.reads I (.list (ns.map PyData.int)) (.ref p) (.ref p) (.lst hs (dpInts ns)) rfl
      obtain ⟨bs, r2⟩ := Dp.reads I (.list []) y u (Rep.dp (d := .lst []) rfl hy) ry
      refine ⟨_, _, as, bs, r1, r2, ?_, rfl, ?_, ?_⟩
      · show PyData.plainAll _ = true
        clear hx hs r1 e
        induction ns with
        | nil => rfl
        | cons n r ih => exact ih
      · exact Nat.le_trans (Nat.min_le_right _ _) (by decide)
      · cases e
        cases ns <;> rfl
    · split at e
      · rename_i h
        simp only [Bool.and_eq_true, decide_eq_true_eq] at h
        cases e
        obtain ⟨as, r1⟩ := Dp.reads I _ x v (Rep.dp h.1.1 hx) rx
        obtain ⟨bs, r2⟩ := Dp.reads I _ y u (Rep.dp h.1.2 hy) ry
        exact ⟨_, _, as, bs, r1, r2, toP_plain _ h.1.1, toP_plain _ h.1.2, by rw [toP_depth _ h.1.1, toP_depth _ h.1.2]; exact h.2, toP_eqv _ _ h.1.1 h.1.2⟩
      · cases e
  obtain ⟨da, db, as, bs, r1, r2, p1, p2, hd, rfl⟩ := key
  cases ne with
  | true => exact ne_plain r1 r2 p1 p2 (by omega) q
  | false => exact eq_plain r1 r2 p1 p2 (by omega) q
def rCmp (L : Pl) (o : COp) : R2 := rD2 L fun a b => (cmpD o a b).map .bl
theorem Cont.bl {F : Fz} {C : List Addr} {H : Hp} {b : Bool} {Q : VK} {c : Cells} (ck : Cok L F C H c) (k : Cont L F C H (.bl b) Q) : Q (.bl b) H := k.now ck.fin (.bl b)
theorem map_bl {o : Option Bool} {d : D} (h : o.map D.bl = some d) : ∃ b, o = some b ∧ d = .bl b := by
  cases o with
  | none => cases h
  | some b => cases h; exact ⟨b, rfl, rfl⟩
theorem or_eq (hK : X.K = L.K) (hu : X.A.units + 64 < cLine) : OpR X (compareOp .Eq) (rCmp L .eq) := by
  intro pins s σ H x y v u Q I rx ry h
  obtain ⟨F, C, c, dx, dy, d, ck, hx, hy, e, k⟩ := h
  obtain ⟨b, e1, rfl⟩ := map_bl e
  exact eq_run hK hu I rx ry hx hy e1 false ⟨.bl b, H, I, rfl, k.bl ck⟩
theorem or_ne (hK : X.K = L.K) (hu : X.A.units + 64 < cLine) : OpR X (compareOp .NotEq) (rCmp L .ne) := by
  intro pins s σ H x y v u Q I rx ry h
  obtain ⟨F, C, c, dx, dy, d, ck, hx, hy, e, k⟩ := h
  obtain ⟨b, e1, rfl⟩ := map_bl e
  simp only [cmpD, Option.map_eq_some_iff] at e1
  obtain ⟨b', e2, rfl⟩ := e1
  exact eq_run hK hu I rx ry hx hy e2 true ⟨.bl (!b'), H, I, rfl, k.bl ck⟩
/-- comparisons of ints and texts -/
theorem rep_int {F : Fz} {C : List Addr} {H : Hp} {v : V} {i : Int} (h : Rep L F C H v (.int i)) : v = .int i := by cases h; rfl
theorem rep_str {F : Fz} {C : List Addr} {H : Hp} {v : V} {i : T} (h : Rep L F C H v (.str i)) : v = .str (toS i) := by cases h; rfl
theorem rep_bl {F : Fz} {C : List Addr} {H : Hp} {v : V} {i : Bool} (h : Rep L F C H v (.bl i)) : v = .bl i := by cases h; rfl
theorem or_gt : OpR X (compareOp .Gt) (rCmp L .gt) := by
  refine OpRimp op_gt fun x y H Q h => ?_
  obtain ⟨F, C, c, dx, dy, d, ck, hx, hy, e, k⟩ := h
  obtain ⟨b, e1, rfl⟩ := map_bl e
  cases dx <;> cases dy <;> simp only [cmpD, reduceCtorEq, Option.some.injEq] at e1
  subst e1
  exact ⟨_, _, rep_int hx, rep_int hy, k.bl ck⟩
theorem or_ge : OpR X (compareOp .GtE) (rCmp L .ge) := by
  refine OpRimp op_ge fun x y H Q h => ?_
  obtain ⟨F, C, c, dx, dy, d, ck, hx, hy, e, k⟩ := h
  obtain ⟨b, e1, rfl⟩ := map_bl e
  cases dx <;> cases dy <;> simp only [cmpD, reduceCtorEq, Option.some.injEq] at e1
  subst e1
  exact ⟨_, _, rep_int hx, rep_int hy, k.bl ck⟩
/-- dicts -/
theorem lk_val {F : Fz} {C : List Addr} {H : Hp} {k : T} : ∀ {kvs : List (Key × V)} {ds : List (T × D)}, RepK L F C H kvs ds → (lkD k ds = none ∧ valV kvs (.inr (toS k)) = none) ∨ ∃ v d, lkD k ds = some d ∧ valV kvs (.inr (toS k)) = some v ∧ Rep L F C H v d
  | _, _, .nil => .inl ⟨rfl, rfl⟩
  | _, _, .cons (k := k') (v := v) (d := d) (vs := vs) (ds := ds) h r => by
    by_cases e : k' = k
    · subst e
      refine .inr ⟨v, d, ?_, ?_, h⟩
      · simp [lkD]
      · simp [valV]
    · have e2 : ¬ (Sum.inr (toS k') : Key) = Sum.inr (toS k) := fun q => e (toS_inj (Sum.inr.inj q))
      rcases lk_val (k := k) r with ⟨h1, h2⟩ | ⟨w, d', h1, h2, h3⟩
      · refine .inl ⟨?_, ?_⟩
        · simp [lkD, e, h1]
        · rw [valV_neg e2]; exact h2
      · refine .inr ⟨w, d', ?_, ?_, h3⟩
        · simp [lkD, e, h1]
        · rw [valV_neg e2]; exact h2
end
end Hg
end
section
set_option Elab.async false
set_option linter.all false
set_option autoImplicit false
set_option maxRecDepth 100000
set_option maxHeartbeats 1000000
/-! A3b: < and <= of tuples whose first places that differ are of one kind. -/
namespace Hg
open PySem PySem.Spec PyProof.Rows PySem.SeqAt L2
section
open PySem.AutoSeq1 (wpAny_loadPart')
open PySem.MeetsSeq PySem.MeetsSeq2 PySem.MeetsSeq3
theorem tup_lt1 (l b : Addr) (items items2 : Array Value) (n n2 : Nat) (dd dd2 : Option Addr) (sl sl2 : Array (Option Value)) (e r : Nat → Bool) :
    Meets (Builtin.«tuple.__lt__» ⟨[.ref l, .ref b], []⟩)
      (fun A R s => s.heap.get? l = some { cls := .type "tuple", dict := dd, data := .seq items n, slots := sl } ∧ s.heap.get? b = some { cls := .type "tuple", dict := dd2, data := .seq items2 n2, slots := sl2 } ∧
        (∀ j (h1 : j < items.size) (h2 : j < items2.size), EqAt A.in1 s items[j] items2[j] (e j)) ∧
        (∀ j (h1 : j < items.size) (h2 : j < items2.size), (∀ i, i < j → e i = true) → e j = false → Ob.RcOp .Lt A.in1 s items[j] items2[j] (r j)) ∧
        R (.ok (.ret (.bool (Ob.lexAt e r (decide (items.size < items2.size)) 0 (min items.size items2.size))))) s) :=
  .of_wp fun prog w A R s h => by
    obtain ⟨hp, g, d, tk, os⟩ := s; obtain ⟨hl, hb, he, hr, h⟩ := h
    have f2 := AutoSeq1.sub_tuple_tuple
    have hZ : (items.toList.zip items2.toList).length = min items.size items2.size := by simp
    wp_walk using wpAny_loadPart' hl, wpAny_loadPart' hb, wpAny_forIn_list _ (fun rest b s' => b.1 = none ∧ s' = ⟨hp, g, d, tk, os⟩ ∧ ∃ i, rest = (items.toList.zip items2.toList).drop i ∧ (∀ j, j < i → e j = true) ∧
      R (.ok (.ret (.bool (Ob.lexAt e r (decide (items.size < items2.size)) i (min items.size items2.size - i))))) ⟨hp, g, d, tk, os⟩) _
    case h => exact ⟨rfl, rfl, 0, rfl, fun j hj => absurd hj (Nat.not_lt_zero j), by simpa using h⟩
    case fin =>
      rintro ⟨b1, b2⟩ s' ⟨hb', rfl, i, hz, _, hR⟩
      simp only at hb'
      subst hb'
      have hge : min items.size items2.size ≤ i := by
        have := congrArg List.length hz
        simp only [List.length_nil, List.length_drop, hZ] at this
        omega
      rw [Nat.sub_eq_zero_of_le hge, Ob.lexAt_zero] at hR
      wp_walk
      exact ⟨_, rfl, by simpa [Builtin.Tuple.tupleCompareSizes] using hR⟩
    case turn =>
      rintro ⟨y, x⟩ rest b s' ⟨hb', rfl, i, hz, hp1, hR⟩
      have hm : i < min items.size items2.size := by
        have := congrArg List.length hz
        simp only [List.length_cons, List.length_drop, hZ] at this
        omega
      have h1 : i < items.size := by omega
      have h2 : i < items2.size := by omega
      rw [List.drop_eq_getElem_cons (hZ ▸ hm)] at hz
      injection hz with hyx hrest
      obtain ⟨rfl, rfl⟩ : y = items[i] ∧ x = items2[i] := by
        constructor
        · have := congrArg Prod.fst hyx; simpa using this
        · have := congrArg Prod.snd hyx; simpa using this
      rw [show min items.size items2.size - i = (min items.size items2.size - (i + 1)) + 1 by omega, Ob.lexAt_succ] at hR
      refine wpAny_bind (he i h1 h2 prog w _ _ ?_)
      cases hei : e i with
      | true =>
        rw [hei, if_pos rfl] at hR
        wp_walk
        refine ⟨rfl, rfl, i + 1, hrest, fun j hj => ?_, hR⟩
        rcases Nat.lt_or_ge j i with q | q
        · exact hp1 j q
        · obtain rfl : j = i := by omega
          exact hei
      | false =>
        rw [hei, if_neg Bool.false_ne_true] at hR
        have hri := hr i h1 h2 hp1 hei prog w
        wp_walk using hri
        exact ⟨_, rfl, by simpa using hR⟩
theorem rc_tup_lt {A : Around} {s : Shared} {l b : Addr} {items items2 : Array Value} {e r : Nat → Bool} (hl : s.heap.IsTuple l items) (hb : s.heap.IsTuple b items2) (hu : A.units < cLine)
    (he : ∀ j (h1 : j < items.size) (h2 : j < items2.size), EqAt A.in1 s items[j] items2[j] (e j))
    (hr : ∀ j (h1 : j < items.size) (h2 : j < items2.size), (∀ i, i < j → e i = true) → e j = false → Ob.RcOp .Lt A.in1 s items[j] items2[j] (r j)) :
    Ob.RcOp .Lt A s (.ref l) (.ref b) (Ob.lexAt e r (decide (items.size < items2.size)) 0 (min items.size items2.size)) := fun prog w E Q h => by
  obtain ⟨⟨cls, dd, data, sl⟩, ho, hc, n, hd⟩ := id hl
  obtain ⟨⟨cls2, dd2, data2, sl2⟩, ho2, hc2, n2, hd2⟩ := id hb
  simp only at hc hd hc2 hd2
  subst hc hd hc2 hd2
  exact richCompare_meets_room (op := .Lt) ⟨_, ho, rfl⟩ ⟨_, ho2, rfl⟩ F.slot_tuple_lt F.entry_tuple_lt (F.args_tuple_lt_2 _ _) (tup_lt1 l b items items2 n n2 dd dd2 sl sl2 e r)
    ⟨ho, ho2, he, hr, ⟨(fun x => nomatch x), h⟩⟩ hu
theorem tup_le1 (l b : Addr) (items items2 : Array Value) (n n2 : Nat) (dd dd2 : Option Addr) (sl sl2 : Array (Option Value)) (e r : Nat → Bool) :
    Meets (Builtin.«tuple.__le__» ⟨[.ref l, .ref b], []⟩)
      (fun A R s => s.heap.get? l = some { cls := .type "tuple", dict := dd, data := .seq items n, slots := sl } ∧ s.heap.get? b = some { cls := .type "tuple", dict := dd2, data := .seq items2 n2, slots := sl2 } ∧
        (∀ j (h1 : j < items.size) (h2 : j < items2.size), EqAt A.in1 s items[j] items2[j] (e j)) ∧
        (∀ j (h1 : j < items.size) (h2 : j < items2.size), (∀ i, i < j → e i = true) → e j = false → Ob.RcOp .LtE A.in1 s items[j] items2[j] (r j)) ∧
        R (.ok (.ret (.bool (Ob.lexAt e r (decide (items.size ≤ items2.size)) 0 (min items.size items2.size))))) s) :=
  .of_wp fun prog w A R s h => by
    obtain ⟨hp, g, d, tk, os⟩ := s; obtain ⟨hl, hb, he, hr, h⟩ := h
    have f2 := AutoSeq1.sub_tuple_tuple
    have hZ : (items.toList.zip items2.toList).length = min items.size items2.size := by simp
    wp_walk using wpAny_loadPart' hl, wpAny_loadPart' hb, wpAny_forIn_list _ (fun rest b s' => b.1 = none ∧ s' = ⟨hp, g, d, tk, os⟩ ∧ ∃ i, rest = (items.toList.zip items2.toList).drop i ∧ (∀ j, j < i → e j = true) ∧
      R (.ok (.ret (.bool (Ob.lexAt e r (decide (items.size ≤ items2.size)) i (min items.size items2.size - i))))) ⟨hp, g, d, tk, os⟩) _
    case h => exact ⟨rfl, rfl, 0, rfl, fun j hj => absurd hj (Nat.not_lt_zero j), by simpa using h⟩
    case fin =>
      rintro ⟨b1, b2⟩ s' ⟨hb', rfl, i, hz, _, hR⟩
      simp only at hb'
      subst hb'
      have hge : min items.size items2.size ≤ i := by
        have := congrArg List.length hz
        simp only [List.length_nil, List.length_drop, hZ] at this
        omega
      rw [Nat.sub_eq_zero_of_le hge, Ob.lexAt_zero] at hR
      wp_walk
      exact ⟨_, rfl, by simpa [Builtin.Tuple.tupleCompareSizes] using hR⟩
    case turn =>
      rintro ⟨y, x⟩ rest b s' ⟨hb', rfl, i, hz, hp1, hR⟩
      have hm : i < min items.size items2.size := by
        have := congrArg List.length hz
        simp only [List.length_cons, List.length_drop, hZ] at this
        omega
      have h1 : i < items.size := by omega
      have h2 : i < items2.size := by omega
      rw [List.drop_eq_getElem_cons (hZ ▸ hm)] at hz
      injection hz with hyx hrest
      obtain ⟨rfl, rfl⟩ : y = items[i] ∧ x = items2[i] := by
        constructor
        · have := congrArg Prod.fst hyx; simpa using this
        · have := congrArg Prod.snd hyx; simpa using this
      rw [show min items.size items2.size - i = (min items.size items2.size - (i + 1)) + 1 by omega, Ob.lexAt_succ] at hR
      refine wpAny_bind (he i h1 h2 prog w _ _ ?_)
      cases hei : e i with
      | true =>
        rw [hei, if_pos rfl] at hR
        wp_walk
        refine ⟨rfl, rfl, i + 1, hrest, fun j hj => ?_, hR⟩
        rcases Nat.lt_or_ge j i with q | q
        · exact hp1 j q
        · obtain rfl : j = i := by omega
          exact hei
      | false =>
        rw [hei, if_neg Bool.false_ne_true] at hR
        have hri := hr i h1 h2 hp1 hei prog w
        wp_walk using hri
        exact ⟨_, rfl, by simpa using hR⟩
theorem rc_tup_le {A : Around} {s : Shared} {l b : Addr} {items items2 : Array Value} {e r : Nat → Bool} (hl : s.heap.IsTuple l items) (hb : s.heap.IsTuple b items2) (hu : A.units < cLine)
    (he : ∀ j (h1 : j < items.size) (h2 : j < items2.size), EqAt A.in1 s items[j] items2[j] (e j))
    (hr : ∀ j (h1 : j < items.size) (h2 : j < items2.size), (∀ i, i < j → e i = true) → e j = false → Ob.RcOp .LtE A.in1 s items[j] items2[j] (r j)) :
    Ob.RcOp .LtE A s (.ref l) (.ref b) (Ob.lexAt e r (decide (items.size ≤ items2.size)) 0 (min items.size items2.size)) := fun prog w E Q h => by
  obtain ⟨⟨cls, dd, data, sl⟩, ho, hc, n, hd⟩ := id hl
  obtain ⟨⟨cls2, dd2, data2, sl2⟩, ho2, hc2, n2, hd2⟩ := id hb
  simp only at hc hd hc2 hd2
  subst hc hd hc2 hd2
  exact richCompare_meets_room (op := .LtE) ⟨_, ho, rfl⟩ ⟨_, ho2, rfl⟩ F.slot_tuple_le F.entry_tuple_le (F.args_tuple_le_2 _ _) (tup_le1 l b items items2 n n2 dd dd2 sl sl2 e r)
    ⟨ho, ho2, he, hr, ⟨(fun x => nomatch x), h⟩⟩ hu
end
end Hg
end
section
set_option Elab.async false
set_option linter.all false
set_option autoImplicit false
set_option maxRecDepth 100000
set_option maxHeartbeats 1000000
/-! A3c: < and <= of tuples, read as data. -/
namespace Hg
open PySem PySem.Spec PyProof.Rows PySem.SeqAt L2
theorem readsAll_at {h : Heap} : ∀ {vs : List Value} {xs : List PyData} {as : List Addr} {j : Nat} {v : Value} {d : PyData}, ReadsAll h vs xs as → vs[j]? = some v → xs[j]? = some d → ∃ as', Reads h v d as'
  | _, _, _, _, _, _, .nil, e, _ => by simp at e
  | _, _, _, 0, _, _, .cons r _, e1, e2 => by
    simp only [List.getElem?_cons_zero, Option.some.injEq] at e1 e2
    subst e1 e2
    exact ⟨_, r⟩
  | _, _, _, j + 1, _, _, .cons _ r, e1, e2 => by
    simp only [List.getElem?_cons_succ] at e1 e2
    exact readsAll_at r e1 e2
theorem readsAll_len {h : Heap} : ∀ {vs : List Value} {xs : List PyData} {as : List Addr}, ReadsAll h vs xs as → vs.length = xs.length
  | _, _, _, .nil => rfl
  | _, _, _, .cons _ r => by simp [readsAll_len r]
theorem toPs_at : ∀ (xs : List D) (j : Nat), (toPs xs)[j]? = (xs[j]?).map toP
  | [], j => by simp [toPs]
  | x :: xs, 0 => by simp [toPs]
  | x :: xs, j + 1 => by simp [toPs, toPs_at xs j]
theorem toPs_map : ∀ xs : List D, toPs xs = xs.map toP
  | [] => rfl
  | x :: xs => by simp [toPs, toPs_map xs]
theorem plainDs_at : ∀ {xs : List D} {j : Nat} {x : D}, plainDs xs = true → xs[j]? = some x → plainD x = true
  | y :: xs, 0, x, h, e => by
    simp only [plainDs, Bool.and_eq_true] at h
    simp only [List.getElem?_cons_zero, Option.some.injEq] at e
    subst e; exact h.1
  | y :: xs, j + 1, x, h, e => by
    simp only [plainDs, Bool.and_eq_true] at h
    exact plainDs_at (xs := xs) h.2 (by simpa using e)
theorem depDs_at : ∀ {xs : List D} {j : Nat} {x : D}, xs[j]? = some x → depD x ≤ depDs xs
  | y :: xs, 0, x, e => by
    simp only [List.getElem?_cons_zero, Option.some.injEq] at e
    subst e; simp only [depDs]; omega
  | y :: xs, j + 1, x, e => by
    have := depDs_at (xs := xs) (j := j) (x := x) (by simpa using e)
    simp only [depDs]; omega
def ltAt (xs ys : List D) (j : Nat) : Bool := match xs[j]?, ys[j]? with
  | some x, some y => (ltO x y).getD false
  | _, _ => false
def eqAtD (xs ys : List D) (j : Nat) : Bool := match xs[j]?, ys[j]? with
  | some x, some y => eqD x y
  | _, _ => false
theorem lexAt_shift (e r : Nat → Bool) (z : Bool) : ∀ (k i : Nat), Ob.lexAt e r z (i + 1) k = Ob.lexAt (fun j => e (j + 1)) (fun j => r (j + 1)) z i k
  | 0, _ => rfl
  | k + 1, i => by rw [Ob.lexAt_succ, Ob.lexAt_succ, lexAt_shift e r z k (i + 1)]
theorem lex_ltOs : ∀ {xs ys : List D} {b : Bool}, ltOs xs ys = some b → Ob.lexAt (eqAtD xs ys) (ltAt xs ys) (decide (xs.length < ys.length)) 0 (min xs.length ys.length) = b
  | [], [], b, h => by simp only [ltOs, Option.some.injEq] at h; subst h; rfl
  | [], _ :: _, b, h => by
    simp only [ltOs, Option.some.injEq] at h; subst h
    rw [show min ([] : List D).length _ = 0 from Nat.zero_min _, Ob.lexAt_zero]
    simp
  | _ :: _, [], b, h => by
    simp only [ltOs, Option.some.injEq] at h; subst h
    rw [show min _ ([] : List D).length = 0 from Nat.min_zero _, Ob.lexAt_zero]
    simp
  | x :: xs, y :: ys, b, h => by
    have e1 : min (x :: xs).length (y :: ys).length = min xs.length ys.length + 1 := by simp only [List.length_cons]; omega
    have e2 : decide ((x :: xs).length < (y :: ys).length) = decide (xs.length < ys.length) := by simp
    rw [e1, e2, Ob.lexAt_succ, lexAt_shift]
    have e3 : eqAtD (x :: xs) (y :: ys) 0 = eqD x y := rfl
    have e4 : ltAt (x :: xs) (y :: ys) 0 = (ltO x y).getD false := rfl
    have e5 : (fun j => eqAtD (x :: xs) (y :: ys) (j + 1)) = eqAtD xs ys := by funext j; simp [eqAtD]
    have e6 : (fun j => ltAt (x :: xs) (y :: ys) (j + 1)) = ltAt xs ys := by funext j; simp [ltAt]
    rw [e3, e4, e5, e6]
    simp only [ltOs] at h
    cases q : eqD x y with
    | true =>
      rw [q, if_pos rfl] at h
      rw [if_pos rfl]
      exact lex_ltOs h
    | false =>
      rw [q, if_neg Bool.false_ne_true] at h
      rw [if_neg Bool.false_ne_true, h]
      rfl
theorem first_lt : ∀ {xs ys : List D} {b : Bool} {j : Nat} {x y : D}, ltOs xs ys = some b → xs[j]? = some x → ys[j]? = some y → (∀ i, i < j → eqAtD xs ys i = true) → eqD x y = false → ∃ c, ltO x y = some c
  | x' :: xs, y' :: ys, b, 0, x, y, h, e1, e2, _, q => by
    simp only [List.getElem?_cons_zero, Option.some.injEq] at e1 e2
    subst e1 e2
    simp only [ltOs, q, Bool.false_eq_true, if_false] at h
    exact ⟨b, h⟩
  | x' :: xs, y' :: ys, b, j + 1, x, y, h, e1, e2, hp, q => by
    simp only [List.getElem?_cons_succ] at e1 e2
    have e3 : eqD x' y' = true := hp 0 (Nat.zero_lt_succ _)
    simp only [ltOs, e3, if_true] at h
    refine first_lt h e1 e2 (fun i hi => ?_) q
    have := hp (i + 1) (by omega)
    simpa [eqAtD] using this
  | [], _, _, _, _, _, _, e1, _, _, _ => by simp at e1
  | _ :: _, [], _, _, _, _, _, _, e2, _, _ => by simp at e2
theorem lt_rc : ∀ (n : Nat) (dx dy : D) (b : Bool) (A : Around) (s : Shared) (v u : Value) (as bs : List Addr), depD dx ≤ n → ltO dx dy = some b → plainD dx = true → plainD dy = true → Reads s.heap v (toP dx) as → Reads s.heap u (toP dy) bs → A.units + n < cLine → Ob.RcOp .Lt A s v u b := by
  intro n
  induction n with
  | zero =>
    intro dx dy b A s v u as bs hd h p1 p2 r1 r2 hu
    cases dx <;> cases dy <;> simp only [ltO, reduceCtorEq, Option.some.injEq] at h
    · subst h
      cases r1; cases r2
      exact fun prog w E Q q => PyProof.Rows.lt_int q
    · subst h
      cases r1; cases r2
      exact fun prog w E Q q => PyProof.Rows.lt_str (by rw [toS_cps, toS_cps]; exact q)
    · simp only [depD] at hd; omega
  | succ n ih =>
    intro dx dy b A s v u as bs hd h p1 p2 r1 r2 hu
    cases dx <;> cases dy <;> simp only [ltO, reduceCtorEq, Option.some.injEq] at h
    · subst h
      cases r1; cases r2
      exact fun prog w E Q q => PyProof.Rows.lt_int q
    · subst h
      cases r1; cases r2
      exact fun prog w E Q q => PyProof.Rows.lt_str (by rw [toS_cps, toS_cps]; exact q)
    · rename_i xs ys
      simp only [depD] at hd
      simp only [plainD] at p1 p2
      simp only [toP] at r1 r2
      cases r1 with
      | tuple ho hc hda ra =>
        cases r2 with
        | tuple ho2 hc2 hda2 rb =>
          rename_i a o vs m a2 o2 vs2 m2
          have l1 : vs.size = xs.length := by
            have := readsAll_len ra
            rw [Array.length_toList] at this
            have e := congrArg List.length (show toPs xs = xs.map toP from toPs_map xs)
            rw [List.length_map] at e
            omega
          have l2 : vs2.size = ys.length := by
            have := readsAll_len rb
            rw [Array.length_toList] at this
            have e := congrArg List.length (show toPs ys = ys.map toP from toPs_map ys)
            rw [List.length_map] at e
            omega
          have at1 : ∀ j (h1 : j < vs.size), ∃ x, xs[j]? = some x ∧ ∃ as', Reads s.heap vs[j] (toP x) as' := fun j h1 => by
            have e : xs[j]? = some (xs[j]'(by omega)) := List.getElem?_eq_getElem (by omega)
            refine ⟨_, e, readsAll_at (j := j) ra ?_ ?_⟩
            · rw [Array.getElem?_toList]; exact Array.getElem?_eq_getElem h1
            · rw [toPs_at, e]; rfl
          have at2 : ∀ j (h1 : j < vs2.size), ∃ x, ys[j]? = some x ∧ ∃ as', Reads s.heap vs2[j] (toP x) as' := fun j h1 => by
            have e : ys[j]? = some (ys[j]'(by omega)) := List.getElem?_eq_getElem (by omega)
            refine ⟨_, e, readsAll_at (j := j) rb ?_ ?_⟩
            · rw [Array.getElem?_toList]; exact Array.getElem?_eq_getElem h1
            · rw [toPs_at, e]; rfl
          have hn : A.in1.units = A.units + 1 := rfl
          have R := rc_tup_lt (A := A) (s := s) (e := eqAtD xs ys) (r := ltAt xs ys) ⟨o, ho, hc, m, hda⟩ ⟨o2, ho2, hc2, m2, hda2⟩ (by omega) (fun j h1 h2 => by
            obtain ⟨x, e1, as1, q1⟩ := at1 j h1
            obtain ⟨y, e2, as2, q2⟩ := at2 j h2
            have px := plainDs_at p1 e1
            have py := plainDs_at p2 e2
            have dx := depDs_at e1
            have e3 : eqAtD xs ys j = PyData.eqv (toP x) (toP y) := by
              rw [toP_eqv x y px py]
              simp [eqAtD, e1, e2]
            rw [e3]
            exact eqAt_plain _ _ A.in1 s _ _ _ _ q1 q2 (toP_plain _ px) (toP_plain _ py) (by rw [toP_depth _ px, hn]; omega)) (fun j h1 h2 hp he => by
            obtain ⟨x, e1, as1, q1⟩ := at1 j h1
            obtain ⟨y, e2, as2, q2⟩ := at2 j h2
            have px := plainDs_at p1 e1
            have py := plainDs_at p2 e2
            have dx := depDs_at e1
            have e3 : eqD x y = false := by
              simpa [eqAtD, e1, e2] using he
            obtain ⟨c, e4⟩ := first_lt h e1 e2 hp e3
            have e5 : ltAt xs ys j = c := by simp [ltAt, e1, e2, e4]
            rw [e5]
            exact ih x y c A.in1 s _ _ _ _ (by omega) e4 px py q1 q2 (by rw [hn]; omega))
          rw [l1, l2, lex_ltOs h] at R
          exact R
theorem not_lt_le (x y : T) : (!decide (y < x)) = decide (x ≤ y) := by
  rw [← decide_not]
  exact decide_eq_decide.mpr List.not_lt
def leAt (xs ys : List D) (j : Nat) : Bool := match xs[j]?, ys[j]? with
  | some x, some y => (leO x y).getD false
  | _, _ => false
theorem lex_leOs : ∀ {xs ys : List D} {b : Bool}, leOs xs ys = some b → Ob.lexAt (eqAtD xs ys) (leAt xs ys) (decide (xs.length ≤ ys.length)) 0 (min xs.length ys.length) = b
  | [], [], b, h => by simp only [leOs, Option.some.injEq] at h; subst h; rfl
  | [], _ :: _, b, h => by
    simp only [leOs, Option.some.injEq] at h; subst h
    rw [show min ([] : List D).length _ = 0 from Nat.zero_min _, Ob.lexAt_zero]
    simp
  | _ :: _, [], b, h => by
    simp only [leOs, Option.some.injEq] at h; subst h
    rw [show min _ ([] : List D).length = 0 from Nat.min_zero _, Ob.lexAt_zero]
    simp
  | x :: xs, y :: ys, b, h => by
    have e1 : min (x :: xs).length (y :: ys).length = min xs.length ys.length + 1 := by simp only [List.length_cons]; omega
    have e2 : decide ((x :: xs).length ≤ (y :: ys).length) = decide (xs.length ≤ ys.length) := by simp
    rw [e1, e2, Ob.lexAt_succ, lexAt_shift]
    have e3 : eqAtD (x :: xs) (y :: ys) 0 = eqD x y := rfl
    have e4 : leAt (x :: xs) (y :: ys) 0 = (leO x y).getD false := rfl
    have e5 : (fun j => eqAtD (x :: xs) (y :: ys) (j + 1)) = eqAtD xs ys := by funext j; simp [eqAtD]
    have e6 : (fun j => leAt (x :: xs) (y :: ys) (j + 1)) = leAt xs ys := by funext j; simp [leAt]
    rw [e3, e4, e5, e6]
    simp only [leOs] at h
    cases q : eqD x y with
    | true =>
      rw [q, if_pos rfl] at h
      rw [if_pos rfl]
      exact lex_leOs h
    | false =>
      rw [q, if_neg Bool.false_ne_true] at h
      rw [if_neg Bool.false_ne_true, h]
      rfl
theorem first_le : ∀ {xs ys : List D} {b : Bool} {j : Nat} {x y : D}, leOs xs ys = some b → xs[j]? = some x → ys[j]? = some y → (∀ i, i < j → eqAtD xs ys i = true) → eqD x y = false → ∃ c, leO x y = some c
  | x' :: xs, y' :: ys, b, 0, x, y, h, e1, e2, _, q => by
    simp only [List.getElem?_cons_zero, Option.some.injEq] at e1 e2
    subst e1 e2
    simp only [leOs, q, Bool.false_eq_true, if_false] at h
    exact ⟨b, h⟩
  | x' :: xs, y' :: ys, b, j + 1, x, y, h, e1, e2, hp, q => by
    simp only [List.getElem?_cons_succ] at e1 e2
    have e3 : eqD x' y' = true := hp 0 (Nat.zero_lt_succ _)
    simp only [leOs, e3, if_true] at h
    refine first_le h e1 e2 (fun i hi => ?_) q
    have := hp (i + 1) (by omega)
    simpa [eqAtD] using this
  | [], _, _, _, _, _, _, e1, _, _, _ => by simp at e1
  | _ :: _, [], _, _, _, _, _, _, e2, _, _ => by simp at e2
theorem le_rc : ∀ (n : Nat) (dx dy : D) (b : Bool) (A : Around) (s : Shared) (v u : Value) (as bs : List Addr), depD dx ≤ n → leO dx dy = some b → plainD dx = true → plainD dy = true → Reads s.heap v (toP dx) as → Reads s.heap u (toP dy) bs → A.units + n < cLine → Ob.RcOp .LtE A s v u b := by
  intro n
  induction n with
  | zero =>
    intro dx dy b A s v u as bs hd h p1 p2 r1 r2 hu
    cases dx <;> cases dy <;> simp only [leO, reduceCtorEq, Option.some.injEq] at h
    · subst h
      cases r1; cases r2
      exact fun prog w E Q q => PyProof.Rows.le_int q
    · subst h
      cases r1; cases r2
      exact fun prog w E Q q => P.le_str (by rw [toS_cps, toS_cps, not_lt_le]; exact q)
    · simp only [depD] at hd; omega
  | succ n ih =>
    intro dx dy b A s v u as bs hd h p1 p2 r1 r2 hu
    cases dx <;> cases dy <;> simp only [leO, reduceCtorEq, Option.some.injEq] at h
    · subst h
      cases r1; cases r2
      exact fun prog w E Q q => PyProof.Rows.le_int q
    · subst h
      cases r1; cases r2
      exact fun prog w E Q q => P.le_str (by rw [toS_cps, toS_cps, not_lt_le]; exact q)
    · rename_i xs ys
      simp only [depD] at hd
      simp only [plainD] at p1 p2
      simp only [toP] at r1 r2
      cases r1 with
      | tuple ho hc hda ra =>
        cases r2 with
        | tuple ho2 hc2 hda2 rb =>
          rename_i a o vs m a2 o2 vs2 m2
          have l1 : vs.size = xs.length := by
            have := readsAll_len ra
            rw [Array.length_toList] at this
            have e := congrArg List.length (show toPs xs = xs.map toP from toPs_map xs)
            rw [List.length_map] at e
            omega
          have l2 : vs2.size = ys.length := by
            have := readsAll_len rb
            rw [Array.length_toList] at this
            have e := congrArg List.length (show toPs ys = ys.map toP from toPs_map ys)
            rw [List.length_map] at e
            omega
          have at1 : ∀ j (h1 : j < vs.size), ∃ x, xs[j]? = some x ∧ ∃ as', Reads s.heap vs[j] (toP x) as' := fun j h1 => by
            have e : xs[j]? = some (xs[j]'(by omega)) := List.getElem?_eq_getElem (by omega)
            refine ⟨_, e, readsAll_at (j := j) ra ?_ ?_⟩
            · rw [Array.getElem?_toList]; exact Array.getElem?_eq_getElem h1
            · rw [toPs_at, e]; rfl
          have at2 : ∀ j (h1 : j < vs2.size), ∃ x, ys[j]? = some x ∧ ∃ as', Reads s.heap vs2[j] (toP x) as' := fun j h1 => by
            have e : ys[j]? = some (ys[j]'(by omega)) := List.getElem?_eq_getElem (by omega)
            refine ⟨_, e, readsAll_at (j := j) rb ?_ ?_⟩
            · rw [Array.getElem?_toList]; exact Array.getElem?_eq_getElem h1
            · rw [toPs_at, e]; rfl
          have hn : A.in1.units = A.units + 1 := rfl
          have R := rc_tup_le (A := A) (s := s) (e := eqAtD xs ys) (r := leAt xs ys) ⟨o, ho, hc, m, hda⟩ ⟨o2, ho2, hc2, m2, hda2⟩ (by omega) (fun j h1 h2 => by
            obtain ⟨x, e1, as1, q1⟩ := at1 j h1
            obtain ⟨y, e2, as2, q2⟩ := at2 j h2
            have px := plainDs_at p1 e1
            have py := plainDs_at p2 e2
            have dx := depDs_at e1
            have e3 : eqAtD xs ys j = PyData.eqv (toP x) (toP y) := by
              rw [toP_eqv x y px py]
              simp [eqAtD, e1, e2]
            rw [e3]
            exact eqAt_plain _ _ A.in1 s _ _ _ _ q1 q2 (toP_plain _ px) (toP_plain _ py) (by rw [toP_depth _ px, hn]; omega)) (fun j h1 h2 hp he => by
            obtain ⟨x, e1, as1, q1⟩ := at1 j h1
            obtain ⟨y, e2, as2, q2⟩ := at2 j h2
            have px := plainDs_at p1 e1
            have py := plainDs_at p2 e2
            have dx := depDs_at e1
            have e3 : eqD x y = false := by
              simpa [eqAtD, e1, e2] using he
            obtain ⟨c, e4⟩ := first_le h e1 e2 hp e3
            have e5 : leAt xs ys j = c := by simp [leAt, e1, e2, e4]
            rw [e5]
            exact ih x y c A.in1 s _ _ _ _ (by omega) e4 px py q1 q2 (by rw [hn]; omega))
          rw [l1, l2, lex_leOs h] at R
          exact R
section
variable {X : Cx} {L : Pl}
theorem op_lt_tup (hu : X.A.units + 64 < cLine) : OpR X (compareOp .Lt) (fun x y H Q => ∃ F C c dx dy b, Cok L F C H c ∧ Rep L F C H x dx ∧ Rep L F C H y dy ∧ ltG dx dy = some b ∧ Q (.bl b) H) := by
  intro pins s σ H x y v u Q I rx ry h
  obtain ⟨F, C, c, dx, dy, b, ck, hx, hy, e, q⟩ := h
  unfold ltG at e
  split at e
  · rename_i p
    simp only [Bool.and_eq_true, decide_eq_true_eq] at p
    obtain ⟨as, r1⟩ := Dp.reads I _ x v (Rep.dp p.1.1.1 hx) rx
    obtain ⟨bs, r2⟩ := Dp.reads I _ y u (Rep.dp p.1.1.2 hy) ry
    exact lt_rc 64 dx dy b X.A s v u as bs p.1.2 e p.1.1.1 p.1.1.2 r1 r2 hu X.prog X.w X.xe _ ⟨.bl b, H, I, rfl, q⟩
  · cases e
theorem op_le_tup (hu : X.A.units + 64 < cLine) : OpR X (compareOp .LtE) (fun x y H Q => ∃ F C c dx dy b, Cok L F C H c ∧ Rep L F C H x dx ∧ Rep L F C H y dy ∧ leG dx dy = some b ∧ Q (.bl b) H) := by
  intro pins s σ H x y v u Q I rx ry h
  obtain ⟨F, C, c, dx, dy, b, ck, hx, hy, e, q⟩ := h
  unfold leG at e
  split at e
  · rename_i p
    simp only [Bool.and_eq_true, decide_eq_true_eq] at p
    obtain ⟨as, r1⟩ := Dp.reads I _ x v (Rep.dp p.1.1.1 hx) rx
    obtain ⟨bs, r2⟩ := Dp.reads I _ y u (Rep.dp p.1.1.2 hy) ry
    exact le_rc 64 dx dy b X.A s v u as bs p.1.2 e p.1.1.1 p.1.1.2 r1 r2 hu X.prog X.w X.xe _ ⟨.bl b, H, I, rfl, q⟩
  · cases e
theorem or_lt (hu : X.A.units + 64 < cLine) : OpR X (compareOp .Lt) (rCmp L .lt) := by
  refine OpRimp (OpR.or (OpR.or op_lt op_lt_str) (op_lt_tup (L := L) hu)) fun x y H Q h => ?_
  obtain ⟨F, C, c, dx, dy, d, ck, hx, hy, e, k⟩ := h
  obtain ⟨b, e1, rfl⟩ := map_bl e
  cases dx <;> cases dy <;> simp only [cmpD, reduceCtorEq, Option.some.injEq] at e1
  · subst e1
    exact .inl (.inl ⟨_, _, rep_int hx, rep_int hy, k.bl ck⟩)
  · subst e1
    refine .inl (.inr ⟨_, _, rep_str hx, rep_str hy, ?_⟩)
    rw [toS_cps, toS_cps]
    exact k.bl ck
  · exact .inr ⟨F, C, c, _, _, b, ck, hx, hy, e1, k.bl ck⟩
theorem or_le (hu : X.A.units + 64 < cLine) : OpR X (compareOp .LtE) (rCmp L .le) := by
  refine OpRimp (OpR.or (OpR.or op_le op_le_str) (op_le_tup (L := L) hu)) fun x y H Q h => ?_
  obtain ⟨F, C, c, dx, dy, d, ck, hx, hy, e, k⟩ := h
  obtain ⟨b, e1, rfl⟩ := map_bl e
  cases dx <;> cases dy <;> simp only [cmpD, reduceCtorEq, Option.some.injEq] at e1
  · subst e1
    exact .inl (.inl ⟨_, _, rep_int hx, rep_int hy, k.bl ck⟩)
  · rename_i x y
    subst e1
    refine .inl (.inr ⟨_, _, rep_str hx, rep_str hy, ?_⟩)
    rw [toS_cps, toS_cps]
    have : (!decide (y < x)) = decide (x ≤ y) := by
      rw [← decide_not]
      exact decide_eq_decide.mpr List.not_lt
    rw [this]
    exact k.bl ck
  · exact .inr ⟨F, C, c, _, _, b, ck, hx, hy, e1, k.bl ck⟩
end
end Hg
end
section
set_option Elab.async false
set_option linter.all false
set_option autoImplicit false
set_option maxRecDepth 100000
set_option maxHeartbeats 1000000
/-! A6c: the lesser of two values that are compared where they lie. -/
namespace Hg
open PySem PySem.Spec PyProof.Rows PySem.SeqAt
section
variable {prog : Program} {w : World} {A : Around} {R : Result → Shared → Prop} {I ax S : Addr} {a b : Value}
theorem nm_min_loop : (toString "min" ++ toString ".loop" : String) = "min.loop" := by decide
/-- the walk is at its end -/
theorem mn_end (hh : A.in1.handled = none) (h1 : ax ≠ I) (h2 : S ≠ I) (h3 : S ≠ ax) {s : Shared} {v : Value} {c : Nat} (st : s.heap.IsTupleIter I ax 2 ∧ s.heap.IsTuple ax #[a, b])
    (hS : s.heap.get? S = some { cls := .type "list", dict := none, data := .seq #[v, v] c, slots := #[] })
    (hR : ∀ h' tk, (∀ d o, d ≠ I → d ≠ S → s.heap.get? d = some o → h'.get? d = some o) → R (.ok (.ret v)) { s with heap := h', toks := tk }) :
    codeAny (model prog w) A (.builtin "min.loop" ⟨[.ref I, .none, .ref S], []⟩) R s := by
  have W := Walks.tuple (prog := prog) (w := w) (A := A.in1) hh I ax h1 #[a, b]
  refine codeAny_builtin F.entry_min_loop ?_
  rw [Around.under_plainId F.plain_min_loop _]
  show wpAny _ A.in1 (seqItems? (.ref S) >>= _) _ _ s
  refine wpAny_bind (wpAny_seqItems hS rfl ?_)
  show wpAny _ A.in1 (tryCatch (pyNext (.ref I)) _ >>= _) _ _ s
  refine wpAny_bind (wpAny_tryCatch (W.done s _ _ st fun h' tk hk' => ?_))
  have hS' := hk' S _ (by simp [h2]) hS
  show wpAny _ A.in1 (updateSeq S (fun _ => #[]) >>= _) _ _ _
  refine wpAny_bind ?_
  refine wpAny_updateSeq hS' rfl (wpAny_bind (wpAny_letGo (wpAny_pure ?_)))
  exact hR _ tk fun d o hd hdS e => (Heap.get?_update_other _ _ (Ne.symm hdS)).trans (hk' d o (by simp [hd]) e)
/-- the second one against the first -/
theorem mn_two {k : Bool} (hh : A.in1.handled = none) (h1 : ax ≠ I) (h2 : S ≠ I) (h3 : S ≠ ax) {s : Shared} {c : Nat} (st : s.heap.IsTupleIter I ax 1 ∧ s.heap.IsTuple ax #[a, b])
    (hS : s.heap.get? S = some { cls := .type "list", dict := none, data := .seq #[a, a] c, slots := #[] })
    (hc : ∀ h' tk, (∀ d o, d ≠ I → d ≠ S → s.heap.get? d = some o → h'.get? d = some o) → Ob.RcOp .Lt A.in1 { s with heap := h', toks := tk } b a k)
    (hR : ∀ h' tk, (∀ d o, d ≠ I → d ≠ S → s.heap.get? d = some o → h'.get? d = some o) → R (.ok (.ret (if k = true then b else a))) { s with heap := h', toks := tk }) :
    codeAny (model prog w) A (.builtin "min.loop" ⟨[.ref I, .none, .ref S], []⟩) R s := by
  have W := Walks.tuple (prog := prog) (w := w) (A := A.in1) hh I ax h1 #[a, b]
  refine codeAny_builtin F.entry_min_loop ?_
  rw [Around.under_plainId F.plain_min_loop _]
  show wpAny _ A.in1 (seqItems? (.ref S) >>= _) _ _ s
  refine wpAny_bind (wpAny_seqItems hS rfl ?_)
  show wpAny _ A.in1 (tryCatch (pyNext (.ref I)) _ >>= _) _ _ s
  refine wpAny_bind (wpAny_tryCatch (W.item 1 s _ _ (by simp) st fun v h' tk hP hst' hk' => ?_))
  obtain rfl : v = b := by
    have : #[a, b][1]? = some v := hP
    simpa using this.symm
  have hS' := hk' S _ (by simp [h2]) hS
  show wpAny _ A.in1 (tryCatch (holding [v, v] (richCompare .Lt v a >>= _)) _ >>= _) _ _ _
  have hold : ∀ d o, d ≠ I → d ≠ S → s.heap.get? d = some o → h'.get? d = some o := fun d o hd _ e => hk' d o (by simp [hd]) e
  refine wpAny_bind (wpAny_tryCatch (wpAny_holding (wpAny_bind (hc h' tk hold prog w _ _ ?_))))
  refine wpAny_bind (wpAny_holding (wpAny_truthy_bool ?_))
  refine wpAny_bind (wpAny_letGo (wpAny_pure ?_))
  cases k with
  | true =>
    simp only [if_true]
    refine wpAny_bind ?_
    refine wpAny_updateSeq hS' rfl (wpAny_bind (wpAny_letGo ?_))
    rw [nm_min_loop]
    refine wpAny_pure ⟨plainId_quiet F.plain_min_loop _, mn_end (a := a) (b := v) hh h1 h2 h3 (W.frame _ _ _ hst' fun d hd o e => ?_) (Heap.get?_update_self _ hS' rfl) fun h'' tk'' hk'' => ?_⟩
    · refine (Heap.get?_update_other _ _ (fun q : S = d => ?_)).trans e
      rcases List.mem_cons.mp hd with z | z
      · exact h2 (q.trans z)
      · exact h3 (q.trans (by simpa using z))
    · exact hR h'' tk'' fun d o hd hdS e => hk'' d o hd hdS ((Heap.get?_update_other _ _ (Ne.symm hdS)).trans (hold d o hd hdS e))
  | false =>
    simp only [Bool.false_eq_true, if_false]
    refine wpAny_bind (wpAny_letGo ?_)
    rw [nm_min_loop]
    refine wpAny_pure ⟨plainId_quiet F.plain_min_loop _, mn_end (a := a) (b := v) hh h1 h2 h3 hst' hS' fun h'' tk'' hk'' => ?_⟩
    exact hR h'' tk'' fun d o hd hdS e => hk'' d o hd hdS (hold d o hd hdS e)
theorem mn_one {k : Bool} (hh : A.in1.handled = none) (h1 : ax ≠ I) (h2 : S ≠ I) (h3 : S ≠ ax) {s : Shared} {c : Nat} (st : s.heap.IsTupleIter I ax 0 ∧ s.heap.IsTuple ax #[a, b])
    (hS : s.heap.get? S = some { cls := .type "list", dict := none, data := .seq #[] c, slots := #[] })
    (hc : ∀ h' tk, (∀ d o, d ≠ I → d ≠ S → s.heap.get? d = some o → h'.get? d = some o) → Ob.RcOp .Lt A.in1 { s with heap := h', toks := tk } b a k)
    (hR : ∀ h' tk, (∀ d o, d ≠ I → d ≠ S → s.heap.get? d = some o → h'.get? d = some o) → R (.ok (.ret (if k = true then b else a))) { s with heap := h', toks := tk }) :
    codeAny (model prog w) A (.builtin "min.loop" ⟨[.ref I, .none, .ref S], []⟩) R s := by
  have W := Walks.tuple (prog := prog) (w := w) (A := A.in1) hh I ax h1 #[a, b]
  refine codeAny_builtin F.entry_min_loop ?_
  rw [Around.under_plainId F.plain_min_loop _]
  show wpAny _ A.in1 (seqItems? (.ref S) >>= _) _ _ s
  refine wpAny_bind (wpAny_seqItems hS rfl ?_)
  show wpAny _ A.in1 (tryCatch (pyNext (.ref I)) _ >>= _) _ _ s
  refine wpAny_bind (wpAny_tryCatch (W.item 0 s _ _ (by simp) st fun v h' tk hP hst' hk' => ?_))
  obtain rfl : v = a := by
    have : #[a, b][0]? = some v := hP
    simpa using this.symm
  have hS' := hk' S _ (by simp [h2]) hS
  have hold : ∀ d o, d ≠ I → d ≠ S → s.heap.get? d = some o → h'.get? d = some o := fun d o hd _ e => hk' d o (by simp [hd]) e
  show wpAny _ A.in1 (updateSeq S (fun _ => #[v, v]) >>= _) _ _ _
  refine wpAny_bind ?_
  refine wpAny_updateSeq hS' rfl ?_
  rw [nm_min_loop]
  refine wpAny_pure ⟨plainId_quiet F.plain_min_loop _, mn_two (a := v) (b := b) (k := k) hh h1 h2 h3 (W.frame _ _ _ hst' fun d hd o e => ?_) (Heap.get?_update_self _ hS' rfl) (fun h'' tk'' hk'' => ?_) fun h'' tk'' hk'' => ?_⟩
  · refine (Heap.get?_update_other _ _ (fun q : S = d => ?_)).trans e
    rcases List.mem_cons.mp hd with z | z
    · exact h2 (q.trans z)
    · exact h3 (q.trans (by simpa using z))
  · exact hc h'' tk'' fun d o hd hdS e => hk'' d o hd hdS ((Heap.get?_update_other _ _ (Ne.symm hdS)).trans (hold d o hd hdS e))
  · exact hR h'' tk'' fun d o hd hdS e => hk'' d o hd hdS ((Heap.get?_update_other _ _ (Ne.symm hdS)).trans (hold d o hd hdS e))
end
/-- min(a, b) -/
theorem min_two {prog : Program} {w : World} {A : Around} {E : Value → Shared → Prop} {s : Shared} {Q : Value → Shared → Prop} {a b : Value} {k : Bool} (hh : A.handled = none)
    (hc : ∀ h' tk, (∀ d o, s.heap.get? d = some o → h'.get? d = some o) → Ob.RcOp .Lt A.in1 { s with heap := h', toks := tk } b a k)
    (hR : ∀ h' tk, (∀ d o, s.heap.get? d = some o → h'.get? d = some o) → Q (if k = true then b else a) { s with heap := h', toks := tk }) :
    wpAny (model prog w) A (call (.builtin "min") [a, b]) Q E s := by
  have hT : (s.heap.push { cls := .type "tuple", data := .seq #[a, b] }).IsTuple s.heap.objs.size #[a, b] := ⟨_, Heap.get?_push_size _ rfl, rfl, 0, rfl⟩
  have hsz : (s.heap.push { cls := .type "tuple", data := .seq #[a, b] }).objs.size = s.heap.objs.size + 1 := Heap.size_push ..
  refine call_function_tree F.kind_min F.plain_min F.entry_min (F.args_min2 _ _) ?_
  show wpAny _ A.in1 (Builtin.Builtins.bindParams "min" ["key", "default"] 0 ⟨[], []⟩ >>= _) _ _ s
  refine wpAny_bind (wpAny_of_eq (show Builtin.Builtins.bindParams "min" ["key", "default"] 0 ⟨[], []⟩ = pure [none, none] from rfl) ?_)
  show wpAny _ A.in1 (newTuple [a, b] >>= _) _ _ s
  refine wpAny_bind (wpAny_newObj_type ?_)
  refine wpAny_bind (wpAny_pyIter_tuple hT ?_)
  refine wpAny_bind (wpAny_newObj_type ?_)
  rw [nm_min_loop]
  have W := Walks.tuple (prog := prog) (w := w) (A := A.in1) hh (s.heap.push { cls := .type "tuple", data := .seq #[a, b] }).objs.size s.heap.objs.size (by rw [hsz]; exact Nat.ne_of_lt (Nat.lt_succ_self _)) #[a, b]
  have old : ∀ (o1 o2 o3 : Obj) (h' : Heap), (∀ d o, d ≠ (s.heap.push o1).objs.size → d ≠ ((s.heap.push o1).push o2).objs.size → (((s.heap.push o1).push o2).push o3).get? d = some o → h'.get? d = some o) → ∀ d o, s.heap.get? d = some o → h'.get? d = some o := fun o1 o2 o3 h' hk d o e => by
    have lt := Heap.lt_size e
    refine hk d o ?_ ?_ (Heap.get?_push_of_some _ (Heap.get?_push_of_some _ (Heap.get?_push_of_some _ e)))
    · rw [Heap.size_push]; exact Nat.ne_of_lt (Nat.lt_succ_of_lt lt)
    · rw [Heap.size_push, Heap.size_push]; exact Nat.ne_of_lt (Nat.lt_succ_of_lt (Nat.lt_succ_of_lt lt))
  refine wpAny_pure ⟨plainId_quiet F.plain_min_loop _, mn_one (k := k) (a := a) (b := b) (ax := s.heap.objs.size) hh ?_ ?_ ?_ (W.frame _ _ _ ⟨⟨_, Heap.get?_push_size _ rfl, rfl, rfl⟩, hT.push _⟩ fun b _ o e => Heap.get?_push_of_some _ e) (Heap.get?_push_size _ rfl) (fun h' tk hk => ?_) fun h' tk hk => ?_⟩
  · rw [hsz]; exact Nat.ne_of_lt (Nat.lt_succ_self _)
  · rw [Heap.size_push]; exact Ne.symm (Nat.ne_of_lt (Nat.lt_succ_self _))
  · rw [Heap.size_push, hsz]; exact Ne.symm (Nat.ne_of_lt (Nat.lt_succ_of_lt (Nat.lt_succ_self _)))
  · exact hc h' tk (old _ _ _ h' hk)
  · exact hR h' tk (old _ _ _ h' hk)
end Hg
end
section
set_option Elab.async false
set_option linter.all false
set_option autoImplicit false
set_option maxRecDepth 100000
set_option maxHeartbeats 4000000
/-! A4a: a tuple so many times, its object known. -/
namespace Hg
open PySem PySem.Spec PyProof.Rows PySem.SeqAt L2
def rRepTF (K : PySem.W.Frag) : R2 := fun x y H Q => ∃ l k xs, x = .ref l ∧ y = .int k ∧ SqT K H l xs ∧ xs ≠ [] ∧ 2 ≤ k ∧ k ≤ 1000 ∧ xs.length ≤ 1000 ∧ ∀ p (o : Obj), H p = none → o.dict = none → Q (.ref p) (upd H p (.frz o (.tup (List.replicate k.toNat xs).flatten)))
section
variable {X : Cx}
theorem op_repTF : OpR X (binaryOp .Mult) (rRepTF X.K) := by
  intro pins s σ H x y v u Q I rx ry h
  obtain ⟨l, k, xs, rfl, rfl, hT, hne, h1, h2, hz, q⟩ := h
  cases rx
  obtain ⟨t, rfl⟩ := ry
  obtain ⟨its, r, ⟨⟨cls, dd, data, sl⟩, ho, hc, n, hd⟩, hs⟩ := I.tuple hT
  simp only at hc hd
  subst hc hd
  have hle : its.length = xs.length := r.length.symm
  have hn : its ≠ [] := fun e => hne (by
    rw [e] at hle
    exact List.eq_nil_of_length_eq_zero hle.symm)
  have hi : its.toArray.isEmpty = false := by
    cases its with
    | nil => exact absurd rfl hn
    | cons a b => rfl
  have hsz0 : its.toArray.size = xs.length := by rw [List.size_toArray, hle]
  have hm : ((its.toArray.size : Nat) : Int) * k ≤ 1000000 := by
    rw [hsz0]
    have a1 : ((xs.length : Nat) : Int) * k ≤ 1000 * k := Int.mul_le_mul_of_nonneg_right (by omega) (by omega)
    omega
  have flen : (List.replicate k.toNat its).flatten.length ≤ sizeLine := by
    rw [PyProof.Rows.lm_len_rep_flat, hle, sizeLine_eq]
    have a1 : k.toNat * xs.length ≤ 1000 * 1000 := Nat.mul_le_mul (by omega) hz
    omega
  have c0 : (decide (k < -(2 ^ 63)) || decide (k ≥ 2 ^ 63)) = false := by
    rw [decide_eq_false (by omega), decide_eq_false (by omega)] <;> rfl
  have c1 : (its.toArray.isEmpty || k == 1) = false := by
    rw [hi, Bool.false_or]
    exact beq_eq_false_iff_ne.mpr (by omega)
  have c2 : (decide (k ≤ 0) || its.toArray.isEmpty) = false := by
    rw [hi, Bool.or_false]
    exact decide_eq_false (by omega)
  have c4 : Builtin.Tuple.tupleTooMany (((its.toArray.size : Nat) : Int) * k) = false := by
    unfold Builtin.Tuple.tupleTooMany
    rw [sizeLine_eq]
    exact decide_eq_false (by omega)
  refine wpAny_binaryOp_repeat_ref (T := "tuple") (U := "int") (by decide) ⟨_, ho, rfl⟩ (fun s' => typeIs_int s' k t) noFill_tuple_mul F.fills_int_mul F.slot_int_rmul repeat_tuple F.slot_int_index.lookup
    (call_meets F.slot_int_rmul (typeIs_int s k t) F.entry_int_rmul (F.args_int_rmul_2 _ _) (int_rmul_tuple k t l its.toArray n dd sl)
      ⟨ho, rfl, ⟨_, ho, rfl⟩, call_meets F.slot_tuple_mul ⟨_, ho, rfl⟩ F.entry_tuple_mul (F.args_tuple_mul_2 _ _) (tuple_mulW l its.toArray n dd sl k t c0 c1 c2 (by omega) c4 (by rw [size_rep, List.size_toArray]; exact flen)) ⟨ho, ?_⟩⟩)
  rw [size_rep]
  refine ⟨.ref s.heap.objs.size, _, I.laid (t' := s.toks) (o := .frz { cls := .type "tuple", data := .seq (List.replicate k.toNat its).flatten.toArray } (.tup (List.replicate k.toNat xs).flatten)) (fun b ob q => Heap.get?_push_of_some _ q) (Nat.le_refl _) ?_, rfl, q _ _ (I.hok.fresh (Nat.le_refl _)) rfl⟩
  exact ⟨Heap.get?_push_size _ rfl, by rw [PyProof.Rows.lm_len_rep_flat, sizeLine_eq]; have a1 : k.toNat * xs.length ≤ 1000 * 1000 := Nat.mul_le_mul (by omega) hz; omega, _, r.rep k.toNat, IsTup.new _ _⟩
end
end Hg
end
section
set_option Elab.async false
set_option linter.all false
set_option autoImplicit false
set_option maxRecDepth 100000
set_option maxHeartbeats 1000000
/-! A4: more operations. -/
namespace Hg
open PySem PySem.Spec PyProof.Rows PySem.SeqAt L2
section
variable {X : Cx} {L : Pl}
theorem two24 : (1000000 : Nat) ≤ sizeLine := by decide
/-! ### in -/
theorem in_run {pins : List (Addr × Obj)} {s : Shared} {σ : Sg} {H : Hp} {x y : V} {v u : Value} {F : Fz} {C : List Addr} {dx dy : D} {b : Bool} {Q : Value → Shared → Prop} (hu : X.A.units + 80 < cLine) (I : Inv X pins σ H s) (rx : RelV x v) (ry : RelV y u)
    (hx : Rep L F C H x dx) (hy : Rep L F C H y dy) (e : inD dx dy = some b) (ne : Bool) (q : ∀ s', Inv X pins σ H s' → Q (.bool (if ne then !b else b)) s') :
    wpAny (model X.prog X.w) X.A (compareOp (if ne then .NotIn else .In) v u) Q X.xe s := by
  have lst : ∀ ys : List D, Rep L F C H y (.lst ys) → inL dx ys = some b → wpAny (model X.prog X.w) X.A (compareOp (if ne then .NotIn else .In) v u) Q X.xe s := by
    intro ys hy e
    unfold inL at e
    split at e
    · rename_i h
      simp only [Bool.and_eq_true, decide_eq_true_eq] at h
      cases e
      obtain ⟨as, r1⟩ := Dp.reads I _ x v (Rep.dp h.1.1 hx) rx
      obtain ⟨bs, r2⟩ := Dp.reads I _ y u (Rep.dp (d := .lst ys) (by simpa only [plainD] using h.1.2) hy) ry
      have hd : X.A.units + 1 + min (PyData.depthAll (toPs ys)) (toP dx).depth < cLine := by
        rw [toPs_depth _ h.1.2, toP_depth _ h.1.1, Nat.min_comm]; omega
      have q' := q s I
      rw [← toPs_any dx h.1.1 ys h.1.2] at q'
      cases ne with
      | true => exact notIn_list_data r2 r1 (toPs_plain _ h.1.2) (toP_plain _ h.1.1) hd q'
      | false => exact in_list_data r2 r1 (toPs_plain _ h.1.2) (toP_plain _ h.1.1) hd q'
    · cases e
  have tup : ∀ ys : List D, Rep L F C H y (.tup ys) → inL dx ys = some b → wpAny (model X.prog X.w) X.A (compareOp (if ne then .NotIn else .In) v u) Q X.xe s := by
    intro ys hy e
    unfold inL at e
    split at e
    · rename_i h
      simp only [Bool.and_eq_true, decide_eq_true_eq] at h
      cases e
      obtain ⟨as, r1⟩ := Dp.reads I _ x v (Rep.dp h.1.1 hx) rx
      obtain ⟨bs, r2⟩ := Dp.reads I _ y u (Rep.dp (d := .tup ys) (by simpa only [plainD] using h.1.2) hy) ry
      have hd : X.A.units + 1 + min (PyData.depthAll (toPs ys)) (toP dx).depth < cLine := by
        rw [toPs_depth _ h.1.2, toP_depth _ h.1.1, Nat.min_comm]; omega
      have q' := q s I
      rw [← toPs_any dx h.1.1 ys h.1.2] at q'
      cases ne with
      | true => exact notIn_tuple_data r2 r1 (toPs_plain _ h.1.2) (toP_plain _ h.1.1) hd q'
      | false => exact in_tuple_data r2 r1 (toPs_plain _ h.1.2) (toP_plain _ h.1.1) hd q'
    · cases e
  unfold inD at e
  split at e
  · rename_i k kvs
    cases rep_str hx
    cases hy with
    | dct o f h r =>
      cases ry
      rename_i ad kv
      have hg : DGet H ad (kV (.inr (toS k))) (valV kv (.inr (toS k))) := .inl ⟨kv, .inr (toS k), .inr ⟨o, h⟩, rfl, rfl⟩
      have hb : (valV kv (Sum.inr (toS k))).isSome = b := by
        rcases lk_val (k := k) r with ⟨h1, h2⟩ | ⟨w, d, h1, h2, _⟩
        · rw [h1] at e; rw [h2]; exact Option.some.inj e
        · rw [h1] at e; rw [h2]; exact Option.some.inj e
      cases ne with
      | true => exact d_notIn (by omega) I hg rx fun s' I' => by rw [hb]; exact q s' I'
      | false => exact d_in (by omega) I hg rx fun s' I' => by rw [hb]; exact q s' I'
  · exact lst _ hy e
  · exact tup _ hy e
  · rename_i _ _ c z
    cases rep_str hx
    cases rep_str hy
    cases e
    have fin : ∀ b' s', EP X pins σ (fun w H' => w = .bl b' ∧ H' = H) (.bool (if ne then !decide (c ∈ z) else decide (c ∈ z))) s' → True := fun _ _ _ => trivial
    cases ne with
    | true =>
      refine thn (op_notIn_sign pins s σ H _ _ v u (fun w H' => w = .bl (!decide (c ∈ z)) ∧ H' = H) I rx ry ⟨c, toS z, rfl, rfl, by rw [toS_cps]; exact ⟨rfl, rfl⟩⟩) ?_
      rintro w s' ⟨_, _, I', rw', rfl, rfl⟩
      cases rw'
      exact q s' I'
    | false =>
      refine thn (op_in_sign pins s σ H _ _ v u (fun w H' => w = .bl (decide (c ∈ z)) ∧ H' = H) I rx ry ⟨c, toS z, rfl, rfl, by rw [toS_cps]; exact ⟨rfl, rfl⟩⟩) ?_
      rintro w s' ⟨_, _, I', rw', rfl, rfl⟩
      cases rw'
      exact q s' I'
  · cases e
theorem or_in (hu : X.A.units + 80 < cLine) : OpR X (compareOp .In) (rCmp L .inn) := by
  intro pins s σ H x y v u Q I rx ry h
  obtain ⟨F, C, c, dx, dy, d, ck, hx, hy, e, k⟩ := h
  obtain ⟨b, e1, rfl⟩ := map_bl e
  exact in_run hu I rx ry hx hy e1 false fun s' I' => ⟨.bl b, H, I', rfl, k.bl ck⟩
theorem or_nin (hu : X.A.units + 80 < cLine) : OpR X (compareOp .NotIn) (rCmp L .nin) := by
  intro pins s σ H x y v u Q I rx ry h
  obtain ⟨F, C, c, dx, dy, d, ck, hx, hy, e, k⟩ := h
  obtain ⟨b, e1, rfl⟩ := map_bl e
  simp only [cmpD, Option.map_eq_some_iff] at e1
  obtain ⟨b', e2, rfl⟩ := e1
  exact in_run hu I rx ry hx hy e2 true fun s' I' => ⟨.bl (!b'), H, I', rfl, k.bl ck⟩
/-! ### arithmetic -/
theorem Cont.int {F : Fz} {C : List Addr} {H : Hp} {b : Int} {Q : VK} {c : Cells} (ck : Cok L F C H c) (k : Cont L F C H (.int b) Q) : Q (.int b) H := k.now ck.fin (.int b)
theorem Cont.str {F : Fz} {C : List Addr} {H : Hp} {b : T} {Q : VK} {c : Cells} (ck : Cok L F C H c) (k : Cont L F C H (.str b) Q) : Q (.str (toS b)) H := k.now ck.fin (.str b)
theorem toS_app (x y : T) : toS x ++ toS y = toS (x ++ y) := by
  show (⟨x.toArray ++ y.toArray⟩ : Str) = ⟨(x ++ y).toArray⟩
  simp
/-- t + u, the new tuple's object known -/
def rCatF (K : PySem.W.Frag) : R2 := fun x y H Q => ∃ a b xs ys, x = .ref a ∧ y = .ref b ∧ SqT K H a xs ∧ SqT K H b ys ∧ xs ≠ [] ∧ xs.length + ys.length ≤ sizeLine ∧
  (ys = [] → Q (.ref a) H) ∧ (ys ≠ [] → ∀ p (o : Obj), H p = none → o.dict = none → Q (.ref p) (upd H p (.frz o (.tup (xs ++ ys)))))
theorem op_catF : OpR X (binaryOp .Add) (rCatF X.K) := by
  intro pins s σ H x y v u Q I rx ry h
  obtain ⟨a, b, xs, ys, rfl, rfl, ha, hb, hx, hz, q1, q2⟩ := h
  cases rx
  cases ry
  obtain ⟨its, r1, p1, _⟩ := I.tuple ha
  obtain ⟨its2, r2, p2, _⟩ := I.tuple hb
  refine HT.cat_tup p1 p2 (fun z => hx (r1.nil_iff.mp z)) (fun z => ⟨.ref a, H, I, rfl, q1 (r2.nil_iff.mp z)⟩) (fun z => ?_) (by rw [← r1.length, ← r2.length]; exact hz)
  refine ⟨.ref s.heap.objs.size, _, I.laid (t' := s.toks) (o := .frz { cls := .type "tuple", data := .seq (its ++ its2).toArray } (.tup (xs ++ ys))) (fun b ob q => Heap.get?_push_of_some _ q) (Nat.le_refl _) ?_, rfl, q2 (fun w => z (r2.nil_iff.mpr w)) _ _ (I.hok.fresh (Nat.le_refl _)) rfl⟩
  exact ⟨Heap.get?_push_size _ rfl, by rw [List.length_append]; exact hz, _, r1.append r2, IsTup.new _ _⟩
/-- nothing + t is t itself -/
theorem op_cat0 : OpR X (binaryOp .Add) (fun x y H Q => ∃ (a b : Addr) (ys : List V), x = .ref a ∧ y = .ref b ∧ SqT X.K H a [] ∧ SqT X.K H b ys ∧ Q (.ref b) H) := by
  intro pins s σ H x y v u Q I rx ry ⟨a, b, ys, ex, ey, ha, hb, q⟩
  subst ex ey
  cases rx
  cases ry
  obtain ⟨its, r1, p1, _⟩ := I.tuple ha
  obtain ⟨its2, r2, p2, _⟩ := I.tuple hb
  cases r1
  exact L2.cat_tup0 p1 p2 ⟨.ref b, H, I, rfl, q⟩
theorem or_add : OpR X (binaryOp .Add) (rD2 L (binD .add)) := by
  refine OpRimp (OpR.or op_add (OpR.or op_add_str (OpR.or op_cat (OpR.or op_catF op_cat0)))) fun x y H Q h => ?_
  obtain ⟨F, C, c, dx, dy, d, ck, hx, hy, e, k⟩ := h
  simp only [binD] at e
  unfold addD at e
  split at e
  · cases e
    exact .inl ⟨_, _, rep_int hx, rep_int hy, k.int ck⟩
  · split at e
    · rename_i hl
      cases e
      refine .inr (.inl ⟨_, _, rep_str hx, rep_str hy, ?_, ?_⟩)
      · rw [toS_len, toS_len]; exact Nat.le_trans hl two24
      · rw [toS_app]; exact k.str ck
    · cases e
  · split at e
    · rename_i hl
      cases e
      cases hx with
      | lst f1 h1 r1 => cases hy with
        | lst f2 h2 r2 =>
          refine .inr (.inr (.inl ⟨_, _, _, _, rfl, rfl, h1, h2, ?_, fun p hp => k.newL ck.fin hp (r1.app r2)⟩))
          rw [r1.len, r2.len]; exact Nat.le_trans hl two24
    · cases e
  · cases e
    cases hx with
    | tup o1 f1 h1 d1 r1 =>
      cases r1
      cases hy with
      | tup o2 f2 h2 d2 r2 => exact .inr (.inr (.inr (.inr ⟨_, _, _, rfl, rfl, .inl (.inr ⟨_, h1⟩), .inl (.inr ⟨_, h2⟩), k.now ck.fin (.tup o2 f2 h2 d2 r2)⟩)))
  · split at e
    · rename_i x xs ys hl
      cases e
      cases hx with
      | tup o1 f1 h1 d1 r1 => cases hy with
        | tup o2 f2 h2 d2 r2 =>
          refine .inr (.inr (.inr (.inl ⟨_, _, _, _, rfl, rfl, .inl (.inr ⟨_, h1⟩), .inl (.inr ⟨_, h2⟩), ?_, ?_, fun e => ?_, fun _ p o hp ho => k.newT ck.fin hp (r1.app r2) ho⟩)))
          · intro e; subst e; cases r1
          · have hl2 := r1.len
            rw [r1.len, r2.len]
            simp only [List.length_cons]
            have := two24
            omega
          · subst e
            cases r2
            rw [List.append_nil] at k
            exact k.now ck.fin (.tup o1 f1 h1 d1 r1)
    · cases e
  · cases e
theorem or_sub : OpR X (binaryOp .Sub) (rD2 L (binD .sub)) := by
  refine OpRimp op_sub fun x y H Q h => ?_
  obtain ⟨F, C, c, dx, dy, d, ck, hx, hy, e, k⟩ := h
  cases dx <;> cases dy <;> simp only [binD, reduceCtorEq, Option.some.injEq] at e
  subst e
  exact ⟨_, _, rep_int hx, rep_int hy, k.int ck⟩
theorem or_mod : OpR X (binaryOp .Mod) (rD2 L (binD .mod)) := by
  refine OpRimp op_mod fun x y H Q h => ?_
  obtain ⟨F, C, c, dx, dy, d, ck, hx, hy, e, k⟩ := h
  cases dx <;> cases dy <;> simp only [binD, reduceCtorEq] at e
  split at e
  · rename_i hc
    cases e
    exact ⟨_, _, rep_int hx, rep_int hy, hc, k.int ck⟩
  · cases e
theorem or_pow : OpR X (binaryOp .Pow) (rD2 L (binD .pow)) := by
  refine OpRimp op_pow fun x y H Q h => ?_
  obtain ⟨F, C, c, dx, dy, d, ck, hx, hy, e, k⟩ := h
  cases dx <;> cases dy <;> simp only [binD, reduceCtorEq] at e
  split at e
  · rename_i hc
    cases e
    exact ⟨_, _, rep_int hx, rep_int hy, hc, k.int ck⟩
  · cases e
theorem or_fdiv : OpR X (binaryOp .FloorDiv) (rD2 L (binD .fdiv)) := by
  refine OpRimp op_fdivW fun x y H Q h => ?_
  obtain ⟨F, C, c, dx, dy, d, ck, hx, hy, e, k⟩ := h
  cases dx <;> cases dy <;> simp only [binD, reduceCtorEq] at e
  split at e
  · rename_i hc
    cases e
    exact ⟨_, _, rep_int hx, rep_int hy, wide_div hc.1 hc.2 (by decide) (by decide), k.int ck⟩
  · cases e
theorem reps_flat {F : Fz} {C : List Addr} {H : Hp} {vs : List V} {ds : List D} (r : Reps L F C H vs ds) : ∀ n : Nat, Reps L F C H (List.replicate n vs).flatten (List.replicate n ds).flatten
  | 0 => .nil
  | n + 1 => by
    simp only [List.replicate_succ, List.flatten_cons]
    exact r.app (reps_flat r n)
theorem or_mul : OpR X (binaryOp .Mult) (rD2 L (binD .mul)) := by
  refine OpRimp (OpR.or op_mul (OpR.or op_mulW (OpR.or op_rep op_repTF))) fun x y H Q h => ?_
  obtain ⟨F, C, c, dx, dy, d, ck, hx, hy, e, k⟩ := h
  cases dx <;> cases dy <;> simp only [binD, reduceCtorEq] at e
  · split at e
    · rename_i hc
      cases e
      rcases hc with (hc | hc) | hc
      · exact .inl ⟨_, _, rep_int hx, rep_int hy, .inl ⟨by omega, by omega⟩, k.int ck⟩
      · exact .inl ⟨_, _, rep_int hx, rep_int hy, .inr ⟨by omega, by omega⟩, k.int ck⟩
      · exact .inr (.inl ⟨_, _, rep_int hx, rep_int hy, wide_mul (a := 200000) (b := 200000) hc.1 hc.2 (by decide) (by decide) (by decide), k.int ck⟩)
    · cases e
  · split at e
    · rename_i xs n hc
      cases e
      cases hx with
      | tup o1 f1 h1 d1 r1 =>
        have hl := r1.len
        refine .inr (.inr (.inr ⟨_, _, _, rfl, rep_int hy, .inl (.inr ⟨o1, h1⟩), fun z => hc.1 (by rw [z] at hl; exact List.eq_nil_of_length_eq_zero hl.symm), hc.2.1, by omega, by omega, fun p o hp ho => k.newT ck.fin hp (reps_flat r1 _) ho⟩))
    · cases e
  · split at e
    · rename_i xs n hc
      cases e
      cases hx with
      | lst f1 h1 r1 =>
        refine .inr (.inr (.inl ⟨_, _, _, rfl, rep_int hy, h1, by omega, by omega, ?_, fun p hp => k.newL ck.fin hp (reps_flat r1 _)⟩))
        rw [r1.len]
        have h2 : n.toNat ≤ 64 := by omega
        have h3 := Nat.mul_le_mul hc.2.2 h2
        have := two24
        omega
    · cases e
end
end Hg
end
section
set_option Elab.async false
set_option linter.all false
set_option autoImplicit false
set_option maxRecDepth 100000
set_option maxHeartbeats 1000000
/-! A5: subscripts, slices, displays, calls of built-ins. -/
namespace Hg
open PySem PySem.Spec PyProof.Rows PySem.SeqAt L2
section
variable {X : Cx} {L : Pl}
/-! ### subscripts -/
def rIxK : R2 := fun x y H Q => ∃ a v, x = .ref a ∧ DGet H a y (some v) ∧ Q v H
theorem ix_dict (hu : X.A.units + 1 < cLine) : IxR X rIxK := by
  intro value slice pins s σ H x y v u Q I rx ry h hs
  obtain ⟨a, w, rfl, g, q⟩ := h
  cases rx
  have hT := dict_typeIs I g
  have hg : wpAny (model X.prog X.w) X.A (getItem (.ref a) u) (EP X pins σ Q) X.xe s := d_getItem hu I g ry fun w' s3 I3 rw' => ⟨w, H, I3, rw', q⟩
  have fin : wpAny (model X.prog X.w) X.A (subscripted slice false (.ref a) u) (fun r s₃ => wpAny (model X.prog X.w) X.A (letTemporaryGo value (.ref a) r >>= fun _ => pure r) (EP X pins σ Q) X.xe s₃) X.xe s := by
    rw [hs]; exact wpAny_operating (wpAny_mono hg (fun r s₃ h₃ => wpAny_bind (wpAny_letTemporaryGo (wpAny_pure h₃))) fun _ _ z => z)
  unfold subscriptTail; refine wpAny_bind ?_
  rw [getitemInPython_of_ne hT.not_modules]; refine wpAny_bind (wpAny_specialOf hT PySem.F.slot_dict_getitem.lookup ?_)
  first
    | exact wpAny_pure (wpAny_bind fin) | exact wpAny_bind (wpAny_pure (wpAny_bind fin)) | exact wpAny_bind fin
theorem atI_of {F : Fz} {C : List Addr} {H : Hp} {vs : List V} {ds : List D} {i : Int} {d : D} (r : Reps L F C H vs ds) (h : ((ixP ds.length i).bind fun j => ds[j]?) = some d) : ∃ v, atI vs i = some v ∧ Rep L F C H v d := by
  cases e : ixP ds.length i with
  | none => rw [e] at h; cases h
  | some j =>
    rw [e] at h
    obtain ⟨v, h1, h2⟩ := r.at (i := j) h
    refine ⟨v, ?_, h2⟩
    have e2 : ixN vs.length i = some j := by rw [r.len]; exact e
    unfold atI
    rw [e2]
    exact h1
theorem atI_ints {ns : List Int} {i : Int} {d : D} (h : ((ixP ns.length i).bind fun j => ns[j]?.map D.int) = some d) : ∃ n, d = .int n ∧ atI (ns.map V.int) i = some (.int n) := by
  cases e : ixP ns.length i with
  | none => rw [e] at h; cases h
  | some j =>
    rw [e] at h
    have h : ns[j]?.map D.int = some d := h
    cases e3 : ns[j]? with
    | none => rw [e3] at h; cases h
    | some n =>
      rw [e3] at h
      cases h
      refine ⟨n, rfl, ?_⟩
      have e2 : ixN (ns.map V.int).length i = some j := by rw [List.length_map]; exact e
      unfold atI
      rw [e2]
      simp [e3]
theorem atI_str {x : T} {i : Int} {d : D} (h : ((ixP x.length i).bind fun j => x[j]?.map fun c => D.str [c]) = some d) : ∃ c, d = .str [c] ∧ atI (toS x).cps.toList i = some c := by
  rw [toS_cps]
  cases e : ixP x.length i with
  | none => rw [e] at h; cases h
  | some j =>
    rw [e] at h
    have h : (x[j]?.map fun c => D.str [c]) = some d := h
    cases e3 : x[j]? with
    | none => rw [e3] at h; cases h
    | some n =>
      rw [e3] at h
      cases h
      refine ⟨n, rfl, ?_⟩
      have e2 : ixN x.length i = some j := e
      unfold atI
      rw [e2]
      exact e3
theorem ix_D (hK : X.K = L.K) (hu : X.A.units + 1 < cLine) : IxR X (rD2 L ixD) := by
  have base := IxR.or (X := X) ix_list (IxR.or ix_tup (IxR.or ix_str (ix_dict hu)))
  intro value slice pins s σ H x y v u Q I rx ry h hs
  refine base value slice pins s σ H x y v u Q I rx ry ?_ hs
  obtain ⟨F, C, c, dx, dy, d, ck, hx, hy, e, k⟩ := h
  unfold ixD at e
  split at e
  · cases hx with
    | tup o f h d1 r =>
      obtain ⟨w, h1, h2⟩ := atI_of r e
      exact .inr (.inl ⟨_, _, _, w, rfl, rep_int hy, .inl (.inr ⟨o, h⟩), h1, k.now ck.fin h2⟩)
  · cases hx with
    | lst f h r =>
      obtain ⟨w, h1, h2⟩ := atI_of r e
      exact .inl ⟨_, _, _, w, rfl, rep_int hy, .of h, h1, k.now ck.fin h2⟩
  · split at e
    · rename_i hl
      obtain ⟨n, rfl, h2⟩ := atI_str e
      refine .inr (.inr (.inl ⟨_, _, n, rep_str hx, rep_int hy, by rw [toS_len]; exact Nat.le_trans hl two24, h2, k.now ck.fin (.str [n])⟩))
    · cases e
  · obtain ⟨p, rfl, hsq⟩ := Rep.scrSeq hK hx
    obtain ⟨n, rfl, h2⟩ := atI_ints e
    exact .inl ⟨p, _, _, _, rfl, rep_int hy, hsq, h2, k.now ck.fin (.int n)⟩
  · cases hx with
    | dct o f h r =>
      cases rep_str hy
      rename_i kk a kv
      rcases lk_val (k := kk) r with ⟨h1, _⟩ | ⟨w, d', h1, h2, h3⟩
      · rw [h1] at e; cases e
      · rw [h1] at e; cases e
        refine .inr (.inr (.inr ⟨_, w, rfl, ?_, k.now ck.fin h3⟩))
        rw [← h2]
        exact .inl ⟨kv, .inr (toS kk), .inr ⟨o, h⟩, rfl, rfl⟩
  · cases e
/-! ### slices -/
/-- t[lo:hi], the new tuple's object known -/
def rSlF (K : PySem.W.Frag) : V → Option Int → Option Int → Hp → VK → Prop := fun x lo hi H Q => ∃ a xs, x = .ref a ∧ SqT K H a xs ∧
  (HT.sIx xs.length 0 lo = 0 ∧ HT.sIx xs.length xs.length hi = xs.length → Q (.ref a) H) ∧ (¬ (HT.sIx xs.length 0 lo = 0 ∧ HT.sIx xs.length xs.length hi = xs.length) → ∀ p (o : Obj), H p = none → o.dict = none → Q (.ref p) (upd H p (.frz o (.tup (cutV xs lo hi)))))
theorem sl_tupF : SlR X (rSlF X.K) := by
  intro pins s σ H x v vl vu lo hi sl Q I rx hs pl pu h
  obtain ⟨a, xs, rfl, hx, q1, q2⟩ := h
  cases rx
  obtain ⟨its, r, ht, hz⟩ := I.tuple hx
  have hlen : its.toArray.size = xs.length := by rw [List.size_toArray]; exact r.length.symm
  refine ⟨"tuple", _, PyProof.Rows.slot_tuple_getitem.lookup, ht.typeIs, ?_⟩
  by_cases hw : HT.sIx xs.length 0 lo = 0 ∧ HT.sIx xs.length xs.length hi = xs.length
  · exact getItem_tuple_whole ht hs pl pu (by rw [hlen]; exact hw) ⟨.ref a, H, I, rfl, q1 hw⟩
  · refine HT.getItem_tuple_cut ht hs pl pu (by rw [hlen]; exact hw) ?_ (by rw [hlen]; exact hz)
    rw [hlen]
    refine ⟨.ref s.heap.objs.size, _, I.laid (t' := s.toks) (o := .frz { cls := .type "tuple", data := .seq (((its.toArray.toList.drop (HT.sIx xs.length 0 lo)).take (HT.sIx xs.length xs.length hi - HT.sIx xs.length 0 lo)).toArray) } (.tup (cutV xs lo hi))) (fun b ob q => Heap.get?_push_of_some _ q) (Nat.le_refl _) ?_, rfl, q2 hw _ _ (I.hok.fresh (Nat.le_refl _)) rfl⟩
    exact ⟨Heap.get?_push_size _ rfl, Nat.le_trans (cutV_length xs lo hi) hz, _, (r.drop (HT.sIx xs.length 0 lo)).take (HT.sIx xs.length xs.length hi - HT.sIx xs.length 0 lo), IsTup.new _ _⟩
/-- a bound as data tells it -/
def bndD : D → Option (Option Int)
  | .non => some none
  | .int i => some (some i)
  | _ => none
theorem sBnd_of {n d : Nat} {l : D} {a : Nat} (h : sBnd n d l = some a) : ∃ o, bndD l = some o ∧ HT.sIx n d o = a := by
  cases l <;> simp only [sBnd, reduceCtorEq, Option.some.injEq] at h
  · exact ⟨none, rfl, h⟩
  · exact ⟨some _, rfl, h⟩
theorem Reps.cut {F : Fz} {C : List Addr} {H : Hp} {vs : List V} {ds : List D} (r : Reps L F C H vs ds) {l h : Option Int} {a b : Nat} (ha : HT.sIx ds.length 0 l = a) (hb : HT.sIx ds.length ds.length h = b) : Reps L F C H (cutV vs l h) (cutL ds a b) := by
  unfold cutV cutL
  rw [r.len, ha, hb]
  exact (r.drop a).take (b - a)
def rSlD (L : Pl) : V → Option Int → Option Int → Hp → VK → Prop := fun x lo hi H Q => ∃ F C c dx dl dh d, Cok L F C H c ∧ Rep L F C H x dx ∧ bndD dl = some lo ∧ bndD dh = some hi ∧ slD dx dl dh = some d ∧ Cont L F C H d Q
theorem sl_D : SlR X (rSlD L) := by
  have base := SlR.or (X := X) sl_list (SlR.or sl_tupF sl_str)
  intro pins s σ H x v vl vu lo hi sl Q I rx hs pl pu h
  refine base pins s σ H x v vl vu lo hi sl Q I rx hs pl pu ?_
  obtain ⟨F, C, c, dx, dl, dh, d, ck, hx, el, eh, e, k⟩ := h
  unfold slD at e
  split at e
  · rename_i xs
    simp only [Option.bind_eq_bind, Option.bind_eq_some_iff, Option.some.injEq] at e
    obtain ⟨a, ha, b, hb, rfl⟩ := e
    obtain ⟨o1, h1, h2⟩ := sBnd_of ha
    obtain ⟨o2, h3, h4⟩ := sBnd_of hb
    rw [el] at h1; cases h1
    rw [eh] at h3; cases h3
    cases hx with
    | lst f h r => exact .inl ⟨_, _, rfl, .of h, fun p hp => k.newL ck.fin hp (r.cut h2 h4)⟩
  · rename_i xs
    simp only [Option.bind_eq_bind, Option.bind_eq_some_iff, Option.some.injEq] at e
    obtain ⟨a, ha, b, hb, rfl⟩ := e
    obtain ⟨o1, h1, h2⟩ := sBnd_of ha
    obtain ⟨o2, h3, h4⟩ := sBnd_of hb
    rw [el] at h1; cases h1
    rw [eh] at h3; cases h3
    cases hx with
    | tup o f h d1 r =>
      refine .inr (.inl ⟨_, _, rfl, .inl (.inr ⟨o, h⟩), fun hw => ?_, fun _ p o' hp ho => k.newT ck.fin hp (r.cut h2 h4) ho⟩)
      rw [r.len] at hw
      rw [h2, h4] at hw
      have : cutL xs a b = xs := by unfold cutL; rw [hw.1, hw.2]; simp
      rw [this] at k
      exact k.now ck.fin (.tup o f h d1 r)
  · rename_i xs
    split at e
    · rename_i hl
      simp only [Option.bind_eq_bind, Option.bind_eq_some_iff, Option.some.injEq] at e
      obtain ⟨a, ha, b, hb, rfl⟩ := e
      obtain ⟨o1, h1, h2⟩ := sBnd_of ha
      obtain ⟨o2, h3, h4⟩ := sBnd_of hb
      rw [el] at h1; cases h1
      rw [eh] at h3; cases h3
      refine .inr (.inr ⟨toS xs, rep_str hx, by rw [toS_len]; exact Nat.le_trans hl two24, ?_⟩)
      have : cutS (toS xs) lo hi = toS (cutL xs a b) := by
        unfold cutS cutL
        rw [toS_len, toS_cps, h2, h4]
        rfl
      rw [this]
      exact k.now ck.fin (.str _)
    · cases e
  · cases e
end
end Hg
end
section
set_option Elab.async false
set_option linter.all false
set_option autoImplicit false
set_option maxRecDepth 100000
set_option maxHeartbeats 1000000
/-! A6: displays, calls of built-ins. -/
namespace Hg
open PySem PySem.Spec PyProof.Rows PySem.SeqAt L2
section
variable {X : Cx} {L : Pl}
/-! ### displays -/
/-- a tuple of written items, its object known -/
def tTupF (t : TA) : TE := fun σ H Q => t σ H fun xs H1 => xs.length ≤ sizeLine ∧ ∀ p (o : Obj), H1 p = none → o.dict = none → Q (.ref p) (upd H1 p (.frz o (.tup xs)))
theorem pe_tupF {es : List Expr} {t : TA} {pos : Pos} {x1} (h : PA X es t) : PE X (.Tuple es x1 pos) (tTupF t) := by
  refine ⟨fun pins s σ H Q I hq => ?_⟩
  refine wpAny_Tuple_spliced (thn (h.run pos pins s σ H _ I hq) fun us s1 ⟨xs, H1, I1, r, z, q⟩ => ⟨by rw [← r.length]; exact z, ?_⟩)
  have hf : H1 s1.heap.objs.size = none := I1.hok.fresh (Nat.le_refl _)
  refine ⟨.ref s1.heap.objs.size, _, I1.laid (t' := s1.toks) (o := .frz { cls := .type "tuple", data := .seq us.toArray } (.tup xs)) (fun b u e => Heap.get?_push_of_some _ e) (Nat.le_refl _) ?_, rfl, q _ _ hf rfl⟩
  exact ⟨Heap.get?_push_size _ rfl, z, us, r, ⟨_, Heap.get?_push_size _ rfl, rfl, _, rfl⟩⟩
/-! ### calls -/
/-- tuple(xs), the new tuple's object known -/
theorem call_tupleF : CallR X (.type "tuple") (fun xs H Q => ∃ p ys, xs = [.ref p] ∧ ((SqL X.K H p ys ∧ ∀ l (o : Obj), H l = none → o.dict = none → Q (.ref l) (upd H l (.frz o (.tup ys)))) ∨ (SqT X.K H p ys ∧ Q (.ref p) H))) := by
  intro pins s σ H xs us Q I r h
  obtain ⟨p, ys, rfl, h⟩ := h
  obtain ⟨u, rfl, rx⟩ := vals1 r
  cases rx
  rcases h with ⟨hq, q⟩ | ⟨hq, q⟩
  · obtain ⟨its, r', pl, hz⟩ := I.list hq
    have hlen := r'.length
    refine call_tuple_list pl.isList (fun h' kp => ?_) (by simp only [List.size_toArray] <;> omega)
    have I1 : Inv X pins σ H { s with heap := h' } := I.kept (t' := s.toks) kp
    have I2 : Inv X pins σ (upd H h'.objs.size (.frz { cls := .type "tuple", data := .seq its.toArray } (.tup ys))) { s with heap := h'.push { cls := .type "tuple", data := .seq its.toArray } } :=
      I1.laid (t' := s.toks) (fun b o e => Heap.get?_push_of_some _ e) (Nat.le_refl _) (show ObjOk X.prog X.w _ _ _ (.frz _ (.tup ys)) from ⟨Heap.get?_push_size _ rfl, hz, its, r', IsTup.new _ _⟩)
    exact ⟨.ref h'.objs.size, _, I2, rfl, q _ _ (I1.hok.fresh (Nat.le_refl _)) rfl⟩
  · obtain ⟨its, r', pl, hz⟩ := I.tuple hq
    exact call_tuple_same pl ⟨.ref p, H, I, rfl, q⟩
abbrev CD (X : Cx) (L : Pl) (f : Value) (p : Prim) : Prop := CallR X f (rDs L (primD p))
theorem len1 {F : Fz} {C : List Addr} {H : Hp} {xs : List V} {d : D} (h : Reps L F C H xs [d]) : ∃ v, xs = [v] ∧ Rep L F C H v d := by
  cases h with
  | cons a r => cases r; exact ⟨_, rfl, a⟩
theorem len2 {F : Fz} {C : List Addr} {H : Hp} {xs : List V} {d e : D} (h : Reps L F C H xs [d, e]) : ∃ v w, xs = [v, w] ∧ Rep L F C H v d ∧ Rep L F C H w e := by
  cases h with
  | cons a r => cases r with
    | cons b r => cases r; exact ⟨_, _, rfl, a, b⟩
theorem cd_len (hK : X.K = L.K) : CD X L (.builtin "len") .len := by
  refine CallRimp (t := fun xs H Q => (∃ x n, xs = [x] ∧ LenV X.K x H n ∧ Q (.int n) H)) call_len fun xs H Q h => ?_
  obtain ⟨F, C, c, ds, d, ck, hr, e, k⟩ := h
  unfold primD at e
  split at e <;> (try (first | (cases e; done) | (exfalso; rename_i h; exact h.elim) | contradiction))
  all_goals first
    | (obtain ⟨v, rfl, rv⟩ := len1 hr; cases e; cases rv with
        | tup o f h d1 r => exact ⟨_, _, rfl, .inr ⟨_, .inl (.inr ⟨o, h⟩), r.len.symm⟩, k.int ck⟩)
    | (obtain ⟨v, rfl, rv⟩ := len1 hr; cases e; cases rv with
        | lst f h r => exact ⟨_, _, rfl, .inl ⟨_, .of h, r.len.symm⟩, k.int ck⟩)
    | (obtain ⟨v, rfl, rv⟩ := len1 hr; cases e; obtain ⟨p, rfl, hs⟩ := Rep.scrSeq hK rv; exact ⟨_, _, rfl, .inl ⟨_, hs, by simp⟩, k.int ck⟩)
    | (obtain ⟨v, rfl, rv⟩ := len1 hr; split at e <;> cases e; rename_i hl; cases rep_str rv; exact ⟨_, _, rfl, ⟨by rw [toS_len]; exact Nat.le_trans hl two24, by rw [toS_len]⟩, k.int ck⟩)
theorem CallRor {f : Value} {r r' : List V → Hp → VK → Prop} (h : CallR X f r) (h' : CallR X f r') : CallR X f (fun xs H Q => r xs H Q ∨ r' xs H Q) := fun pins s σ H xs us Q I a q => q.elim (fun z => h pins s σ H xs us Q I a z) fun z => h' pins s σ H xs us Q I a z
theorem RepK.keys {F : Fz} {C : List Addr} {H : Hp} {K : List Addr} : ∀ {kvs : List (Key × V)} {ds : List (T × D)}, RepK L F C H kvs ds → ∀ F' C' H', Reps L F' C' H' (kvs.map fun kv => kV kv.1) (ds.map fun p => D.str p.1)
  | _, _, .nil, _, _, _ => .nil
  | _, _, .cons _ r, F', C', H' => .cons (.str _) (RepK.keys (K := K) r F' C' H')
theorem cd_list (hc : X.calm = true) : CD X L (.type "list") .list := by
  refine CallRimp (CallRor call_list_of (call_listD hc)) fun xs H Q h => ?_
  obtain ⟨F, C, c, ds, d, ck, hr, e, k⟩ := h
  unfold primD at e
  split at e <;> (try contradiction)
  · obtain ⟨v, rfl, rv⟩ := len1 hr; cases e; cases rv with
      | lst f h r => exact .inl ⟨_, _, rfl, .inl (.of h), fun l hl => k.newL ck.fin hl r⟩
  · obtain ⟨v, rfl, rv⟩ := len1 hr; cases e; cases rv with
      | tup o f h d1 r => exact .inl ⟨_, _, rfl, .inr (.inl (.inr ⟨o, h⟩)), fun l hl => k.newL ck.fin hl r⟩
  · obtain ⟨v, rfl, rv⟩ := len1 hr; cases e; cases rv with
      | dct o f h r => exact .inr ⟨_, _, rfl, .inr ⟨o, h⟩, fun l hl => k.newL ck.fin hl (RepK.keys (K := []) r _ _ _)⟩
theorem cd_tuple : CD X L (.type "tuple") .tupl := by
  refine CallRimp call_tupleF fun xs H Q h => ?_
  obtain ⟨F, C, c, ds, d, ck, hr, e, k⟩ := h
  unfold primD at e
  split at e <;> (try contradiction)
  · obtain ⟨v, rfl, rv⟩ := len1 hr; cases e; cases rv with
      | lst f h r => exact ⟨_, _, rfl, .inl ⟨.of h, fun l o hl ho => k.newT ck.fin hl r ho⟩⟩
  · obtain ⟨v, rfl, rv⟩ := len1 hr; cases e; cases rv with
      | tup o f h d1 r => exact ⟨_, _, rfl, .inr ⟨.inl (.inr ⟨o, h⟩), k.now ck.fin (.tup o f h d1 r)⟩⟩
theorem reps_bls {F : Fz} {C : List Addr} {H : Hp} : ∀ {vs : List V} {ds : List D} {bs : List Bool}, Reps L F C H vs ds → allBl ds = some bs → vs = bs.map V.bl
  | _, _, _, .nil, e => by cases e; rfl
  | _, _, _, .cons (d := d) h r, e => by
    cases d <;> simp only [allBl, reduceCtorEq, Option.map_eq_some_iff] at e
    obtain ⟨bs, e, rfl⟩ := e
    rw [rep_bl h, reps_bls r e]
    rfl
theorem reps_ints {F : Fz} {C : List Addr} {H : Hp} : ∀ {vs : List V} {ds : List D} {bs : List Int}, Reps L F C H vs ds → allInt ds = some bs → vs = bs.map V.int
  | _, _, _, .nil, e => by cases e; rfl
  | _, _, _, .cons (d := d) h r, e => by
    cases d <;> simp only [allInt, reduceCtorEq, Option.map_eq_some_iff] at e
    obtain ⟨bs, e, rfl⟩ := e
    rw [rep_int h, reps_ints r e]
    rfl
theorem reps_strs {F : Fz} {C : List Addr} {H : Hp} : ∀ {vs : List V} {ds : List D} {bs : List T}, Reps L F C H vs ds → allStr ds = some bs → vs = (bs.map toS).map V.str
  | _, _, _, .nil, e => by cases e; rfl
  | _, _, _, .cons (d := d) h r, e => by
    cases d <;> simp only [allStr, reduceCtorEq, Option.map_eq_some_iff] at e
    obtain ⟨bs, e, rfl⟩ := e
    rw [rep_str h, reps_strs r e]
    rfl
theorem cd_all (hc : X.calm = true) : CD X L (.builtin "all") .all := by
  refine CallRimp (cr_all hc) fun xs H Q h => ?_
  obtain ⟨F, C, c, ds, d, ck, hr, e, k⟩ := h
  unfold primD at e
  split at e <;> (try contradiction)
  obtain ⟨v, rfl, rv⟩ := len1 hr; cases rv with
    | lst f h r =>
      obtain ⟨bs, e1, rfl⟩ := Option.map_eq_some_iff.mp e
      have := reps_bls r e1; subst this
      exact ⟨_, bs, rfl, .of h, k.bl ck⟩
theorem cd_any (hc : X.calm = true) : CD X L (.builtin "any") .any := by
  refine CallRimp (cr_any hc) fun xs H Q h => ?_
  obtain ⟨F, C, c, ds, d, ck, hr, e, k⟩ := h
  unfold primD at e
  split at e <;> (try contradiction)
  obtain ⟨v, rfl, rv⟩ := len1 hr; cases rv with
    | lst f h r =>
      obtain ⟨bs, e1, rfl⟩ := Option.map_eq_some_iff.mp e
      have := reps_bls r e1; subst this
      exact ⟨_, bs, rfl, .of h, k.bl ck⟩
theorem cd_sum (hc : X.calm = true) : CD X L (.builtin "sum") .sum := by
  refine CallRimp (cr_sum hc) fun xs H Q h => ?_
  obtain ⟨F, C, c, ds, d, ck, hr, e, k⟩ := h
  unfold primD at e
  split at e <;> (try contradiction)
  obtain ⟨v, rfl, rv⟩ := len1 hr; cases rv with
    | lst f h r =>
      obtain ⟨bs, e1, rfl⟩ := Option.map_eq_some_iff.mp e
      have := reps_ints r e1; subst this
      exact ⟨_, bs, rfl, .of h, k.int ck⟩
theorem fold_max (r : List Int) : ∀ x : Int, (r.foldl max x ∈ x :: r) ∧ ∀ y ∈ x :: r, y ≤ r.foldl max x := by
  induction r with
  | nil => intro x; simp
  | cons a r ih =>
    intro x
    obtain ⟨h1, h2⟩ := ih (max x a)
    refine ⟨?_, fun y hy => ?_⟩
    · simp only [List.foldl_cons]
      rcases List.mem_cons.mp h1 with h | h
      · rw [h]
        by_cases hx : x ≤ a
        · rw [Int.max_eq_right hx]; simp
        · rw [Int.max_eq_left (by omega)]; simp
      · simp [h]
    · simp only [List.foldl_cons]
      have hm := h2 (max x a) (by simp)
      rcases List.mem_cons.mp hy with h | h
      · subst h; exact Int.le_trans (Int.le_max_left _ _) hm
      · rcases List.mem_cons.mp h with h | h
        · subst h; exact Int.le_trans (Int.le_max_right _ _) hm
        · exact h2 y (by simp [h])
theorem cd_max1 (hc : X.calm = true) : CallR X (.builtin "max") (rDs L (primD .max1)) := by
  refine CallRimp (cr_max hc) fun xs H Q h => ?_
  obtain ⟨F, C, c, ds, d, ck, hr, e, k⟩ := h
  unfold primD at e
  split at e <;> (try contradiction)
  obtain ⟨v, rfl, rv⟩ := len1 hr; cases rv with
    | lst f h r =>
      obtain ⟨m, e1, rfl⟩ := Option.map_eq_some_iff.mp e
      obtain ⟨bs, e2, e3⟩ := Option.bind_eq_some_iff.mp e1
      have := reps_ints r e2; subst this
      cases bs with
      | nil => cases e3
      | cons x r' =>
        cases e3
        obtain ⟨h1, h2⟩ := fold_max r' x
        refine ⟨_, x :: r', rfl, .of h, by simp, fun m hm hy => ?_⟩
        have e4 : m = r'.foldl max x := Int.le_antisymm (h2 m hm) (hy _ h1)
        rw [e4]
        exact k.int ck
theorem cd_max2 (hc : X.calm = true) : CallR X (.builtin "max") (rDs L (primD .max2)) := by
  refine CallRimp (call_max2 hc) fun xs H Q h => ?_
  obtain ⟨F, C, c, ds, d, ck, hr, e, k⟩ := h
  unfold primD at e
  split at e <;> (try contradiction)
  obtain ⟨v, w, rfl, rv, rw'⟩ := len2 hr
  cases e
  cases rep_int rv
  cases rep_int rw'
  exact ⟨_, _, rfl, k.int ck⟩
theorem cd_min2 (hc : X.calm = true) (hu : X.A.units + 100 < cLine) : CallR X (.builtin "min") (rDs L (primD .min2)) := by
  intro pins s σ H xs us Q I r h
  obtain ⟨F, C, c, ds, d, ck, hr, e, k⟩ := h
  unfold primD at e
  split at e <;> (try contradiction)
  · obtain ⟨v, w, rfl, rv, rw'⟩ := len2 hr
    cases e
    cases rep_int rv
    cases rep_int rw'
    exact call_min2 hc pins s σ H _ us Q I r ⟨_, _, rfl, k.int ck⟩
  · rename_i xs' ys'
    obtain ⟨v, w, rfl, rv, rw'⟩ := len2 hr
    obtain ⟨u, u', rfl, r1, r2⟩ := vals2 r
    obtain ⟨b, e1, rfl⟩ := Option.map_eq_some_iff.mp e
    unfold ltG at e1
    split at e1
    · rename_i p
      simp only [Bool.and_eq_true, decide_eq_true_eq] at p
      refine min_two (k := b) (I.ok.hd hc) (fun h' tk hk => ?_) fun h' tk hk => ?_
      · have I1 : Inv X pins σ H { s with heap := h', toks := tk } := I.kept hk
        obtain ⟨as, q1⟩ := Dp.reads I1 _ _ _ (Rep.dp p.1.1.1 rw') r2
        obtain ⟨bs, q2⟩ := Dp.reads I1 _ _ _ (Rep.dp p.1.1.2 rv) r1
        exact lt_rc 64 _ _ b X.A.in1 _ _ _ as bs p.1.2 e1 p.1.1.1 p.1.1.2 q1 q2 (by rw [show X.A.in1.units = X.A.units + 1 from rfl]; omega)
      · have I1 : Inv X pins σ H { s with heap := h', toks := tk } := I.kept hk
        cases b with
        | true => exact ⟨_, H, I1, r2, k.now ck.fin rw'⟩
        | false => exact ⟨_, H, I1, r1, k.now ck.fin rv⟩
    · cases e1
theorem cd_abs : CD X L (.builtin "abs") .abs := by
  refine CallRimp call_abs fun xs H Q h => ?_
  obtain ⟨F, C, c, ds, d, ck, hr, e, k⟩ := h
  unfold primD at e
  split at e <;> (try contradiction)
  obtain ⟨v, rfl, rv⟩ := len1 hr
  cases e
  cases rep_int rv
  exact ⟨_, rfl, k.int ck⟩
theorem cd_int1 : CD X L (.type "int") .int1 := by
  refine CallRimp (CallRor call_int1 call_int_str) fun xs H Q h => ?_
  obtain ⟨F, C, c, ds, d, ck, hr, e, k⟩ := h
  unfold primD at e
  split at e <;> (try contradiction)
  · obtain ⟨v, rfl, rv⟩ := len1 hr
    cases e
    cases rep_bl rv
    exact .inl (.inr ⟨_, rfl, k.int ck⟩)
  · obtain ⟨v, rfl, rv⟩ := len1 hr
    split at e
    · rename_i x hx
      obtain ⟨n, e1, rfl⟩ := Option.map_eq_some_iff.mp e
      cases rep_str rv
      exact .inr ⟨_, n, rfl, e1, by rw [toS_len]; exact hx, k.int ck⟩
    · cases e
end
end Hg
end
section
set_option Elab.async false
set_option linter.all false
set_option autoImplicit false
set_option maxRecDepth 100000
set_option maxHeartbeats 1000000
/-! A6b: sorted, str. -/
namespace Hg
open PySem PySem.Spec PyProof.Rows PySem.SeqAt L2
mutual
theorem alike_toP : ∀ a b : D, alikeD a b = true → PySem.W.alike (toP a) (toP b) = true := by
  intro a b h
  cases a <;> cases b <;> simp only [alikeD, Bool.false_eq_true] at h
  · rfl
  · rfl
  · simp only [toP, PySem.W.alike]; exact alike_toPs _ _ h
  · simp only [toP, PySem.W.alike]; exact alike_toPs _ _ h
theorem alike_toPs : ∀ a b : List D, alikeDs a b = true → PySem.W.alikeAll (toPs a) (toPs b) = true
  | [], b, _ => by cases b <;> simp [toPs, PySem.W.alikeAll]
  | _ :: _, [], _ => by simp [toPs, PySem.W.alikeAll]
  | x :: xs, y :: ys, h => by
    simp only [alikeDs, Bool.and_eq_true] at h
    simp only [toPs, PySem.W.alikeAll, Bool.and_eq_true]
    exact ⟨alike_toP x y h.1, alike_toPs xs ys h.2⟩
end
mutual
theorem lt_toP : ∀ a b : D, plainD a = true → plainD b = true → alikeD a b = true → PySem.W.dataLt (toP a) (toP b) = ltD a b := by
  intro a b pa pb h
  cases a <;> cases b <;> simp only [alikeD, Bool.false_eq_true] at h
  · simp only [toP, ltD]; exact PySem.W.dataLt_int _ _
  · simp only [toP, ltD]; rw [PySem.W.dataLt_str, toS_cps, toS_cps]
  · simp only [toP, ltD]
    rw [PySem.W.dataLt_tuple]
    exact lt_toPs _ _ (by simpa only [plainD] using pa) (by simpa only [plainD] using pb) h
  · simp only [toP, ltD]
    rw [PySem.W.dataLt_list]
    exact lt_toPs _ _ (by simpa only [plainD] using pa) (by simpa only [plainD] using pb) h
theorem lt_toPs : ∀ a b : List D, plainDs a = true → plainDs b = true → alikeDs a b = true → PyProof.Rows.lexLt itemOrd (PySem.W.keyToksAll (toPs a)) (PySem.W.keyToksAll (toPs b)) = ltDs a b
  | [], [], _, _, _ => by simp only [toPs, ltDs]; decide
  | [], _ :: _, _, _, _ => by
    simp only [toPs, ltDs]
    rw [PySem.W.toks_all_cons, PySem.W.keyToksAll]
    rfl
  | _ :: _, [], _, _, _ => by
    simp only [toPs, ltDs]
    rw [PySem.W.toks_all_cons, PySem.W.keyToksAll]
    rfl
  | x :: xs, y :: ys, pa, pb, h => by
    simp only [plainDs, Bool.and_eq_true] at pa pb
    simp only [alikeDs, Bool.and_eq_true] at h
    simp only [toPs, ltDs]
    rw [PySem.W.dataLt_cons (alike_toP x y h.1), toP_eqv x y pa.1 pb.1, lt_toP x y pa.1 pb.1 h.1, lt_toPs xs ys pa.2 pb.2 h.2]
end
section
variable {X : Cx} {L : Pl} {F : Fz} {C : List Addr} {H : Hp}
theorem srt_pairs : ∀ {vs : List V} {us : List Value} {ds : List D}, Vals vs us → Reps L F C H vs ds → PySem.W.EachIs (fun u p => RelV p.1 u) us (vs.zip ds) ∧ (vs.zip ds).map Prod.snd = ds ∧ (vs.zip ds).map Prod.fst = vs ∧ ∀ p ∈ vs.zip ds, Rep L F C H p.1 p.2
  | _, _, _, .nil, .nil => ⟨.nil, rfl, rfl, by simp⟩
  | _, _, _, .cons r t, .cons q s => by
    obtain ⟨h1, h2, h3, h4⟩ := srt_pairs t s
    refine ⟨.cons r h1, by simp [h2], by simp [h3], fun p hp => ?_⟩
    rcases List.mem_cons.mp hp with rfl | hp
    · exact q
    · exact h4 p hp
theorem eachR {R : Value → V × D → Prop} : ∀ {us : List Value} {bs : List (V × D)}, PySem.W.EachIs (fun u p => RelV p.1 u) us bs → Vals (bs.map Prod.fst) us
  | _, _, .nil => .nil
  | _, _, .cons r t => .cons r (eachR (R := R) t)
theorem reps_of : ∀ {bs : List (V × D)}, (∀ p ∈ bs, Rep L F C H p.1 p.2) → Reps L F C H (bs.map Prod.fst) (bs.map Prod.snd)
  | [], _ => .nil
  | p :: r, h => .cons (h p List.mem_cons_self) (reps_of fun q hq => h q (List.mem_cons_of_mem _ hq))
theorem eachReads {pins : List (Addr × Obj)} {σ : Sg} {s : Shared} (I : Inv X pins σ H s) : ∀ {us : List Value} {bs : List (V × D)}, PySem.W.EachIs (fun u p => RelV p.1 u) us bs → (∀ p ∈ bs, Rep L F C H p.1 p.2) → (∀ p ∈ bs, plainD p.2 = true) → PySem.W.EachIs (fun u p => ∃ as, Reads s.heap u (toP p.2) as) us bs
  | _, _, .nil, _, _ => .nil
  | _, _, .cons r t, h, hp => .cons (Dp.reads I _ _ _ (Rep.dp (hp _ List.mem_cons_self) (h _ List.mem_cons_self)) r) (eachReads I t (fun q hq => h q (List.mem_cons_of_mem _ hq)) fun q hq => hp q (List.mem_cons_of_mem _ hq))
theorem plain_mem : ∀ {xs : List D}, plainDs xs = true → ∀ d ∈ xs, plainD d = true
  | x :: xs, h, d, hd => by
    simp only [plainDs, Bool.and_eq_true] at h
    rcases List.mem_cons.mp hd with rfl | hd
    · exact h.1
    · exact plain_mem h.2 d hd
theorem dep_mem : ∀ {xs : List D}, ∀ d ∈ xs, depD d ≤ depDs xs
  | x :: xs, d, hd => by
    simp only [depDs]
    rcases List.mem_cons.mp hd with rfl | hd
    · omega
    · have := dep_mem d hd; omega
theorem cd_srt (hK : X.K = L.K) (hu : X.A.units + 100 < cLine) : CD X L (.builtin "sorted") .srt := by
  intro pins s σ H xs us Q I rx h
  obtain ⟨F, C, c, ds, d, ck, hr, e, k⟩ := h
  unfold primD at e
  split at e <;> (try contradiction)
  · rename_i ys _
    obtain ⟨v, rfl, rv⟩ := len1 hr
    unfold srtD at e
    split at e
    · rename_i hs
      cases e
      unfold sortOk at hs
      simp only [Bool.and_eq_true, decide_eq_true_eq] at hs
      obtain ⟨⟨⟨⟨h1, h2⟩, h3⟩, h4⟩, h5⟩ := hs
      cases rv with
      | lst f hl rs =>
        rename_i a vs
        obtain ⟨its, rvals, hlist, _⟩ := I.list (SqL.of hl)
        rw [Vals.ref1 rx]
        obtain ⟨q1, q2, q3, q4⟩ := srt_pairs rvals rs
        have pl : ∀ p ∈ vs.zip ys, plainD p.2 = true := fun p hp => plain_mem h2 p.2 (List.of_mem_zip hp).2
        have al : ∀ p ∈ vs.zip ys, ∀ q ∈ vs.zip ys, alikeD p.2 q.2 = true := fun p hp q hq => by
          have := List.all_eq_true.mp h4 p.2 (List.of_mem_zip hp).2
          exact List.all_eq_true.mp this q.2 (List.of_mem_zip hq).2
        have hlen : (vs.zip ys).length = ys.length := by rw [← q2, List.length_map, q2]
        refine PySem.W.sorted_data (vs := its) (bs := vs.zip ys) (enc := fun p => toP p.2) (R := fun u p => RelV p.1 u) hlist.isList q1 (eachReads I q1 q4 pl) ?_ ?_ (by rw [hlen]; exact Nat.le_trans h1 two24) ?_ fun out h6 h7 => ?_
        · intro d hd d' hd'
          obtain ⟨p, hp, rfl⟩ := List.mem_map.mp hd
          obtain ⟨q, hq, rfl⟩ := List.mem_map.mp hd'
          exact alike_toP _ _ (al p hp q hq)
        · rcases Bool.or_eq_true_iff.mp h5 with h5 | h5
          · refine .inl fun d hd => ?_
            obtain ⟨p, hp, rfl⟩ := List.mem_map.mp hd
            have := List.all_eq_true.mp h5 p.2 (List.of_mem_zip hp).2
            generalize p.2 = z at this ⊢
            cases z <;> first | (cases this; done) | skip
            rename_i xs
            cases xs with
            | nil => cases this
            | cons a r => exact ⟨toP a, toPs r, by simp only [toP, toPs]⟩
          · refine .inr fun d hd => ?_
            obtain ⟨p, hp, rfl⟩ := List.mem_map.mp hd
            have := List.all_eq_true.mp h5 p.2 (List.of_mem_zip hp).2
            generalize p.2 = z at this ⊢
            cases z <;> first | (cases this; done) | (refine ⟨by simp [toP], by simp [toP]⟩)
        · intro p hp
          have z1 := dep_mem p.2 (List.of_mem_zip hp).2
          rw [toP_depth _ (pl p hp)]
          omega
        · obtain ⟨ep, he'⟩ := PyProof.Rows.sortedAll_at s.heap its out.toArray
          let bs' := (vs.zip ys).mergeSort (PySem.W.dataLe false fun p : V × D => toP p.2)
          have mem' : ∀ p ∈ bs', p ∈ vs.zip ys := fun p hp => (List.mergeSort_perm _ _).mem_iff.mp hp
          have e2 : bs'.map Prod.snd = ys.mergeSort leD := by
            have := List.map_mergeSort (r := PySem.W.dataLe false fun p : V × D => toP p.2) (s := leD) (f := Prod.snd) (l := vs.zip ys) fun p hp q hq => by
              rw [PySem.W.dataLe_eq]
              show (!PySem.W.dataLt (toP q.2) (toP p.2)) = !ltD q.2 p.2
              rw [lt_toP q.2 p.2 (pl q hq) (pl p hp) (al q hq p hp)]
            rw [q2] at this
            exact this
          have rr : Reps L F C H (bs'.map Prod.fst) (ys.mergeSort leD) := by
            rw [← e2]
            exact reps_of fun p hp => q4 p (mem' p hp)
          have vv : Vals (bs'.map Prod.fst) out := eachR (R := fun _ _ => True) h7
          have hz : (bs'.map Prod.fst).length ≤ sizeLine := by
            rw [rr.len, List.length_mergeSort]
            exact Nat.le_trans h1 two24
          exact ⟨.ref _, _, I.laid (t' := s.toks) (o := .lst (bs'.map Prod.fst)) (fun _ _ => PyProof.Rows.sortedAll_old) (Nat.le_succ _) ⟨hz, out, ep, vv, he'⟩, rfl, k.newL ck.fin (I.hok.fresh (Nat.le_succ _)) rr⟩
    · cases e
theorem intT_str (i : Int) : toS (intT i) = Str.ofString (toString i) := by
  unfold intT toS
  rw [Array.toArray_toList]
theorem log_lt {n : Nat} (h : n < 2 ^ 1900) : n.log2 < 1920 := by
  by_cases h0 : n = 0
  · rw [h0]; decide
  · exact (Nat.log2_lt h0).mpr (Nat.lt_of_lt_of_le h (Nat.pow_le_pow_right (by decide) (show 1900 ≤ 1920 by decide)))
theorem cd_str : CD X L (.type "str") .str1 := by
  refine CallRimp call_str_int fun xs H Q h => ?_
  obtain ⟨F, C, c, ds, d, ck, hr, e, k⟩ := h
  unfold primD at e
  split at e <;> (try contradiction)
  obtain ⟨v, rfl, rv⟩ := len1 hr
  split at e
  · rename_i hx
    cases e
    cases rep_int rv
    refine ⟨_, rfl, ?_, ?_⟩
    · exact log_lt hx
    · have z := k.str ck
      rw [intT_str] at z
      exact z
  · cases e
end
/-! ### count -/
def rCntD (K : PySem.W.Frag) : V → List V → Hp → VK → Prop := fun x xs H Q => ∃ (a : Addr) (y : V) (d : PyData) (ds : List PyData), x = .ref a ∧ xs = [y] ∧ Dp K H (.ref a) (.list ds) ∧ Dp K H y d ∧ PyData.plainAll ds = true ∧ d.plain = true ∧ min (PyData.depthAll ds) d.depth ≤ 64 ∧
  Q (.int ((ds.countP fun z => PyData.eqv z d : Nat) : Int)) H
theorem mt_cntD {X : Cx} (hu : X.A.units + 100 < cLine) : MtR X "list.count" (rCntD X.K) := by
  intro pins s σ H x xs v us Q I rx rxs ⟨a, y, d, ds, ex, exs, hl, hy, p1, p2, hd, q⟩
  subst ex exs
  cases rx
  obtain ⟨uy, rfl, ry⟩ := rxs.one
  obtain ⟨bs, r1⟩ := Dp.reads I d y uy hy ry
  cases hl with
  | lst hs ha =>
    obtain ⟨its, rv, hpl, _⟩ := I.list hs
    obtain ⟨as, rs⟩ := Dp.readsAll I ds _ its ha rv
    exact PySem.SeqAt.count_list_data (vs := its.toArray) hpl.isList rs r1 p1 p2 (by omega) ⟨.int _, H, I.tok _, ⟨_, rfl⟩, q⟩
end Hg
end
section
set_option Elab.async false
set_option linter.all false
set_option autoImplicit false
set_option maxRecDepth 100000
set_option maxHeartbeats 1000000
/-! A7: contexts, names, targets. -/
namespace Hg
open PySem PySem.Spec PyProof.Rows PySem.SeqAt L2

/-- the names that the small syntax leans on -/
structure Nm where
  fnm : Nat → Option T
  gi : List (T × Int)
  gs : List (T × T)
  enm : Nat → Option T
  hg : Bool
  wh : Option (T × Nat)
structure Lw where
  P : Program
  w : World
  mg : Str → Option Value
  base : Heap
  L : Pl
  tab : Nat → Option FD
  nm : Nm
def bltNames : List String := ["len", "sorted", "set", "list", "tuple", "dict", "all", "any", "max", "min", "sum", "abs", "int", "str", "isinstance", "range", "zip", "enumerate", "bool", "ValueError"]
def veB : List Value := [.type "ValueError", .type "Exception", .type "BaseException", .type "object"]
/-- what is known of the module -/
structure Facts (W : Lw) : Prop where
  blt : ∀ x ∈ bltNames, W.mg (Str.ofString x) = none
  gi : ∀ p ∈ W.nm.gi, ∃ t, W.mg (toS p.1) = some (.int p.2 t)
  gs : ∀ p ∈ W.nm.gs, ∃ t, W.mg (toS p.1) = some (.str (toS p.2) t)
  has : ∀ f, W.L.has f = (W.nm.fnm f).isSome
  ers : ∀ x t, W.nm.enm x = some t → W.mg (toS t) = some (.ref (W.L.er x)) ∧ PySem.W.excIn W.L.K (W.L.er x) veB "ValueError.__new__" = true ∧ PySem.W.keepIn W.L.K (.ref (W.L.er x)) = true ∧ PySem.W.subIn W.L.K (.ref (W.L.er x)) (.type "BaseException") = some true ∧ PySem.W.typeIn W.L.K (.ref (W.L.er x)) = some (.type "type")
  hang : W.nm.hg = true → ∃ a, W.mg "HangError" = some (.ref a) ∧ ∀ x, PySem.W.exmOne W.L.K (.ref (W.L.er x)) (.ref a) = some true
  fns : ∀ f x, W.nm.fnm f = some x → W.mg (toS x) = some (.ref (W.L.fn f)) ∧ PySem.W.keepIn W.L.K (.ref (W.L.fn f)) = true
/-- a call's promise -/
def spF (W : Lw) (n f : Nat) : Sp := fun vs H Q E => ∃ F C ds c, Reps W.L F C H vs ds ∧ Cok W.L F C H c ∧ Out RV W.L F C H E Q (callF W.tab n f ds c)
def FnsAt (W : Lw) (n : Nat) : Prop := ∀ f x, W.nm.fnm f = some x → ∃ fdat ps, FnOk W.P W.w W.L.K W.mg W.base (L2.CX W.P W.w) (n + 1) (W.L.fn f) fdat ps (spF W n f) ∧ Binds W.L.K fdat ps []

abbrev ScN := List (Str × NameKind)
def isVis (k : Option NameKind) : Bool := match k with
  | some .local => true
  | some .cell => true
  | some .free => true
  | _ => false
def isLoc (k : Option NameKind) : Bool := match k with
  | some .local => true
  | some .cell => true
  | _ => false
def isGlo (k : Option NameKind) : Bool := match k with
  | some .globalImplicit => true
  | _ => false
structure CxOk (W : Lw) (n : Nat) (X : Cx) (N : List Str) (sc : ScN) (Ex : Sg → XK) : Prop where
  prog : X.prog = W.P
  w : X.w = W.w
  K : X.K = W.L.K
  mg : X.mg = W.mg
  base : X.base = W.base
  nms : X.N = N
  nd : N.Nodup
  calm : X.calm = true
  room : Room (n + 1) X.A
  vis : ∀ x, isVis (sc.lookup x) = true → Vis X.env.scope x
  gl : ∀ x, sc.lookup x = some .globalImplicit → Gl X x
  loc : ∀ x, sc.lookup x = some .local → X.env.scope.names.lookup x = some .local
  cel : ∀ x, sc.lookup x = some .cell → X.env.scope.names.lookup x = some .cell ∧ X.fn x = true
  fre : ∀ x, sc.lookup x = some .free → X.env.scope.names.lookup x = some .cell ∨ X.env.scope.names.lookup x = some .free
  pass : ∀ σ, PassesAt (L2.CX X.prog X.w) X σ (Ex σ)
theorem CxOk.units {W : Lw} {n : Nat} {X : Cx} {N : List Str} {sc : ScN} {Ex : Sg → XK} (h : CxOk W n X N sc Ex) : X.A.units + 100 < cLine := by
  have := h.room.un
  omega

def okName (x : Str) : Bool := !(x == ("__debug__" : Str)) && !(x == ("__classdict__" : Str)) && !(x == ("__name__" : Str))
theorem okName_of {x : Str} (h : okName x = true) : (x == ("__debug__" : Str)) = false ∧ (x == ("__classdict__" : Str)) = false ∧ x ≠ "__name__" := by
  simp only [okName, Bool.and_eq_true, Bool.not_eq_true'] at h
  exact ⟨h.1.1, h.1.2, fun e => by have := h.2; rw [e] at this; revert this; decide⟩

/-! ### targets -/
mutual
def slotsT : Tg → List Nat
  | .nm i => [i]
  | .tp ts => slotsTs ts
def slotsTs : List Tg → List Nat
  | [] => []
  | t :: ts => slotsT t ++ slotsTs ts
end
def notStar : Expr → Bool
  | .Starred _ _ => false
  | _ => true
mutual
def mT (N : List Str) (sc : ScN) : Tg → Expr → Bool
  | .nm i, .Name id _ => decide (N[i]? = some id) && isLoc (sc.lookup id)
  | .tp ts, .Tuple es _ _ => mTs N sc ts es
  | _, _ => false
def mTs (N : List Str) (sc : ScN) : List Tg → List Expr → Bool
  | [], [] => true
  | t :: ts, e :: es => notStar e && mT N sc t e && mTs N sc ts es
  | _, _ => false
end
section
variable {L : Pl} {F : Fz} {C : List Addr} {σ : Sg} {H : Hp} {env : Env} {c : Cells}
theorem SI.set (s : SI L F C σ H env c) {i : Nat} {v : V} {d : D} (r : Rep L F C H v d) : SI L F C (σ.set i (some v)) H (env.set i (.val d)) c where
  cok := s.cok
  len := by simp [s.len]
  val := fun j d' h => by
    by_cases e : i = j
    · subst e
      by_cases hl : i < env.length
      · rw [List.getElem?_set_self hl] at h
        cases h
        exact ⟨v, by rw [List.getElem?_set_self (by rw [← s.len]; exact hl)], r⟩
      · rw [List.getElem?_eq_none (by simp; omega)] at h
        cases h
    · rw [List.getElem?_set_ne e] at h
      rw [List.getElem?_set_ne e]
      exact s.val j d' h
  own := fun j d' h => by
    by_cases e : i = j
    · subst e
      by_cases hl : i < env.length
      · rw [List.getElem?_set_self hl] at h
        cases h
      · rw [List.getElem?_eq_none (by simp; omega)] at h
        cases h
    · rw [List.getElem?_set_ne e] at h
      rw [List.getElem?_set_ne e]
      exact s.own j d' h
  dis := fun j k a d' d'' hjk h1 h2 h3 h4 => by
    have side : ∀ m d1, (env.set i (.val d))[m]? = some (.own d1) → i ≠ m := fun m d1 h e => by
      subst e
      by_cases hl : i < env.length
      · rw [List.getElem?_set_self hl] at h
        cases h
      · rw [List.getElem?_eq_none (by simp; omega)] at h
        cases h
    have e1 := side j _ h1
    have e2 := side k _ h2
    rw [List.getElem?_set_ne e1] at h1 h3
    rw [List.getElem?_set_ne e2] at h2 h4
    exact s.dis j k a d' d'' hjk h1 h2 h3 h4
/-- the reading of a target -/
def gT (L : Pl) (tg : Tg) : TG := fun v σ H Q => ∃ F C c d env env', SI L F C σ H env c ∧ Rep L F C H v d ∧ bindT tg d env = some env' ∧
  ∀ σ', SI L F C σ' H env' c → σ'.length = σ.length → (∀ i, i ∉ slotsT tg → σ'[i]? = σ[i]?) → Q σ' H
def gTs (L : Pl) (tg : List Tg) : TGs := fun v σ H Q => ∃ F C c d env env', SI L F C σ H env c ∧ Reps L F C H v d ∧ bindTs tg d env = some env' ∧
  ∀ σ', SI L F C σ' H env' c → σ'.length = σ.length → (∀ i, i ∉ slotsTs tg → σ'[i]? = σ[i]?) → Q σ' H
theorem Rep.seqT {K : PySem.W.Frag} {v : V} {ds : List D} {d : D} (hd : d = .tup ds ∨ d = .pr ds) (r : Rep L F C H v d) : ∃ a vs, v = .ref a ∧ SqT K H a vs ∧ Reps L F C H vs ds := by
  rcases hd with rfl | rfl
  · cases r with
    | tup o f h d1 r => exact ⟨_, _, rfl, .inl (.inr ⟨o, h⟩), r⟩
  · cases r with
    | pr f h r => exact ⟨_, _, rfl, .of h, r⟩
end
theorem PGimp {X : Cx} {e : Expr} {t t' : TG} (h : PG X e t) (i : ∀ v σ H Q, t' v σ H Q → t v σ H Q) : PG X e t' := ⟨fun pins s σ H v u Q I a q => h.run pins s σ H v u Q I a (i v σ H Q q)⟩
theorem PGor {X : Cx} {e : Expr} {t t' : TG} (h : PG X e t) (h' : PG X e t') : PG X e (fun v σ H Q => t v σ H Q ∨ t' v σ H Q) := ⟨fun pins s σ H v u Q I a q => q.elim (h.run pins s σ H v u Q I a) (h'.run pins s σ H v u Q I a)⟩
theorem PGsimp {X : Cx} {e : List Expr} {t t' : TGs} (h : PGs X e t) (i : ∀ v σ H Q, t' v σ H Q → t v σ H Q) : PGs X e t' := ⟨fun pins s σ H v u Q I a q => h.run pins s σ H v u Q I a (i v σ H Q q)⟩
theorem assign_cons {e : Expr} {es : List Expr} {env : PySem.Env} (h : notStar e = true) : assignEach (e :: es) env = (false, assign e env) :: assignEach es env := by
  cases e <;> first | rfl | exact absurd h (by simp [notStar])
theorem mTs_star {N : List Str} {sc : ScN} {env : PySem.Env} : ∀ {ts : List Tg} {es : List Expr}, mTs N sc ts es = true → (assignEach es env).length = ts.length ∧ (assignEach es env).findIdx? (·.1) = none
  | [], [], _ => ⟨rfl, rfl⟩
  | [], _ :: _, h => by simp [mTs] at h
  | _ :: _, [], h => by simp [mTs] at h
  | t :: ts, e :: es, h => by
    simp only [mTs, Bool.and_eq_true] at h
    obtain ⟨h1, h2⟩ := mTs_star (env := env) h.2
    rw [assign_cons h.1.1]
    refine ⟨by simp [h1], ?_⟩
    rw [List.findIdx?_cons]
    simp [h2]
theorem isLoc_of {W : Lw} {n : Nat} {X : Cx} {N : List Str} {sc : ScN} {Ex : Sg → XK} (hX : CxOk W n X N sc Ex) {x : Str} (h : isLoc (sc.lookup x) = true) : Loc X.env.scope x ∧ (X.fn x = true ∨ X.env.scope.names.lookup x = some .local) := by
  unfold isLoc at h
  split at h
  · rename_i e
    exact ⟨.inl (hX.loc x e), .inr (hX.loc x e)⟩
  · rename_i e
    exact ⟨.inr (hX.cel x e).1, .inl (hX.cel x e).2⟩
  · cases h
section
variable {W : Lw} {n : Nat} {X : Cx} {N : List Str} {sc : ScN} {Ex : Sg → XK}
theorem mT_nm {i : Nat} {e : Expr} (h : mT N sc (.nm i) e = true) : ∃ id pos, e = .Name id pos ∧ N[i]? = some id ∧ isLoc (sc.lookup id) = true := by
  cases e <;> simp only [mT, Bool.and_eq_true, decide_eq_true_eq, reduceCtorEq, Bool.false_eq_true] at h
  exact ⟨_, _, rfl, h.1, h.2⟩
theorem mT_tp {ts : List Tg} {e : Expr} (h : mT N sc (.tp ts) e = true) : ∃ es k pos, e = .Tuple es k pos ∧ mTs N sc ts es = true := by
  cases e <;> simp only [mT, reduceCtorEq, Bool.false_eq_true] at h
  exact ⟨_, _, _, rfl, h⟩
mutual
theorem sndT (hX : CxOk W n X N sc Ex) : ∀ (tg : Tg) (e : Expr), mT N sc tg e = true → PG X e (gT W.L tg)
  | .nm i, e, h => by
    obtain ⟨id, pos, rfl, h'⟩ := mT_nm h; clear h; have h := h'
    obtain ⟨h1, h2⟩ := isLoc_of hX h.2
    have hN : X.N.Nodup := by rw [hX.nms]; exact hX.nd
    have hi : X.N[i]? = some id := by rw [hX.nms]; exact h.1
    refine PGimp (pg_name (i := i) hN hi h1 h2) fun v σ H Q q => ?_
    obtain ⟨F, C, c, d, env, env', si, r, e, q⟩ := q
    simp only [bindT, Option.some.injEq] at e
    subst e
    refine q _ (si.set r) (by simp) fun j hj => ?_
    rw [List.getElem?_set_ne]
    intro e
    exact hj (by simp [slotsT, e])
  | .tp ts, e, h => by
    obtain ⟨es, k, pos, rfl, h⟩ := mT_tp h
    have hs := sndTs hX ts es h
    obtain ⟨h1, h2⟩ := mTs_star (env := X.env) h
    refine PGimp (PGor (pg_tup hX.calm hs h1 h2) (pg_lst hX.calm hs h1 h2)) fun v σ H Q q => ?_
    obtain ⟨F, C, c, d, env, env', si, r, e, q⟩ := q
    have : ∃ ds, ((d = .tup ds ∨ d = .pr ds) ∨ d = .lst ds) ∧ bindTs ts ds env = some env' := by
      cases d <;> simp only [bindT, reduceCtorEq] at e
      · exact ⟨_, .inl (.inl rfl), e⟩
      · exact ⟨_, .inr rfl, e⟩
      · exact ⟨_, .inl (.inr rfl), e⟩
    obtain ⟨ds, hd, e⟩ := this
    have len : ∀ (ts : List Tg) (ds : List D) (env env' : Env), bindTs ts ds env = some env' → ds.length = ts.length := by
      intro ts
      induction ts with
      | nil => intro ds env env' h; cases ds with
        | nil => rfl
        | cons d ds => simp [bindTs] at h
      | cons t ts ih => intro ds env env' h; cases ds with
        | nil => simp [bindTs] at h
        | cons d ds =>
          simp only [bindTs, Option.bind_eq_some_iff] at h
          obtain ⟨e1, _, h2⟩ := h
          simp [ih _ _ _ h2]
    rcases hd with hd | rfl
    · obtain ⟨a, vs, rfl, hsq, rs⟩ := Rep.seqT hd r
      exact .inl ⟨a, vs, rfl, hsq, rs.len.trans (len _ _ _ _ e), F, C, c, ds, env, env', si, rs, e, q⟩
    · cases r with
      | lst f h rs => exact .inr ⟨_, _, rfl, .of h, rs.len.trans (len _ _ _ _ e), F, C, c, ds, env, env', si, rs, e, q⟩
theorem sndTs (hX : CxOk W n X N sc Ex) : ∀ (ts : List Tg) (es : List Expr), mTs N sc ts es = true → PGs X es (gTs W.L ts)
  | [], [], h => PGsimp pgs_nil fun v σ H Q q => by
    obtain ⟨F, C, c, d, env, env', si, r, e, q⟩ := q
    cases d with
    | cons d ds => simp [bindTs] at e
    | nil =>
      cases r
      simp only [bindTs, Option.some.injEq] at e
      subst e
      exact ⟨rfl, q σ si rfl fun _ _ => rfl⟩
  | [], _ :: _, h => by simp [mTs] at h
  | _ :: _, [], h => by simp [mTs] at h
  | t :: ts, e :: es, h => by
    simp only [mTs, Bool.and_eq_true] at h
    have h1 := sndT hX t e h.1.2
    have h2 := sndTs hX ts es h.2
    refine PGsimp (pgs_cons h1 h2 (by rw [assign_cons h.1.1]; rfl)) fun v σ H Q q => ?_
    obtain ⟨F, C, c, d, env, env', si, r, e, q⟩ := q
    cases r with
    | nil => simp [bindTs] at e
    | cons rv rs =>
      simp only [bindTs, Option.bind_eq_some_iff] at e
      obtain ⟨env1, e1, e2⟩ := e
      refine ⟨_, _, rfl, F, C, c, _, env, env1, si, rv, e1, fun σ' si' hl hk => ?_⟩
      refine ⟨F, C, c, _, env1, env', si', rs, e2, fun σ2 si2 hl2 hk2 => ?_⟩
      refine q σ2 si2 (hl2.trans hl) fun i hi => ?_
      simp only [slotsTs, List.mem_append, not_or] at hi
      exact (hk2 i hi.2).trans (hk i hi.1)
end
end
end Hg
end
section
set_option Elab.async false
set_option linter.all false
set_option autoImplicit false
set_option maxRecDepth 100000
set_option maxHeartbeats 1000000
/-! A8: which trees the small syntax stands for. -/
namespace Hg
open PySem PySem.Spec PyProof.Rows PySem.SeqAt L2

def bopM : BOp → Operator → Bool
  | .add, .Add => true
  | .sub, .Sub => true
  | .mul, .Mult => true
  | .fdiv, .FloorDiv => true
  | .mod, .Mod => true
  | .pow, .Pow => true
  | _, _ => false
def copM : COp → CmpOp → Bool
  | .eq, .Eq => true
  | .ne, .NotEq => true
  | .lt, .Lt => true
  | .le, .LtE => true
  | .gt, .Gt => true
  | .ge, .GtE => true
  | .inn, .In => true
  | .nin, .NotIn => true
  | _, _ => false
def notSet : Expr → Bool
  | .Set _ _ _ => false
  | _ => true
def notSlice : Expr → Bool
  | .Slice _ _ _ _ => false
  | _ => true
/-- no call, so no super() -/
def notCall : Expr → Bool
  | .Call _ _ _ _ => false
  | _ => true
def isSubE : Expr → Bool
  | .Subscript _ _ _ => true
  | _ => false
def tyS : TyN → Str
  | .int => "int"
  | .bool => "bool"
  | .str => "str"
  | .tup => "tuple"
  | .lst => "list"
def gloB (sc : ScN) (id : Str) (x : String) : Bool := (id == Str.ofString x) && isGlo (sc.lookup id)
/-- the arguments' trees of an operation -/
def argsOf (sc : ScN) : Prim → Expr → Option (List Expr)
  | .isi t, .Call (.Name id _) [a, .Name ty _] [] _ => if gloB sc id "isinstance" && (ty == tyS t) && isGlo (sc.lookup ty) && notStar a then some [a] else none
  | .sset, .Call (.Name i1 _) [.Call (.Name i2 _) [a] [] _] [] _ => if gloB sc i1 "sorted" && gloB sc i2 "set" && notStar a then some [a] else none
  | .lset, .Call (.Name i1 _) [.Call (.Name i2 _) [a] [] _] [] _ => if gloB sc i1 "len" && gloB sc i2 "set" && notStar a then some [a] else none
  | .rngt, .Call (.Name i1 _) [.Call (.Name i2 _) [a, b] [] _] [] _ => if gloB sc i1 "tuple" && gloB sc i2 "range" && notStar a && notStar b then some [a, b] else none
  | .len, .Call (.Name id _) [a] [] _ => if gloB sc id "len" then some [a] else none
  | .list, .Call (.Name id _) [a] [] _ => if gloB sc id "list" then some [a] else none
  | .tupl, .Call (.Name id _) [a] [] _ => if gloB sc id "tuple" then some [a] else none
  | .dict, .Call (.Name id _) [a] [] _ => if gloB sc id "dict" then some [a] else none
  | .all, .Call (.Name id _) [a] [] _ => if gloB sc id "all" then some [a] else none
  | .any, .Call (.Name id _) [a] [] _ => if gloB sc id "any" then some [a] else none
  | .max1, .Call (.Name id _) [a] [] _ => if gloB sc id "max" then some [a] else none
  | .max2, .Call (.Name id _) [a, b] [] _ => if gloB sc id "max" then some [a, b] else none
  | .min2, .Call (.Name id _) [a, b] [] _ => if gloB sc id "min" then some [a, b] else none
  | .srt, .Call (.Name id _) [a] [] _ => if gloB sc id "sorted" then some [a] else none
  | .str1, .Call (.Name id _) [a] [] _ => if gloB sc id "str" then some [a] else none
  | .sum, .Call (.Name id _) [a] [] _ => if gloB sc id "sum" then some [a] else none
  | .abs, .Call (.Name id _) [a] [] _ => if gloB sc id "abs" then some [a] else none
  | .int1, .Call (.Name id _) [a] [] _ => if gloB sc id "int" then some [a] else none
  | _, _ => none
/-- the receiver's tree and the arguments' of a method -/
def mthOf : Prim → Expr → Option (Expr × List Expr)
  | .strip, .Call (.Attribute o nm ap) [a] [] cp => if (nm == ("strip" : Str)) && (ap.endLine == cp.line) && notCall o then some (o, [a]) else none
  | .split, .Call (.Attribute o nm ap) [a] [] cp => if (nm == ("split" : Str)) && (ap.endLine == cp.line) && notCall o then some (o, [a]) else none
  | .part, .Call (.Attribute o nm ap) [a] [] cp => if (nm == ("partition" : Str)) && (ap.endLine == cp.line) && notCall o then some (o, [a]) else none
  | .join, .Call (.Attribute o nm ap) [a] [] cp => if (nm == ("join" : Str)) && (ap.endLine == cp.line) && notCall o then some (o, [a]) else none
  | .count, .Call (.Attribute o nm ap) [a] [] cp => if (nm == ("count" : Str)) && (ap.endLine == cp.line) && notCall o then some (o, [a]) else none
  | .cntS, .Call (.Attribute o nm ap) [a] [] cp => if (nm == ("count" : Str)) && (ap.endLine == cp.line) && notCall o then some (o, [a]) else none
  | _, _ => none
def srcOf (sc : ScN) (ttup : Bool) : SrcK → Expr → Option (List Expr)
  | .e, x => if notSet x then some [x] else none
  | .rng1, .Call (.Name id _) [a] [] _ => if gloB sc id "range" then some [a] else none
  | .rng2, .Call (.Name id _) [a, b] [] _ => if gloB sc id "range" then some [a, b] else none
  | .zip, .Call (.Name id _) [a, b] [] _ => if gloB sc id "zip" && ttup then some [a, b] else none
  | .enum, .Call (.Name id _) [a] [] _ => if gloB sc id "enumerate" && ttup then some [a] else none
  | .items, .Call (.Attribute o nm ap) [] [] cp => if (nm == ("items" : Str)) && (ap.endLine == cp.line) && notCall o && ttup then some [o] else none
  | _, _ => none
/-- all but the last, which is [] -/
def initN : List Expr → Option (List Expr)
  | [] => none
  | x :: xs => match xs with
    | [] => (match x with
      | .List [] _ => some []
      | _ => none)
    | _ => (initN xs).map (x :: ·)
def isTrueE : E → Bool
  | .bl true => true
  | _ => false
def inO : COp → Bool
  | .inn => true
  | .nin => true
  | _ => false
def isTupE : Expr → Bool
  | .Tuple _ _ _ => true
  | _ => false
/-- a comprehension's own names with their places -/
def ownOf (N : List Str) (vs : List Nat) : List (Str × Nat) := vs.map fun i => (N.getD i "", i)
/-- the names of a block are its own or captured -/
def blkM (N : List Str) (sc : ScN) (scope : Scope) (vs : List Nat) : Bool :=
  (match scope.kind with | .function => true | _ => false) && (scope.names.all fun y => decide (scope.names.lookup y.1 = some y.2)) && (vs.all fun i => decide (i < N.length)) &&
    (scope.names.all fun y => match y.2 with
      | .free => (match sc.lookup y.1 with | some .cell => true | some .free => true | _ => false)
      | .local => decide (y.1 ∈ (ownOf N vs).map (·.1)) || decide (y.1 ∉ N)
      | .cell => decide (y.1 ∈ (ownOf N vs).map (·.1)) || decide (y.1 ∉ N)
      | _ => true)
def subNat (a b : List Nat) : Bool := a.all fun i => decide (i ∈ b)
def isNon : E → Bool
  | .non => true
  | _ => false
def mV (N : List Str) (sc : ScN) (i : Nat) (id : Str) : Bool := decide (N[i]? = some id) && isVis (sc.lookup id) && okName id
section
variable (nm : Nm) (N : List Str)
mutual
def mE (sc : ScN) : E → Expr → Bool
  | .var i, q0 => (match q0 with
    | .Name id _ => mV N sc i id
    | _ => false)
  | .int i, q0 => (match q0 with
    | .Constant (.int j) _ _ => i == j
    | _ => false)
  | .str x, q0 => (match q0 with
    | .Constant (.str y) _ _ => toS x == y
    | _ => false)
  | .bl b, q0 => (match q0 with
    | .Constant (.bool c) _ _ => b == c
    | _ => false)
  | .non, q0 => (match q0 with
    | .Constant .none _ _ => true
    | _ => false)
  | .gint x i, q0 => (match q0 with
    | .Name id _ => (toS x == id) && decide ((x, i) ∈ nm.gi) && isGlo (sc.lookup id) && okName id
    | _ => false)
  | .gstr x z, q0 => (match q0 with
    | .Name id _ => (toS x == id) && decide ((x, z) ∈ nm.gs) && isGlo (sc.lookup id) && okName id
    | _ => false)
  | .fn f, q0 => (match q0 with
    | .Name id _ => decide ((nm.fnm f).map toS = some id) && isGlo (sc.lookup id) && okName id
    | _ => false)
  | .bin o a b, q0 => (match q0 with
    | .BinOp l op r _ => bopM o op && mE sc a l && mE sc b r
    | _ => false)
  | .neg a, q0 => (match q0 with
    | .UnaryOp .USub x _ => mE sc a x
    | _ => false)
  | .not a, q0 => (match q0 with
    | .UnaryOp .Not x _ => mE sc a x
    | _ => false)
  | .cmp o a b, q0 => (match q0 with
    | .Compare l [op] [r] _ => copM o op && notSet r && mE sc a l && mE sc b r
    | _ => false)
  | .isn a, q0 => (match q0 with
    | .Compare l [.Is] [.Constant .none _ _] _ => mE sc a l
    | _ => false)
  | .nisn a, q0 => (match q0 with
    | .Compare l [.IsNot] [.Constant .none _ _] _ => mE sc a l
    | _ => false)
  | .chn o1 o2 a b c, q0 => (match q0 with
    | .Compare l [op1, op2] [r1, r2] _ => copM o1 op1 && copM o2 op2 && notSet r2 && mE sc a l && mE sc b r1 && mE sc c r2
    | _ => false)
  | .and a b, q0 => (match q0 with
    | .BoolOp .And (x :: y :: rest) pos => mE sc a x && (match rest with | [] => mE sc b y | _ => mE sc b (.BoolOp .And (y :: rest) pos))
    | _ => false)
  | .or a b, q0 => (match q0 with
    | .BoolOp .Or (x :: y :: rest) pos => mE sc a x && (match rest with | [] => mE sc b y | _ => mE sc b (.BoolOp .Or (y :: rest) pos))
    | _ => false)
  | .ite c a b, q0 => (match q0 with
    | .IfExp t x y _ => mE sc c t && mE sc a x && mE sc b y
    | _ => false)
  | .tup es, q0 => (match q0 with
    | .Tuple xs _ _ => decide (es.length ≤ 1000) && mEs sc es xs
    | _ => false)
  | .lst es, q0 => (match q0 with
    | .List xs _ => decide (es.length ≤ 1000) && mEs sc es xs
    | _ => false)
  | .ix a b, q0 => (match q0 with
    | .Subscript v s _ => notSlice s && mE sc a v && mE sc b s
    | _ => false)
  | .sl a lo hi, q0 => (match q0 with
    | .Subscript v (.Slice l h none _) _ => mE sc a v && (match l with | none => isNon lo | some x => !isNon lo && mE sc lo x) && (match h with | none => isNon hi | some x => !isNon hi && mE sc hi x)
    | _ => false)
  | .call f es, q0 => (match q0 with
    | .Call (.Name id _) (x :: xs) [] _ => decide ((nm.fnm f).map toS = some id) && isGlo (sc.lookup id) && okName id && mEs sc es (x :: xs)
    | _ => false)
  | .calln f es, q0 => (match q0 with
    | .Call (.Name id _) (x :: xs) [] _ => (match initN (x :: xs) with
      | some ys => decide ((nm.fnm f).map toS = some id) && isGlo (sc.lookup id) && okName id && mEs sc es ys
      | none => false)
    | _ => false)
  | .callv g es, q0 => (match q0 with
    | .Call fx (x :: xs) [] _ => isSubE fx && mE sc g fx && mEs sc es (x :: xs)
    | _ => false)
  | .prim p es, q0 => (match argsOf sc p q0 with | some xs => mEs sc es xs | none => false)
  | .mth p o es, q0 => (match mthOf p q0 with | some (ox, xs) => mE sc o ox && mEs sc es xs | none => false)
  | .lc k ses tg vs cond elt, q0 => (match q0 with
    | .ListComp ex [⟨tx, ix, ifs, 0⟩] scope _ =>
      (match srcOf sc (isTupE tx) k ix with | some xs => mEs sc ses xs | none => false) && notSet ix && mT N scope.names tg tx && subNat (slotsT tg) vs && blkM N sc scope vs &&
      (match ifs with | [] => isTrueE cond | [c] => mE scope.names cond c | _ => false) && mE scope.names elt ex
    | _ => false)
  | .rev a, q0 => (match q0 with
    | .Subscript v (.Slice none none (some (.UnaryOp .USub (.Constant (.int 1) _ _) _)) _) _ => mE sc a v
    | _ => false)
  | .cpop _ _, _ => false
  | .olst i, q0 => (match q0 with
    | .Call (.Name f _) [.Name id _] [] _ => gloB sc f "list" && mV N sc i id
    | _ => false)
  | .oget _ _ _, _ => false
  | .osub i e, q0 => (match q0 with
    | .Subscript (.Name id _) s _ => mV N sc i id && notSlice s && mE sc e s
    | _ => false)
  | .ocr o e i, q0 => (match q0 with
    | .Compare l [op] [.Name id _] _ => inO o && copM o op && mV N sc i id && mE sc e l
    | _ => false)
  | .ocl o i e, q0 => (match q0 with
    | .Compare (.Name id _) [op] [r] _ => copM o op && notSet r && mV N sc i id && mE sc e r
    | _ => false)
  | .oln i, q0 => (match q0 with
    | .Call (.Name f _) [.Name id _] [] _ => gloB sc f "len" && mV N sc i id
    | _ => false)
  | .cln i, q0 => (match q0 with
    | .Call (.Name f _) [.Name id _] [] _ => gloB sc f "len" && mV N sc i id
    | _ => false)
def mEs (sc : ScN) : List E → List Expr → Bool
  | [], [] => true
  | e :: es, x :: xs => notStar x && mE sc e x && mEs sc es xs
  | _, _ => false
end
end
end Hg
end
section
set_option Elab.async false
set_option linter.all false
set_option autoImplicit false
set_option maxRecDepth 100000
set_option maxHeartbeats 1000000
/-! A9: expressions, form by form. -/
namespace Hg
open PySem PySem.Spec PyProof.Rows PySem.SeqAt L2

abbrev RLn (k : Nat) : RTy (List V) (List D) := fun L C F H v d => Reps L F C H v d ∧ d.length = k
abbrev SAn (k : Nat) (L : Pl) (Ex : Sg → XK) (m : Env → M (List D)) : TA := SG (RLn k) L Ex m
theorem stabLn {γ : Type} {Rs : Pl → List Addr → Fz → Hp → γ → Prop} (s : Stab Rs) (k : Nat) (v : List V) : Stab (RC Rs (RLn k) v) := fun L C F H F' H' g e a f h => ⟨s L C F H F' H' g.1 e a f h.1, e.reps a f h.2.1, h.2.2⟩
theorem ofO_bl (o : Option Bool) : (do let r ← M.ofO o; pure (D.bl r) : M D) = M.ofO (o.map D.bl) := by
  cases o <;> rfl
theorem toB_bind {α : Type} (m : M D) (k : Bool → M α) : (M.toB m >>= k) = (m >>= fun d => match toBl d with | some b => k b | none => M.bad) := by
  funext c
  have e1 : M.toB m = M.bind m (fun d => M.ofO (toBl d)) := rfl
  show M.bind (M.toB m) k c = M.bind m _ c
  rw [e1]
  unfold M.bind
  cases m c with
  | bad => rfl
  | exc x c => rfl
  | ok d c =>
    dsimp only
    cases toBl d <;> rfl
theorem toBl_of {d : D} {b : Bool} (h : toBl d = some b) : d = .bl b := by
  cases d <;> simp only [toBl, reduceCtorEq, Option.some.injEq] at h
  rw [h]
section
variable {γ α β : Type} {R : RTy β α} {L : Pl} {Ex : Sg → XK} {σ : Sg} {H : Hp} {Q : β → Hp → Prop}
theorem SK.toSG {Rs : Pl → List Addr → Fz → Hp → γ → Prop} {k : γ → Env → M α} {m : Env → M α} (h : SK Rs R L Ex k σ H Q) (e : ∀ L C F H g, Rs L C F H g → k g = m) : SG R L Ex m σ H Q := by
  obtain ⟨F, C, env, c, g, si, rs, o⟩ := h
  rw [e _ _ _ _ _ rs] at o
  exact ⟨F, C, env, c, si, o⟩
theorem SG.test {m : Env → M D} {k : Bool → Env → M α} (h : SG R L Ex (fun env => M.toB (m env) >>= fun b => k b env) σ H Q) : SE L Ex m σ H fun x H1 => ∃ b, x = .bl b ∧ SG R L Ex (k b) σ H1 Q := by
  have h : SG R L Ex (fun env => m env >>= fun d => (match toBl d with | some b => k b env | none => M.bad)) σ H Q := by
    obtain ⟨F, C, env, c, si, o⟩ := h
    refine ⟨F, C, env, c, si, ?_⟩
    have o : Out R L F C H (Ex σ) Q ((M.toB (m env) >>= fun b => k b env) c) := o
    rw [toB_bind] at o
    exact o
  refine (SG.bind (R := RV) (k := fun d env => (match toBl d with | some b => k b env | none => M.bad)) h).imp fun x H1 h1 => ?_
  obtain ⟨F, C, env, c, ⟨_, d⟩, si, ⟨_, r⟩, o⟩ := h1
  have o : Out R L F C H1 (Ex σ) Q ((match toBl d with | some b => k b env | none => M.bad) c) := o
  cases e : toBl d with
  | none => rw [e] at o; exact o.elim
  | some b =>
    rw [e] at o
    rw [toBl_of e] at r
    exact ⟨b, rep_bl r, F, C, env, c, si, o⟩
theorem SG.testB {m : Env → M D} {k : Bool → Env → M α} (h : SG R L Ex (fun env => M.toB (m env) >>= fun b => k b env) σ H Q) : SB L Ex (fun env => M.toB (m env)) σ H fun b H1 => SG R L Ex (k b) σ H1 Q := by
  refine (SG.bind (R := RB) (m := fun env => M.toB (m env)) (k := fun b env => k b env) h).imp fun b H1 h1 => ?_
  obtain ⟨F, C, env, c, ⟨_, b'⟩, si, ⟨_, r⟩, o⟩ := h1
  have r : b = b' := r
  subst r
  exact ⟨F, C, env, c, si, o⟩
theorem SB.toE {m : Env → M D} {Q : Bool → Hp → Prop} (h : SB L Ex (fun env => M.toB (m env)) σ H Q) : SE L Ex m σ H fun x H1 => ∃ k, x = .bl k ∧ Q k H1 := by
  have h : SG RB L Ex (fun env => M.toB (m env) >>= fun b => pure b) σ H Q := by
    obtain ⟨F, C, env, c, si, o⟩ := h
    refine ⟨F, C, env, c, si, ?_⟩
    show Out RB L F C H (Ex σ) Q ((M.toB (m env) >>= fun b => pure b) c)
    have e : (M.toB (m env) >>= fun b => pure b : M Bool) = M.toB (m env) := by
      funext c
      show M.bind _ _ c = _
      unfold M.bind
      cases M.toB (m env) c <;> rfl
    rw [e]
    exact o
  refine h.test.imp fun x H1 ⟨b, e, h1⟩ => ⟨b, e, ?_⟩
  obtain ⟨F, C, env, c, si, o⟩ := h1
  exact o b F H1 (.refl si.cok.fin) si.cok rfl
theorem SG.pure {d : D} {Q : VK} (h : SE L Ex (fun _ => Pure.pure d) σ H Q) : ∃ F C c, Cok L F C H c ∧ Cont L F C H d Q := by
  obtain ⟨F, C, env, c, d', si, e, k⟩ := SG.fin (f := fun _ => some d) h
  cases e
  exact ⟨F, C, c, si.cok, k⟩
end
section
variable {W : Lw} {n : Nat} {X : Cx} {N : List Str} {sc : ScN} {Ex : Sg → XK} {L : Pl} {ma mb mc : Env → M D} {a b c : Expr} {pos : Pos}
theorem snd_var (hX : CxOk W n X N sc Ex) {i : Nat} {id : Str} (h : mV N sc i id = true) : PE X (.Name id pos) (SE L Ex fun env => M.ofO (getV env i)) := by
  simp only [mV, Bool.and_eq_true, decide_eq_true_eq] at h
  obtain ⟨h1, h2, _⟩ := okName_of h.2
  refine PEimp (pe_var (i := i) (by rw [hX.nms]; exact h.1.1) (hX.vis _ h.1.2) h1 h2) fun σ H Q q => ?_
  obtain ⟨F, C, env, c, d, si, e, k⟩ := q.fin
  unfold getV at e
  split at e
  · rename_i e2
    cases e
    obtain ⟨v, h3, r⟩ := si.val i d e2
    exact ⟨v, h3, k.now si.cok.fin r⟩
  · cases e
theorem snd_own (hX : CxOk W n X N sc Ex) {i : Nat} {id : Str} (h : mV N sc i id = true) : PE X (.Name id pos) (tVar i) := by
  simp only [mV, Bool.and_eq_true, decide_eq_true_eq] at h
  obtain ⟨h1, h2, _⟩ := okName_of h.2
  exact pe_var (i := i) (by rw [hX.nms]; exact h.1.1) (hX.vis _ h.1.2) h1 h2
theorem snd_const {x : Expr} {v : V} {d : D} (h : PE X x (tC v)) (r : ∀ L F C H, Rep L F C H v d) : PE X x (SE L Ex fun _ => pure d) :=
  PEimp h fun σ H Q q => by
    obtain ⟨F, C, c, ck, k⟩ := SG.pure q
    exact k.now ck.fin (r _ _ _ _)
theorem snd_op2 {g : D → D → Option D} {x : Expr} {t : TE} (hx : ∀ ta tb, PE X a ta → PE X b tb → PE X x (tOp (rD2 L g) ta tb)) (ha : PE X a (SE L Ex ma)) (hb : PE X b (SE L Ex mb)) : PE X x (SE L Ex fun env => do let x ← ma env; let y ← mb env; M.ofO (g x y)) := by
  refine PEimp (hx _ _ ha hb) fun σ H Q h => ?_
  refine (SG.bind (R := RV) (k := fun x env => do let y ← mb env; M.ofO (g x y)) h).imp fun x H1 h1 => ?_
  refine (SK.bind (R := RV) (k := fun gx y env => M.ofO (g gx.2 y)) (stabV stab0 x) h1).imp fun y H2 h2 => ?_
  obtain ⟨F, C, c, ⟨⟨_, dx⟩, dy⟩, d, ck, ⟨⟨_, rx⟩, ry⟩, e, k⟩ := h2.fin
  exact ⟨F, C, c, dx, dy, d, ck, rx, ry, e, k⟩
/-- a comparison's rule by its sign -/
theorem or_cmp (hX : CxOk W n X N sc Ex) {o : COp} {op : CmpOp} (h : copM o op = true) : OpR X (compareOp op) (rCmp W.L o) := by
  have hu := hX.units
  cases o <;> cases op <;> first | (exact absurd h (by decide)) | skip
  · exact or_eq hX.K (by omega)
  · exact or_ne hX.K (by omega)
  · exact or_lt (by have := hX.units; omega)
  · exact or_le (by have := hX.units; omega)
  · exact or_gt
  · exact or_ge
  · exact or_in (by omega)
  · exact or_nin (by omega)
theorem bhm (op : CmpOp) {r : Expr} (h : notSet r = true) : behindInMarks op r = false := by
  cases r <;> first | rfl | exact absurd h (by simp [notSet])
theorem snd_cmp (hX : CxOk W n X N sc Ex) {o : COp} {op : CmpOp} (h : copM o op = true) (hs : notSet b = true) (ha : PE X a (SE W.L Ex ma)) (hb : PE X b (SE W.L Ex mb)) : PE X (.Compare a [op] [b] pos) (SE W.L Ex fun env => do let x ← ma env; let y ← mb env; let r ← M.ofO (cmpD o x y); pure (D.bl r)) := by
  have e : (fun env => (do let x ← ma env; let y ← mb env; let r ← M.ofO (cmpD o x y); pure (D.bl r) : M D)) = (fun env => (do let x ← ma env; let y ← mb env; M.ofO ((cmpD o x y).map D.bl) : M D)) := by
    funext env
    simp only [ofO_bl]
  rw [e]
  exact snd_op2 (t := fun _ _ _ => True) (fun ta tb ha hb => pe_cmpR (or_cmp hX h) ha hb (bhm op hs)) ha hb
/-- what a test that is no connective is -/
theorem snd_test (h : PE X a (SE L Ex ma)) (he : ∀ whole, isTrue a X.env whole = (do let v ← whole; standAt a.pos; holding [v] (truthy v))) : PT X a (SB L Ex fun env => M.toB (ma env)) :=
  PTimp (pt_val h he) fun σ H Q q => q.toE.imp fun x H1 ⟨k, e, q⟩ => ⟨k, e, q⟩
theorem snd_cmpT (hX : CxOk W n X N sc Ex) {o : COp} {op : CmpOp} (h : copM o op = true) (hs : notSet b = true) (ha : PE X a (SE W.L Ex ma)) (hb : PE X b (SE W.L Ex mb)) : PT X (.Compare a [op] [b] pos) (SB W.L Ex fun env => M.toB (do let x ← ma env; let y ← mb env; let r ← M.ofO (cmpD o x y); pure (D.bl r))) := by
  refine PTimp (pt_cmpR (or_cmp hX h) ha hb (bhm op hs)) fun σ H Q q => ?_
  have q := q.toE
  have e : (fun env => (do let x ← ma env; let y ← mb env; let r ← M.ofO (cmpD o x y); pure (D.bl r) : M D)) = (fun env => (do let x ← ma env; let y ← mb env; M.ofO ((cmpD o x y).map D.bl) : M D)) := by
    funext env
    simp only [ofO_bl]
  rw [e] at q
  refine (SG.bind (R := RV) (k := fun x env => do let y ← mb env; M.ofO ((cmpD o x y).map D.bl)) q).imp fun x H1 h1 => ?_
  refine (SK.bind (R := RV) (k := fun gx y env => M.ofO ((cmpD o gx.2 y).map D.bl)) (stabV stab0 x) h1).imp fun y H2 h2 => ?_
  obtain ⟨F, C, c, ⟨⟨_, dx⟩, dy⟩, d, ck, ⟨⟨_, rx⟩, ry⟩, e, k⟩ := h2.fin
  exact ⟨F, C, c, dx, dy, d, ck, rx, ry, e, k⟩
theorem snd_not (ha : PE X a (SE L Ex ma)) : PE X (.UnaryOp .Not a pos) (SE L Ex fun env => do let b ← M.toB (ma env); pure (D.bl (!b))) :=
  PEimp (pe_not ha) fun σ H Q q => (SG.test (k := fun b _ => pure (D.bl (!b))) q).imp fun x H1 ⟨b, e, q⟩ => ⟨b, e, by
    obtain ⟨F, C, c, ck, k⟩ := SG.pure q
    exact k.bl ck⟩
theorem snd_notT (ha : PT X a (SB L Ex fun env => M.toB (ma env))) : PT X (.UnaryOp .Not a pos) (SB L Ex fun env => M.toB (do let b ← M.toB (ma env); pure (D.bl (!b)))) := by
  refine PTimp (pt_not ha) fun σ H Q q => ?_
  have e : (fun env => M.toB (do let b ← M.toB (ma env); pure (D.bl (!b)) : M D)) = (fun env => (M.toB (ma env) >>= fun b => pure (!b) : M Bool)) := by
    funext env c
    show M.bind (M.bind (M.toB (ma env)) _) _ c = M.bind _ _ c
    unfold M.bind
    cases M.toB (ma env) c <;> rfl
  rw [e] at q
  refine (SG.testB (k := fun b _ => pure (!b)) q).imp fun b H1 q => ?_
  obtain ⟨F, C, env, c, si, o⟩ := q
  exact o _ F H1 (.refl si.cok.fin) si.cok rfl
theorem snd_and {x : Expr} (hx : ∀ ta tb, PE X a ta → PE X b tb → PE X x (tAndV ta tb)) (ha : PE X a (SE L Ex ma)) (hb : PE X b (SE L Ex mb)) : PE X x (SE L Ex fun env => do if ← M.toB (ma env) then (do let r ← M.toB (mb env); pure (D.bl r)) else pure (D.bl false)) := by
  refine PEimp (hx _ _ ha hb) fun σ H Q q => ?_
  refine (SG.test (k := fun b env => if b then (do let r ← M.toB (mb env); pure (D.bl r)) else pure (D.bl false)) q).imp fun x H1 ⟨b, e, q⟩ => ⟨b, e, ?_⟩
  cases b with
  | true =>
    rw [if_pos rfl]
    have q : SE L Ex (fun env => (M.toB (mb env) >>= fun r => pure (D.bl r))) σ H1 Q := q
    refine (SG.test (k := fun b _ => pure (D.bl b)) q).imp fun x H2 ⟨b, e, q⟩ => ?_
    subst e
    obtain ⟨F, C, c, ck, k⟩ := SG.pure q
    exact k.bl ck
  | false =>
    have q : SE L Ex (fun env => pure (D.bl false)) σ H1 Q := q
    obtain ⟨F, C, c, ck, k⟩ := SG.pure q
    exact k.bl ck
theorem snd_or {x : Expr} (hx : ∀ ta tb, PE X a ta → PE X b tb → PE X x (tOrV ta tb)) (ha : PE X a (SE L Ex ma)) (hb : PE X b (SE L Ex mb)) : PE X x (SE L Ex fun env => do if ← M.toB (ma env) then pure (D.bl true) else (do let r ← M.toB (mb env); pure (D.bl r))) := by
  refine PEimp (hx _ _ ha hb) fun σ H Q q => ?_
  refine (SG.test (k := fun b env => if b then pure (D.bl true) else (do let r ← M.toB (mb env); pure (D.bl r))) q).imp fun x H1 ⟨b, e, q⟩ => ⟨b, e, ?_⟩
  cases b with
  | true =>
    have q : SE L Ex (fun env => pure (D.bl true)) σ H1 Q := q
    obtain ⟨F, C, c, ck, k⟩ := SG.pure q
    exact k.bl ck
  | false =>
    have q : SE L Ex (fun env => (M.toB (mb env) >>= fun r => pure (D.bl r))) σ H1 Q := q
    show SE L Ex mb σ H1 Q
    refine (SG.test (k := fun b _ => pure (D.bl b)) q).imp fun x H2 ⟨b, e, q⟩ => ?_
    subst e
    obtain ⟨F, C, c, ck, k⟩ := SG.pure q
    exact k.bl ck
theorem toB_bl {α : Type} (m : M Bool) : M.toB (m >>= fun b => pure (D.bl b)) = m := by
  funext c
  show M.bind (M.bind m _) _ c = _
  unfold M.bind
  cases m c <;> rfl
theorem toB_ite (b : Bool) (x y : M D) : M.toB (if b then x else y) = if b then M.toB x else M.toB y := by cases b <;> rfl
theorem toB_bind2 (m : M Bool) (k : Bool → M D) : M.toB (m >>= k) = m >>= fun b => M.toB (k b) := by
  funext c
  show M.bind (M.bind m k) _ c = M.bind m _ c
  unfold M.bind
  cases m c <;> rfl
theorem snd_andW {x : Expr} (hx : ∀ ta tb, PT X a ta → PT X b tb → PT X x (tAnd ta tb)) (ha : PT X a (SB L Ex fun env => M.toB (ma env))) (hb : PT X b (SB L Ex fun env => M.toB (mb env))) : PT X x (SB L Ex fun env => M.toB (do if ← M.toB (ma env) then (do let r ← M.toB (mb env); pure (D.bl r)) else pure (D.bl false))) := by
  refine PTimp (hx _ _ ha hb) fun σ H Q q => ?_
  have e : (fun env => M.toB (do if ← M.toB (ma env) then (do let r ← M.toB (mb env); pure (D.bl r)) else pure (D.bl false) : M D)) = (fun env => (M.toB (ma env) >>= fun b => if b then M.toB (mb env) else pure false : M Bool)) := by
    funext env
    rw [toB_bind2]
    congr 1
    funext b
    cases b
    · rfl
    · exact toB_bl (α := Unit) (M.toB (mb env))
  rw [e] at q
  refine (SG.testB (k := fun b env => if b then M.toB (mb env) else pure false) q).imp fun b H1 q => ?_
  cases b with
  | true => exact q
  | false =>
    obtain ⟨F, C, env, c, si, o⟩ := q
    exact o _ F H1 (.refl si.cok.fin) si.cok rfl
theorem snd_orW {x : Expr} (hx : ∀ ta tb, PT X a ta → PT X b tb → PT X x (tOr ta tb)) (ha : PT X a (SB L Ex fun env => M.toB (ma env))) (hb : PT X b (SB L Ex fun env => M.toB (mb env))) : PT X x (SB L Ex fun env => M.toB (do if ← M.toB (ma env) then pure (D.bl true) else (do let r ← M.toB (mb env); pure (D.bl r)))) := by
  refine PTimp (hx _ _ ha hb) fun σ H Q q => ?_
  have e : (fun env => M.toB (do if ← M.toB (ma env) then pure (D.bl true) else (do let r ← M.toB (mb env); pure (D.bl r)) : M D)) = (fun env => (M.toB (ma env) >>= fun b => if b then pure true else M.toB (mb env) : M Bool)) := by
    funext env
    rw [toB_bind2]
    congr 1
    funext b
    cases b
    · exact toB_bl (α := Unit) (M.toB (mb env))
    · rfl
  rw [e] at q
  refine (SG.testB (k := fun b env => if b then pure true else M.toB (mb env)) q).imp fun b H1 q => ?_
  cases b with
  | false => exact q
  | true =>
    obtain ⟨F, C, env, c, si, o⟩ := q
    exact o _ F H1 (.refl si.cok.fin) si.cok rfl
theorem snd_ite (hc : PT X c (SB L Ex fun env => M.toB (mc env))) (ha : PE X a (SE L Ex ma)) (hb : PE X b (SE L Ex mb)) : PE X (.IfExp c a b pos) (SE L Ex fun env => do if ← M.toB (mc env) then ma env else mb env) := by
  refine PEimp (pe_ifExp hc ha hb) fun σ H Q q => ?_
  refine (SG.testB (k := fun b env => if b then ma env else mb env) q).imp fun b H1 q => ?_
  cases b with
  | true => exact q
  | false => exact q
end
end Hg
end
section
set_option Elab.async false
set_option linter.all false
set_option autoImplicit false
set_option maxRecDepth 100000
set_option maxHeartbeats 1000000
/-! A10: argument lists, displays, subscripts, calls. -/
namespace Hg
open PySem PySem.Spec PyProof.Rows PySem.SeqAt L2
theorem star_cons {e : Expr} {es : List Expr} {env : PySem.Env} (h : notStar e = true) : starEach (e :: es) env = (false, eval e env) :: starEach es env := by
  cases e <;> first | rfl | exact absurd h (by simp [notStar])
def allPlain : List Expr → Bool
  | [] => true
  | e :: es => notStar e && allPlain es
theorem back_plain {pos : Pos} {env : PySem.Env} : ∀ {es : List Expr}, allPlain es = true → (backTo pos (starEach es env)).any (·.1) = false
  | [], _ => rfl
  | e :: es, h => by
    simp only [allPlain, Bool.and_eq_true] at h
    rw [star_cons h.1]
    have := back_plain (pos := pos) (env := env) h.2
    unfold backTo at this ⊢
    simp only [List.map_cons, List.any_cons, this]
    rfl
section
variable {W : Lw} {n : Nat} {X : Cx} {N : List Str} {sc : ScN} {Ex : Sg → XK} {L : Pl} {ma mb mc : Env → M D} {a b c : Expr} {pos : Pos}
theorem snd_nil : PA X [] (SAn 0 L Ex fun _ => pure []) := by
  refine PAimp pa_nil fun σ H Q q => ?_
  obtain ⟨F, C, env, c, si, o⟩ := q
  exact o [] F H (.refl si.cok.fin) si.cok ⟨.nil, rfl⟩
theorem snd_cons {es : List Expr} {k : Nat} {me : Env → M (List D)} (hp : notStar a = true) (ha : PE X a (SE L Ex ma)) (hr : PA X es (SAn k L Ex me)) : PA X (a :: es) (SAn (k + 1) L Ex fun env => do let d ← ma env; let ds ← me env; pure (d :: ds)) := by
  refine PAimp (pa_cons ha hr (star_cons hp)) fun σ H Q q => ?_
  refine (SG.bind (R := RV) (k := fun d env => do let ds ← me env; pure (d :: ds)) q).imp fun x H1 h1 => ?_
  refine (SK.bind (R := RLn k) (k := fun gd ds env => pure (gd.2 :: ds)) (stabV stab0 x) h1).imp fun xs H2 h2 => ?_
  obtain ⟨F, C, env, c, ⟨⟨_, dx⟩, ds⟩, si, ⟨⟨_, rx⟩, rs, hl⟩, o⟩ := h2
  exact o (x :: xs) F H2 (.refl si.cok.fin) si.cok ⟨.cons rx rs, congrArg (· + 1) hl⟩
theorem SAn.SA {k : Nat} {es : List Expr} {me : Env → M (List D)} (h : PA X es (SAn k L Ex me)) : PA X es (Hg.SA L Ex me) := PAimp h fun σ H Q q => by
  obtain ⟨F, C, env, c, si, o⟩ := q
  refine ⟨F, C, env, c, si, ?_⟩
  cases e : me env c with
  | bad => rw [e] at o; exact o
  | exc x c1 => rw [e] at o; exact o
  | ok d c1 => rw [e] at o; exact fun v F' H' e1 e2 r => o v F' H' e1 e2 r.1
theorem snd_tup {es : List Expr} {k : Nat} {x1} {me : Env → M (List D)} (hk : k ≤ 1000) (h : PA X es (SAn k L Ex me)) : PE X (.Tuple es x1 pos) (SE L Ex fun env => do let ds ← me env; pure (.tup ds)) := by
  refine PEimp (pe_tupF h) fun σ H Q q => ?_
  refine (SG.bind (R := RLn k) (k := fun ds env => pure (D.tup ds)) q).imp fun xs H1 h1 => ?_
  obtain ⟨F, C, c, ⟨_, ds⟩, d, ck, ⟨_, rs, hl⟩, e, k⟩ := SK.fin (f := fun (g : Unit × List D) => some (D.tup g.2)) h1
  cases e
  exact ⟨by rw [rs.len]; have := two24; omega, fun p o hp ho => k.newT ck.fin hp rs ho⟩
theorem snd_lst {es : List Expr} {k : Nat} {me : Env → M (List D)} (hk : k ≤ 1000) (h : PA X es (SAn k L Ex me)) : PE X (.List es pos) (SE L Ex fun env => do let ds ← me env; pure (.lst ds)) := by
  refine PEimp (pe_lst h) fun σ H Q q => ?_
  refine (SG.bind (R := RLn k) (k := fun ds env => pure (D.lst ds)) q).imp fun xs H1 h1 => ?_
  obtain ⟨F, C, c, ⟨_, ds⟩, d, ck, ⟨_, rs, hl⟩, e, k⟩ := SK.fin (f := fun (g : Unit × List D) => some (D.lst g.2)) h1
  cases e
  exact ⟨by rw [rs.len]; have := two24; omega, fun p hp => k.newL ck.fin hp rs⟩
theorem plainIx_of (h : notSlice b = true) : PlainIx b := by
  cases b <;> first | (intro _ _; rfl) | exact absurd h (by simp [notSlice])
theorem snd_ix (hX : CxOk W n X N sc Ex) (hs : notSlice b = true) (ha : PE X a (SE W.L Ex ma)) (hb : PE X b (SE W.L Ex mb)) : PE X (.Subscript a b pos) (SE W.L Ex fun env => do let x ← ma env; let y ← mb env; M.ofO (ixD x y)) :=
  snd_op2 (t := fun _ _ _ => True) (fun ta tb ha hb => pe_ix (ix_D hX.K (by have := hX.units; omega)) ha hb (plainIx_of hs)) ha hb
/-! ### slices -/
/-- a bound as a value tells it -/
abbrev RBd : RTy (Option Int) D := fun _ _ _ _ v d => bndD d = some v
theorem stabBd {γ : Type} {Rs : Pl → List Addr → Fz → Hp → γ → Prop} (s : Stab Rs) (v : Option Int) : Stab (RC Rs RBd v) := fun L C F H F' H' g e a f h => ⟨s L C F H F' H' g.1 e a f h.1, h.2⟩
theorem snd_bnd0 : PO X none (SG RBd L Ex fun env => evB .non (pure .non)) := ⟨fun pins s σ H Q I q => po_none.run pins s σ H Q I (by
  obtain ⟨F, C, env, c, si, o⟩ := q
  exact o none F H (.refl si.cok.fin) si.cok rfl)⟩
theorem snd_bnd1 {e : E} (he : isNon e = false) (ha : PE X a (SE L Ex ma)) : PO X (some a) (SG RBd L Ex fun env => evB e (ma env)) := ⟨fun pins s σ H Q I q => (po_some ha).run pins s σ H Q I (by
  refine (SG.bind (R := RV) (k := fun d env => if bOk e d then pure d else M.bad) q).imp fun x H1 h1 => ?_
  obtain ⟨F, C, env, c, ⟨_, d⟩, si, ⟨_, r⟩, o⟩ := h1
  have o : Out RBd L F C H1 (Ex σ) Q ((if bOk e d then pure d else M.bad : M D) c) := o
  have hd : bOk e d = true → ∃ i, d = .int i := by
    intro h2
    cases e <;> first | (simp [isNon] at he; done) | (cases d <;> first | exact ⟨_, rfl⟩ | simp [bOk] at h2)
  split at o
  · rename_i hb
    obtain ⟨i, rfl⟩ := hd hb
    exact ⟨i, rep_int r, o (some i) F H1 (.refl si.cok.fin) si.cok rfl⟩
  · exact o.elim)⟩
theorem snd_sl {lo hi : Option Expr} {ml mh : Env → M D} {p2 : Pos} (ha : PE X a (SE L Ex ma)) (hl : PO X lo (SG RBd L Ex ml)) (hh : PO X hi (SG RBd L Ex mh)) :
    PE X (.Subscript a (.Slice lo hi none p2) pos) (SE L Ex fun env => do let x ← ma env; let l ← ml env; let h ← mh env; M.ofO (slD x l h)) := by
  refine PEimp (pe_slice (sl_D (L := L)) ha hl hh) fun σ H Q q => ?_
  refine (SG.bind (R := RV) (k := fun x env => do let l ← ml env; let h ← mh env; M.ofO (slD x l h)) q).imp fun x H1 h1 => ?_
  refine (SK.bind (R := RBd) (k := fun gx l env => do let h ← mh env; M.ofO (slD gx.2 l h)) (stabV stab0 x) h1).imp fun l H2 h2 => ?_
  refine (SK.bind (R := RBd) (k := fun gx h env => M.ofO (slD gx.1.2 gx.2 h)) (stabBd (stabV stab0 x) l) h2).imp fun h H3 h3 => ?_
  obtain ⟨F, C, c, ⟨⟨⟨_, dx⟩, dl⟩, dh⟩, d, ck, ⟨⟨⟨_, rx⟩, rl⟩, rh⟩, e, k⟩ := h3.fin
  exact ⟨F, C, c, dx, dl, dh, d, ck, rx, rl, rh, e, k⟩
/-! ### calls -/
theorem fn_cast (hX : CxOk W n X N sc Ex) {f : Addr} {fd : FuncData} {ps : List Str} {sp : Sp} (F : FnOk W.P W.w W.L.K W.mg W.base (L2.CX W.P W.w) (n + 1) f fd ps sp) (b : Binds W.L.K fd ps []) : FnOk X.prog X.w X.K X.mg X.base (L2.CX X.prog X.w) (n + 1) f fd ps sp ∧ Binds X.K fd ps [] := by
  rw [hX.prog, hX.w, hX.K, hX.mg, hX.base]
  exact ⟨F, b⟩
theorem snd_call (hX : CxOk W n X N sc Ex) (hF : Facts W) (hn : FnsAt W n) {f : Nat} {id : Str} {es : List Expr} {k : Nat} {me : Env → M (List D)} {p : Pos} (hid : (W.nm.fnm f).map toS = some id) (hg : isGlo (sc.lookup id) = true) (ho : okName id = true) (hp : allPlain (a :: es) = true) (hr : PA X (a :: es) (SAn k W.L Ex me)) :
    PE X (.Call (.Name id p) (a :: es) [] pos) (SE W.L Ex fun env => do let ds ← me env; callF W.tab n f ds) := by
  obtain ⟨x, hx, rfl⟩ := Option.map_eq_some_iff.mp hid
  obtain ⟨fdat, ps, Fn, Bd⟩ := hn f x hx
  obtain ⟨Fn, Bd⟩ := fn_cast hX Fn Bd
  obtain ⟨hm, hk⟩ := hF.fns f x hx
  have hgl : sc.lookup (toS x) = some .globalImplicit := by
    unfold isGlo at hg
    split at hg
    · assumption
    · cases hg
  simp only [allPlain, Bool.and_eq_true] at hp
  refine PEimp (pe_callS Fn hX.room (hX.gl _ hgl) (by rw [hX.mg]; exact hm) (by rw [hX.K]; exact hk) Bd hX.pass hr (okName_of ho).1 (star_cons hp.1) (back_plain hp.2)) fun σ H Q q => ?_
  refine (SG.bind (R := RLn k) (k := fun ds env => callF W.tab n f ds) q).imp fun xs H1 h1 => ?_
  obtain ⟨F, C, env, c, ⟨_, ds⟩, si, ⟨_, rs, _⟩, o⟩ := h1
  exact ⟨F, C, ds, c, rs, si.cok, o⟩
/-- the def is told by an expression -/
theorem eval_callv {v s : Expr} {p1 : Pos} {es : List Expr} {env : PySem.Env} : eval (.Call (.Subscript v s p1) es [] pos) env = (do let f ← eval (.Subscript v s p1) env; callWith pos f [] (backTo pos (starEach es env)) (backToKw pos (keywordEach [] env))) := by
  rfl
theorem snd_callv (hX : CxOk W n X N sc Ex) (hF : Facts W) (hn : FnsAt W n) {g : Expr} {es : List Expr} {k : Nat} {mg : Env → M D} {me : Env → M (List D)} (hs : isSubE g = true) (hp : allPlain (a :: es) = true) (hg : PE X g (SE W.L Ex mg)) (hr : PA X (a :: es) (SAn k W.L Ex me)) :
    PE X (.Call g (a :: es) [] pos) (SE W.L Ex fun env => do match ← mg env with
      | .fn f => do let ds ← me env; callF W.tab n f ds
      | _ => M.bad) := by
  cases g <;> first | (simp [isSubE] at hs; done) | skip
  rename_i v s p1
  simp only [allPlain, Bool.and_eq_true] at hp
  refine ⟨fun pins s σ H Q I q => ?_⟩
  rw [eval_callv]
  refine wpAny_bind (thn (hg.run pins s σ H _ I (SG.bind (R := RV) (k := fun d env => (match d with
      | .fn f => do let ds ← me env; callF W.tab n f ds
      | _ => M.bad : M D)) q)) fun u s1 ⟨x, H1, I1, rx, h1⟩ => ?_)
  obtain ⟨F, C, env, c, ⟨_, d⟩, si, ⟨_, r⟩, o⟩ := h1
  cases d <;> try exact o.elim
  rename_i f _
  cases r with
  | fn _ hh =>
    cases rx
    have o : Out RV W.L F C H1 (Ex σ) Q ((do let ds ← me env; callF W.tab n f ds : M D) c) := o
    have q2 : SG RV W.L Ex (fun env => do let ds ← me env; callF W.tab n f ds) σ H1 Q := ⟨F, C, env, c, si, o⟩
    rw [hF.has] at hh
    obtain ⟨x, hx⟩ := Option.isSome_iff_exists.mp hh
    obtain ⟨fdat, ps, Fn, Bd⟩ := hn f x hx
    obtain ⟨Fn, Bd⟩ := fn_cast hX Fn Bd
    obtain ⟨hm, hk⟩ := hF.fns f x hx
    refine PySem.W.callWith_K (h₀ := X.base) I1.ok.mod.kin (by rw [hX.K]; exact hk) (thn (hr.run pos pins s1 σ H1 _ I1 (SG.bind (R := RLn k) (k := fun ds env => callF W.tab n f ds) q2)) fun us s2 ⟨vs, H2, I2, rv, h2⟩ => ⟨I2.kIn, ?_⟩) (star_cons hp.1) (back_plain hp.2)
    obtain ⟨F, C, env, c, ⟨_, ds⟩, si, ⟨_, rs, _⟩, o⟩ := h2
    exact run_fnS (E := Ex) Fn hX.room Bd (hX.pass σ) I2 rv ⟨F, C, ds, c, rs, si.cok, o⟩
end
end Hg
end
section
set_option Elab.async false
set_option linter.all false
set_option autoImplicit false
set_option maxRecDepth 100000
set_option maxHeartbeats 1000000
/-! A11: dict(..), what is still one's own, calls of built-ins as trees. -/
namespace Hg
open PySem PySem.Spec PyProof.Rows PySem.SeqAt L2
section
variable {X : Cx} {L : Pl}
/-! ### dict(pairs) -/
theorem putK_rep {F : Fz} {C : List Addr} {H : Hp} {k : T} {v : V} {d : D} (r : Rep L F C H v d) {kvs : List (Key × V)} {ds : List (T × D)} (h : RepK L F C H kvs ds) : RepK L F C H (putK kvs (.inr (toS k)) v) (putD k d ds) := by
  have key : ∀ k' : T, decide ((Sum.inr (toS k') : Key) = .inr (toS k)) = decide (k' = k) := fun k' => by
    by_cases e : k' = k
    · subst e; simp
    · rw [decide_eq_false e, decide_eq_false fun q => e (toS_inj (Sum.inr.inj q))]
  have any : ∀ {kvs : List (Key × V)} {ds : List (T × D)}, RepK L F C H kvs ds → (kvs.any fun kv => decide (kv.1 = .inr (toS k))) = ds.any fun p => decide (p.1 = k) := by
    intro kvs
    induction kvs with
    | nil => intro ds h; cases h; rfl
    | cons p r ih =>
      intro ds h
      cases h with
      | cons h1 h2 => rw [List.any_cons, List.any_cons, ih h2]; congr 1; exact key _
  have mp : ∀ {kvs : List (Key × V)} {ds : List (T × D)}, RepK L F C H kvs ds → RepK L F C H (kvs.map fun kv => if kv.1 = .inr (toS k) then (kv.1, v) else kv) (ds.map fun p => if p.1 = k then (p.1, d) else p) := by
    intro kvs
    induction kvs with
    | nil => intro ds h; cases h; exact .nil
    | cons p rr ih =>
      intro ds h
      cases h with
      | cons h1 h2 =>
        rename_i k' _ _ _
        rw [List.map_cons, List.map_cons]
        by_cases e : k' = k
        · subst e
          simp only [if_true]
          exact .cons r (ih h2)
        · have e2 : ¬ (Sum.inr (toS k') : Key) = .inr (toS k) := fun q => e (toS_inj (Sum.inr.inj q))
          simp only [if_neg e, if_neg e2]
          exact .cons h1 (ih h2)
  have app : ∀ {kvs : List (Key × V)} {ds : List (T × D)}, RepK L F C H kvs ds → RepK L F C H (kvs ++ [(.inr (toS k), v)]) (ds ++ [(k, d)]) := by
    intro kvs
    induction kvs with
    | nil => intro ds h; cases h; exact .cons r .nil
    | cons p r ih =>
      intro ds h
      cases h with
      | cons h1 h2 => exact .cons h1 (ih h2)
  unfold putK putD
  rw [any h]
  split
  · exact mp h
  · exact app h
theorem merge_rep {F : Fz} {C : List Addr} {H : Hp} : ∀ {kvs : List (Key × V)} {ds : List (T × D)} {acc : List (Key × V)} {dacc : List (T × D)}, RepK L F C H kvs ds → RepK L F C H acc dacc → RepK L F C H (mergeK acc kvs) (ds.foldl (fun a p => putD p.1 p.2 a) dacc)
  | _, _, _, _, .nil, h => h
  | _, _, _, _, .cons (k := k) h1 h2, h => by
    have := merge_rep h2 (putK_rep (k := k) h1 h)
    exact this
/-- the pairs of a row -/
theorem pairs_rep {F : Fz} {C : List Addr} {H : Hp} {K : PySem.W.Frag} : ∀ {vs : List V} {ds : List D} {ps : List (T × D)}, Reps L F C H vs ds → pairsD ds = some ps → ∃ (Ts : List Addr) (kvs : List (Key × V)), vs = Ts.map V.ref ∧ Paired (fun p kv => SqT K H p [kV kv.1, kv.2]) Ts kvs ∧ RepK L F C H kvs ps
  | _, _, _, .nil, e => by
    cases e
    exact ⟨[], [], rfl, .nil, .nil⟩
  | _, _, _, .cons (d := d) h r, e => by
    unfold pairsD at e
    split at e <;> (try contradiction)
    rename_i heq
    cases heq
    obtain ⟨ps, e9, rfl⟩ := Option.map_eq_some_iff.mp e
    obtain ⟨Ts, kvs, rfl, hp, hk⟩ := pairs_rep (K := K) r e9
    cases h with
    | tup o f h d1 rr =>
      obtain ⟨v, w, rfl, rv, rw'⟩ := len2 rr
      cases rep_str rv
      exact ⟨_ :: Ts, (.inr (toS _), w) :: kvs, rfl, .cons (.inl (.inr ⟨o, h⟩)) hp, .cons rw' hk⟩
theorem cd_dict (hc : X.calm = true) : CallR X (.type "dict") (rDs L (primD .dict)) := by
  intro pins s σ H xs us Q I r h
  obtain ⟨F, C, c, ds, d, ck, hr, e, k⟩ := h
  -- what both have
  have fin : ∀ {kvs : List (Key × V)} {ps : List (T × D)} {prs : List (Key × Value)} {h' : Heap} {tk : Nat}, RepK L F C H kvs ps → d = .dct (dictD ps) → KV kvs prs → kvs.length ≤ sizeLine → h'.DictOf (mixKind X.prog X.w) s.heap.objs.size (PySem.merged [] prs) → (∀ b o, s.heap.get? b = some o → h'.get? b = some o) → EP X pins σ Q (.ref s.heap.objs.size) { s with heap := h', toks := tk } := by
    intro kvs ps prs h' tk hk hd rel hz hd' kp
    subst hd
    have hm : (s.heap.objs.size == sysModules) = false := beq_eq_false_iff_ne.mpr (Nat.ne_of_gt I.big)
    have hlen : (mergeK [] kvs).length ≤ sizeLine := by
      refine Nat.le_trans (length_mergeK kvs []) ?_
      rw [List.length_nil, Nat.zero_add]; exact hz
    have hn : H s.heap.objs.size = none := I.hok.fresh (Nat.le_refl _)
    have I1 : Inv X pins σ (upd H s.heap.objs.size (.dK (mergeK [] kvs))) { s with heap := h', toks := tk } := I.laid (t' := tk) kp (Nat.le_refl _) (show ObjOk X.prog X.w _ _ _ (.dK (mergeK [] kvs)) from ⟨hlen, hm, PySem.merged [] prs, KV.merge rel .nil, hd'⟩)
    obtain ⟨od, I2⟩ := I1.lock upd_same trivial
    rw [upd_upd] at I2
    exact ⟨.ref s.heap.objs.size, _, I2, rfl, k.newK ck.fin hn (merge_rep hk .nil)⟩
  unfold primD at e
  split at e <;> (try contradiction)
  · obtain ⟨v, rfl, rv⟩ := len1 hr
    obtain ⟨ps, e1, e2⟩ := Option.map_eq_some_iff.mp e
    cases rv with
    | lst f h rr =>
      rename_i a vs
      obtain ⟨u, rfl, rx⟩ := vals1 r
      cases rx
      obtain ⟨Ts, kvs, rfl, hp, hk⟩ := pairs_rep (K := X.K) rr e1
      obtain ⟨its, rvs, pl, hz⟩ := I.list (SqL.of h)
      have ei := refs_at rvs
      subst ei
      rw [List.length_map] at hz
      obtain ⟨prs, rel, hl, hpr⟩ := pairs_of I hp
      obtain ⟨o, n, ho, hcl, hd, hdat⟩ := pl
      refine L2.call_dict_pairs (prs := prs) (I.ok.hd hc) ho hcl hd hdat (by simp [hl]) (by rw [hl]; exact hz) (fun j q' e => ?_) fun h' tk hd' kp => fin hk e2.symm rel (by rw [rel.length, hl]; exact hz) hd' kp
      obtain ⟨b, u, e1, e2, e3⟩ := hpr j q' e
      exact ⟨b, u, by simp [e1], e2, e3⟩
  · obtain ⟨v, rfl, rv⟩ := len1 hr
    obtain ⟨ps, e1, e2⟩ := Option.map_eq_some_iff.mp e
    cases rv with
    | tup o f h d1 rr =>
      rename_i a vs
      obtain ⟨u, rfl, rx⟩ := vals1 r
      cases rx
      obtain ⟨Ts, kvs, rfl, hp, hk⟩ := pairs_rep (K := X.K) rr e1
      obtain ⟨ho, hz, its, rvs, o2, ho2, hcl, n, hdat⟩ := I.hok a _ h
      have eo : o2 = o := by rw [ho] at ho2; exact (Option.some.inj ho2).symm
      subst eo
      have ei := refs_at rvs
      subst ei
      rw [List.length_map] at hz
      obtain ⟨prs, rel, hl, hpr⟩ := pairs_of I hp
      let f1 : Nat → Addr := fun j => Ts.getD j 0
      have hpr2 : ∀ j (q : Key × Value), prs[j]? = some q → ∃ u, Ts[j]? = some (f1 j) ∧ IsTup s.heap (f1 j) #[u, q.2] ∧ keyIs q.1 u = true := fun j q e => by
        obtain ⟨b, u, e1, e2, e3⟩ := hpr j q e
        have : f1 j = b := by show Ts.getD j 0 = b; rw [List.getD_eq_getElem?_getD, e1]; rfl
        rw [this]
        exact ⟨u, e1, e2, e3⟩
      have hex : ∃ pv : List (Value × Value), pv.length = prs.length ∧ ∀ (j : Nat) (kk vv : Value), pv[j]? = some (kk, vv) → ∃ q : Key × Value, prs[j]? = some q ∧ vv = q.2 ∧ Ts[j]? = some (f1 j) ∧ IsTup s.heap (f1 j) #[kk, vv] ∧ keyIs q.1 kk = true := by
        have gen : ∀ m, m ≤ prs.length → ∃ pv : List (Value × Value), pv.length = m ∧ ∀ (j : Nat) (kk vv : Value), pv[j]? = some (kk, vv) → ∃ q : Key × Value, prs[j]? = some q ∧ vv = q.2 ∧ Ts[j]? = some (f1 j) ∧ IsTup s.heap (f1 j) #[kk, vv] ∧ keyIs q.1 kk = true := by
          intro m
          induction m with
          | zero => intro _; exact ⟨[], rfl, fun j kk vv e => by simp at e⟩
          | succ m ih =>
            intro hm
            obtain ⟨pv, h1, h2⟩ := ih (by omega)
            have e0 : prs[m]? = some prs[m] := List.getElem?_eq_getElem (by omega)
            obtain ⟨u, e1, e2, e3⟩ := hpr2 m _ e0
            refine ⟨pv ++ [(u, prs[m].2)], by simp [h1], fun j kk vv e => ?_⟩
            by_cases hj : j < pv.length
            · rw [List.getElem?_append_left hj] at e
              exact h2 j kk vv e
            · rw [List.getElem?_append_right (by omega)] at e
              cases hx : j - pv.length with
              | zero =>
                rw [hx] at e
                have : j = m := by omega
                subst this
                simp only [List.getElem?_cons_zero, Option.some.injEq, Prod.mk.injEq] at e
                obtain ⟨rfl, rfl⟩ := e
                exact ⟨_, e0, rfl, e1, e2, e3⟩
              | succ z => rw [hx] at e; simp at e
        exact gen _ (Nat.le_refl _)
      obtain ⟨pv, hpl, hpv⟩ := hex
      refine PySem.call_dict_pairs (knd := mixKind X.prog X.w) (kvs := prs) (PySem.PairArg.tuple a (Ts.map Value.ref).toArray f1 pv) (I.ok.hd hc) ⟨⟨o2, n, ho, hcl, d1, hdat⟩, by simp [hpl, hl], fun j kk vv e => ?_⟩ ⟨hpl.symm, fun i key v e => ?_⟩ (by rw [hpl, hl]; exact hz) fun h' tk hd' kp => fin hk e2.symm rel (by rw [rel.length, hl]; exact hz) hd' (fun b o hb => kp b o (by simp) hb)
      · obtain ⟨q, _, _, e1, e2, _⟩ := hpv j kk vv e
        exact ⟨by simp [e1], .inl e2⟩
      · obtain ⟨q, e0, rfl, _, _, e3⟩ := hpv i key v e
        exact ⟨q.1, e0, e3⟩
end
end Hg
end
section
set_option Elab.async false
set_option linter.all false
set_option autoImplicit false
set_option maxRecDepth 100000
set_option maxHeartbeats 1000000
/-! A12: reads of what is still one's own; calls of built-ins as trees. -/
namespace Hg
open PySem PySem.Spec PyProof.Rows PySem.SeqAt L2
section
variable {L : Pl} {F : Fz} {C : List Addr} {H : Hp} {c : Cells} {a : Addr}
theorem addF (ck : Cok L F C H c) (ha : H a ≠ none) (nc : a ∉ C) : Cok L (fun x => F x ∨ x = a) C H c where
  len := ck.len
  nd := ck.nd
  own := fun i b d h1 h2 => (ck.own i b d h1 h2).mono (fun x f => ⟨.inl f, rfl⟩) (fun _ _ h => h) rfl
  ap := fun x f => f.elim (ck.ap x) fun e => by rw [e]; exact nc
  fin := fun x f => f.elim (ck.fin x) fun e => by rw [e]; exact ha
  nc := ck.nc
theorem Rep.addF {v : V} {d : D} (r : Rep L F C H v d) : Rep L (fun x => F x ∨ x = a) C H v d := r.mono (fun x f => ⟨.inl f, rfl⟩) fun _ _ h => h
theorem Cont.addF {b : Bool} {Q : VK} (ha : H a ≠ none) (k : Cont L F C H (.bl b) Q) : Cont L (fun x => F x ∨ x = a) C H (.bl b) Q := fun v F' H' ex r => by
  cases rep_bl r
  exact k (.bl b) (fun x => F' x ∧ (F x ∨ H x = none)) H' ⟨fun x f => ⟨ex.mono x (.inl f), .inl f⟩, fun x f => f.2, ex.keep, ex.trk, fun x f => ex.fin x f.1⟩ (.bl b)
/-- its own list among the rest: what == and in take -/
theorem Own.rep {d : D} (o : Own L F C H a d) (hl : ∃ xs, d = .lst xs) : Rep L (fun x => F x ∨ x = a) C H (.ref a) d := by
  obtain ⟨xs, rfl⟩ := hl
  cases o with
  | lst e r => exact .lst (.inr rfl) e (r.mono (fun x f => ⟨.inl f, rfl⟩) fun _ _ h => h)
end
/-- an operation with one's own thing first -/
def rOw (L : Pl) (g : D → D → Option D) : R2 := fun x y H Q => ∃ F C c a od dy d, Cok L F C H c ∧ x = .ref a ∧ Own L F C H a od ∧ a ∉ C ∧ Rep L F C H y dy ∧ g od dy = some d ∧ Cont L F C H d Q
def rWo (L : Pl) (g : D → D → Option D) : R2 := fun y x H Q => ∃ F C c a od dy d, Cok L F C H c ∧ x = .ref a ∧ Own L F C H a od ∧ a ∉ C ∧ Rep L F C H y dy ∧ g dy od = some d ∧ Cont L F C H d Q
section
variable {X : Cx} {L : Pl}
theorem ix_own (hu : X.A.units + 1 < cLine) : IxR X (rOw L ixD) := by
  have base := IxR.or (X := X) ix_list (ix_dict hu)
  intro value slice pins s σ H x y v u Q I rx ry h hs
  refine base value slice pins s σ H x y v u Q I rx ry ?_ hs
  obtain ⟨F, C, c, a, od, dy, d, ck, rfl, ho, _, hy, e, k⟩ := h
  cases ho with
  | lst h r =>
    unfold ixD at e
    cases dy <;> simp only [reduceCtorEq] at e
    obtain ⟨w, h1, h2⟩ := atI_of r e
    exact .inl ⟨_, _, _, w, rfl, rep_int hy, .of h, h1, k.now ck.fin h2⟩
  | dct h r =>
    unfold ixD at e
    cases dy <;> simp only [reduceCtorEq] at e
    rename_i kv ds kk
    cases rep_str hy
    rcases lk_val (k := kk) r with ⟨h1, _⟩ | ⟨w, d', h1, h2, h3⟩
    · rw [h1] at e; cases e
    · rw [h1] at e; cases e
      refine .inr ⟨_, w, rfl, ?_, k.now ck.fin h3⟩
      rw [← h2]
      exact .inl ⟨kv, .inr (toS kk), .inl h, rfl, rfl⟩
theorem or_own_in (hu : X.A.units + 80 < cLine) (ne : Bool) : OpR X (compareOp (if ne then .NotIn else .In)) (rWo L fun y od => (cmpD (if ne then .nin else .inn) y od).map .bl) := by
  intro pins s σ H y x u v Q I ry rx h
  obtain ⟨F, C, c, a, od, dy, d, ck, rfl, ho, nc, hy, e, k⟩ := h
  obtain ⟨b, e1, rfl⟩ := map_bl e
  cases ho with
  | lst h r =>
    have hr := Own.rep (.lst h r) ⟨_, rfl⟩
    have ha : H a ≠ none := by rw [h]; simp
    cases ne with
    | true => exact or_nin hu pins s σ H _ _ _ _ Q I ry rx ⟨_, C, c, _, _, _, addF ck ha nc, hy.addF, hr, congrArg (Option.map D.bl) e1, k.addF ha⟩
    | false => exact or_in hu pins s σ H _ _ _ _ Q I ry rx ⟨_, C, c, _, _, _, addF ck ha nc, hy.addF, hr, congrArg (Option.map D.bl) e1, k.addF ha⟩
  | dct h r =>
    rename_i kv ds
    cases rx
    cases ne with
    | true =>
      simp only [if_true, cmpD, Option.map_eq_some_iff] at e1
      obtain ⟨b', e2, rfl⟩ := e1
      unfold inD at e2
      cases dy <;> simp only [reduceCtorEq, Option.some.injEq] at e2
      rename_i kk
      cases rep_str hy
      have hb : (valV kv (Sum.inr (toS kk))).isSome = b' := by
        rcases lk_val (k := kk) r with ⟨h1, h2⟩ | ⟨w, d, h1, h2, _⟩ <;> (rw [h1] at e2; rw [h2]; exact e2)
      have hg : DGet H a (kV (.inr (toS kk))) (valV kv (.inr (toS kk))) := .inl ⟨kv, .inr (toS kk), .inl h, rfl, rfl⟩
      exact d_notIn (by omega) I hg ry fun s' I' => by rw [hb]; exact ⟨.bl (!b'), H, I', rfl, k.bl ck⟩
    | false =>
      simp only [Bool.false_eq_true, if_false, cmpD] at e1
      unfold inD at e1
      cases dy <;> simp only [reduceCtorEq, Option.some.injEq] at e1
      rename_i kk
      cases rep_str hy
      have hb : (valV kv (Sum.inr (toS kk))).isSome = b := by
        rcases lk_val (k := kk) r with ⟨h1, h2⟩ | ⟨w, d, h1, h2, _⟩ <;> (rw [h1] at e1; rw [h2]; exact e1)
      have hg : DGet H a (kV (.inr (toS kk))) (valV kv (.inr (toS kk))) := .inl ⟨kv, .inr (toS kk), .inl h, rfl, rfl⟩
      exact d_in (by omega) I hg ry fun s' I' => by rw [hb]; exact ⟨.bl b, H, I', rfl, k.bl ck⟩
theorem cmp_own_l {W : Lw} {n : Nat} {N : List Str} {sc : ScN} {Ex : Sg → XK} (hX : CxOk W n X N sc Ex) {o : COp} {op : CmpOp} (h : copM o op = true) : OpR X (compareOp op) (rOw W.L fun od y => match od with | .lst xs => (cmpD o (.lst xs) y).map .bl | _ => none) := by
  refine OpRimp (or_cmp hX h) fun x y H Q q => ?_
  obtain ⟨F, C, c, a, od, dy, d, ck, rfl, ho, nc, hy, e, k⟩ := q
  cases ho with
  | lst h r =>
    obtain ⟨b, e1, rfl⟩ := map_bl e
    have ha : H a ≠ none := by rw [h]; simp
    exact ⟨_, C, c, _, dy, _, addF ck ha nc, Own.rep (.lst h r) ⟨_, rfl⟩, hy.addF, congrArg (Option.map D.bl) e1, k.addF ha⟩
  | dct h r => cases e
end
section
variable {W : Lw} {n : Nat} {X : Cx} {N : List Str} {sc : ScN} {Ex : Sg → XK} {ma mb mc : Env → M D} {a b c : Expr} {pos : Pos}
theorem own_at {L : Pl} {F : Fz} {C : List Addr} {σ : Sg} {H : Hp} {env : Env} {c : Cells} (si : SI L F C σ H env c) {i : Nat} {d : D} (e : getO env i = some d) : ∃ a, σ[i]? = some (some (.ref a)) ∧ Own L F C H a d ∧ ¬ F a ∧ a ∉ C := by
  unfold getO at e
  split at e
  · rename_i e2
    cases e
    exact si.own i _ e2
  · cases e
theorem SG.own {γ : Type} {m : Env → M D} {k : D → D → Env → M D} {i : Nat} {σ : Sg} {H : Hp} {Q : VK} {L : Pl} (h : SE L Ex (fun env => match getO env i with | some d => (m env >>= fun y => k d y env) | none => M.bad) σ H Q) :
    ∃ a, σ[i]? = some (some (.ref a)) ∧ SE L Ex m σ H fun y H1 => ∃ F C env c d dy, SI L F C σ H1 env c ∧ Own L F C H1 a d ∧ ¬ F a ∧ a ∉ C ∧ Rep L F C H1 y dy ∧ Out RV L F C H1 (Ex σ) Q (k d dy env c) := by
  obtain ⟨F, C, env, c, si, o⟩ := h
  have o : Out RV L F C H (Ex σ) Q ((match getO env i with | some d => (m env >>= fun y => k d y env) | none => M.bad) c) := o
  cases e : getO env i with
  | none => rw [e] at o; exact o.elim
  | some d =>
    rw [e] at o
    obtain ⟨a, h1, _⟩ := own_at si e
    refine ⟨a, h1, ?_⟩
    have q : SE L Ex (fun env => m env >>= fun y => match getO env i with | some d => k d y env | none => M.bad) σ H Q := by
      refine ⟨F, C, env, c, si, ?_⟩
      show Out RV L F C H (Ex σ) Q ((m env >>= fun y => match getO env i with | some d => k d y env | none => M.bad) c)
      rw [e]
      exact o
    refine (SG.bind (R := RV) (k := fun y env => match getO env i with | some d => k d y env | none => M.bad) q).imp fun y H1 h2 => ?_
    obtain ⟨F, C, env, c, ⟨_, dy⟩, si, ⟨_, r⟩, o⟩ := h2
    have o : Out RV L F C H1 (Ex σ) Q ((match getO env i with | some d => k d dy env | none => M.bad) c) := o
    cases e : getO env i with
    | none => rw [e] at o; exact o.elim
    | some d =>
      rw [e] at o
      obtain ⟨a', h3, h4, h5, h6⟩ := own_at si e
      have : a' = a := by rw [h1] at h3; cases h3; rfl
      subst this
      exact ⟨F, C, env, c, d, dy, si, h4, h5, h6, r, o⟩
/-- an operation whose first thing is one's own -/
theorem ow_imp {L : Pl} {g : D → D → Option D} {i : Nat} {σ : Sg} {H : Hp} {Q : VK} (q : SE L Ex (fun env => match getO env i with | some d => (do let k ← mb env; M.ofO (g d k)) | none => M.bad) σ H Q) : tOp (rOw L g) (tVar i) (SE L Ex mb) σ H Q := by
  obtain ⟨a, h1, q⟩ := SG.own (γ := Unit) (k := fun d y env => M.ofO (g d y)) q
  refine ⟨_, h1, q.imp fun y H1 ⟨F, C, env, c, d, dy, si, h2, h3, h4, r, o⟩ => ?_⟩
  cases e : g d dy with
  | none => rw [e] at o; exact o.elim
  | some d' =>
    rw [e] at o
    exact ⟨F, C, c, a, d, dy, d', si.cok, rfl, h2, h4, r, e, fun v F' H' ex r => o v F' H' (ex.cells (by simp)) (si.cok.ext0 ex) r⟩
/-- an operation whose second thing is one's own -/
theorem wo_imp {L : Pl} {g : D → D → Option D} {i : Nat} {σ : Sg} {H : Hp} {Q : VK} (q : SE L Ex (fun env => match getO env i with | some d => (do let k ← mb env; M.ofO (g k d)) | none => M.bad) σ H Q) : tOp (rWo L g) (SE L Ex mb) (tVar i) σ H Q := by
  obtain ⟨a, h1, q⟩ := SG.own (γ := Unit) (k := fun d y env => M.ofO (g y d)) q
  refine q.imp fun y H1 ⟨F, C, env, c, d, dy, si, h2, h3, h4, r, o⟩ => ⟨_, h1, ?_⟩
  cases e : g dy d with
  | none => rw [e] at o; exact o.elim
  | some d' =>
    rw [e] at o
    exact ⟨F, C, c, a, d, dy, d', si.cok, rfl, h2, h4, r, e, fun v F' H' ex r => o v F' H' (ex.cells (by simp)) (si.cok.ext0 ex) r⟩
end
end Hg
end
section
set_option Elab.async false
set_option linter.all false
set_option autoImplicit false
set_option maxRecDepth 100000
set_option maxHeartbeats 1000000
/-! A13: calls of built-ins as trees. -/
namespace Hg
open PySem PySem.Spec PyProof.Rows PySem.SeqAt L2
/-- each tree by itself, and all of them as arguments -/
def AllPE (X : Cx) (L : Pl) (Ex : Sg → XK) (ev : E → Env → M D) : List E → List Expr → Prop
  | [], [] => True
  | e :: es, x :: xs => notStar x = true ∧ PE X x (SE L Ex (ev e)) ∧ AllPE X L Ex ev es xs
  | _, _ => False
def evL (ev : E → Env → M D) : List E → Env → M (List D)
  | [], _ => pure []
  | e :: es, env => do let d ← ev e env; let ds ← evL ev es env; pure (d :: ds)
section
variable {W : Lw} {n : Nat} {X : Cx} {N : List Str} {sc : ScN} {Ex : Sg → XK} {L : Pl} {ev : E → Env → M D} {a b c : Expr} {pos : Pos}
theorem AllPE.pa : ∀ {es : List E} {xs : List Expr}, AllPE X L Ex ev es xs → PA X xs (SAn es.length L Ex (evL ev es))
  | [], [], _ => snd_nil
  | e :: es, x :: xs, h => snd_cons h.1 h.2.1 (AllPE.pa h.2.2)
  | [], _ :: _, h => h.elim
  | _ :: _, [], h => h.elim
theorem AllPE.plain : ∀ {es : List E} {xs : List Expr}, AllPE X L Ex ev es xs → allPlain xs = true
  | [], [], _ => rfl
  | e :: es, x :: xs, h => by simp [allPlain, h.1, AllPE.plain h.2.2]
  | [], _ :: _, h => h.elim
  | _ :: _, [], h => h.elim
theorem AllPE.one {es : List E} (h : AllPE X L Ex ev es [a]) : ∃ e, es = [e] ∧ notStar a = true ∧ PE X a (SE L Ex (ev e)) := by
  cases es with
  | nil => exact h.elim
  | cons e es => cases es with
    | nil => exact ⟨e, rfl, h.1, h.2.1⟩
    | cons _ _ => exact h.2.2.elim
theorem AllPE.two {es : List E} (h : AllPE X L Ex ev es [a, b]) : ∃ e f, es = [e, f] ∧ notStar a = true ∧ PE X a (SE L Ex (ev e)) ∧ notStar b = true ∧ PE X b (SE L Ex (ev f)) := by
  cases es with
  | nil => exact h.elim
  | cons e es =>
    obtain ⟨f, rfl, h3, h4⟩ := AllPE.one h.2.2
    exact ⟨e, f, rfl, h.1, h.2.1, h3, h4⟩
theorem gloB_of {id : Str} {x : String} (h : gloB sc id x = true) : id = Str.ofString x ∧ sc.lookup id = some .globalImplicit := by
  simp only [gloB, Bool.and_eq_true, beq_iff_eq] at h
  refine ⟨h.1, ?_⟩
  have h2 := h.2
  unfold isGlo at h2
  split at h2
  · assumption
  · cases h2
/-- what is known of a built-in's name -/
structure BltN (x : String) (f : Value) : Prop where
  mem : x ∈ bltNames
  boot : bootBuiltins (Str.ofString x) = some f
  nm : Str.ofString x ≠ "__name__"
  db : (Str.ofString x == ("__debug__" : Str)) = false
/-- a call of a built-in with plain arguments -/
theorem snd_callG (hX : CxOk W n X N sc Ex) (hF : Facts W) {x : String} {f : Value} {id : Str} {p : Pos} {es : List Expr} {t : TA} {r : List V → Hp → VK → Prop} (hv : (∃ i, f = .builtin i) ∨ ∃ i, f = .type i) (hb : BltN x f) (hg : gloB sc id x = true) (hc : CallR X f r) (hp : allPlain (a :: es) = true) (ha : PA X (a :: es) t) : PE X (.Call (.Name id p) (a :: es) [] pos) (tCB r t) := by
  obtain ⟨rfl, h1⟩ := gloB_of hg
  simp only [allPlain, Bool.and_eq_true] at hp
  rcases hv with ⟨i, rfl⟩ | ⟨i, rfl⟩
  · exact pe_callB hc (hX.gl _ h1) (by rw [hX.mg]; exact hF.blt x hb.mem) hb.boot ha hb.nm hb.db (star_cons hp.1) (back_plain hp.2)
  · exact pe_callTy hc (hX.gl _ h1) (by rw [hX.mg]; exact hF.blt x hb.mem) hb.boot ha hb.nm hb.db (star_cons hp.1) (back_plain hp.2)
theorem snd_prim0 {x : Expr} {p : Prim} {k : Nat} {xs : List Expr} {me : Env → M (List D)} (ha : PA X xs (SAn k L Ex me)) (hx : ∀ t, PA X xs t → PE X x (tCB (rDs L (primD p)) t)) : PE X x (SE L Ex fun env => do let ds ← me env; M.ofO (primD p ds)) := by
  refine PEimp (hx _ ha) fun σ H Q q => ?_
  refine (SG.bind (R := RLn k) (k := fun ds env => M.ofO (primD p ds)) q).imp fun vs H1 h1 => ?_
  obtain ⟨F, C, c, ⟨_, ds⟩, d, ck, ⟨_, rs, hl⟩, e, k⟩ := SK.fin (f := fun (g : Unit × List D) => primD p g.2) h1
  exact ⟨F, C, c, ds, d, ck, rs, e, k⟩
theorem snd_blt (hX : CxOk W n X N sc Ex) (hF : Facts W) {x : String} {f : Value} {id : Str} {p : Pos} {es : List Expr} {k : Nat} {me : Env → M (List D)} {pr : Prim} (hv : (∃ i, f = .builtin i) ∨ ∃ i, f = .type i) (hb : BltN x f) (hg : gloB sc id x = true) (hc : CallR X f (rDs W.L (primD pr))) (hp : allPlain (a :: es) = true) (ha : PA X (a :: es) (SAn k W.L Ex me)) : PE X (.Call (.Name id p) (a :: es) [] pos) (SE W.L Ex fun env => do let ds ← me env; M.ofO (primD pr ds)) :=
  snd_prim0 ha fun t ht => snd_callG hX hF hv hb hg hc hp ht
theorem bn_len : BltN "len" (.builtin "len") := ⟨by decide, by decide +kernel, by decide, by decide⟩
theorem bn_list : BltN "list" (.type "list") := ⟨by decide, by decide +kernel, by decide, by decide⟩
theorem bn_tuple : BltN "tuple" (.type "tuple") := ⟨by decide, by decide +kernel, by decide, by decide⟩
theorem bn_dict : BltN "dict" (.type "dict") := ⟨by decide, by decide +kernel, by decide, by decide⟩
theorem bn_set : BltN "set" (.type "set") := ⟨by decide, by decide +kernel, by decide, by decide⟩
theorem bn_int : BltN "int" (.type "int") := ⟨by decide, by decide +kernel, by decide, by decide⟩
theorem bn_str : BltN "str" (.type "str") := ⟨by decide, by decide +kernel, by decide, by decide⟩
theorem bn_bool : BltN "bool" (.type "bool") := ⟨by decide, by decide +kernel, by decide, by decide⟩
theorem bn_all : BltN "all" (.builtin "all") := ⟨by decide, by decide +kernel, by decide, by decide⟩
theorem bn_any : BltN "any" (.builtin "any") := ⟨by decide, by decide +kernel, by decide, by decide⟩
theorem bn_max : BltN "max" (.builtin "max") := ⟨by decide, by decide +kernel, by decide, by decide⟩
theorem bn_min : BltN "min" (.builtin "min") := ⟨by decide, by decide +kernel, by decide, by decide⟩
theorem bn_sum : BltN "sum" (.builtin "sum") := ⟨by decide, by decide +kernel, by decide, by decide⟩
theorem bn_abs : BltN "abs" (.builtin "abs") := ⟨by decide, by decide +kernel, by decide, by decide⟩
theorem bn_sorted : BltN "sorted" (.builtin "sorted") := ⟨by decide, by decide +kernel, by decide, by decide⟩
theorem bn_isi : BltN "isinstance" (.builtin "isinstance") := ⟨by decide, by decide +kernel, by decide, by decide⟩
/-! ### isinstance -/
def tyStr : TyN → String
  | .int => "int"
  | .bool => "bool"
  | .str => "str"
  | .tup => "tuple"
  | .lst => "list"
theorem kt (v : String) (t : String) (r : Bool) {K : PySem.W.Frag} (h : (kitB v t == some r) = true) : PySem.W.kitOne K (.type v) (.type t) = some r := kit_ty (by simpa using h)
theorem rep_ty {F : Fz} {C : List Addr} {H : Hp} {K : PySem.W.Frag} {v : V} {d : D} {t : TyN} {r : Bool} (h : Rep L F C H v d) (e : isiD t d = some r) : ∃ u, TyX K H v u ∧ PySem.W.kitOne K u (.type (tyStr t)) = some r := by
  cases h with
  | non => exact ⟨_, .base .non, by cases t <;> simp only [isiD, Option.some.injEq, reduceCtorEq] at e <;> subst e <;> exact kt _ _ _ (by decide +kernel)⟩
  | bl b => exact ⟨_, .base (.bl b), by cases t <;> simp only [isiD, Option.some.injEq, reduceCtorEq] at e <;> subst e <;> exact kt _ _ _ (by decide +kernel)⟩
  | int b => exact ⟨_, .base (.int b), by cases t <;> simp only [isiD, Option.some.injEq, reduceCtorEq] at e <;> subst e <;> exact kt _ _ _ (by decide +kernel)⟩
  | str b => exact ⟨_, .base (.str _), by cases t <;> simp only [isiD, Option.some.injEq, reduceCtorEq] at e <;> subst e <;> exact kt _ _ _ (by decide +kernel)⟩
  | tup o f h d r => exact ⟨_, .fTuple h, by cases t <;> simp only [isiD, Option.some.injEq, reduceCtorEq] at e <;> subst e <;> exact kt _ _ _ (by decide +kernel)⟩
  | lst f h r => exact ⟨_, .base (.lst h), by cases t <;> simp only [isiD, Option.some.injEq, reduceCtorEq] at e <;> subst e <;> exact kt _ _ _ (by decide +kernel)⟩
  | _ => cases t <;> simp [isiD] at e
theorem bn_ty (t : TyN) : BltN (tyStr t) (.type (tyStr t)) := by
  cases t
  · exact bn_int
  · exact bn_bool
  · exact bn_str
  · exact bn_tuple
  · exact bn_list
theorem tyS_eq (t : TyN) : tyS t = Str.ofString (tyStr t) := by cases t <;> rfl
theorem snd_isi (hX : CxOk W n X N sc Ex) (hF : Facts W) {id ty : Str} {p p2 : Pos} {e : E} {t : TyN} (h : (gloB sc id "isinstance" && (ty == tyS t) && isGlo (sc.lookup ty) && notStar a) = true) (ha : PE X a (SE W.L Ex (ev e))) :
    PE X (.Call (.Name id p) [a, .Name ty p2] [] pos) (SE W.L Ex fun env => do let ds ← evL ev [e] env; M.ofO (primD (.isi t) ds)) := by
  simp only [Bool.and_eq_true, beq_iff_eq] at h
  obtain ⟨⟨⟨h1, h2⟩, h3⟩, h4⟩ := h
  have hb := bn_ty t
  have hgl : sc.lookup ty = some .globalImplicit := by
    unfold isGlo at h3
    split at h3
    · assumption
    · cases h3
  have ht : PE X (.Name ty p2) (tC (.ty (tyStr t))) := by
    rw [h2, tyS_eq] at hgl ⊢
    exact pe_bltn (hX.gl _ hgl) (by rw [hX.mg]; exact hF.blt _ hb.mem) hb.boot rfl hb.nm hb.db
  have hA : PA X [a, .Name ty p2] (tCons (SE W.L Ex (ev e)) (tCons (tC (.ty (tyStr t))) tNil)) := pa_cons ha (pa_cons ht pa_nil (star_cons rfl)) (star_cons h4)
  refine PEimp (snd_callG hX hF (.inl ⟨_, rfl⟩) bn_isi h1 call_isi (by simp [allPlain, h4]; rfl) hA) fun σ H Q q => ?_
  have q : SE W.L Ex (fun env => ev e env >>= fun d => M.ofO (primD (.isi t) [d])) σ H Q := by
    obtain ⟨F, C, env, c, si, o⟩ := q
    refine ⟨F, C, env, c, si, ?_⟩
    have e1 : (evL ev [e] env >>= fun ds => M.ofO (primD (.isi t) ds)) = (ev e env >>= fun d => M.ofO (primD (.isi t) [d])) := by
      funext c
      show M.bind (M.bind (ev e env) _) _ c = M.bind (ev e env) _ c
      unfold M.bind
      cases ev e env c <;> rfl
    have o : Out RV W.L F C H (Ex σ) Q ((evL ev [e] env >>= fun ds => M.ofO (primD (.isi t) ds)) c) := o
    rw [e1] at o
    exact o
  refine (SG.bind (R := RV) (k := fun d env => M.ofO (primD (.isi t) [d])) q).imp fun v H1 h1 => ?_
  obtain ⟨F, C, c, ⟨_, d⟩, d', ck, ⟨_, r⟩, e, k⟩ := SK.fin (f := fun (g : Unit × D) => primD (.isi t) [g.2]) h1
  obtain ⟨b, e1, rfl⟩ := map_bl e
  obtain ⟨u, h5, h6⟩ := rep_ty (K := X.K) r e1
  refine ⟨v, .ty (tyStr t), u, .type (tyStr t), b, rfl, .ty _, h5, ?_, k.bl ck⟩
  exact h6
end
end Hg
end
section
set_option Elab.async false
set_option linter.all false
set_option autoImplicit false
set_option maxRecDepth 100000
set_option maxHeartbeats 1000000
/-! A14: what is walked; comprehensions. -/
namespace Hg
open PySem PySem.Spec PyProof.Rows PySem.SeqAt L2
/-- later: the frozen things as they were -/
def Lat (F : Fz) (H : Hp) (F' : Fz) (H' : Hp) : Prop := ∀ a, F a → F' a ∧ H' a = H a
structure WalkD (L : Pl) (C : List Addr) (F : Fz) (H : Hp) (J : It) (xs : List D) : Prop where
  go : ∀ (i : Nat) (F' : Fz) (H' : Hp), i < xs.length → Lat F H F' H' → J.go i H'
  stop : ∀ (F' : Fz) (H' : Hp), Lat F H F' H' → J.stop xs.length H'
  yld : ∀ (i : Nat) (F' : Fz) (H' : Hp) (x : V) (H2 : Hp) (d : D), Lat F H F' H' → Fin F' H' → xs[i]? = some d → J.yld i H' x H2 → ∃ F2, Ext F' [] H' F2 H2 ∧ Rep L F2 C H2 x d
abbrev RJ : RTy It (List D) := fun L C F H J xs => WalkD L C F H J xs
section
variable {L : Pl} {F F' : Fz} {C : List Addr} {H H' : Hp} {xs : List D} {J : It}
theorem Lat.of (e : Ext F C H F' H') (ap : Apart F C) (fin : Fin F H) : Lat F H F' H' := fun a f => ⟨e.mono a f, by
  cases h : H a with
  | none => exact absurd h (fin a f)
  | some o => exact e.keep a o h (ap a f)⟩
theorem Lat.trans {F2 : Fz} {H2 : Hp} (a : Lat F H F' H') (b : Lat F' H' F2 H2) : Lat F H F2 H2 := fun x f => ⟨(b x (a x f).1).1, (b x (a x f).1).2.trans (a x f).2⟩
theorem WalkD.later (w : WalkD L C F H J xs) (l : Lat F H F' H') : WalkD L C F' H' J xs where
  go := fun i F2 H2 hi k => w.go i F2 H2 hi (l.trans k)
  stop := fun F2 H2 k => w.stop F2 H2 (l.trans k)
  yld := fun i F2 H2 x H3 d k f e y => w.yld i F2 H2 x H3 d (l.trans k) f e y
theorem Reps.lat {vs : List V} {ds : List D} (r : Reps L F C H vs ds) (l : Lat F H F' H') : Reps L F' C H' vs ds := r.mono l fun _ _ h => h
theorem RepK.lat {vs : List (Key × V)} {ds : List (T × D)} (r : RepK L F C H vs ds) (l : Lat F H F' H') : RepK L F' C H' vs ds := r.mono l fun _ _ h => h
/-- items of frozen things, the heap as it is -/
theorem WalkD.of {n : Nat} {G : Hp → Prop} {vs : List V} (w : Walk J n G (YAt vs)) (hn : n = xs.length) (hG : ∀ F' H', Lat F H F' H' → G H') (r : Reps L F C H vs xs) : WalkD L C F H J xs where
  go := fun i F' H' hi l => w.goes i H' (by omega) (hG F' H' l)
  stop := fun F' H' l => by rw [← hn]; exact w.stops H' (hG F' H' l)
  yld := fun i F' H' x H2 d l f e y => by
    have hi : i < xs.length := by
      rcases Nat.lt_or_ge i xs.length with h | h
      · exact h
      · rw [List.getElem?_eq_none h] at e; cases e
    obtain ⟨rfl, hx⟩ := w.yields i H' x H2 (by omega) (hG F' H' l) y
    obtain ⟨v, h1, h2⟩ := (r.lat l).at e
    rw [hx] at h1
    cases h1
    exact ⟨F', .refl f, h2⟩
/-- what is given at each turn is a function of the turn -/
theorem WalkD.fn {n : Nat} {G : Hp → Prop} {Y : Nat → Hp → V → Hp → Prop} (w : Walk J n G Y) (hn : n = xs.length) (hG : ∀ F' H', Lat F H F' H' → G H') (hY : ∀ i H' x H2 d, xs[i]? = some d → Y i H' x H2 → H2 = H' ∧ ∀ F', Rep L F' C H' x d) : WalkD L C F H J xs where
  go := fun i F' H' hi l => w.goes i H' (by omega) (hG F' H' l)
  stop := fun F' H' l => by rw [← hn]; exact w.stops H' (hG F' H' l)
  yld := fun i F' H' x H2 d l f e y => by
    have hi : i < xs.length := by
      rcases Nat.lt_or_ge i xs.length with h | h
      · exact h
      · rw [List.getElem?_eq_none h] at e; cases e
    obtain ⟨rfl, hx⟩ := hY i H' x H2 d e (w.yields i H' x H2 (by omega) (hG F' H' l) y)
    exact ⟨F', .refl f, hx F'⟩
/-- new pairs -/
theorem WalkD.prs {n : Nat} {G : Hp → Prop} {f g : Nat → Option V} (w : Walk J n G (YPair f g)) (hn : n = xs.length) (hG : ∀ F' H', Lat F H F' H' → G H')
    (hY : ∀ i d x y, xs[i]? = some d → f i = some x → g i = some y → ∃ dx dy, d = .pr [dx, dy] ∧ Rep L F C H x dx ∧ Rep L F C H y dy) : WalkD L C F H J xs where
  go := fun i F' H' hi l => w.goes i H' (by omega) (hG F' H' l)
  stop := fun F' H' l => by rw [← hn]; exact w.stops H' (hG F' H' l)
  yld := fun i F' H' x H2 d l f e y => by
    have hi : i < xs.length := by
      rcases Nat.lt_or_ge i xs.length with h | h
      · exact h
      · rw [List.getElem?_eq_none h] at e; cases e
    obtain ⟨p, u, v, rfl, hp, rfl, h1, h2⟩ := w.yields i H' x H2 (by omega) (hG F' H' l) y
    obtain ⟨du, dv, rfl, r1, r2⟩ := hY i d u v e h1 h2
    have r1 : Rep L F' C H' u du := r1.mono l fun _ _ h => h
    have r2 : Rep L F' C H' v dv := r2.mono l fun _ _ h => h
    exact ⟨_, ext_new f hp, .pr (.inr rfl) upd_same (reps_new f hp (.cons r1 (.cons r2 .nil)))⟩
end
/-! ### the sources -/
section
variable {X : Cx} {pins : List (Addr × Obj)} {σ : Sg} {H : Hp} {s : Shared} {tg : Expr} {R : It → Hp → Prop}
/-- a value of some kind is walked -/
def rIt (K : PySem.W.Frag) (x : V) (H : Hp) (R : It → Hp → Prop) : Prop :=
  (∃ a xs, x = .ref a ∧ SqL K H a xs ∧ R (Itl K a) H) ∨ (∃ a xs, x = .ref a ∧ SqT K H a xs ∧ R (Itt K a) H) ∨ (∃ z, x = .str z ∧ R (Its z) H) ∨ (∃ d o kvs, x = .ref d ∧ H d = some (.frz o (.dK kvs)) ∧ R (Itk d o kvs) H)
theorem it_val {x : V} {v : Value} (I : Inv X pins σ H s) (r : RelV x v) (h : rIt X.K x H R) : wpAny (model X.prog X.w) X.A (pyIter v) (PIE X pins σ tg R) X.xe s := by
  have z : s.toks = s.toks := rfl
  rcases h with ⟨a, xs, rfl, hq, q⟩ | ⟨a, xs, rfl, hq, q⟩ | ⟨y, rfl, q⟩ | ⟨a, o, kvs, rfl, hq, q⟩
  · cases r
    obtain ⟨its, _, p, _⟩ := I.list hq
    exact wpAny_pyIter_list p.isList (pi_one (tk := s.toks) I _ (turn_list a _) ⟨_, Heap.get?_push_size _ rfl, rfl, rfl⟩ q)
  · cases r
    obtain ⟨its, _, p, _⟩ := I.tuple hq
    exact wpAny_pyIter_tuple (show s.heap.IsTuple a its.toArray from p) (pi_one (tk := s.toks) I _ (turn_tuple a _) ⟨_, Heap.get?_push_size _ rfl, rfl, rfl⟩ q)
  · obtain ⟨t, rfl⟩ := r
    by_cases ha : y.cps.all (· < 128) = true
    · exact wpAny_pyIter_ascii ha (pi_one (tk := s.toks) I _ (turn_str _ y t _ (.inl rfl)) ⟨_, Heap.get?_push_size _ rfl, rfl, rfl⟩ q)
    · exact wpAny_pyIter_wide (by simpa using ha) (pi_one (tk := s.toks) I _ (turn_str _ y t _ (.inr rfl)) ⟨_, Heap.get?_push_size _ rfl, rfl, rfl⟩ q)
  · cases r
    obtain ⟨hs, g1, hx, es, ep, vs, hdt, hsz, kv, hm⟩ := I.frzK hq
    exact iter_keys hs g1 hx hdt (pi_one (tk := s.toks) I _ (turn_keys _ hdt) ⟨_, Heap.get?_push_size _ rfl, rfl, by rw [hsz] <;> rfl⟩ q)
theorem pi_val {e : Expr} {te : TE} (he : PE X e te) : PI X tg e (fun σ H R => te σ H fun x H1 => rIt X.K x H1 R) :=
  ⟨fun pins s σ H R I h => thn (he.run pins s σ H _ I h) fun v s1 ⟨x, H1, I1, r1, q⟩ => it_val I1 r1 q⟩
theorem PIimp {e : Expr} {w w' : TI} (h : PI X tg e w) (i : ∀ σ H R, w' σ H R → w σ H R) : PI X tg e w' := ⟨fun pins s σ H R I q => h.run pins s σ H R I (i σ H R q)⟩
end
section
variable {L : Pl} {F : Fz} {C : List Addr} {H : Hp} {c : Cells} {d : D} {v : V} {xs : List D} {R : It → Hp → Prop}
theorem lat_refl : Lat F H F H := fun _ f => ⟨f, rfl⟩
theorem rngL_at {lo hi : Int} {i : Nat} {d : D} (h : (rngL lo hi)[i]? = some d) : d = .int (lo + i) := by
  unfold rngL at h
  rw [List.getElem?_map] at h
  obtain ⟨k, h1, rfl⟩ := Option.map_eq_some_iff.mp h
  rcases Nat.lt_or_ge i (hi - lo).toNat with h2 | h2
  · rw [List.getElem?_range h2] at h1; cases h1; rfl
  · rw [List.getElem?_eq_none (by simpa using h2)] at h1; cases h1
theorem rngL_len {lo hi : Int} : (rngL lo hi).length = (hi - lo).toNat := by simp [rngL]
theorem src_e {K : PySem.W.Frag} (r : Rep L F C H v d) (e : srcD .e [d] = some xs) (h : ∀ J, WalkD L C F H J xs → R J H) : rIt K v H R := by
  cases d <;> simp only [srcD, reduceCtorEq, Option.some.injEq] at e
  · -- a text
    rename_i x
    subst e
    cases rep_str r
    refine .inr (.inr (.inl ⟨_, rfl, h _ (WalkD.fn walk_str (by simp [toS]) (fun _ _ _ => trivial) fun i H' x H2 d hd y => ⟨y.1, fun F' => ?_⟩)⟩))
    obtain ⟨_, c, h1, rfl⟩ := y
    rw [List.getElem?_map] at hd
    obtain ⟨k, h2, rfl⟩ := Option.map_eq_some_iff.mp hd
    have : k = c := by
      simp only [toS, List.getElem?_toArray] at h1
      rw [h2] at h1; cases h1; rfl
    subst this
    exact .str [k]
  · rename_i ys
    subst e
    cases r with
    | tup o f hq hd rs => exact .inr (.inl ⟨_, _, rfl, .inl (.inr ⟨o, hq⟩), h _ (WalkD.of walk_tup rs.len (fun F' H' l => .inl (.inr ⟨o, ((l _ f).2.trans hq)⟩)) rs)⟩)
  · rename_i ys
    subst e
    cases r with
    | lst f hq rs => exact .inl ⟨_, _, rfl, .of hq, h _ (WalkD.of walk_list rs.len (fun F' H' l => .of ((l _ f).2.trans hq)) rs)⟩
  · rename_i kd
    subst e
    cases r with
    | dct o f hq rs =>
      refine .inr (.inr (.inr ⟨_, o, _, rfl, hq, h _ (WalkD.of (vs := (_ : List (Key × V)).map fun kv => kV kv.1) (walk_keys.mono (fun _ g => g) fun i H' x H2 _ _ y => ⟨y.1, ?_⟩) (by rw [rs.len, List.length_map]) (fun F' H' l => (l _ f).2.trans hq) (rs.keys (K := []) F C H))⟩))
      obtain ⟨_, k, v, h1, rfl⟩ := y
      rw [List.getElem?_map, h1]
      rfl
end
end Hg
end
section
set_option Elab.async false
set_option linter.all false
set_option autoImplicit false
set_option maxRecDepth 100000
set_option maxHeartbeats 1000000
/-! A15: sources as trees; comprehensions. -/
namespace Hg
open PySem PySem.Spec PyProof.Rows PySem.SeqAt L2
theorem attr_base {o : Expr} {nm : Str} {env : PySem.Env} {m : Sem Value} (h : notCall o = true) : attributeBase o nm env m = m := by
  cases o <;> first | rfl | (exfalso; revert h; simp [notCall]; done)
theorem walk_zipTT {K : PySem.W.Frag} {a b : Addr} {xs ys : List V} {n : Nat} (hn : n = min xs.length ys.length) : Walk (RZ.ItzT K a b) n (fun H => SqT K H a xs ∧ SqT K H b ys) (YPair (fun i => xs[i]?) (fun i => ys[i]?)) := by
  subst hn
  refine ⟨fun i G hi q => ?_, fun _ q => ⟨xs, ys, q.1, q.2, by omega⟩, fun i G v G' _ q y => ?_⟩
  · obtain ⟨h1, h2⟩ : i < xs.length ∧ i < ys.length := by omega
    exact ⟨xs, ys, xs[i], ys[i], q.1, q.2, by simp [h1], by simp [h2]⟩
  · obtain ⟨p, x, z, h1, h2, h3, h4, h5⟩ := y
    exact ⟨p, x, z, h1, h2, h3, h4 _ q.1, h5 _ q.2⟩
section
variable {W : Lw} {n : Nat} {X : Cx} {N : List Str} {sc : ScN} {Ex : Sg → XK} {L : Pl} {ev : E → Env → M D} {a b c : Expr} {pos : Pos}
theorem src_fin {k : SrcK} {j : Nat} {vs : List V} {σ : Sg} {H : Hp} {R : It → Hp → Prop} (h : SK (RC R0 (RLn j) vs) RJ L Ex (fun g env => M.ofO (srcD k g.2)) σ H R) :
    ∃ F C c ds xs, Cok L F C H c ∧ Reps L F C H vs ds ∧ srcD k ds = some xs ∧ ∀ J, WalkD L C F H J xs → R J H := by
  obtain ⟨F, C, env, c, ⟨_, ds⟩, si, ⟨_, rs, _⟩, o⟩ := h
  have o : Out RJ L F C H (Ex σ) R (M.ofO (srcD k ds) c) := o
  cases e : srcD k ds with
  | none => rw [e] at o; exact o.elim
  | some xs =>
    rw [e] at o
    exact ⟨F, C, c, ds, xs, si.cok, rs, e, fun J w => o J F H (.refl si.cok.fin) si.cok w⟩
theorem evL_one (e : E) (env : Env) {α : Type} (k : List D → M α) : (evL ev [e] env >>= k) = (ev e env >>= fun d => k [d]) := by
  funext c
  show M.bind (M.bind (ev e env) _) _ c = M.bind (ev e env) _ c
  unfold M.bind
  cases ev e env c <;> rfl
theorem SG.eq {α β : Type} {R : RTy β α} {m m' : Env → M α} {σ : Sg} {H : Hp} {Q : β → Hp → Prop} (e : ∀ env, m env = m' env) (h : SG R L Ex m σ H Q) : SG R L Ex m' σ H Q := by
  have : m = m' := funext e
  rw [← this]
  exact h
/-- a tuple as target where the walk makes pairs -/
def tupIf (t : Bool) (e : Expr) : Prop := t = true → ∃ es k p, e = .Tuple es k p
theorem srcOf_e {t : Bool} {x : Expr} {xs : List Expr} (h : srcOf sc t .e x = some xs) : xs = [x] := by
  simp only [srcOf, Option.ite_none_right_eq_some, Option.some.injEq] at h
  exact h.2.symm
theorem len_of {F : Fz} {C : List Addr} {H : Hp} {vs : List V} {ds : List D} {j : Nat} (h : Reps L F C H vs ds) (e : ds.length = j) : vs.length = j := h.len.trans e
theorem zipT_len : ∀ {xs ys : List D}, (zipT xs ys).length = min xs.length ys.length
  | [], ys => by simp [zipT]
  | x :: xs, [] => by simp [zipT]
  | x :: xs, y :: ys => by simp [zipT, zipT_len (xs := xs) (ys := ys)]
theorem zipT_at : ∀ {xs ys : List D} {i : Nat} {d : D}, (zipT xs ys)[i]? = some d → ∃ x y, d = .pr [x, y] ∧ xs[i]? = some x ∧ ys[i]? = some y
  | [], ys, i, d, h => by simp [zipT] at h
  | x :: xs, [], i, d, h => by simp [zipT] at h
  | x :: xs, y :: ys, 0, d, h => by
    simp only [zipT, List.getElem?_cons_zero, Option.some.injEq] at h
    exact ⟨x, y, h.symm, rfl, rfl⟩
  | x :: xs, y :: ys, i + 1, d, h => by
    simp only [zipT, List.getElem?_cons_succ] at h
    obtain ⟨u, v, h1, h2, h3⟩ := zipT_at h
    exact ⟨u, v, h1, by simpa using h2, by simpa using h3⟩
theorem enumL_len : ∀ {xs : List D} {k : Nat}, (enumL k xs).length = xs.length
  | [], _ => rfl
  | x :: xs, k => by simp [enumL, enumL_len (xs := xs)]
theorem enumL_at : ∀ {xs : List D} {k i : Nat} {d : D}, (enumL k xs)[i]? = some d → ∃ x, d = .pr [.int ((k + i : Nat) : Int), x] ∧ xs[i]? = some x
  | [], k, i, d, h => by simp [enumL] at h
  | x :: xs, k, 0, d, h => by
    simp only [enumL, List.getElem?_cons_zero, Option.some.injEq] at h
    exact ⟨x, h.symm, rfl⟩
  | x :: xs, k, i + 1, d, h => by
    simp only [enumL, List.getElem?_cons_succ] at h
    obtain ⟨u, h1, h2⟩ := enumL_at h
    exact ⟨u, by rw [h1, show k + 1 + i = k + (i + 1) by omega], by simpa using h2⟩
theorem repK_at {F : Fz} {C : List Addr} {H : Hp} : ∀ {kvs : List (Key × V)} {ds : List (T × D)} {i : Nat} {k : T} {d : D}, RepK L F C H kvs ds → ds[i]? = some (k, d) → ∃ v, kvs[i]? = some (.inr (toS k), v) ∧ Rep L F C H v d
  | _, _, _, _, _, .nil, h => by simp at h
  | _, _, 0, _, _, .cons r _, h => by
    simp only [List.getElem?_cons_zero, Option.some.injEq, Prod.mk.injEq] at h
    obtain ⟨rfl, rfl⟩ := h
    exact ⟨_, rfl, r⟩
  | _, _, i + 1, _, _, .cons _ r, h => by
    simp only [List.getElem?_cons_succ] at h
    obtain ⟨v, h1, h2⟩ := repK_at r h
    exact ⟨v, by simpa using h1, h2⟩
theorem snd_src (hX : CxOk W n X N sc Ex) (hF : Facts W) {k : SrcK} {es : List E} {xs : List Expr} {tg iter : Expr} (h : srcOf sc (isTupE tg) k iter = some xs) (ha : AllPE X W.L Ex ev es xs) :
    PI X tg iter (SG RJ W.L Ex fun env => do let ds ← evL ev es env; M.ofO (srcD k ds)) := by
  have hb : ∀ {x : String} {id : Str}, x ∈ bltNames → gloB sc id x = true → id = Str.ofString x ∧ Gl X (Str.ofString x) ∧ X.mg (Str.ofString x) = none := fun hm hg => by
    obtain ⟨rfl, h1⟩ := gloB_of hg
    exact ⟨rfl, hX.gl _ h1, by rw [hX.mg]; exact hF.blt _ hm⟩
  have htup : isTupE tg = true → ∃ es k p, tg = .Tuple es k p := fun ht => by
    cases tg <;> first | exact ⟨_, _, _, rfl⟩ | simp [isTupE] at ht
  have two : ∀ {σ H R}, SG RJ W.L Ex (fun env => do let ds ← evL ev es env; M.ofO (srcD k ds)) σ H R → SG (RLn es.length) W.L Ex (evL ev es) σ H fun vs H1 => ∃ F C c ds xs, Cok W.L F C H1 c ∧ Reps W.L F C H1 vs ds ∧ srcD k ds = some xs ∧ ∀ J, WalkD W.L C F H1 J xs → R J H1 :=
    fun q => (SG.bind (R := RLn es.length) (k := fun ds env => M.ofO (srcD k ds)) q).imp fun vs H1 h1 => src_fin h1
  cases k with
  | e =>
    rw [srcOf_e h] at ha
    obtain ⟨e, rfl, hp, he⟩ := ha.one
    refine PIimp (pi_val he) fun σ H R q => ?_
    have q := SG.eq (fun env => evL_one e env _) q
    refine (SG.bind (R := RV) (k := fun d env => M.ofO (srcD .e [d])) q).imp fun v H1 h1 => ?_
    obtain ⟨F, C, env, c, ⟨_, d⟩, si, ⟨_, r⟩, o⟩ := h1
    have o : Out RJ W.L F C H1 (Ex σ) R (M.ofO (srcD .e [d]) c) := o
    cases e2 : srcD .e [d] with
    | none => rw [e2] at o; exact o.elim
    | some ys =>
      rw [e2] at o
      exact src_e r e2 fun J w => o J F H1 (.refl si.cok.fin) si.cok w
  | rng1 =>
    unfold srcOf at h
    split at h <;> first | contradiction | skip
    all_goals simp only [Option.ite_none_right_eq_some, Option.some.injEq, reduceCtorEq] at h
    obtain ⟨hg, rfl⟩ := h
    obtain ⟨rfl, g1, g2⟩ := hb (by decide) hg
    have hp := ha.plain
    simp only [allPlain, Bool.and_eq_true] at hp
    refine PIimp (pi_range1 g1 g2 ha.pa (by rw [star_cons hp.1]; rfl)) fun σ H R q => (two q).imp fun vs H1 ⟨F, C, c, ds, ys, ck, rs, e, hw⟩ => ?_
    unfold srcD at e
    split at e <;> first | contradiction | skip
    all_goals simp only [Option.ite_none_right_eq_some, Option.some.injEq, reduceCtorEq] at e
    obtain ⟨hn, rfl⟩ := e
    obtain ⟨v, rfl, rv⟩ := len1 rs
    cases rep_int rv
    refine ⟨_, rfl, by omega, by omega, hw _ (WalkD.fn walk_range (by rw [rngL_len]; simp) (fun _ _ _ => trivial) fun i H' x H2 d hd y => ⟨y.1, fun F' => ?_⟩)⟩
    rw [y.2, rngL_at hd]
    exact .int _
  | rng2 =>
    unfold srcOf at h
    split at h <;> first | contradiction | skip
    all_goals simp only [Option.ite_none_right_eq_some, Option.some.injEq, reduceCtorEq] at h
    obtain ⟨hg, rfl⟩ := h
    obtain ⟨rfl, g1, g2⟩ := hb (by decide) hg
    have hp := ha.plain
    simp only [allPlain, Bool.and_eq_true] at hp
    refine PIimp (pi_range2 g1 g2 ha.pa (by rw [star_cons hp.1, star_cons hp.2.1]; rfl) (by rw [star_cons hp.2.1]; rfl)) fun σ H R q => (two q).imp fun vs H1 ⟨F, C, c, ds, ys, ck, rs, e, hw⟩ => ?_
    unfold srcD at e
    split at e <;> first | contradiction | skip
    all_goals simp only [Option.ite_none_right_eq_some, Option.some.injEq, reduceCtorEq] at e
    obtain ⟨hn, rfl⟩ := e
    obtain ⟨v, w, rfl, rv, rw'⟩ := len2 rs
    cases rep_int rv
    cases rep_int rw'
    refine ⟨_, _, rfl, by omega, hw _ (WalkD.fn walk_range (by rw [rngL_len]) (fun _ _ _ => trivial) fun i H' x H2 d hd y => ⟨y.1, fun F' => ?_⟩)⟩
    rw [y.2, rngL_at hd]
    exact .int _
  | zip =>
    unfold srcOf at h
    split at h <;> first | contradiction | skip
    all_goals simp only [Option.ite_none_right_eq_some, Option.some.injEq, reduceCtorEq, Bool.and_eq_true] at h
    obtain ⟨⟨hg, ht⟩, rfl⟩ := h
    obtain ⟨rfl, g1, g2⟩ := hb (by decide) hg
    obtain ⟨ts, kk, tp, rfl⟩ := htup ht
    have hp := ha.plain
    simp only [allPlain, Bool.and_eq_true] at hp
    refine PIimp (RZ.pi_zipA g1 g2 ha.pa (star_cons hp.1) (back_plain (by simp [allPlain, hp.2.1]))) fun σ H R q => (two q).imp fun vs H1 ⟨F, C, c, ds, ys, ck, rs, e, hw⟩ => ?_
    unfold srcD at e
    split at e <;> first | contradiction | skip
    all_goals simp only [Option.ite_none_right_eq_some, Option.some.injEq, reduceCtorEq] at e
    · rename_i xs ys
      subst e
      obtain ⟨v, w, rfl, rv, rw'⟩ := len2 rs
      cases rv with
      | lst f1 h1 r1 => cases rw' with
        | lst f2 h2 r2 =>
          refine ⟨_, _, _, _, rfl, .inl ⟨.of h1, .of h2, hw _ (WalkD.prs (walk_zip rfl) (by rw [zipT_len, r1.len, r2.len]) (fun F' H' l => ⟨.of ((l _ f1).2.trans h1), .of ((l _ f2).2.trans h2)⟩) fun i d x y hd hx hy => ?_)⟩⟩
          obtain ⟨u, w, rfl, q1, q2⟩ := zipT_at hd
          obtain ⟨x', e1, e2⟩ := r1.at q1
          obtain ⟨y', e3, e4⟩ := r2.at q2
          rw [hx] at e1; cases e1
          rw [hy] at e3; cases e3
          exact ⟨u, w, rfl, e2, e4⟩
    · rename_i xs ys
      subst e
      obtain ⟨v, w, rfl, rv, rw'⟩ := len2 rs
      cases rv with
      | tup o1 f1 h1 d1 r1 => cases rw' with
        | tup o2 f2 h2 d2 r2 =>
          refine ⟨_, _, _, _, rfl, .inr ⟨.inl (.inr ⟨o1, h1⟩), .inl (.inr ⟨o2, h2⟩), hw _ (WalkD.prs (walk_zipTT rfl) (by rw [zipT_len, r1.len, r2.len]) (fun F' H' l => ⟨.inl (.inr ⟨o1, (l _ f1).2.trans h1⟩), .inl (.inr ⟨o2, (l _ f2).2.trans h2⟩)⟩) fun i d x y hd hx hy => ?_)⟩⟩
          obtain ⟨u, w, rfl, q1, q2⟩ := zipT_at hd
          obtain ⟨x', e1, e2⟩ := r1.at q1
          obtain ⟨y', e3, e4⟩ := r2.at q2
          rw [hx] at e1; cases e1
          rw [hy] at e3; cases e3
          exact ⟨u, w, rfl, e2, e4⟩
  | enum =>
    unfold srcOf at h
    split at h <;> first | contradiction | skip
    all_goals simp only [Option.ite_none_right_eq_some, Option.some.injEq, reduceCtorEq, Bool.and_eq_true] at h
    obtain ⟨⟨hg, ht⟩, rfl⟩ := h
    obtain ⟨rfl, g1, g2⟩ := hb (by decide) hg
    obtain ⟨ts, kk, tp, rfl⟩ := htup ht
    have hp := ha.plain
    simp only [allPlain, Bool.and_eq_true] at hp
    refine PIimp (pi_enum g1 g2 ha.pa (by rw [star_cons hp.1]; rfl)) fun σ H R q => (two q).imp fun vs H1 ⟨F, C, c, ds, ys, ck, rs, e, hw⟩ => ?_
    unfold srcD at e
    split at e <;> first | contradiction | skip
    all_goals simp only [Option.some.injEq, reduceCtorEq] at e
    subst e
    obtain ⟨v, rfl, rv⟩ := len1 rs
    cases rv with
    | lst f1 h1 r1 =>
      refine ⟨_, _, rfl, .of h1, hw _ (WalkD.prs walk_enum (by rw [enumL_len, r1.len]) (fun F' H' l => .of ((l _ f1).2.trans h1)) fun i d x y hd hx hy => ?_)⟩
      obtain ⟨u, rfl, q1⟩ := enumL_at hd
      obtain ⟨y', e1, e2⟩ := r1.at q1
      rw [hy] at e1; cases e1
      cases hx
      exact ⟨_, u, rfl, by rw [Nat.zero_add]; exact .int _, e2⟩
  | items =>
    unfold srcOf at h
    split at h <;> first | contradiction | skip
    all_goals simp only [Option.ite_none_right_eq_some, Option.some.injEq, reduceCtorEq, Bool.and_eq_true, beq_iff_eq] at h
    obtain ⟨⟨⟨⟨hnm, hl⟩, hc⟩, ht⟩, rfl⟩ := h
    subst hnm
    obtain ⟨ts, kk, tp, rfl⟩ := htup ht
    obtain ⟨e, rfl, hp, he⟩ := ha.one
    rename_i o _ _ _ _
    refine PIimp (pi_items he (attr_base hc) (by simpa using hl)) fun σ H R q => ?_
    have q := SG.eq (fun env => evL_one e env _) q
    refine (SG.bind (R := RV) (k := fun d env => M.ofO (srcD .items [d])) q).imp fun v H1 h1 => ?_
    obtain ⟨F, C, env, c, ⟨_, d⟩, si, ⟨_, r⟩, o⟩ := h1
    have o : Out RJ W.L F C H1 (Ex σ) R (M.ofO (srcD .items [d]) c) := o
    cases e2 : srcD .items [d] with
    | none => rw [e2] at o; exact o.elim
    | some ys =>
      rw [e2] at o
      cases d <;> simp only [srcD, reduceCtorEq, Option.some.injEq] at e2
      subst e2
      cases r with
      | dct ob f hq rs =>
        refine ⟨_, ob, _, rfl, hq, o _ F H1 (.refl si.cok.fin) si.cok (WalkD.prs walk_items (by rw [rs.len, List.length_map]) (fun F' H' l => (l _ f).2.trans hq) fun i d x y hd hx hy => ?_)⟩
        rw [List.getElem?_map] at hd
        obtain ⟨⟨k, d'⟩, h3, rfl⟩ := Option.map_eq_some_iff.mp hd
        obtain ⟨w, h4, h5⟩ := repK_at rs h3
        simp only [h4, Option.map_some, Option.some.injEq] at hx hy
        subst hx hy
        exact ⟨_, _, rfl, .str k, h5⟩
end
end Hg
end
section
set_option Elab.async false
set_option linter.all false
set_option autoImplicit false
set_option maxRecDepth 100000
set_option maxHeartbeats 1000000
/-! A16: comprehensions. -/
namespace Hg
open PySem PySem.Spec PyProof.Rows PySem.SeqAt L2
/-- no exception may leave a comprehension's block -/
abbrev Ex0 : Sg → XK := fun _ _ _ _ => False
section
variable {L : Pl} {F : Fz} {C : List Addr} {σ : Sg} {H : Hp} {env : Env} {c : Cells}
theorem SI.wipe1 (s : SI L F C σ H env c) (i : Nat) : SI L F C (σ.set i none) H (env.set i .emp) c := by
  have side : ∀ (m : Nat) (sl : Slot), (env.set i .emp)[m]? = some sl → sl ≠ .emp → i ≠ m ∧ env[m]? = some sl := fun m sl h ne => by
    by_cases e : i = m
    · subst e
      by_cases hl : i < env.length
      · rw [List.getElem?_set_self hl] at h; cases h; exact absurd rfl ne
      · rw [List.getElem?_eq_none (by simp; omega)] at h; cases h
    · rw [List.getElem?_set_ne e] at h
      exact ⟨e, h⟩
  refine ⟨s.cok, by simp [s.len], fun j d h => ?_, fun j d h => ?_, fun j k a d d' hjk h1 h2 h3 h4 => ?_⟩
  · obtain ⟨e, h⟩ := side j _ h (by simp)
    rw [List.getElem?_set_ne e]
    exact s.val j d h
  · obtain ⟨e, h⟩ := side j _ h (by simp)
    rw [List.getElem?_set_ne e]
    exact s.own j d h
  · obtain ⟨e1, h1⟩ := side j _ h1 (by simp)
    obtain ⟨e2, h2⟩ := side k _ h2 (by simp)
    rw [List.getElem?_set_ne e1] at h3
    rw [List.getElem?_set_ne e2] at h4
    exact s.dis j k a d d' hjk h1 h2 h3 h4
theorem SI.wipe (s : SI L F C σ H env c) : ∀ vs : List Nat, SI L F C (L2.wipe σ vs) H (wipeE env vs) c
  | [] => s
  | v :: vs => (SI.wipe s vs).wipe1 v
theorem wipe_get {σ : Sg} {i : Nat} : ∀ {vs : List Nat}, i ∈ vs → i < σ.length → (L2.wipe σ vs)[i]? = some none
  | v :: vs, h, hl => by
    by_cases e : v = i
    · subst e
      show ((L2.wipe σ vs).set v none)[v]? = _
      rw [List.getElem?_set_self (by rw [L2.wipe_length]; exact hl)]
    · show ((L2.wipe σ vs).set v none)[i]? = _
      rw [List.getElem?_set_ne e]
      exact wipe_get (by simpa [Ne.symm e] using h) hl
theorem wipe_not {σ : Sg} {i : Nat} : ∀ {vs : List Nat}, i ∉ vs → (L2.wipe σ vs)[i]? = σ[i]?
  | [], _ => rfl
  | v :: vs, h => by
    simp only [List.mem_cons, not_or] at h
    show ((L2.wipe σ vs).set v none)[i]? = _
    rw [List.getElem?_set_ne (Ne.symm h.1)]
    exact wipe_not h.2
theorem wipe_back {σ σ2 : Sg} {vs : List Nat} (hl : σ2.length = (L2.wipe σ vs).length) (h : ∀ i, i ∉ vs → σ2[i]? = (L2.wipe σ vs)[i]?) : L2.wipe σ2 vs = L2.wipe σ vs := by
  apply List.ext_getElem?
  intro i
  by_cases hi : i ∈ vs
  · by_cases hb : i < σ.length
    · rw [wipe_get hi hb, wipe_get hi (by rw [hl, L2.wipe_length]; exact hb)]
    · rw [List.getElem?_eq_none (by rw [L2.wipe_length, hl, L2.wipe_length]; omega), List.getElem?_eq_none (by rw [L2.wipe_length]; omega)]
  · rw [wipe_not hi, h i hi]
end
/-! ### the block's context -/
theorem relab_free {env : PySem.Env} : ∀ {names : List (Str × NameKind)} {x : Str}, names.lookup x = some .free →
    (names.map fun (n, k) => if (k == NameKind.free && env.scope.kind == .function && env.kindOf n == some .cell) then (n, NameKind.cell) else (n, k)).lookup x = some .cell ∨
    (names.map fun (n, k) => if (k == NameKind.free && env.scope.kind == .function && env.kindOf n == some .cell) then (n, NameKind.cell) else (n, k)).lookup x = some .free
  | [], _, h => by simp at h
  | (m, k) :: r, x, h => by
    have ih := @relab_free env r x
    rw [List.map_cons]
    cases hx : x == m with
    | true =>
      simp only [List.lookup_cons, hx, Option.some.injEq] at h
      subst h
      by_cases hc : ((NameKind.free == NameKind.free) && env.scope.kind == .function && env.kindOf m == some .cell) = true
      · left; simp only [hc, if_true, List.lookup_cons, hx]
      · right; simp only [hc, Bool.false_eq_true, if_false, List.lookup_cons, hx]
    | false =>
      simp only [List.lookup_cons, hx] at h
      by_cases hc : (k == NameKind.free && env.scope.kind == .function && env.kindOf m == some .cell) = true
      · simp only [hc, if_true, List.lookup_cons, hx]; exact ih h
      · simp only [hc, Bool.false_eq_true, if_false, List.lookup_cons, hx]; exact ih h
theorem relab_keep {env : PySem.Env} {names : List (Str × NameKind)} {x : Str} {k : NameKind} (hk : k ≠ .free) (h : names.lookup x = some k) :
    (names.map fun (n, k) => if (k == NameKind.free && env.scope.kind == .function && env.kindOf n == some .cell) then (n, NameKind.cell) else (n, k)).lookup x = some k :=
  lookup_relS_keep (sc := env.scope) hk h
section
variable {W : Lw} {n : Nat} {X : Cx} {N : List Str} {sc : ScN} {Ex : Sg → XK}
theorem blk_cx (hX : CxOk W n X N sc Ex) {scope : Scope} (s : Shared) (H : Hp) (A : Addr) (cl : List (Str × Addr)) (fp : List Addr) : CxOk W n (X.blk s H scope (compEnvC scope cl A X.env) fp) N scope.names Ex0 where
  prog := hX.prog
  w := hX.w
  K := hX.K
  mg := hX.mg
  base := hX.base
  nms := hX.nms
  nd := hX.nd
  calm := hX.calm
  room := hX.room
  vis := fun x h => by
    unfold isVis at h
    split at h
    · rename_i e; exact .inl (relab_keep (env := X.env) (by simp) e)
    · rename_i e; exact .inr (.inl (relab_keep (env := X.env) (by simp) e))
    · rename_i e
      rcases relab_free (env := X.env) e with h | h
      · exact .inr (.inl h)
      · exact .inr (.inr h)
    · cases h
  gl := fun x h => relab_keep (env := X.env) (by simp) h
  loc := fun x h => relab_keep (env := X.env) (by simp) h
  cel := fun x h => ⟨relab_keep (env := X.env) (by simp) h, by
    show (scope.names.lookup x == some .cell) = true
    rw [h]; rfl⟩
  fre := fun x h => relab_free (env := X.env) h
  pass := fun σ pins H' s' e s2 _ c => by
    obtain ⟨_, _, _, _, _, _, _, _, _, _, _, _, z⟩ := c
    exact z.elim
theorem blk_ok (hX : CxOk W n X N sc Ex) {scope : Scope} {vs : List Nat} (h : blkM N sc scope vs = true) : BlkOk X.N X.env.scope scope (ownOf N vs) := by
  unfold blkM at h
  simp only [Bool.and_eq_true, List.all_eq_true, decide_eq_true_eq] at h
  obtain ⟨⟨⟨h1, h2⟩, h3⟩, h4⟩ := h
  refine ⟨by revert h1; cases scope.kind <;> simp, fun y hy => h2 y hy, fun p hp => ?_, fun y hy e => ?_, fun y hy e => ?_⟩
  · unfold ownOf at hp
    obtain ⟨i, hi, rfl⟩ := List.mem_map.mp hp
    rw [hX.nms]
    have := h3 i hi
    simp [List.getElem?_eq_getElem this, List.getD]
  · have q := h4 y hy
    rw [e] at q
    dsimp only at q
    split at q
    · rename_i z; exact .inl (hX.cel _ z).1
    · rename_i z; exact hX.fre _ z
    · cases q
  · have q := h4 y hy
    rw [hX.nms]
    rcases e with e | e <;> rw [e] at q <;> simpa using q
theorem own_snd {N : List Str} {vs : List Nat} : (ownOf N vs).map (·.2) = vs := by
  unfold ownOf
  rw [List.map_map]
  exact (List.map_congr_left fun i _ => rfl).trans (List.map_id vs)
end
/-! ### a private thing changes -/
section
variable {L : Pl} {F F' : Fz} {C : List Addr} {H H' : Hp} {c : Cells} {p : Addr} {ob : HO}
theorem Cok.updNew (ck : Cok L F C H c) (nF : ¬ F p) (nC : p ∉ C) : Cok L F C (upd H p ob) c where
  len := ck.len
  nd := ck.nd
  own := fun i b d h1 h2 => (ck.own i b d h1 h2).mono (fun x f => ⟨f, upd_ne fun e => nF (e ▸ f)⟩) (fun _ _ h => h) (upd_ne fun e => nC (e ▸ List.mem_of_getElem? h1))
  ap := ck.ap
  fin := fun x f => by rw [upd_ne (show x ≠ p from fun e => nF (e ▸ f))]; exact ck.fin x f
  nc := ck.nc
theorem Ext.updNew (e : Ext F C H F' H') (hp : H p = none) (nF : ¬ F' p) : Ext F C H F' (upd H' p ob) where
  mono := e.mono
  new := e.new
  keep := fun x o h n => by rw [upd_ne (ne_of_none h hp)]; exact e.keep x o h n
  trk := fun x h => by
    by_cases q : x = p
    · subst q; rw [upd_same]; simp
    · rw [upd_ne q]; exact e.trk x h
  fin := fun x f => by rw [upd_ne (show x ≠ p from fun q => nF (q ▸ f))]; exact e.fin x f
theorem Reps.updNew {vs : List V} {ds : List D} (r : Reps L F C H vs ds) (nF : ¬ F p) : Reps L F C (upd H p ob) vs ds := r.mono (fun x f => ⟨f, upd_ne (show x ≠ p from fun e => nF (e ▸ f))⟩) fun _ _ h => h
end
/-! ### the turns -/
theorem calm_eq {α β : Type} {m1 m2 : M α} {f : α → M β} {c1 c2 : Cells} (h : m1 c1 = m2 c2) : (M.calm m1 >>= f) c1 = (M.calm m2 >>= f) c2 := by
  show M.bind _ _ c1 = M.bind _ _ c2
  unfold M.bind M.calm
  rw [h]
section
variable {tg : Tg} {tt te : Env → M D} {env env' : Env} {d : D} {r acc : List D} {c c2 c3 : Cells}
theorem lcL_none (h : bindT tg d env = none) : lcL tg tt te env (d :: r) acc c = .bad := by
  unfold lcL; rw [h]; rfl
theorem lcL_some (h : bindT tg d env = some env') : lcL tg tt te env (d :: r) acc = (do
      if ← M.toB (tt env') then
        let y ← te env'
        if acc.length < 1000000 then lcL tg tt te env r (acc ++ [y]) else M.bad
      else lcL tg tt te env r acc) := by
  conv => lhs; unfold lcL
  rw [h]
end
theorem fold_id {ix : Expr} {env : PySem.Env} (hst : notSet ix = true) : ∀ x, foldedSetIterable ix env x = pure x := fun x => by cases ix <;> first | rfl | (exfalso; revert hst; simp [notSet]; done)
section
variable {W : Lw} {n : Nat} {X : Cx} {N : List Str} {sc : ScN} {Ex : Sg → XK} {ex tx ix : Expr} {pos : Pos}
/-- what follows a row that is made calmly -/
def OKm (Kf : List D → Cells → Prop) (m : M (List D)) (c : Cells) : Prop := match m c with
  | .ok a c' => Kf a c'
  | _ => False
theorem OKm_eq {Kf : List D → Cells → Prop} {m1 m2 : M (List D)} {c1 c2 : Cells} (h : m1 c1 = m2 c2) : OKm Kf m1 c1 = OKm Kf m2 c2 := by
  unfold OKm; rw [h]
/-- what a comprehension's rule asks behind its source -/
def tLcK (g : TG) (tt : TT) (te : TE) (vs : List Nat) (σ : Sg) (J : It) (H1 : Hp) (Q : VK) : Prop := ∀ D, H1 D = none → ∃ W : Nat → Nat → Hp → Prop, (∃ m, W 0 m (upd H1 D (.lst []))) ∧ ∀ i m H, W i m H →
  (J.stop i H ∧ Q (.ref D) H) ∨ (J.go i H ∧ ∃ Nx : Hp → Prop, (∀ H', Nx H' → ∃ m', m' < m ∧ W (i + 1) m' H') ∧ ∀ x H', J.yld i H x H' → g x (L2.wipe σ vs) H' fun σ2 H2 => L2.wipe σ2 vs = L2.wipe σ vs ∧ tt σ2 H2 fun b H3 =>
    if b = true then te σ2 H3 fun y H4 => ∃ acc, H4 D = some (.lst acc) ∧ acc.length < sizeLine ∧ Nx (upd H4 D (.lst (acc ++ [y]))) else Nx H3)
theorem lc_go {tg : Tg} {vs : List Nat} {mt me : Env → M D} (hv : subNat (slotsT tg) vs = true) {σ : Sg} {Q : VK} {F : Fz} {C : List Addr} {H1 : Hp} {env : Env} {c : Cells} {J : It} {xs : List D} (si : SI W.L F C σ H1 env c) (w : WalkD W.L C F H1 J xs) {Kf : List D → Cells → Prop}
    (fin : ∀ (p : Addr), H1 p = none → p ∉ C → ¬ F p → ∀ (F' : Fz) (H' : Hp) (c' : Cells) (ws : List V) (acc : List D), Ext F C H1 F' H' → Cok W.L F' C H' c' → H' p = some (.lst ws) → Reps W.L F' C H' ws acc → ¬ F' p → Kf acc c' → Q (.ref p) H')
    (o : OKm Kf (lcL tg mt me (wipeE env vs) xs []) c) : tLcK (gT W.L tg) (SB W.L Ex0 fun env => M.toB (mt env)) (SE W.L Ex0 me) vs σ J H1 Q := by
  intro p hp
  have hpC : p ∉ C := fun z => si.cok.trk p z hp
  have hpF : ¬ F p := fun z => si.cok.fin p z hp
  -- the turns' property
  let Pv : Nat → Hp → Prop := fun i H' => ∃ F' c' ws acc, H' p = some (.lst ws) ∧ Reps W.L F' C H' ws acc ∧ ¬ F' p ∧ Ext F C H1 F' H' ∧ Cok W.L F' C H' c' ∧
    OKm Kf (lcL tg mt me (wipeE env vs) (xs.drop i) acc) c'
  refine ⟨fun i m H' => m = xs.length - i ∧ i ≤ xs.length ∧ Pv i H', ⟨xs.length, by simp, Nat.zero_le _, ?_⟩, ?_⟩
  · exact ⟨F, c, [], [], upd_same, .nil, hpF, (Ext.refl si.cok.fin).updNew hp hpF, si.cok.updNew hpF hpC, o⟩
  rintro i m H' ⟨rfl, hi, F', c', ws, acc, hl, rs, nF, ext, ck, o⟩
  have lat : Lat F H1 F' H' := Lat.of ext si.cok.ap si.cok.fin
  by_cases hlt : i < xs.length
  · refine .inr ⟨w.go i F' H' hlt lat, Pv (i + 1), fun H2 h2 => ⟨xs.length - (i + 1), by omega, rfl, hlt, h2⟩, fun x H2 hy => ?_⟩
    obtain ⟨F2, ext2, rx⟩ := w.yld i F' H' x H2 xs[i] lat ck.fin (List.getElem?_eq_getElem hlt) hy
    have ck2 : Cok W.L F2 C H2 c' := ck.ext0 ext2
    have extA : Ext F C H1 F2 H2 := ext.trans (ext2.cells (by simp))
    have siA : SI W.L F2 C (L2.wipe σ vs) H2 (wipeE env vs) c' := (si.step extA ck2).wipe vs
    have hd : xs.drop i = xs[i] :: xs.drop (i + 1) := by rw [List.drop_eq_getElem_cons hlt]
    rw [hd] at o
    cases eb : bindT tg xs[i] (wipeE env vs) with
    | none =>
      exfalso
      have z : lcL tg mt me (wipeE env vs) (xs[i] :: xs.drop (i + 1)) acc c' = M.bad c' := lcL_none eb
      rw [OKm_eq z] at o
      exact o
    | some env' =>
      refine ⟨F2, C, c', xs[i], wipeE env vs, env', siA, rx, eb, fun σ2 si2 hl2 hk2 => ⟨wipe_back hl2 fun j hj => hk2 j fun hj' => hj ?_, ?_⟩⟩
      · unfold subNat at hv
        rw [List.all_eq_true] at hv
        simpa using hv j hj'
      have p2 : H2 p = some (.lst ws) := ext2.keep p _ hl (by simp)
      refine ⟨F2, C, env', c', si2, ?_⟩
      have eq1 := lcL_some (tt := mt) (te := me) (r := xs.drop (i + 1)) (acc := acc) eb
      show Out RB W.L F2 C H2 (Ex0 σ2) _ (M.toB (mt env') c')
      cases e1 : M.toB (mt env') c' with
      | bad =>
        exfalso
        have z : lcL tg mt me (wipeE env vs) (xs[i] :: xs.drop (i + 1)) acc c' = M.bad c' := by rw [eq1]; exact M.bind_bad e1
        rw [OKm_eq z] at o
        exact o
      | exc y c2 =>
        exfalso
        have z : lcL tg mt me (wipeE env vs) (xs[i] :: xs.drop (i + 1)) acc c' = (fun c => Res.exc y c) c2 := by rw [eq1]; exact M.bind_exc e1
        rw [OKm_eq z] at o
        exact o
      | ok b c2 =>
        intro b' F3 H3 ext3 ck3 rb
        have rb : b' = b := rb
        subst rb
        have si3 := si2.step ext3 ck3
        have ext3A : Ext F C H1 F3 H3 := extA.trans ext3
        have p3 : H3 p = some (.lst ws) := ext3.keep p _ p2 hpC
        have nF2 : ¬ F2 p := fun z => (ext2.new p z).elim nF fun z => by rw [hl] at z; cases z
        have nF3 : ¬ F3 p := fun z => (ext3.new p z).elim nF2 fun z => by rw [p2] at z; cases z
        have rs3 : Reps W.L F3 C H3 ws acc := ext3.reps ck2.ap ck2.fin (rs.mono (fun a f => ⟨ext2.mono a f, by
            cases h : H' a with
            | none => exact absurd h (ck.fin a f)
            | some ob => exact ext2.keep a ob h (by simp)⟩) fun _ _ h => h)
        cases b' with
        | false =>
          rw [if_neg (by simp)]
          have z : lcL tg mt me (wipeE env vs) (xs[i] :: xs.drop (i + 1)) acc c' = lcL tg mt me (wipeE env vs) (xs.drop (i + 1)) acc c2 := by rw [eq1]; exact M.bind_ok e1
          rw [OKm_eq z] at o
          exact ⟨F3, c2, ws, acc, p3, rs3, nF3, ext3A, ck3, o⟩
        | true =>
          rw [if_pos rfl]
          refine ⟨F3, C, env', c2, si3, ?_⟩
          cases e2 : me env' c2 with
          | bad =>
            exfalso
            have z : lcL tg mt me (wipeE env vs) (xs[i] :: xs.drop (i + 1)) acc c' = M.bad c2 := by rw [eq1]; exact (M.bind_ok e1).trans (M.bind_bad e2)
            rw [OKm_eq z] at o
            exact o
          | exc y c3 =>
            exfalso
            have z : lcL tg mt me (wipeE env vs) (xs[i] :: xs.drop (i + 1)) acc c' = (fun c => Res.exc y c) c3 := by rw [eq1]; exact (M.bind_ok e1).trans (M.bind_exc e2)
            rw [OKm_eq z] at o
            exact o
          | ok y c3 =>
            intro v F4 H4 ext4 ck4 rv
            have p4 : H4 p = some (.lst ws) := ext4.keep p _ p3 hpC
            have nF4 : ¬ F4 p := fun z => (ext4.new p z).elim nF3 fun z => by rw [p3] at z; cases z
            have rs4 : Reps W.L F4 C H4 ws acc := ext4.reps ck3.ap ck3.fin rs3
            by_cases hacc : acc.length < 1000000
            · have z : lcL tg mt me (wipeE env vs) (xs[i] :: xs.drop (i + 1)) acc c' = lcL tg mt me (wipeE env vs) (xs.drop (i + 1)) (acc ++ [y]) c3 := by
                rw [eq1]
                refine (M.bind_ok e1).trans ((M.bind_ok e2).trans ?_)
                rw [if_pos hacc]
              rw [OKm_eq z] at o
              have rr : Reps W.L F4 C H4 (ws ++ [v]) (acc ++ [y]) := rs4.app (.cons rv .nil)
              exact ⟨ws, p4, by rw [rs4.len]; have := two24; omega, F4, c3, ws ++ [v], acc ++ [y], upd_same, rr.updNew nF4, nF4, (ext3A.trans ext4).updNew hp nF4, ck4.updNew nF4 hpC, o⟩
            · exfalso
              have z : lcL tg mt me (wipeE env vs) (xs[i] :: xs.drop (i + 1)) acc c' = M.bad c3 := by
                rw [eq1]
                refine (M.bind_ok e1).trans ((M.bind_ok e2).trans ?_)
                rw [if_neg hacc]
              rw [OKm_eq z] at o
              exact o
  · have e : i = xs.length := by omega
    subst e
    refine .inl ⟨w.stop F' H' lat, ?_⟩
    rw [List.drop_length] at o
    have o : Kf acc c' := o
    exact fin p hp hpC hpF F' H' c' ws acc ext ck hl rs nF o
theorem lc_imp {tg : Tg} {vs : List Nat} {ms : Env → M (List D)} {mt me : Env → M D} (hv : subNat (slotsT tg) vs = true) {σ : Sg} {H : Hp} {Q : VK} (q : SE W.L Ex (fun env => do let xs ← ms env; let r ← M.calm (lcL tg mt me (wipeE env vs) xs []); pure (D.lst r)) σ H Q) :
    tLc (SG RJ W.L Ex ms) (gT W.L tg) (SB W.L Ex0 fun env => M.toB (mt env)) (SE W.L Ex0 me) ((ownOf N vs).map (·.2)) σ H Q := by
  rw [own_snd]
  refine (SG.bind (R := RJ) (k := fun xs env => do let r ← M.calm (lcL tg mt me (wipeE env vs) xs []); pure (D.lst r)) q).imp fun J H1 h1 => ?_
  obtain ⟨F, C, env, c, ⟨_, xs⟩, si, ⟨_, w⟩, o⟩ := h1
  have o : Out RV W.L F C H1 (Ex σ) Q ((M.calm (lcL tg mt me (wipeE env vs) xs []) >>= fun r => pure (D.lst r)) c) := o
  refine lc_go hv si w (Kf := fun acc c' => Out RV W.L F C H1 (Ex σ) Q ((pure (D.lst acc) : M D) c')) (fun p hp hpC hpF F' H' c' ws acc ext ck hl rs nF o => ?_) ?_
  · have o : ∀ v F2 H2, Ext F C H1 F2 H2 → Cok W.L F2 C H2 c' → Rep W.L F2 C H2 v (.lst acc) → Q v H2 := o
    have hne : H' p ≠ none := by rw [hl]; simp
    refine o (.ref p) (fun x => F' x ∨ x = p) H' ⟨fun x f => .inl (ext.mono x f), fun x f => f.elim (ext.new x) fun e => .inr (by rw [e]; exact hp), ext.keep, ext.trk, fun x f => f.elim (ext.fin x) fun e => by rw [e]; exact hne⟩ (addF ck hne hpC) ?_
    exact .lst (.inr rfl) hl (rs.mono (fun x f => ⟨.inl f, rfl⟩) fun _ _ h => h)
  · unfold OKm
    cases e : lcL tg mt me (wipeE env vs) xs [] c with
    | bad => rw [M.bind_bad (show M.calm (lcL tg mt me (wipeE env vs) xs []) c = .bad by unfold M.calm; rw [e])] at o; exact o
    | exc y c1 => rw [M.bind_bad (show M.calm (lcL tg mt me (wipeE env vs) xs []) c = .bad by unfold M.calm; rw [e])] at o; exact o
    | ok a c1 => rw [M.bind_ok (show M.calm (lcL tg mt me (wipeE env vs) xs []) c = .ok a c1 by unfold M.calm; rw [e])] at o; exact o
/-- what must be wanted of a thing that nobody else holds -/
def OutN (L : Pl) (F : Fz) (C : List Addr) (H : Hp) (Ex : XK) (Q : VK) : Res D → Prop
  | .ok d c' => ∀ (p : Addr) (F' : Fz) (H' : Hp), H p = none → Ext F C H F' H' → Cok L F' C H' c' → Own L F' C H' p d → ¬ F' p → p ∉ C → Q (.ref p) H'
  | .exc x c' => ∀ F' H', Ext F C H F' H' → Cok L F' C H' c' → Ex (.ref (L.er x)) none H'
  | .bad => False
/-- a reading whose value nobody else holds -/
def SGN (L : Pl) (Ex : Sg → XK) (m : Env → M D) : TE := fun σ H Q => ∃ F C env c, SI L F C σ H env c ∧ OutN L F C H (Ex σ) Q (m env c)
theorem lc_impN {tg : Tg} {vs : List Nat} {ms : Env → M (List D)} {mt me : Env → M D} (hv : subNat (slotsT tg) vs = true) {σ : Sg} {H : Hp} {Q : VK} (q : SGN W.L Ex (fun env => do let xs ← ms env; let r ← M.calm (lcL tg mt me (wipeE env vs) xs []); pure (D.lst r)) σ H Q) :
    tLc (SG RJ W.L Ex ms) (gT W.L tg) (SB W.L Ex0 fun env => M.toB (mt env)) (SE W.L Ex0 me) ((ownOf N vs).map (·.2)) σ H Q := by
  rw [own_snd]
  obtain ⟨F, C, env, c, si, o⟩ := q
  have o : OutN W.L F C H (Ex σ) Q ((ms env >>= fun xs => M.calm (lcL tg mt me (wipeE env vs) xs []) >>= fun r => pure (D.lst r)) c) := o
  refine ⟨F, C, env, c, si, ?_⟩
  cases e : ms env c with
  | bad => rw [M.bind_bad e] at o; exact o
  | exc x c1 => rw [M.bind_exc e] at o; exact o
  | ok xs c1 =>
    rw [M.bind_ok e] at o
    intro J F1 H1 ex1 ck1 w
    have si1 := si.step ex1 ck1
    refine lc_go hv si1 w (Kf := fun acc c' => OutN W.L F C H (Ex σ) Q ((pure (D.lst acc) : M D) c')) (fun p hp hpC hpF F' H' c' ws acc ext ck hl rs nF o => ?_) ?_
    · have o : ∀ (p : Addr) (F2 : Fz) (H2 : Hp), H p = none → Ext F C H F2 H2 → Cok W.L F2 C H2 c' → Own W.L F2 C H2 p (.lst acc) → ¬ F2 p → p ∉ C → Q (.ref p) H2 := o
      refine o p F' H' ?_ (ex1.trans ext) ck (.lst hl rs) nF hpC
      cases q : H p with
      | none => rfl
      | some u => exact absurd hp (ex1.trk p (by rw [q]; simp))
    · unfold OKm
      cases e : lcL tg mt me (wipeE env vs) xs [] c1 with
      | bad => rw [M.bind_bad (show M.calm (lcL tg mt me (wipeE env vs) xs []) c1 = .bad by unfold M.calm; rw [e])] at o; exact o
      | exc y c2 => rw [M.bind_bad (show M.calm (lcL tg mt me (wipeE env vs) xs []) c1 = .bad by unfold M.calm; rw [e])] at o; exact o
      | ok a c2 => rw [M.bind_ok (show M.calm (lcL tg mt me (wipeE env vs) xs []) c1 = .ok a c2 by unfold M.calm; rw [e])] at o; exact o
theorem snd_lc (hX : CxOk W n X N sc Ex) {ifs : List Expr} {scope : Scope} {tg : Tg} {vs : List Nat} {ms : Env → M (List D)} {mt me : Env → M D} (hs : PI X tx ix (SG RJ W.L Ex ms)) (hst : notSet ix = true) (hT : mT N scope.names tg tx = true) (hv : subNat (slotsT tg) vs = true) (hb : blkM N sc scope vs = true)
    (ht : ∀ Y, CxOk W n Y N scope.names Ex0 → PTs Y ifs (SB W.L Ex0 fun env => M.toB (mt env))) (he : ∀ Y, CxOk W n Y N scope.names Ex0 → PE Y ex (SE W.L Ex0 me)) :
    PE X (.ListComp ex [⟨tx, ix, ifs, 0⟩] scope pos) (SE W.L Ex fun env => do let xs ← ms env; let r ← M.calm (lcL tg mt me (wipeE env vs) xs []); pure (D.lst r)) := by
  refine PEimp (pe_lc hX.calm (by rw [hX.nms]; exact hX.nd) hs (blk_ok hX hb) (fun s H A cl fp => sndT (blk_cx hX s H A cl fp) tg tx hT) (fun s H A cl fp => ht _ (blk_cx hX s H A cl fp)) (fun s H A cl fp => he _ (blk_cx hX s H A cl fp)) (fold_id hst)) fun σ H Q q => lc_imp hv q
/-- name = [..] on one line -/
theorem ps_lcSwap (hX : CxOk W n X N sc Ex) {i : Nat} {y : Str} {py spos : Pos} {ifs : List Expr} {scope : Scope} {tg : Tg} {vs : List Nat} {ms : Env → M (List D)} {mt me : Env → M D} (hs : PI X tx ix (SG RJ W.L Ex ms)) (hst : notSet ix = true) (hT : mT N scope.names tg tx = true) (hv : subNat (slotsT tg) vs = true) (hb : blkM N sc scope vs = true)
    (ht : ∀ Y, CxOk W n Y N scope.names Ex0 → PTs Y ifs (SB W.L Ex0 fun env => M.toB (mt env))) (he : ∀ Y, CxOk W n Y N scope.names Ex0 → PE Y ex (SE W.L Ex0 me)) (hy : N[i]? = some y) (hl : sc.lookup y = some .local) (hln : (py.line == pos.line) = true) (ha : (scope.names.any fun (n, k) => n == y && (k == .local || k == .cell)) = false) :
    PS X (.Assign [.Name y py] (.ListComp ex [⟨tx, ix, ifs, 0⟩] scope pos) spos) (tAsg (SE W.L Ex fun env => do let xs ← ms env; let r ← M.calm (lcL tg mt me (wipeE env vs) xs []); pure (D.lst r)) (gName i)) := by
  refine ⟨fun pins s σ H Dn I q => ?_⟩
  exact (ps_setLc hX.calm (by rw [hX.nms]; exact hX.nd) (by rw [hX.nms]; exact hy) (hX.loc _ hl) (sw_true I.ok.kind (hX.loc _ hl) hln ha) hs (blk_ok hX hb) (fun s H A cl fp => sndT (blk_cx hX s H A cl fp) tg tx hT) (fun s H A cl fp => ht _ (blk_cx hX s H A cl fp)) (fun s H A cl fp => he _ (blk_cx hX s H A cl fp)) (fold_id hst)).run pins s σ H Dn I (lc_imp hv q)
theorem snd_lcN (hX : CxOk W n X N sc Ex) {ifs : List Expr} {scope : Scope} {tg : Tg} {vs : List Nat} {ms : Env → M (List D)} {mt me : Env → M D} (hs : PI X tx ix (SG RJ W.L Ex ms)) (hst : notSet ix = true) (hT : mT N scope.names tg tx = true) (hv : subNat (slotsT tg) vs = true) (hb : blkM N sc scope vs = true)
    (ht : ∀ Y, CxOk W n Y N scope.names Ex0 → PTs Y ifs (SB W.L Ex0 fun env => M.toB (mt env))) (he : ∀ Y, CxOk W n Y N scope.names Ex0 → PE Y ex (SE W.L Ex0 me)) :
    PE X (.ListComp ex [⟨tx, ix, ifs, 0⟩] scope pos) (SGN W.L Ex fun env => do let xs ← ms env; let r ← M.calm (lcL tg mt me (wipeE env vs) xs []); pure (D.lst r)) := by
  refine PEimp (pe_lc hX.calm (by rw [hX.nms]; exact hX.nd) hs (blk_ok hX hb) (fun s H A cl fp => sndT (blk_cx hX s H A cl fp) tg tx hT) (fun s H A cl fp => ht _ (blk_cx hX s H A cl fp)) (fun s H A cl fp => he _ (blk_cx hX s H A cl fp)) (fold_id hst)) fun σ H Q q => lc_impN hv q
theorem ps_lcSwapN (hX : CxOk W n X N sc Ex) {i : Nat} {y : Str} {py spos : Pos} {ifs : List Expr} {scope : Scope} {tg : Tg} {vs : List Nat} {ms : Env → M (List D)} {mt me : Env → M D} (hs : PI X tx ix (SG RJ W.L Ex ms)) (hst : notSet ix = true) (hT : mT N scope.names tg tx = true) (hv : subNat (slotsT tg) vs = true) (hb : blkM N sc scope vs = true)
    (ht : ∀ Y, CxOk W n Y N scope.names Ex0 → PTs Y ifs (SB W.L Ex0 fun env => M.toB (mt env))) (he : ∀ Y, CxOk W n Y N scope.names Ex0 → PE Y ex (SE W.L Ex0 me)) (hy : N[i]? = some y) (hl : sc.lookup y = some .local) (hln : (py.line == pos.line) = true) (ha : (scope.names.any fun (n, k) => n == y && (k == .local || k == .cell)) = false) :
    PS X (.Assign [.Name y py] (.ListComp ex [⟨tx, ix, ifs, 0⟩] scope pos) spos) (tAsg (SGN W.L Ex fun env => do let xs ← ms env; let r ← M.calm (lcL tg mt me (wipeE env vs) xs []); pure (D.lst r)) (gName i)) := by
  refine ⟨fun pins s σ H Dn I q => ?_⟩
  exact (ps_setLc hX.calm (by rw [hX.nms]; exact hX.nd) (by rw [hX.nms]; exact hy) (hX.loc _ hl) (sw_true I.ok.kind (hX.loc _ hl) hln ha) hs (blk_ok hX hb) (fun s H A cl fp => sndT (blk_cx hX s H A cl fp) tg tx hT) (fun s H A cl fp => ht _ (blk_cx hX s H A cl fp)) (fun s H A cl fp => he _ (blk_cx hX s H A cl fp)) (fold_id hst)).run pins s σ H Dn I (lc_impN hv q)
end
end Hg
end
section
set_option Elab.async false
set_option linter.all false
set_option autoImplicit false
set_option maxRecDepth 100000
set_option maxHeartbeats 1000000
/-! A17: the rest of the expressions' forms. -/
namespace Hg
open PySem PySem.Spec PyProof.Rows PySem.SeqAt L2
section
variable {W : Lw} {n : Nat} {X : Cx} {N : List Str} {sc : ScN} {Ex : Sg → XK} {L : Pl} {ev : E → Env → M D} {ma mb mc m : Env → M D} {a b c x : Expr} {pos : Pos}
/-- as a value and as a test -/
def PB (X : Cx) (L : Pl) (Ex : Sg → XK) (x : Expr) (m : Env → M D) : Prop := PE X x (SE L Ex m) ∧ PT X x (SB L Ex fun env => M.toB (m env))
theorem snd_T {t : TE} (h : PT X x (tTest t)) (i : ∀ σ H Q, SE L Ex m σ H Q → t σ H Q) : PT X x (SB L Ex fun env => M.toB (m env)) := PTimp h fun σ H Q q => i _ _ _ q.toE
theorem PB.both {t : TE} (h : PE X x t) (h' : PT X x (tTest t)) (i : ∀ σ H Q, SE L Ex m σ H Q → t σ H Q) : PB X L Ex x m := ⟨PEimp h i, snd_T h' i⟩
def plainT : Expr → Bool
  | .UnaryOp _ _ _ => false
  | .BoolOp _ _ _ => false
  | .IfExp _ _ _ _ => false
  | .Compare _ _ _ _ => false
  | _ => true
theorem PB.of (h : PE X x (SE L Ex m)) (hx : plainT x = true) : PB X L Ex x m := ⟨h, snd_test h fun whole => by cases x <;> first | rfl | (exfalso; revert hx; simp [plainT]; done)⟩
theorem PB.eq {m' : Env → M D} (h : PB X L Ex x m) (e : ∀ env, m env = m' env) : PB X L Ex x m' := by
  have : m = m' := funext e
  rw [← this]; exact h
theorem op2_imp {g : D → D → Option D} {σ : Sg} {H : Hp} {Q : VK} (h : SE L Ex (fun env => do let x ← ma env; let y ← mb env; M.ofO (g x y)) σ H Q) : tOp (rD2 L g) (SE L Ex ma) (SE L Ex mb) σ H Q := by
  refine (SG.bind (R := RV) (k := fun x env => do let y ← mb env; M.ofO (g x y)) h).imp fun x H1 h1 => ?_
  refine (SK.bind (R := RV) (k := fun gx y env => M.ofO (g gx.2 y)) (stabV stab0 x) h1).imp fun y H2 h2 => ?_
  obtain ⟨F, C, c, ⟨⟨_, dx⟩, dy⟩, d, ck, ⟨⟨_, rx⟩, ry⟩, e, k⟩ := h2.fin
  exact ⟨F, C, c, dx, dy, d, ck, rx, ry, e, k⟩
/-! ### is None -/
theorem rep_non {F : Fz} {C : List Addr} {H : Hp} {v : V} {d : D} (r : Rep L F C H v d) : decide (v = .non) = (match d with | .non => true | _ => false) := by
  cases r <;> rfl
theorem isn_imp {σ : Sg} {H : Hp} {Q : VK} (q : SE L Ex (fun env => do match ← ma env with
    | .non => pure (D.bl true)
    | _ => pure (D.bl false)) σ H Q) : tOp (fun x y H Q => y = .non ∧ Q (.bl (decide (x = .non))) H) (SE L Ex ma) (tC .non) σ H Q := by
  refine (SG.bind (R := RV) (k := fun d env => (match d with
    | .non => pure (D.bl true)
    | _ => pure (D.bl false) : M D)) q).imp fun v H1 h1 => ⟨rfl, ?_⟩
  obtain ⟨F, C, env, c, ⟨_, d⟩, si, ⟨_, r⟩, o⟩ := h1
  rw [rep_non r]
  cases d <;> exact o _ F H1 (.refl si.cok.fin) si.cok (.bl _)
theorem nisn_imp {σ : Sg} {H : Hp} {Q : VK} (q : SE L Ex (fun env => do match ← ma env with
    | .non => pure (D.bl false)
    | _ => pure (D.bl true)) σ H Q) : tOp (fun x y H Q => y = .non ∧ Q (.bl (!decide (x = .non))) H) (SE L Ex ma) (tC .non) σ H Q := by
  refine (SG.bind (R := RV) (k := fun d env => (match d with
    | .non => pure (D.bl false)
    | _ => pure (D.bl true) : M D)) q).imp fun v H1 h1 => ⟨rfl, ?_⟩
  obtain ⟨F, C, env, c, ⟨_, d⟩, si, ⟨_, r⟩, o⟩ := h1
  rw [rep_non r]
  cases d <;> exact o _ F H1 (.refl si.cok.fin) si.cok (.bl _)
/-! ### chains -/
theorem chn_imp {o1 o2 : COp} {σ : Sg} {H : Hp} {Q : VK} (q : SE L Ex (fun env => do
    let x ← ma env; let y ← mb env
    let r ← M.ofO (cmpD o1 x y)
    if r then do let z ← mc env; let r2 ← M.ofO (cmpD o2 y z); pure (D.bl r2) else pure (D.bl false)) σ H Q) : tChain (rCmp L o1) (rCmp L o2) (SE L Ex ma) (SE L Ex mb) (SE L Ex mc) σ H Q := by
  refine (SG.bind (R := RV) (k := fun x env => do
    let y ← mb env
    let r ← M.ofO (cmpD o1 x y)
    if r then do let z ← mc env; let r2 ← M.ofO (cmpD o2 y z); pure (D.bl r2) else pure (D.bl false)) q).imp fun x H1 h1 => ?_
  refine (SK.bind (R := RV) (k := fun gx y env => do
    let r ← M.ofO (cmpD o1 gx.2 y)
    if r then do let z ← mc env; let r2 ← M.ofO (cmpD o2 y z); pure (D.bl r2) else pure (D.bl false)) (stabV stab0 x) h1).imp fun y H2 h2 => ?_
  obtain ⟨F, C, env, c, ⟨⟨_, dx⟩, dy⟩, si, ⟨⟨_, rx⟩, ry⟩, o⟩ := h2
  have o : Out RV L F C H2 (Ex σ) Q ((do
    let r ← M.ofO (cmpD o1 dx dy)
    if r then do let z ← mc env; let r2 ← M.ofO (cmpD o2 dy z); pure (D.bl r2) else pure (D.bl false) : M D) c) := o
  cases e : cmpD o1 dx dy with
  | none => rw [e] at o; exact o.elim
  | some r =>
    rw [e] at o
    refine ⟨F, C, c, dx, dy, .bl r, si.cok, rx, ry, (by show Option.map D.bl (cmpD o1 dx dy) = _; rw [e]; rfl), fun v F' H' ex rv => ⟨r, rep_bl rv, ?_⟩⟩
    have si' := si.step (ex.cells (C := C) (by simp)) (si.cok.ext0 ex)
    have ry' : Rep L F' C H' y dy := Ext.rep (ex.cells (C := C) (by simp)) si.cok.ap si.cok.fin ry
    cases r with
    | false =>
      rw [if_neg (by simp)]
      have o : Out RV L F C H2 (Ex σ) Q (.ok (.bl false) c) := o
      exact o _ F' H' (ex.cells (by simp)) si'.cok (.bl false)
    | true =>
      rw [if_pos rfl]
      have o : Out RV L F C H2 (Ex σ) Q ((do let z ← mc env; let r2 ← M.ofO (cmpD o2 dy z); pure (D.bl r2) : M D) c) := o
      have q2 : SK (fun L C F H g => Rep L F C H y g) RV L Ex (fun g env => (mc env >>= fun z => M.ofO (cmpD o2 g z) >>= fun r2 => pure (D.bl r2))) σ H' Q := ⟨F', C, env, c, dy, si', ry', o.later (ex.cells (by simp))⟩
      refine (SK.bind (R := RV) (k := fun g z env => M.ofO (cmpD o2 g z) >>= fun r2 => pure (D.bl r2)) (show Stab (fun L C F H (g : D) => Rep L F C H y g) from fun L C F H F' H' g e a f h => e.rep a f h) q2).imp fun z H3 h3 => ?_
      obtain ⟨F3, C3, env3, c3, ⟨g, dz⟩, si3, ⟨ry3, rz⟩, o⟩ := h3
      have o : Out RV L F3 C3 H3 (Ex σ) Q ((M.ofO (cmpD o2 g dz) >>= fun r2 => pure (D.bl r2)) c3) := o
      cases e3 : cmpD o2 g dz with
      | none => rw [e3] at o; exact o.elim
      | some r3 =>
        rw [e3] at o
        exact ⟨F3, C3, c3, g, dz, .bl r3, si3.cok, ry3, rz, (by show Option.map D.bl (cmpD o2 g dz) = _; rw [e3]; rfl), fun v F' H' ex rv => o v F' H' (ex.cells (by simp)) (si3.cok.ext0 ex) rv⟩
/-! ### an if as a test -/
theorem isTrue_if {t u v : Expr} {p : Pos} {env : PySem.Env} {w : Sem Value} : isTrue (.IfExp t u v p) env w = (do if ← isTrue t env (eval t env) then isTrue u env (eval u env) else isTrue v env (eval v env)) := by rfl
theorem PB.ite (hc : PB X L Ex c mc) (ha : PB X L Ex a ma) (hb : PB X L Ex b mb) : PB X L Ex (.IfExp c a b pos) (fun env => (do if ← M.toB (mc env) then ma env else mb env : M D)) := by
  refine ⟨snd_ite hc.2 ha.1 hb.1, ⟨fun pins s σ H Q I q => ?_⟩⟩
  rw [isTrue_if]
  have q : SG RB L Ex (fun env => M.toB (mc env) >>= fun b => if b then M.toB (ma env) else M.toB (mb env)) σ H Q := SG.eq (fun env => by
    rw [toB_bind2]
    congr 1
    funext b
    cases b <;> rfl) q
  refine wpAny_bind (thn (hc.2.run pins s σ H _ I (SG.testB (k := fun b env => if b then M.toB (ma env) else M.toB (mb env)) q)) fun b s1 ⟨H1, I1, q1⟩ => ?_)
  cases b with
  | true => exact ha.2.run pins s1 σ H1 Q I1 q1
  | false => exact hb.2.run pins s1 σ H1 Q I1 q1
/-! ### own lists, cells: len -/
theorem len_own (hX : CxOk W n X N sc Ex) (hF : Facts W) {i : Nat} {f id : Str} {p1 p2 : Pos} (h : (gloB sc f "len" && mV N sc i id) = true) : PE X (.Call (.Name f p1) [.Name id p2] [] pos) (SE W.L Ex fun env => M.ofO ((getO env i).bind lenD)) := by
  simp only [Bool.and_eq_true] at h
  refine PEimp (snd_callG hX hF (.inl ⟨_, rfl⟩) bn_len h.1 call_len rfl (pa_cons (snd_own hX h.2) pa_nil (star_cons rfl))) fun σ H Q q => ?_
  obtain ⟨F, C, env, c, d, si, e, k⟩ := q.fin
  obtain ⟨od, e1, e2⟩ := Option.bind_eq_some_iff.mp e
  obtain ⟨a, h1, o, _⟩ := own_at si e1
  refine ⟨_, h1, ?_⟩
  cases o with
  | lst h r =>
    cases e2
    exact ⟨_, _, rfl, .inl ⟨_, .of h, r.len.symm⟩, k.int si.cok⟩
  | dct h r => cases e2
theorem len_cel (hX : CxOk W n X N sc Ex) (hF : Facts W) {i : Nat} {f id : Str} {p1 p2 : Pos} (h : (gloB sc f "len" && mV N sc i id) = true) : PE X (.Call (.Name f p1) [.Name id p2] [] pos) (SE W.L Ex fun env => fun c => match getV env i with
    | some (.cel k) => (M.ofO (c[k]?.bind lenD)) c
    | _ => .bad) := by
  simp only [Bool.and_eq_true] at h
  refine PEimp (snd_callG hX hF (.inl ⟨_, rfl⟩) bn_len h.1 call_len rfl (pa_cons (snd_own hX h.2) pa_nil (star_cons rfl))) fun σ H Q q => ?_
  obtain ⟨F, C, env, c, si, o⟩ := q
  have o : Out RV W.L F C H (Ex σ) Q (match getV env i with
    | some (.cel k) => (M.ofO (c[k]?.bind lenD) : M D) c
    | _ => .bad) := o
  split at o
  · rename_i k e
    unfold getV at e
    split at e
    · rename_i e2
      cases e
      obtain ⟨v, h1, r⟩ := si.val i _ e2
      refine ⟨v, h1, ?_⟩
      cases r with
      | cel hc =>
        cases e3 : c[k]? with
        | none => rw [e3] at o; exact o.elim
        | some d =>
          rw [e3] at o
          cases si.cok.own k _ d hc e3 with
          | lst h r =>
            have o : ∀ v F' H', Ext F C H F' H' → Cok W.L F' C H' c → Rep W.L F' C H' v (.int _) → Q v H' := o
            exact ⟨_, _, rfl, .inl ⟨_, .of h, r.len.symm⟩, o _ F H (.refl si.cok.fin) si.cok (.int _)⟩
          | dct h r => exact o.elim
    · cases e
  · exact o.elim
/-! ### methods -/
/-- a method with one argument, by its rule -/
theorem snd_mth1 (hX : CxOk W n X N sc Ex) {pr : Prim} {T id : String} {name : Str} {r : V → List V → Hp → VK → Prop} (pa : PlainAttrs T) (slot : PySem.Slot T name id) (hty : typeOf (.builtin id) = pure (.type "method_descriptor")) (hm : MtR X id r)
    (rule : ∀ (F : Fz) (C : List Addr) (H : Hp) (c : Cells) (v : V) (d : D), Cok W.L F C H c → rcvOk pr d = true → Rep W.L F C H v d → tyV X.K T v H)
    (run : ∀ (F : Fz) (C : List Addr) (H : Hp) (c : Cells) (v w : V) (d e d' : D) (Q : VK), Cok W.L F C H c → rcvOk pr d = true → Rep W.L F C H v d → Rep W.L F C H w e → primD pr [d, e] = some d' → Cont W.L F C H d' Q → r v [w] H Q)
    {o y : Expr} {ap cp : Pos} {mo : Env → M D} {es : List E} (hl : (ap.endLine == cp.line) = true) (hc : notCall o = true) (ho : PE X o (SE W.L Ex mo)) (ha : AllPE X W.L Ex ev es [y]) :
    PE X (.Call (.Attribute o name ap) [y] [] cp) (SE W.L Ex fun env => do let z ← mo env; if rcvOk pr z then (do let ds ← evL ev es env; M.ofO (primD pr (z :: ds))) else M.bad) := by
  have hp := ha.plain
  simp only [allPlain, Bool.and_eq_true] at hp
  obtain ⟨e1, rfl, _, _⟩ := ha.one
  refine PEimp (pe_bm pa slot hty hm ho ha.pa (attr_base hc) (by
    have e1 : starEach [y] X.env = (false, eval y X.env) :: starEach [] X.env := star_cons hp.1
    rw [e1]; rfl) (by simpa using hl) (star_cons hp.1) rfl) fun σ H Q q => ?_
  refine (SG.bind (R := RV) (k := fun z env => if rcvOk pr z then (do let ds ← evL ev [e1] env; M.ofO (primD pr (z :: ds))) else M.bad) q).imp fun v H1 h1 => ?_
  obtain ⟨F, C, env, c, ⟨_, d⟩, si, ⟨_, rv⟩, o⟩ := h1
  have o : Out RV W.L F C H1 (Ex σ) Q ((if rcvOk pr d then (do let ds ← evL ev [e1] env; M.ofO (primD pr (d :: ds))) else M.bad : M D) c) := o
  split at o
  · rename_i hr
    refine ⟨rule F C H1 c v d si.cok hr rv, ?_⟩
    have q2 : SK (RC R0 RV v) RV W.L Ex (fun g env => evL ev [e1] env >>= fun ds => M.ofO (if rcvOk pr g.2 then primD pr (g.2 :: ds) else none)) σ H1 Q := ⟨F, C, env, c, ((), d), si, ⟨trivial, rv⟩, by
      have z : (fun ds => M.ofO (if rcvOk pr d then primD pr (d :: ds) else none) : List D → M D) = fun ds => M.ofO (primD pr (d :: ds)) := by
        funext ds
        rw [if_pos hr]
      show Out RV W.L F C H1 (Ex σ) Q ((evL ev [e1] env >>= fun ds => M.ofO (if rcvOk pr d then primD pr (d :: ds) else none)) c)
      rw [z]
      exact o⟩
    refine (SK.bind (R := RLn [e1].length) (k := fun (g : Unit × D) ds env => M.ofO (if rcvOk pr g.2 then primD pr (g.2 :: ds) else none)) (stabV stab0 v) q2).imp fun vs H2 h2 => ?_
    obtain ⟨F, C, c, ⟨⟨_, d⟩, ds⟩, d', ck, ⟨⟨_, rv⟩, rs, hlen⟩, e, k⟩ := SK.fin (f := fun (g : (Unit × D) × List D) => if rcvOk pr g.1.2 then primD pr (g.1.2 :: g.2) else none) h2
    dsimp only at e rv rs hlen
    split at e
    · rename_i hr2
      cases ds with
      | nil => cases hlen
      | cons a ds =>
        cases ds with
        | cons _ _ => cases hlen
        | nil =>
          obtain ⟨w, rfl, rw'⟩ := len1 rs
          exact run F C H2 c v w d a d' Q ck hr2 rv rw' e k
    · cases e
  · exact o.elim
theorem rcv_str {pr : Prim} {d : D} (h : pr = .strip ∨ pr = .split ∨ pr = .part ∨ pr = .join ∨ pr = .cntS) (hr : rcvOk pr d = true) : ∃ t, d = .str t := by
  rcases h with rfl | rfl | rfl | rfl | rfl <;> (cases d <;> simp only [rcvOk, Bool.false_eq_true] at hr; exact ⟨_, rfl⟩)
theorem reps_strC {L : Pl} {F : Fz} {C : List Addr} {H : Hp} : ∀ (ys : List Str), Reps L F C H (ys.map V.str) (ys.map fun z => D.str z.cps.toList)
  | [] => .nil
  | y :: ys => by
    have e : toS y.cps.toList = y := by unfold toS; rw [Array.toArray_toList]
    have r : Rep L F C H (.str (toS y.cps.toList)) (.str y.cps.toList) := .str _
    rw [e] at r
    exact .cons r (reps_strC ys)
theorem rep_strC {L : Pl} {F : Fz} {C : List Addr} {H : Hp} (y : Str) : Rep L F C H (.str y) (.str y.cps.toList) := by
  have e : toS y.cps.toList = y := by unfold toS; rw [Array.toArray_toList]
  have r : Rep L F C H (.str (toS y.cps.toList)) (.str y.cps.toList) := .str _
  rw [e] at r
  exact r
theorem reps_allStr {L : Pl} {F : Fz} {C : List Addr} {H : Hp} : ∀ {vs : List V} {ds : List D} {ts : List T}, Reps L F C H vs ds → allStr ds = some ts → vs = (ts.map toS).map V.str
  | _, _, _, .nil, h => by cases h; rfl
  | _, _, _, .cons (d := d) q r, h => by
    cases d <;> simp only [allStr, reduceCtorEq] at h
    obtain ⟨ts', h1, rfl⟩ := Option.map_eq_some_iff.mp h
    cases rep_str q
    simp [reps_allStr r h1]
theorem snd_mth (hX : CxOk W n X N sc Ex) {pr : Prim} {ox : Expr} {xs : List Expr} {mo : Env → M D} {es : List E} (h : mthOf pr x = some (ox, xs)) (ho : PE X ox (SE W.L Ex mo)) (ha : AllPE X W.L Ex ev es xs) :
    PE X x (SE W.L Ex fun env => do let z ← mo env; if rcvOk pr z then (do let ds ← evL ev es env; M.ofO (primD pr (z :: ds))) else M.bad) := by
  have hu := hX.units
  have two := two24
  have szl := sizeLine_eq
  unfold mthOf at h
  split at h <;> first | (cases h; done) | skip
  all_goals
    simp only [Option.ite_none_right_eq_some, Bool.and_eq_true, beq_iff_eq, Option.some.injEq, Prod.mk.injEq] at h
    obtain ⟨⟨⟨rfl, hl⟩, hc⟩, rfl, rfl⟩ := h
  · refine snd_mth1 hX PySem.F.plainAttrs_str PySem.F.slot_str_strip PySem.F.type_str_strip mt_stripChars (fun F C H c v d ck hr rv => ?_) (fun F C H c v w d e d' Q ck hr rv rw' he k => ?_) (by simpa using hl) hc ho ha
    · obtain ⟨t, rfl⟩ := rcv_str (.inl rfl) hr
      cases rep_str rv
      exact rfl
    · obtain ⟨t, rfl⟩ := rcv_str (.inl rfl) hr
      cases rep_str rv
      unfold primD at he
      split at he <;> first | contradiction | skip
      rename_i heq
      cases heq
      split at he <;> cases he
      rename_i hlen
      cases rep_str rw'
      refine ⟨_, _, rfl, rfl, by rw [toS_len]; exact Nat.le_trans hlen two24, k.now ck.fin ?_⟩
      have st : ∀ z : T, Txt.stripChars (toS t) (toS z) = toS (stripT t z) := fun z => by
        unfold stripT toS
        simp
      rw [st]
      exact .str _
  · refine snd_mth1 hX PySem.F.plainAttrs_str PySem.F.slot_str_split PySem.F.type_str_split mt_split (fun F C H c v d ck hr rv => ?_) (fun F C H c v w d e d' Q ck hr rv rw' he k => ?_) (by simpa using hl) hc ho ha
    · obtain ⟨t, rfl⟩ := rcv_str (.inr (.inl rfl)) hr
      cases rep_str rv
      exact rfl
    · obtain ⟨t, rfl⟩ := rcv_str (.inr (.inl rfl)) hr
      cases rep_str rv
      unfold primD at he
      split at he <;> first | contradiction | skip
      rename_i heq
      cases heq
      split at he <;> cases he
      rename_i hlen
      cases rep_str rw'
      refine ⟨_, _, rfl, rfl, ?_, by rw [toS_len]; omega, fun p hp => k.newL ck.fin hp (reps_strC _)⟩
      rw [toS_len, beq_eq_false_iff_ne]
      exact fun z => hlen.2 (List.length_eq_zero_iff.mp z)
  · refine snd_mth1 hX PySem.F.plainAttrs_str PySem.F.slot_str_partition PySem.F.type_str_partition mt_partition (fun F C H c v d ck hr rv => ?_) (fun F C H c v w d e d' Q ck hr rv rw' he k => ?_) (by simpa using hl) hc ho ha
    · obtain ⟨t, rfl⟩ := rcv_str (.inr (.inr (.inl rfl))) hr
      cases rep_str rv
      exact rfl
    · obtain ⟨t, rfl⟩ := rcv_str (.inr (.inr (.inl rfl))) hr
      cases rep_str rv
      unfold primD at he
      split at he <;> first | contradiction | skip
      rename_i heq
      cases heq
      split at he
      · rename_i hlen
        cases rep_str rw'
        cases he
        refine ⟨_, _, rfl, rfl, ?_, by rw [toS_len]; omega, fun p hp => k _ _ _ (ext_new ck.fin hp) (.pr (.inr rfl) upd_same (.cons (rep_strC _) (.cons (rep_strC _) (.cons (rep_strC _) .nil))))⟩
        rw [toS_len, beq_eq_false_iff_ne]
        exact fun z => hlen.2 (List.length_eq_zero_iff.mp z)
      · cases he
  · refine snd_mth1 hX PySem.F.plainAttrs_str PySem.F.slot_str_join PySem.F.type_str_join mt_join (fun F C H c v d ck hr rv => ?_) (fun F C H c v w d e d' Q ck hr rv rw' he k => ?_) (by simpa using hl) hc ho ha
    · obtain ⟨t, rfl⟩ := rcv_str (.inr (.inr (.inr (.inl rfl)))) hr
      cases rep_str rv
      exact rfl
    · obtain ⟨t, rfl⟩ := rcv_str (.inr (.inr (.inr (.inl rfl)))) hr
      cases rep_str rv
      unfold primD at he
      split at he <;> first | contradiction | skip
      rename_i heq
      cases heq
      split at he
      · rename_i ts hts
        split at he
        · rename_i hlen
          cases he
          cases rw' with
          | lst f hl2 rs =>
            have ev := reps_allStr rs hts
            subst ev
            refine ⟨_, _, ts.map toS, rfl, rfl, .inl (.of hl2), ?_, k.now ck.fin ?_⟩
            · have e1 : ((ts.map toS).map (·.length)).sum = (ts.map List.length).sum := by simp [Function.comp_def, toS_len]
              rw [e1, List.length_map, toS_len]
              omega
            · exact rep_strC _
        · cases he
      · cases he
  · refine snd_mth1 hX PySem.F.plainAttrs_list PySem.F.slot_list_count PySem.F.type_list_count (mt_cntD hu) (fun F C H c v d ck hr rv => ?_) (fun F C H c v w d e d' Q ck hr rv rw' he k => ?_) (by simpa using hl) hc ho ha
    · cases d <;> simp only [rcvOk, Bool.false_eq_true] at hr
      cases rv with
      | lst f h r => exact .inl ⟨rfl, _, .of h⟩
    · cases d <;> simp only [rcvOk, Bool.false_eq_true] at hr
      rename_i zs
      have z : primD .count [.lst zs, e] = (if (plainDs zs && plainD e && decide (min (depDs zs) (depD e) ≤ 64)) = true then some (.int ((zs.countP fun y => eqD y e : Nat) : Int)) else none) := rfl
      rw [z] at he
      cases rv with
      | lst f h r =>
        split at he <;> cases he
        rename_i hc2
        simp only [Bool.and_eq_true, decide_eq_true_eq] at hc2
        obtain ⟨⟨p1, p2⟩, p3⟩ := hc2
        have ec : ∀ (e : D), plainD e = true → ∀ (ys : List D), plainDs ys = true → ((toPs ys).countP fun z => PyData.eqv z (toP e)) = ys.countP fun y => eqD y e := fun e pe ys => by
          induction ys with
          | nil => intro _; rfl
          | cons y ys ih =>
            intro py
            simp only [plainDs, Bool.and_eq_true] at py
            simp only [toPs, List.countP_cons, ih py.2, toP_eqv y e py.1 pe]
        refine ⟨_, _, _, _, rfl, rfl, .lst (.of h) (Reps.dp p1 r), Rep.dp p2 rw', toPs_plain _ p1, toP_plain _ p2, by rw [toPs_depth _ p1, toP_depth _ p2]; exact p3, ?_⟩
        rw [ec _ p2 _ p1]
        exact k.int ck
  · refine snd_mth1 hX PySem.F.plainAttrs_str PySem.F.slot_str_count PySem.F.type_str_count mt_count (fun F C H c v d ck hr rv => ?_) (fun F C H c v w d e d' Q ck hr rv rw' he k => ?_) (by simpa using hl) hc ho ha
    · obtain ⟨t, rfl⟩ := rcv_str (.inr (.inr (.inr (.inr rfl)))) hr
      cases rep_str rv
      exact rfl
    · obtain ⟨t, rfl⟩ := rcv_str (.inr (.inr (.inr (.inr rfl)))) hr
      cases rep_str rv
      unfold primD at he
      split at he <;> first | contradiction | skip
      rename_i heq
      cases heq
      cases he
      cases rep_str rw'
      exact ⟨_, _, rfl, rfl, k.int ck⟩
end
end Hg
end
section
set_option Elab.async false
set_option linter.all false
set_option autoImplicit false
set_option maxRecDepth 100000
set_option maxHeartbeats 2000000
/-! A18a: sets of whole numbers and texts whose members can be walked. -/
namespace Hg
open PySem PySem.Spec PyProof.Rows PySem.SeqAt L2
def keyM (e : Int × Value) : Key := match e.2 with
  | .int k _ => .inl k
  | .str x _ => .inr x
  | _ => .inl 0
def GoodM (P : Program) (w : World) (e : Int × Value) : Prop := RelV (kV (keyM e)) e.2 ∧ e.1 = (mixKind P w).hash (keyM e)
/-- the set at a: its members ks in some order -/
def SetM (P : Program) (w : World) (h : Heap) (a : Addr) (ks : List Key) : Prop :=
  ∃ o es ep t, h.get? a = some o ∧ o.ExactSet ∧ o.data = .set es ep t ∧ (∀ e ∈ es.toList, GoodM P w e) ∧ (es.toList.map keyM).Perm ks ∧ ks.Nodup ∧
    es.size < scanBound ∧ t.fits es.size = true ∧ Ris t.place.toList ∧ (w.params.followText "set-order" = true ∨ t.led = true)
section
variable {P : Program} {w : World} {h h' : Heap} {a : Addr} {ks : List Key}
theorem SetM.at (R : SetM P w h a ks) (k : ∀ o, h.get? a = some o → h'.get? a = some o) : SetM P w h' a ks := by
  obtain ⟨o, es, ep, t, ho, r⟩ := R
  exact ⟨o, es, ep, t, k o ho, r⟩
theorem SetM.perm {ls : List Key} (R : SetM P w h a ks) (p : ks.Perm ls) : SetM P w h a ls := by
  obtain ⟨o, es, ep, t, ho, h1, h2, h3, h4, h5, r⟩ := R
  exact ⟨o, es, ep, t, ho, h1, h2, h3, h4.trans p, p.nodup_iff.mp h5, r⟩
theorem keyM_of {k : Key} {v : Value} {i : Int} (r : RelV (kV k) v) : keyM (i, v) = k := by
  cases k with
  | inl i => obtain ⟨t, rfl⟩ := r; rfl
  | inr x => obtain ⟨t, rfl⟩ := r; rfl
theorem goodM_is {e : Int × Value} (g : GoodM P w e) (k : Key) : (mixKind P w).is k e.2 = true ↔ keyM e = k := by
  constructor
  · intro q
    exact (mixKind P w).inj e.2 _ _ (kV_is g.1) q
  · rintro rfl
    exact kV_is g.1
theorem goodM_elems {l : List (Int × Value)} (g : ∀ e ∈ l, GoodM P w e) : ElemsOf (mixKind P w) l := fun e he => ⟨⟨keyM e, kV_is (g e he).1, (g e he).2⟩, key_scan (g e he).1⟩
theorem goodM_mem {l : List (Int × Value)} (g : ∀ e ∈ l, GoodM P w e) (k : Key) : k ∈ l.map keyM ↔ ∃ e ∈ l, (mixKind P w).is k e.2 = true := by
  rw [List.mem_map]
  exact ⟨fun ⟨e, he, q⟩ => ⟨e, he, (goodM_is (g e he) k).2 q⟩, fun ⟨e, he, q⟩ => ⟨e, he, (goodM_is (g e he) k).1 q⟩⟩
theorem SetM.len_ok (R : SetM P w h a ks) : ∃ o es ep t, h.get? a = some o ∧ o.ExactSet ∧ o.data = .set es ep t ∧ t.fits es.size = true ∧ es.size = ks.length ∧ es.size < scanBound := by
  obtain ⟨o, es, ep, t, ho, h1, h2, h3, h4, h5, h6, h7, r⟩ := R
  exact ⟨o, es, ep, t, ho, h1, h2, h7, by rw [← h4.length_eq, List.length_map, Array.length_toList], h6⟩
end
section
variable {P : Program} {w : World} {A : Around} {E : Value → Shared → Prop} {s : Shared} {a : Addr} {ks : List Key}
/-- what is stored, and laid anew where the table is full -/
theorem addM_tail {gv : Bool → Sem Unit} (hg : ∀ (b : Bool) (s1 : Shared) (Q1 : Unit → Shared → Prop), Q1 () s1 → wpAny (model P w) A (gv b) Q1 E s1)
    {o : Obj} {es : Array (Int × Value)} {ep : Nat} {t : SetTable} (ho : s.heap.get? a = some o) (xo : o.ExactSet) (od : o.data = .set es ep t)
    {fs : Array (Int × Value)} {u : SetTable} {ls : List Key} (gf : ∀ e ∈ fs.toList, GoodM P w e) (pf : (fs.toList.map keyM).Perm ls) (nf : ls.Nodup)
    (bf : fs.size < scanBound) (ff : u.fits fs.size = true) (rf : Ris u.place.toList) (lf : w.params.followText "set-order" = true ∨ u.led = true) {dm : Bool} {R : Option Bool → Shared → Prop}
    (hR : ∀ h', Heap.SameBut a s.heap h' → SetM P w h' a ls → R (some true) { s with heap := h' }) :
    wpAny (model P w) A (do
        storeSet a fs u
        if (!dm && u.tooFull) = true then do
            gv (relayAll u fs (SetTable.grown fs.size)).2.2
            storeSet a (relayAll u fs (SetTable.grown fs.size)).1 (relayAll u fs (SetTable.grown fs.size)).2.1
            pure (some true)
          else pure (some true)) R E s := by
  refine wpAny_bind (wpAny_storeSet_of ho od ?_ (fits_of_scanBound bf))
  have o1 := store_at (es' := fs) (t' := u) ho od
  have b1 := Heap.SameBut.update s.heap a (Obj.putSet fs u)
  split
  · have q1 := relayAll_perm u fs (SetTable.grown fs.size)
    have q2 := relayAll_fits u fs (SetTable.grown fs.size)
    have q3 := relayAll_ris u fs (SetTable.grown fs.size)
    have q4 := relayAll_led u fs (SetTable.grown fs.size)
    generalize relayAll u fs (SetTable.grown fs.size) = Z at q1 q2 q3 q4 ⊢
    obtain ⟨gs, u2, gave⟩ := Z
    dsimp only at q1 q2 q3 q4 ⊢
    have z : gs.size = fs.size := by rw [← Array.length_toList, q1.length_eq, Array.length_toList]
    have bg : gs.size < scanBound := by rw [z]; exact bf
    refine wpAny_bind (hg _ _ _ (wpAny_bind (wpAny_storeSet_of o1 rfl ?_ (fits_of_scanBound bg))))
    have o2 := store_at (es' := gs) (t' := u2) o1 rfl
    exact wpAny_pure (hR _ (b1.trans (Heap.SameBut.update _ a _)) ⟨_, gs, _, u2, o2, xo, rfl, fun e he => gf e (q1.mem_iff.mp he), (q1.map keyM).trans pf, nf, bg, q2, q3, lf.imp id fun y => by rw [q4]; exact y⟩)
  · exact wpAny_pure (hR _ b1 ⟨_, fs, _, u, o1, xo, rfl, gf, pf, nf, bf, ff, rf, lf⟩)
def addK (k : Key) (ks : List Key) : List Key := if (ks.any fun j => decide (j = k)) = true then ks else k :: ks
theorem addK_in {k : Key} {ks : List Key} (h : k ∈ ks) : addK k ks = ks := by
  unfold addK
  rw [if_pos (List.any_eq_true.mpr ⟨k, h, by simp⟩)]
theorem addK_out {k : Key} {ks : List Key} (h : k ∉ ks) : addK k ks = k :: ks := by
  unfold addK
  rw [if_neg]
  intro q
  obtain ⟨j, hj, e⟩ := List.any_eq_true.mp q
  rw [of_decide_eq_true e] at hj
  exact h hj
/-- one key is added -/
theorem addM_hashed {k : Key} {v : Value} {Q : Bool → Shared → Prop} (rv : RelV (kV k) v) (R : SetM P w s.heap a ks) (room : ks.length + 1 < scanBound)
    (hQ : ∀ (b : Bool) h', Heap.SameBut a s.heap h' → SetM P w h' a (addK k ks) → Q b { s with heap := h' }) : wpAny (model P w) A (setAddHashed a v ((mixKind P w).hash k)) Q E s := by
  obtain ⟨o, es, ep, t, ho, xo, od, g, pm0, nd, hb, ff, rr, ll⟩ := R
  have hn : es.size = ks.length := by rw [← pm0.length_eq, List.length_map, Array.length_toList]
  have isk : (mixKind P w).is k v = true := kV_is rv
  have scn : v.scannable = true := key_scan rv
  have els : ElemsOf (mixKind P w) es.toList := goodM_elems g
  unfold setAddHashed setAddHashedIn
  refine wpAny_holding (wpAny_bind (wpAny_setState_of ho od ff ?_))
  dsimp only
  rw [byScan_of scn hb els]
  simp only [↓reduceIte]
  unfold setAddByScan
  refine wpAny_bind (wpAny_bind (wpAny_rule (wpAny_bind (wpAny_setScan_of isk ho od ff els ?_))))
  cases fi : List.findIdx? (fun e => (mixKind P w).is k e.2) es.toList with
  | some j =>
    dsimp only
    obtain ⟨hj, pj, _⟩ := List.findIdx?_eq_some_iff_getElem.mp fi
    have hin : k ∈ ks := pm0.mem_iff.mp ((goodM_mem g k).2 ⟨es.toList[j], List.getElem_mem hj, pj⟩)
    refine wpAny_pure (wpAny_pure (hQ _ s.heap (Heap.SameBut.refl a s.heap) ?_))
    rw [addK_in hin]
    exact ⟨o, es, ep, t, ho, xo, od, g, pm0, nd, hb, ff, rr, ll⟩
  | none =>
    dsimp only
    have nin : k ∉ ks := fun z => by
      obtain ⟨e, he, q⟩ := (goodM_mem g k).1 (pm0.mem_iff.mpr z)
      have c := List.findIdx?_eq_none_iff.mp fi e he
      rw [q] at c
      cases c
    have gave_ok : ∀ (b : Bool) {s1 : Shared} {Q1 : Unit → Shared → Prop}, Q1 () s1 → wpAny (model P w) A (match b with | true => rule "set.scan.the-table-gave-way" | false => pure ()) Q1 E s1 :=
      fun b s1 Q1 q => by cases b <;> first | exact wpAny_pure q | exact wpAny_rule q
    have n1 := layNew_perm t es ((mixKind P w).hash k) v
    have n2 := layNew_fits t es ((mixKind P w).hash k) v
    have n3 := layNew_ris t es ((mixKind P w).hash k) v rr
    have n4 := layNew_led t es ((mixKind P w).hash k) v
    generalize layNew t es ((mixKind P w).hash k) v = Z at n1 n2 n3 n4 ⊢
    obtain ⟨fs, u, dm, gave⟩ := Z
    dsimp only at n1 n2 n3 n4 ⊢
    rw [Array.toList_push] at n1
    have pc : fs.toList.Perm (((mixKind P w).hash k, v) :: es.toList) := n1.trans (List.perm_append_singleton _ _)
    have kk : keyM ((mixKind P w).hash k, v) = k := keyM_of rv
    have pk : (fs.toList.map keyM).Perm (k :: ks) := by
      have q := pc.map keyM
      rw [List.map_cons, kk] at q
      exact q.trans (pm0.cons k)
    have gf : ∀ e ∈ fs.toList, GoodM P w e := fun e he => by
      rcases List.mem_cons.mp (pc.mem_iff.mp he) with z | z
      · rw [z]; exact ⟨by rw [kk]; exact rv, by rw [kk]⟩
      · exact g e z
    have sz : fs.size = ks.length + 1 := by rw [← Array.length_toList, pc.length_eq, List.length_cons, Array.length_toList, hn]
    have bf : fs.size < scanBound := by rw [sz]; exact room
    have lf : w.params.followText "set-order" = true ∨ u.led = true := ll.imp id fun z => by rw [n4]; exact z
    have ea : addK k ks = k :: ks := addK_out nin
    rw [ea] at hQ
    have nd1 : (k :: ks).Nodup := List.nodup_cons.mpr ⟨nin, nd⟩
    refine wpAny_bind (gave_ok _ ?_)
    split
    · refine wpAny_bind ?_
      rw [hashByValue_scannable 8 scn]
      refine wpAny_pure (addM_tail ?_ ho xo od gf pk nd1 bf ?_ ?_ ?_ fun h' sb r => ?_)
      · intro b s1 Q1 q; cases b <;> first | exact wpAny_pure q | exact wpAny_rule q
      · first | (split <;> first | exact n2 | exact SetTable.fits_plain_off n2) | exact n2
      · first | (split <;> exact n3) | exact n3
      · first | (split <;> exact lf) | exact lf
      · dsimp only; exact wpAny_pure (hQ _ h' sb r)
    · refine wpAny_bind (wpAny_pure ?_)
      simp only [↓reduceIte]
      refine addM_tail ?_ ho xo od gf pk nd1 bf n2 n3 lf fun h' sb r => ?_
      · intro b s1 Q1 q; cases b <;> first | exact wpAny_pure q | exact wpAny_rule q
      · dsimp only; exact wpAny_pure (hQ _ h' sb r)
end
end Hg
end
section
set_option Elab.async false
set_option linter.all false
set_option autoImplicit false
set_option maxRecDepth 100000
set_option maxHeartbeats 4000000
/-! A18b: set(xs). -/
namespace Hg
open PySem PySem.Spec PyProof.Rows PySem.SeqAt L2
def addsK (ks : List Key) : List Key := ks.foldl (fun a k => addK k a) []
theorem addsK_snoc (ks : List Key) (k : Key) : addsK (ks ++ [k]) = addK k (addsK ks) := by simp [addsK]
theorem addK_len (k : Key) (ks : List Key) : (addK k ks).length ≤ ks.length + 1 := by
  unfold addK
  split
  · omega
  · simp
theorem addsK_len (ks : List Key) : (addsK ks).length ≤ ks.length := by
  have : ∀ (ks a : List Key), (ks.foldl (fun a k => addK k a) a).length ≤ ks.length + a.length := by
    intro ks
    induction ks with
    | nil => intro a; simp
    | cons k ks ih =>
      intro a
      have h1 := ih (addK k a)
      have h2 := addK_len k a
      simp only [List.foldl_cons, List.length_cons]
      omega
  unfold addsK
  simpa using this ks []
theorem setM_new {P : Program} {w : World} {h : Heap} {a : Addr} (ho : h.get? a = some { cls := .type "set", dict := none, data := .set #[] 0 (.fresh 0 0 (!w.params.followText "set-order")) }) : SetM P w h a [] :=
  ⟨_, #[], 0, _, ho, ⟨rfl, rfl, rfl⟩, rfl, (fun e he => by simp at he), List.Perm.refl _, List.nodup_nil, (by decide), (by rfl), List.Pairwise.nil, by
    show _ ∨ (!w.params.followText "set-order") = true
    cases w.params.followText "set-order" <;> simp⟩
section
variable {P : Program} {w : World} {A : Around} {E : Value → Shared → Prop} {s : Shared}
theorem set_upd {I : Addr} {fp wr : List Addr} {G : Array GenState → Array GenState → Prop} {n : Nat} {Pv : Nat → Value → Prop} {St : Nat → Shared → Prop} {R : Result → Shared → Prop}
    (W : WalksS P w A.in1 I fp wr G n Pv St) (S : Addr) (nS : S ∉ fp) (ks : List Key) (hn : n = ks.length) (hb : ks.length + 1 < scanBound) (val : ∀ i v, Pv i v → ∃ k, ks[i]? = some k ∧ RelV (kV k) v) :
    ∀ (m i : Nat) (s : Shared), n - i = m → i ≤ n → St i s → SetM P w s.heap S (addsK (ks.take i)) →
      (∀ s', Moved (S :: wr) G s s' → SetM P w s'.heap S (addsK ks) → R (.ok (.ret .none)) s') →
      codeAny (model P w) A (.builtin "set.update.loop" ⟨[.ref S, .ref I], []⟩) R s := by
  have nw : S ∉ wr := fun q => nS (W.sub _ q)
  have sub : ∀ b ∈ wr, b ∈ S :: wr := fun b q => List.mem_cons_of_mem _ q
  intro m
  induction m with
  | zero =>
    intro i s em hi st hS hR
    obtain rfl : i = n := by omega
    refine codeAny_builtin F.entry_set_update_loop ?_
    rw [Around.under_plainId F.plain_set_update_loop _]
    show wpAny _ A.in1 (pyNext (.ref I) >>= _) _ _ s
    refine wpAny_bind (W.done s _ _ st fun s' mv => ?_)
    show wpAny _ A.in1 (ret Value.none) _ _ s'
    rw [List.take_of_length_le (by omega)] at hS
    exact wpAny_pure (hR s' (mv.mono sub) (hS.at fun o e => mv.heap S o nw e))
  | succ m ih =>
    intro i s em hi st hS hR
    have lt : i < n := by omega
    refine codeAny_builtin F.entry_set_update_loop ?_
    rw [Around.under_plainId F.plain_set_update_loop _]
    show wpAny _ A.in1 (pyNext (.ref I) >>= _) _ _ s
    refine wpAny_bind (W.item i s _ _ lt st fun v s' pv st1 mv => ?_)
    obtain ⟨k, ek, rv⟩ := val i v pv
    have hS1 : SetM P w s'.heap S (addsK (ks.take i)) := hS.at fun o e => mv.heap S o nw e
    show wpAny _ A.in1 (holding [v] (setAdd S v) >>= _) _ _ s'
    refine wpAny_bind (wpAny_holding ?_)
    unfold setAdd
    refine wpAny_holding (wpAny_bind ((mixKind P w).pyHash (k := k) (kV_is rv) ?_))
    have hlen := addsK_len (ks.take i)
    rw [List.length_take] at hlen
    refine addM_hashed (s := { s' with toks := s'.toks + 1 }) rv hS1 (by omega) fun b h' sb hS2 => ?_
    have e3 : addK k (addsK (ks.take i)) = addsK (ks.take (i + 1)) := by rw [List.take_add_one, ek, Option.toList_some, addsK_snoc]
    rw [e3] at hS2
    refine wpAny_pure ⟨plainId_quiet F.plain_set_update_loop _, ih (i + 1) _ (by omega) lt (W.frame _ s' _ _ st1 (Nat.le_succ _) fun b hb o e => ?_) hS2 fun s2 mv2 hS3 => ?_⟩
    · rw [sb.2 b (fun q : b = S => nS (by rw [← q]; exact hb))]; exact e
    · refine hR s2 (Moved.trans W.gtrans ((mv.mono sub).then_heap (Nat.le_succ _) fun b o hb e => ?_) mv2) hS3
      rw [sb.2 b (fun q : b = S => hb (by rw [q]; exact List.mem_cons_self))]; exact e
theorem call_setM {l : Addr} {its : Array Value} (ks : List Key) {Q : Value → Shared → Prop} (hh : A.handled = none) (hl : s.heap.IsList l its ∨ s.heap.IsTuple l its) (sz : its.size = ks.length) (val : ∀ (i : Nat) (v : Value), its[i]? = some v → ∃ k, ks[i]? = some k ∧ RelV (kV k) v) (hb : ks.length + 1 < scanBound)
    (h : ∀ (h' : Heap) (tk : Nat), SetM P w h' s.heap.objs.size (addsK ks) → (∀ b o, s.heap.get? b = some o → h'.get? b = some o) → Q (.ref s.heap.objs.size) { s with heap := h', toks := tk }) :
    wpAny (model P w) A (call (.type "set") [.ref l]) Q E s := by
  obtain ⟨c0, tl0, mro0⟩ := F.called_set.mro
  have made0 := F.called_set.made
  have sub0 := F.called_set.sub
  refine wpAny_call (codeAny_of_tree ?_)
  show wpAny _ _ (callAny (.type "set") _) _ _ _
  refine wpAny_pure ⟨Code.quiet_builtin _ (by decide +kernel), codeAny_builtin F.entry_type_call ?_⟩
  rw [Around.under_plain (weight_type_call_type "set" [.ref l] []) rfl]
  have nt0 := F.called_set.notType
  have cc0 := F.called_set.canCreate
  have tc0 := F.typeCall_set_1 (.ref l)
  repeat (any_goals (first | assumption | wp_step))
  refine codeAny_mono (code_set_led1 (.ref l) (E := E) (Q₁ := fun obj s₁ => obj = .ref s.heap.objs.size ∧ s₁ = { s with heap := s.heap.push { cls := .type "set", dict := none, data := .set #[] 0 (.fresh 0 0 (!w.params.followText "set-order")) } }) ⟨rfl, rfl⟩) fun r s₁ hr => ?_
  cases r with
  | error e => exact hr
  | ok fl =>
    cases fl with
    | ret obj =>
      obtain ⟨rfl, rfl⟩ := hr
      have hS : (s.heap.push { cls := .type "set", dict := none, data := .set #[] 0 (.fresh 0 0 (!w.params.followText "set-order")) }).get? s.heap.objs.size = some { cls := .type "set", dict := none, data := .set #[] 0 (.fresh 0 0 (!w.params.followText "set-order")) } := Heap.get?_push_size _ rfl
      have hT : Shared.TypeIs { s with heap := s.heap.push { cls := .type "set", dict := none, data := .set #[] 0 (.fresh 0 0 (!w.params.followText "set-order")) } } (.ref s.heap.objs.size) "set" := ⟨_, hS, rfl⟩
      have li0 := F.called_set.init.lookup
      have bi0 := F.called_set.init.bind (.ref s.heap.objs.size)
      repeat (any_goals (first | assumption | wp_step))
      refine codeAny_mono (codeAny_call_builtin (R := wants (fun r s₂ => r = .none ∧ ∃ h' tk, s₂ = { s with heap := h', toks := tk } ∧ SetM P w h' s.heap.objs.size (addsK ks) ∧ (∀ b o, s.heap.get? b = some o → h'.get? b = some o)) E) F.called_set.init.plain F.entry_set_init (check_set_init_1 hT ?_)) fun r2 s2 hr2 => ?_
      · have fin : ∀ (I : Addr) (s' : Shared), I = (s.heap.push { cls := .type "set", dict := none, data := .set #[] 0 (.fresh 0 0 (!w.params.followText "set-order")) }).objs.size → s'.gens = s.gens → s'.drawn = s.drawn → s'.os = s.os → (∀ b o, b ∉ [s.heap.objs.size, I] → (s.heap.push { cls := .type "set", dict := none, data := .set #[] 0 (.fresh 0 0 (!w.params.followText "set-order")) }).get? b = some o → s'.heap.get? b = some o) → SetM P w s'.heap s.heap.objs.size (addsK ks) →
            ∃ h' tk, s' = { s with heap := h', toks := tk } ∧ SetM P w h' s.heap.objs.size (addsK ks) ∧ (∀ b o, s.heap.get? b = some o → h'.get? b = some o) := fun I s' eI e1 e2 e3 kp hS' => by
          obtain ⟨h', g2, d2, tk2, os2⟩ := s'
          subst e1 e2 e3
          refine ⟨h', tk2, rfl, hS', fun b o e => kp b o ?_ (Heap.get?_push_of_some _ e)⟩
          have lt := Heap.lt_size e
          rw [eI, Heap.size_push]
          simp only [List.mem_cons, List.not_mem_nil, or_false, not_or]
          exact ⟨Nat.ne_of_lt lt, Nat.ne_of_lt (Nat.lt_succ_of_lt lt)⟩
        have hh3 : A.in1.in1.in1.handled = none := by simp [hh]
        rcases hl with hl | hl
        · obtain ⟨ol, g0, cl0, nl, dl0⟩ := hl
          obtain ⟨oc, od, oa, os⟩ := ol
          simp only at cl0 dl0
          subst cl0; subst dl0
          have g1 : (s.heap.push { cls := .type "set", dict := none, data := .set #[] 0 (.fresh 0 0 (!w.params.followText "set-order")) }).get? l = some { cls := .type "list", dict := od, data := .seq its nl, slots := os } := Heap.get?_push_of_some _ g0
          have sl1 := F.sub_list_set
          have sl2 := F.sub_list_frozenset
          have sl3 : (Value.type "list" == Value.type "dict") = false := by decide
          have hl1 : (s.heap.push { cls := .type "set", dict := none, data := .set #[] 0 (.fresh 0 0 (!w.params.followText "set-order")) }).IsList l its := ⟨_, g1, rfl, nl, rfl⟩
          unfold Builtin.«set.__init__» noKeywords Builtin.Frozenset.updateFrom
          generalize hPI : pyIter = PI
          wp_walk
          subst hPI
          refine wpAny_pyIter_list hl1 ?_
          refine wpAny_bind (wpAny_runValue ?_)
          have lS : l < s.heap.objs.size := Heap.lt_size g0
          have nI : l ≠ (s.heap.push { cls := .type "set", dict := none, data := .set #[] 0 (.fresh 0 0 (!w.params.followText "set-order")) }).objs.size := by rw [Heap.size_push]; exact Nat.ne_of_lt (Nat.lt_succ_of_lt lS)
          have nSf : s.heap.objs.size ∉ [(s.heap.push { cls := .type "set", dict := none, data := .set #[] 0 (.fresh 0 0 (!w.params.followText "set-order")) }).objs.size, l] := by
            rw [Heap.size_push]
            simp only [List.mem_cons, List.not_mem_nil, or_false, not_or]
            exact ⟨Nat.ne_of_lt (Nat.lt_succ_self _), Nat.ne_of_gt lS⟩
          refine set_upd ((Walks.list hh3 _ l nI its).toS) s.heap.objs.size nSf ks sz hb val (its.size - 0) 0 _ (by omega) (Nat.zero_le _) ⟨⟨_, Heap.get?_push_size _ rfl, rfl, rfl⟩, (hl1.push _)⟩ ?_ ?_
          · exact setM_new (Heap.get?_push_of_some _ hS)
          · intro s' mv hS'
            show wpAny _ _ _ _ _ _
            refine wpAny_pure ?_
            show wpAny _ _ (ret Value.none) _ _ _
            refine wpAny_pure ⟨rfl, fin _ s' rfl mv.gens mv.drawn mv.os (fun b o hb e => mv.heap b o hb (Heap.get?_push_of_some _ e)) hS'⟩
        · obtain ⟨ol, g0, cl0, nl, dl0⟩ := hl
          obtain ⟨oc, od, oa, os⟩ := ol
          simp only at cl0 dl0
          subst cl0; subst dl0
          have g1 : (s.heap.push { cls := .type "set", dict := none, data := .set #[] 0 (.fresh 0 0 (!w.params.followText "set-order")) }).get? l = some { cls := .type "tuple", dict := od, data := .seq its nl, slots := os } := Heap.get?_push_of_some _ g0
          have sl1 := F.sub_tuple_set
          have sl2 := F.sub_tuple_frozenset
          have sl3 : (Value.type "tuple" == Value.type "dict") = false := by decide
          have hl1 : (s.heap.push { cls := .type "set", dict := none, data := .set #[] 0 (.fresh 0 0 (!w.params.followText "set-order")) }).IsTuple l its := ⟨_, g1, rfl, nl, rfl⟩
          unfold Builtin.«set.__init__» noKeywords Builtin.Frozenset.updateFrom
          generalize hPI : pyIter = PI
          wp_walk
          subst hPI
          refine wpAny_pyIter_tuple hl1 ?_
          refine wpAny_bind (wpAny_runValue ?_)
          have lS : l < s.heap.objs.size := Heap.lt_size g0
          have nI : l ≠ (s.heap.push { cls := .type "set", dict := none, data := .set #[] 0 (.fresh 0 0 (!w.params.followText "set-order")) }).objs.size := by rw [Heap.size_push]; exact Nat.ne_of_lt (Nat.lt_succ_of_lt lS)
          have nSf : s.heap.objs.size ∉ [(s.heap.push { cls := .type "set", dict := none, data := .set #[] 0 (.fresh 0 0 (!w.params.followText "set-order")) }).objs.size, l] := by
            rw [Heap.size_push]
            simp only [List.mem_cons, List.not_mem_nil, or_false, not_or]
            exact ⟨Nat.ne_of_lt (Nat.lt_succ_self _), Nat.ne_of_gt lS⟩
          refine set_upd ((Walks.tuple hh3 _ l nI its).toS) s.heap.objs.size nSf ks sz hb val (its.size - 0) 0 _ (by omega) (Nat.zero_le _) ⟨⟨_, Heap.get?_push_size _ rfl, rfl, rfl⟩, (hl1.push _)⟩ ?_ ?_
          · exact setM_new (Heap.get?_push_of_some _ hS)
          · intro s' mv hS'
            show wpAny _ _ _ _ _ _
            refine wpAny_pure ?_
            show wpAny _ _ (ret Value.none) _ _ _
            refine wpAny_pure ⟨rfl, fin _ s' rfl mv.gens mv.drawn mv.os (fun b o hb e => mv.heap b o hb (Heap.get?_push_of_some _ e)) hS'⟩
      · cases r2 with
        | error e => exact hr2
        | ok f2 =>
          cases f2 with
          | ret r =>
            obtain ⟨rfl, h', tk, rfl, hS', kp⟩ := hr2
            repeat (any_goals (first | assumption | wp_step))
            exact h _ _ hS' kp
          | _ => exact hr2.elim
    | _ => exact hr.elim
end
end Hg
end
section
set_option Elab.async false
set_option linter.all false
set_option autoImplicit false
set_option maxRecDepth 100000
set_option maxHeartbeats 2000000
/-! A18c: sorted(set), len(set) as tracked things; orders. -/
namespace Hg
open PySem PySem.Spec PyProof.Rows PySem.SeqAt L2
/-! ### rows that rise -/
theorem uniq_sorted {α : Type} {r : α → α → Prop} (irr : ∀ a, ¬ r a a) (tr : ∀ a b c, r a b → r b c → r a c) : ∀ l1 l2 : List α, l1.Pairwise r → l2.Pairwise r → (∀ x, x ∈ l1 ↔ x ∈ l2) → l1 = l2
  | [], [], _, _, _ => rfl
  | [], b :: l2, _, _, h => absurd ((h b).mpr List.mem_cons_self) (by simp)
  | a :: l1, [], _, _, h => absurd ((h a).mp List.mem_cons_self) (by simp)
  | a :: l1, b :: l2, h1, h2, h => by
    obtain ⟨a1, a2⟩ := List.pairwise_cons.mp h1
    obtain ⟨b1, b2⟩ := List.pairwise_cons.mp h2
    have e : a = b := by
      rcases List.mem_cons.mp ((h a).mp List.mem_cons_self) with q | q
      · exact q
      · rcases List.mem_cons.mp ((h b).mpr List.mem_cons_self) with z | z
        · exact z.symm
        · exact absurd (tr _ _ _ (a1 b z) (b1 a q)) (irr a)
    subst e
    rw [uniq_sorted irr tr l1 l2 a2 b2 fun x => ⟨fun q => ?_, fun q => ?_⟩]
    · rcases List.mem_cons.mp ((h x).mp (List.mem_cons_of_mem _ q)) with z | z
      · subst z; exact absurd (a1 x q) (irr x)
      · exact z
    · rcases List.mem_cons.mp ((h x).mpr (List.mem_cons_of_mem _ q)) with z | z
      · subst z; exact absurd (b1 x q) (irr x)
      · exact z
section
variable {α : Type} {lt : α → α → Bool}
theorem insU_mem (tri : ∀ a b, lt a b = false → lt b a = false → a = b) (x : α) : ∀ (l : List α) (y : α), y ∈ insU lt x l ↔ y = x ∨ y ∈ l
  | [], y => by simp [insU]
  | z :: l, y => by
    unfold insU
    split
    · simp
    · split
      · rw [List.mem_cons, insU_mem tri x l y, List.mem_cons]
        constructor
        · rintro (h | h | h)
          · exact .inr (.inl h)
          · exact .inl h
          · exact .inr (.inr h)
        · rintro (h | h | h)
          · exact .inr (.inl h)
          · exact .inl h
          · exact .inr (.inr h)
      · rename_i h1 h2
        have e := tri x z (by simpa using h1) (by simpa using h2)
        subst e
        simp
theorem insU_sorted (tri : ∀ a b, lt a b = false → lt b a = false → a = b) (tr : ∀ a b c, lt a b = true → lt b c = true → lt a c = true) (x : α) : ∀ l : List α, l.Pairwise (fun a b => lt a b = true) → (insU lt x l).Pairwise (fun a b => lt a b = true)
  | [], _ => by simp [insU]
  | z :: l, h => by
    obtain ⟨h1, h2⟩ := List.pairwise_cons.mp h
    unfold insU
    split
    · rename_i e
      exact List.pairwise_cons.mpr ⟨fun y hy => (List.mem_cons.mp hy).elim (fun q => q ▸ e) fun q => tr _ _ _ e (h1 y q), h⟩
    · split
      · rename_i e
        refine List.pairwise_cons.mpr ⟨fun y hy => ?_, insU_sorted tri tr x l h2⟩
        rcases (insU_mem tri x l y).mp hy with q | q
        · subst q; exact e
        · exact h1 y q
      · exact h
theorem srtU_mem (tri : ∀ a b, lt a b = false → lt b a = false → a = b) : ∀ (l : List α) (y : α), y ∈ srtU lt l ↔ y ∈ l
  | [], y => by simp [srtU]
  | x :: l, y => by
    unfold srtU
    rw [insU_mem tri, srtU_mem tri l y, List.mem_cons]
theorem srtU_sorted (tri : ∀ a b, lt a b = false → lt b a = false → a = b) (tr : ∀ a b c, lt a b = true → lt b c = true → lt a c = true) : ∀ l : List α, (srtU lt l).Pairwise (fun a b => lt a b = true)
  | [] => by simp [srtU]
  | x :: l => insU_sorted tri tr x _ (srtU_sorted tri tr l)
end
/-! ### texts -/
theorem ltT_tri (a b : T) (h1 : ltT a b = false) (h2 : ltT b a = false) : a = b := by
  simp only [ltT, decide_eq_false_iff_not, List.not_lt] at h1 h2
  exact List.le_antisymm h2 h1
theorem ltT_tr (a b c : T) (h1 : ltT a b = true) (h2 : ltT b c = true) : ltT a c = true := by
  simp only [ltT, decide_eq_true_eq] at *
  exact List.lt_trans h1 h2
theorem ltT_irr (a : T) : ¬ ltT a a = true := by simp [ltT, List.lt_irrefl]
/-- members of the set that was made -/
theorem addK_mem (k j : Key) (ks : List Key) : j ∈ addK k ks ↔ j = k ∨ j ∈ ks := by
  by_cases h : k ∈ ks
  · rw [addK_in h]
    exact ⟨.inr, fun q => q.elim (fun e => e ▸ h) id⟩
  · rw [addK_out h, List.mem_cons]
theorem addsK_mem (ks : List Key) (j : Key) : j ∈ addsK ks ↔ j ∈ ks := by
  have : ∀ (ks a : List Key), j ∈ ks.foldl (fun a k => addK k a) a ↔ j ∈ ks ∨ j ∈ a := by
    intro ks
    induction ks with
    | nil => intro a; simp
    | cons k ks ih =>
      intro a
      rw [List.foldl_cons, ih, addK_mem, List.mem_cons]
      constructor
      · rintro (h | h | h)
        · exact .inl (.inr h)
        · exact .inl (.inl h)
        · exact .inr h
      · rintro ((h | h) | h)
        · exact .inr (.inl h)
        · exact .inl h
        · exact .inr (.inr h)
  unfold addsK
  rw [this]
  simp
/-! ### sorted(set) -/
section
variable {P : Program} {w : World} {A : Around} {E : Value → Shared → Prop} {s : Shared} {a : Addr} {ks : List Key}
theorem vals_keys : ∀ {l : List (Int × Value)}, (∀ e ∈ l, GoodM P w e) → Vals ((l.map keyM).map kV) (l.map (·.2))
  | [], _ => .nil
  | e :: l, h => .cons (h e List.mem_cons_self).1 (vals_keys fun x hx => h x (List.mem_cons_of_mem _ hx))
theorem sorted_txt {xs : List Str} (R : SetM P w s.heap a ks) (hk : ∀ k, k ∈ ks ↔ ∃ x ∈ xs, k = .inr x) (hh : A.handled = none) (hz : ks.length < 64) {Q : Value → Shared → Prop}
    (hQ : ∀ s' p (out : Array Value) (c : Nat) (ss : List Str), (∀ b o, s.heap.get? b = some o → s'.heap.get? b = some o) → s'.gens = s.gens → s'.os = s.os → s.heap.objs.size ≤ p →
      s'.heap.get? p = some (seqObj "list" out c) → StrsAre out.toList ss → ss.Nodup → sortedS ss = true → (∀ x, x ∈ ss ↔ x ∈ xs) → ss.length = ks.length → Q (.ref p) s') :
    wpAny (model P w) A (call (.builtin "sorted") [.ref a]) Q E s := by
  obtain ⟨o, es, ep, t, ho, xo, od, g, pm0, nd, hb, ff, rr, ll⟩ := R
  refine Calls.call_function_entry kind_sorted plain_sorted entry_sorted (args_sorted1 _) ?_
  unfold Builtin.«sorted»
  refine wpAny_bind (m := checkCount "sorted" 1 1 _) (wpAny_pure ?_)
  refine wpAny_bind (collect_set (A := A.in1) hh ⟨o, ho, xo.1, od⟩ ff hb rr ll fun s1 vs k1 hz1 g1 o1 pm => ?_)
  have vl : vs.length = ks.length := by rw [pm.length_eq, List.length_map, ← pm0.length_eq, List.length_map]
  have all : ∀ v ∈ vs, ∃ x tk, v = Value.str x tk := fun v hv => by
    obtain ⟨e, he, q⟩ := List.mem_map.mp (pm.mem_iff.mp hv)
    obtain ⟨x, hx, ek⟩ := (hk (keyM e)).mp (pm0.mem_iff.mp (List.mem_map_of_mem he))
    have r := (g e he).1
    rw [ek] at r
    obtain ⟨tk, r⟩ := r
    exact ⟨x, tk, by rw [← q]; exact r⟩
  have hI : StrsAre vs (vs.map strOf) := strsAre_map vs all
  have pk : (vs.map strOf).map Sum.inr |>.Perm ks := by
    have q := pm.map fun v => (keyM (0, v))
    rw [List.map_map] at q
    have e1 : es.toList.map ((fun v => keyM (0, v)) ∘ fun x => x.2) = es.toList.map keyM := List.map_congr_left fun e he => keyM_of (g e he).1
    rw [e1] at q
    refine (List.Perm.of_eq ?_).trans (q.trans pm0)
    rw [List.map_map]
    exact List.map_congr_left fun v hv => by
      obtain ⟨x, tk, rfl⟩ := all v hv
      rfl
  refine wpAny_bind (wpAny_newList ?_ (by rw [vl, sizeLine_eq]; omega))
  have oL : (s1.heap.push (seqObj "list" vs.toArray 0)).get? s1.heap.objs.size = some (seqObj "list" vs.toArray 0) := Heap.get?_push_size _ rfl
  refine wpAny_bind (wpAny_holding (wpAny_call_entry slot_list_sort ⟨_, oL, rfl⟩ entry_list_sort (list_sort_treeK strKind_oneLt oL hI.keysOf (fun v₁ v₂ rest e => keyKind_strs (by rw [← e]; exact hI)) (by rw [vl]; exact hz) fun st' hp hs => ?_) (args_list_sort _)))
  obtain ⟨ss, a1, a2, a3⟩ := sorted_out_str hI hp hs
  refine ⟨_, rfl, ?_⟩
  obtain ⟨c, hc⟩ := sortedHeap_at (vs := vs) (out := (arrOf st').map (·.2)) oL
  have pn : (ss.map (Sum.inr : Str → Key)).Perm ks := (a2.map _).trans pk
  have nds : ss.Nodup := by
    have q := pn.nodup_iff.mpr nd
    unfold List.Nodup at q ⊢
    exact (List.pairwise_map.mp q).imp fun h e => h (congrArg _ e)
  refine wpAny_pure ⟨_, rfl, hQ _ s1.heap.objs.size _ c ss (fun b u e => ?_) g1 o1 hz1 hc a1 nds a3 (fun x => ?_) (by rw [← pn.length_eq, List.length_map])⟩
  · have q := k1 b u e
    have lt := Heap.lt_size q
    show (sortedHeap (s1.heap.push (seqObj "list" vs.toArray 0)) s1.heap.objs.size vs ((arrOf st').map (·.2))).get? b = some u
    rw [sortedHeap_old (Nat.ne_of_lt lt) (by rw [size_push']; exact Nat.lt_succ_of_lt lt)]
    exact Heap.get?_push_of_some _ q
  · have q := (pn.mem_iff (a := Sum.inr x)).trans (hk (Sum.inr x))
    constructor
    · intro hx
      obtain ⟨y, hy, e⟩ := q.mp (List.mem_map_of_mem hx)
      cases e
      exact hy
    · intro hx
      obtain ⟨y, hy, e⟩ := List.mem_map.mp (q.mpr ⟨x, hx, rfl⟩)
      cases e
      exact hy
theorem sorted_int {xs : List Int} (R : SetM P w s.heap a ks) (hk : ∀ k, k ∈ ks ↔ ∃ x ∈ xs, k = .inl x) (hh : A.handled = none) (hz : ks.length < 64) {Q : Value → Shared → Prop}
    (hQ : ∀ s' p (out : Array Value) (c : Nat) (ss : List Int), (∀ b o, s.heap.get? b = some o → s'.heap.get? b = some o) → s'.gens = s.gens → s'.os = s.os → s.heap.objs.size ≤ p →
      s'.heap.get? p = some (seqObj "list" out c) → IntsAre out.toList ss → ss.Nodup → ss.Pairwise (· ≤ ·) → (∀ x, x ∈ ss ↔ x ∈ xs) → ss.length = ks.length → Q (.ref p) s') :
    wpAny (model P w) A (call (.builtin "sorted") [.ref a]) Q E s := by
  obtain ⟨o, es, ep, t, ho, xo, od, g, pm0, nd, hb, ff, rr, ll⟩ := R
  refine Calls.call_function_entry kind_sorted plain_sorted entry_sorted (args_sorted1 _) ?_
  unfold Builtin.«sorted»
  refine wpAny_bind (m := checkCount "sorted" 1 1 _) (wpAny_pure ?_)
  refine wpAny_bind (collect_set (A := A.in1) hh ⟨o, ho, xo.1, od⟩ ff hb rr ll fun s1 vs k1 hz1 g1 o1 pm => ?_)
  have vl : vs.length = ks.length := by rw [pm.length_eq, List.length_map, ← pm0.length_eq, List.length_map]
  have all : ∀ v ∈ vs, ∃ x tk, v = Value.int x tk := fun v hv => by
    obtain ⟨e, he, q⟩ := List.mem_map.mp (pm.mem_iff.mp hv)
    obtain ⟨x, hx, ek⟩ := (hk (keyM e)).mp (pm0.mem_iff.mp (List.mem_map_of_mem he))
    have r := (g e he).1
    rw [ek] at r
    obtain ⟨tk, r⟩ := r
    exact ⟨x, tk, by rw [← q]; exact r⟩
  have hI : IntsAre vs (vs.map Builtin.Re.reRawOf) := ints_of vs all
  have pk : (vs.map Builtin.Re.reRawOf).map (Sum.inl : Int → Key) |>.Perm ks := by
    have q := pm.map fun v => (keyM (0, v))
    rw [List.map_map] at q
    have e1 : es.toList.map ((fun v => keyM (0, v)) ∘ fun x => x.2) = es.toList.map keyM := List.map_congr_left fun e he => keyM_of (g e he).1
    rw [e1] at q
    refine (List.Perm.of_eq ?_).trans (q.trans pm0)
    rw [List.map_map]
    exact List.map_congr_left fun v hv => by
      obtain ⟨x, tk, rfl⟩ := all v hv
      rfl
  refine wpAny_bind (wpAny_newList ?_ (by rw [vl, sizeLine_eq]; omega))
  have oL : (s1.heap.push (seqObj "list" vs.toArray 0)).get? s1.heap.objs.size = some (seqObj "list" vs.toArray 0) := Heap.get?_push_size _ rfl
  refine wpAny_bind (wpAny_holding (wpAny_call_entry slot_list_sort ⟨_, oL, rfl⟩ entry_list_sort (list_sort_tree oL hI (by rw [vl]; exact hz) fun out ss a1 a2 a3 => ⟨_, rfl, ?_⟩) (args_list_sort _)))
  obtain ⟨c, hc⟩ := sortedHeap_at (vs := vs) (out := out) oL
  have pn : (ss.map (Sum.inl : Int → Key)).Perm ks := (a2.map _).trans pk
  have nds : ss.Nodup := by
    have q := pn.nodup_iff.mpr nd
    unfold List.Nodup at q ⊢
    exact (List.pairwise_map.mp q).imp fun h e => h (congrArg _ e)
  refine wpAny_pure ⟨_, rfl, hQ _ s1.heap.objs.size _ c ss (fun b u e => ?_) g1 o1 hz1 hc a1 nds a3 (fun x => ?_) (by rw [← pn.length_eq, List.length_map])⟩
  · have q := k1 b u e
    have lt := Heap.lt_size q
    show (sortedHeap (s1.heap.push (seqObj "list" vs.toArray 0)) s1.heap.objs.size vs out).get? b = some u
    rw [sortedHeap_old (Nat.ne_of_lt lt) (by rw [size_push']; exact Nat.lt_succ_of_lt lt)]
    exact Heap.get?_push_of_some _ q
  · have q := (pn.mem_iff (a := Sum.inl x)).trans (hk (Sum.inl x))
    constructor
    · intro hx
      obtain ⟨y, hy, e⟩ := q.mp (List.mem_map_of_mem hx)
      cases e
      exact hy
    · intro hx
      obtain ⟨y, hy, e⟩ := List.mem_map.mp (q.mpr ⟨x, hx, rfl⟩)
      cases e
      exact hy
end
/-! ### as tracked things -/
def SetMO (P : Program) (w : World) (a : Addr) (ks : List Key) : HO := .ext fun h => SetM P w h a ks
section
variable {X : Cx}
theorem setMO_new {w : World} {P : Program} {H : Hp} {h : Heap} {a : Addr} {ks : List Key} (R : SetM P w h a ks) : ObjOk P w H h a (SetMO P w a ks) := by
  have ⟨o, _, _, _, ho, _⟩ := R
  exact ⟨R, ⟨o, ho⟩, fun h1 h2 p k => SetM.at p k⟩
theorem setMO_get {pins : List (Addr × Obj)} {σ : Sg} {H : Hp} {s : Shared} {a : Addr} {ks : List Key} (I : Inv X pins σ H s) (ha : H a = some (SetMO X.prog X.w a ks)) : SetM X.prog X.w s.heap a ks := (I.hok a _ ha).1
/-- set(xs) of texts or whole numbers -/
def rSetM (X : Cx) : List V → Hp → VK → Prop := fun xs H Q => ∃ (a : Addr) (ks : List Key), xs = [.ref a] ∧ (SqL X.K H a (ks.map kV) ∨ SqT X.K H a (ks.map kV)) ∧ ks.length < 64 ∧ ∀ p, H p = none → Q (.ref p) (upd H p (SetMO X.prog X.w p (addsK ks)))
theorem vals_at : ∀ {ks : List Key} {its : List Value}, Vals (ks.map kV) its → ∀ (i : Nat) (v : Value), its[i]? = some v → ∃ k, ks[i]? = some k ∧ RelV (kV k) v
  | [], _, .nil, i, v, h => by simp at h
  | k :: ks, _, .cons r rs, 0, v, h => by simp at h; subst h; exact ⟨k, rfl, r⟩
  | k :: ks, _, .cons r rs, i + 1, v, h => by simpa using vals_at rs i v (by simpa using h)
theorem call_setMO (hc : X.calm = true) : CallR X (.type "set") (rSetM X) := by
  intro pins s σ H xs us Q I r h
  obtain ⟨a, ks, rfl, hq, hz, q⟩ := h
  rw [Vals.ref1 r]
  have fin : ∀ (its : List Value), Vals (ks.map kV) its → (s.heap.IsList a its.toArray ∨ s.heap.IsTuple a its.toArray) → wpAny (model X.prog X.w) X.A (call (.type "set") [.ref a]) (EP X pins σ Q) X.xe s := fun its rv hl => by
    have hlen := rv.length
    rw [List.length_map] at hlen
    refine call_setM ks (I.ok.hd hc) hl (by simpa using hlen.symm) (fun i v hv => vals_at rv i v (by simpa using hv)) (by unfold scanBound; omega) fun h' tk R kp => ?_
    exact ⟨.ref s.heap.objs.size, _, I.laid (t' := tk) kp (Nat.le_refl _) (setMO_new R), rfl, q _ (I.hok.fresh (Nat.le_refl _))⟩
  rcases hq with hq | hq
  · obtain ⟨its, rv, p, _⟩ := I.list hq
    exact fin its rv (.inl p.isList)
  · obtain ⟨its, rv, p, _⟩ := I.tuple hq
    exact fin its rv (.inr p)
/-- len(set) -/
theorem call_lenM : CallR X (.builtin "len") (fun xs H Q => ∃ (a : Addr) (ks : List Key), xs = [.ref a] ∧ H a = some (SetMO X.prog X.w a ks) ∧ Q (.int ks.length) H) := by
  intro pins s σ H xs us Q I r h
  obtain ⟨a, ks, rfl, ha, q⟩ := h
  rw [Vals.ref1 r]
  obtain ⟨o, es, ep, t, ho, xo, od, ff, sz, sb⟩ := (setMO_get I ha).len_ok
  have hb : es.size < 2 ^ 40 := Nat.lt_trans sb (by decide)
  refine call_len_set ho xo od ff (by omega) ⟨.int ks.length, H, I.tok _, ⟨_, by rw [sz]⟩, q⟩
/-- sorted(set) -/
def rSrtM (X : Cx) : List V → Hp → VK → Prop := fun xs H Q => ∃ (a : Addr) (ks : List Key), xs = [.ref a] ∧ H a = some (SetMO X.prog X.w a ks) ∧ ks.length < 64 ∧
  ((∃ ts : List T, (∀ k, k ∈ ks ↔ ∃ x ∈ ts.map toS, k = .inr x) ∧ ∀ p, H p = none → Q (.ref p) (upd H p (.lst ((srtU ltT ts).map fun x => V.str (toS x))))) ∨
   (∃ ns : List Int, (∀ k, k ∈ ks ↔ ∃ x ∈ ns, k = .inl x) ∧ ∀ p, H p = none → Q (.ref p) (upd H p (.lst ((srtU (fun a b => decide (a < b)) ns).map V.int)))))
end
end Hg
end
section
set_option Elab.async false
set_option linter.all false
set_option autoImplicit false
set_option maxRecDepth 100000
set_option maxHeartbeats 2000000
/-! A18: sorted(set(xs)), len(set(xs)) as trees. -/
namespace Hg
open PySem PySem.Spec PyProof.Rows PySem.SeqAt L2
theorem rising_pw : ∀ (p : Str) (l : List Str), risingS p l = true → (p :: l).Pairwise (fun a b => a.cps.toList ≤ b.cps.toList)
  | p, [], _ => List.pairwise_singleton _ _
  | p, x :: r, h => by
    have h : (!ltCps x.cps.toList p.cps.toList && risingS x r) = true := h
    rw [Bool.and_eq_true, Bool.not_eq_true', ltCps_eq, decide_eq_false_iff_not, List.not_lt] at h
    have ih := rising_pw x r h.2
    refine List.pairwise_cons.mpr ⟨fun y hy => ?_, ih⟩
    rcases List.mem_cons.mp hy with q | q
    · rw [q]; exact h.1
    · exact List.le_trans h.1 (List.rel_of_pairwise_cons ih q)
theorem sorted_pw : ∀ l : List Str, sortedS l = true → l.Pairwise (fun a b => a.cps.toList ≤ b.cps.toList)
  | [], _ => List.Pairwise.nil
  | x :: r, h => rising_pw x r h
theorem toS_of (x : Str) : toS x.cps.toList = x := by simp [toS]
theorem txt_out {ss : List Str} {ts : List T} (nd : ss.Nodup) (so : sortedS ss = true) (hm : ∀ x, x ∈ ss ↔ x ∈ ts.map toS) : ss = (srtU ltT ts).map toS := by
  have e1 : ss = (ss.map fun x => x.cps.toList).map toS := by
    rw [List.map_map]
    exact (List.map_id ss).symm.trans (List.map_congr_left fun x _ => (toS_of x).symm)
  rw [e1]
  congr 1
  refine uniq_sorted (r := fun a b => ltT a b = true) ltT_irr ltT_tr _ _ ?_ (srtU_sorted ltT_tri ltT_tr ts) fun x => ?_
  · rw [List.pairwise_map]
    have p1 := sorted_pw ss so
    have p2 : ss.Pairwise (· ≠ ·) := nd
    refine (p1.and p2).imp fun {a b} h => ?_
    simp only [ltT, decide_eq_true_eq]
    rcases List.le_iff_lt_or_eq.mp h.1 with q | q
    · exact q
    · exact absurd (by rw [← toS_of a, ← toS_of b, q]) h.2
  · rw [srtU_mem ltT_tri, List.mem_map]
    constructor
    · rintro ⟨y, hy, rfl⟩
      obtain ⟨z, hz, e⟩ := List.mem_map.mp ((hm y).mp hy)
      rw [← e, toS_cps]
      exact hz
    · intro hx
      exact ⟨toS x, (hm _).mpr (List.mem_map_of_mem hx), toS_cps x⟩
theorem int_out {ss ns : List Int} (nd : ss.Nodup) (so : ss.Pairwise (· ≤ ·)) (hm : ∀ x, x ∈ ss ↔ x ∈ ns) : ss = srtU (fun a b => decide (a < b)) ns := by
  have tri : ∀ a b : Int, decide (a < b) = false → decide (b < a) = false → a = b := fun a b h1 h2 => by
    simp only [decide_eq_false_iff_not] at h1 h2; omega
  have tr : ∀ a b c : Int, decide (a < b) = true → decide (b < c) = true → decide (a < c) = true := fun a b c h1 h2 => by
    simp only [decide_eq_true_eq] at *; omega
  refine uniq_sorted (r := fun a b : Int => decide (a < b) = true) (fun a => by simp) tr _ _ ?_ (srtU_sorted tri tr ns) fun x => ?_
  · have p2 : ss.Pairwise (· ≠ ·) := nd
    refine (so.and p2).imp fun {a b} h => ?_
    simp only [decide_eq_true_eq]
    omega
  · rw [srtU_mem tri]
    exact hm x
section
variable {X : Cx}
theorem call_srtM (hc : X.calm = true) : CallR X (.builtin "sorted") (rSrtM X) := by
  intro pins s σ H vs us Q I r h
  obtain ⟨a, ks, rfl, ha, hz, q⟩ := h
  have R := setMO_get I ha
  rw [Vals.ref1 r]
  have fin : ∀ (s' : Shared) (p : Addr) (out : Array Value) (c : Nat) (xs : List V), (∀ b o, s.heap.get? b = some o → s'.heap.get? b = some o) → s'.gens = s.gens → s'.os = s.os → s.heap.objs.size ≤ p →
      s'.heap.get? p = some (seqObj "list" out c) → Vals xs out.toList → xs.length ≤ sizeLine → (∀ p, H p = none → Q (.ref p) (upd H p (.lst xs))) → EP X pins σ Q (.ref p) s' := fun s' p out c xs k g o hp hg rv hl hq => by
    have hn : H p = none := I.hok.fresh hp
    have J : Inv X pins σ (upd H p (.lst xs)) { s with heap := s'.heap, gens := s'.gens, drawn := s'.drawn, toks := s'.toks } :=
      I.call (ch := []) (Un.laid k hp hn) (I.hok.laid k hp ⟨hl, out.toList, c, rv, hg⟩) (by rw [g]; exact I.bare) (fun _ z => nomatch z)
    have e : s' = { s with heap := s'.heap, gens := s'.gens, drawn := s'.drawn, toks := s'.toks } := by
      cases s'
      cases s
      cases o
      rfl
    rw [e]
    exact ⟨.ref p, _, J, rfl, hq p hn⟩
  rcases q with ⟨ts, hk, q⟩ | ⟨ns, hk, q⟩
  · refine sorted_txt R hk (I.ok.hd hc) hz fun s' p out c ss k g o hp hg hi nd so hm hl => ?_
    have e := txt_out nd so hm
    refine fin s' p out c (ss.map V.str) k g o hp hg (vals_of_strs hi) (by rw [List.length_map, hl, sizeLine_eq]; omega) ?_
    rw [e, List.map_map]
    exact q
  · refine sorted_int R hk (I.ok.hd hc) hz fun s' p out c ss k g o hp hg hi nd so hm hl => ?_
    have e := int_out nd so hm
    refine fin s' p out c (ss.map V.int) k g o hp hg (vals_of_ints hi) (by rw [List.length_map, hl, sizeLine_eq]; omega) ?_
    rw [e]
    exact q
end
theorem addK_map {α : Type} [DecidableEq α] {f : α → Key} (inj : ∀ a b, f a = f b → a = b) (k : α) (l : List α) : addK (f k) (l.map f) = (addU l k).map f := by
  have e : ((l.map f).any fun j => decide (j = f k)) = (l.any fun j => decide (j = k)) := by
    rw [List.any_map]
    congr 1
    funext j
    show decide (f j = f k) = decide (j = k)
    by_cases h : j = k
    · subst h; simp
    · rw [decide_eq_false h, decide_eq_false fun q => h (inj _ _ q)]
  unfold addK addU
  rw [e]
  split <;> rfl
theorem addsK_map {α : Type} [DecidableEq α] {f : α → Key} (inj : ∀ a b, f a = f b → a = b) (l : List α) : addsK (l.map f) = (dedup l).map f := by
  have : ∀ (l a : List α), (l.map f).foldl (fun a k => addK k a) (a.map f) = (l.foldl addU a).map f := by
    intro l
    induction l with
    | nil => intro a; rfl
    | cons x l ih =>
      intro a
      rw [List.map_cons, List.foldl_cons, addK_map inj, ih]
      rfl
  exact this l []
theorem reps_of_strs {L : Pl} {F : Fz} {C : List Addr} {H : Hp} : ∀ ts : List T, Reps L F C H (ts.map fun x => V.str (toS x)) (ts.map D.str)
  | [] => .nil
  | t :: ts => .cons (.str t) (reps_of_strs ts)
theorem reps_of_ints {L : Pl} {F : Fz} {C : List Addr} {H : Hp} : ∀ ts : List Int, Reps L F C H (ts.map V.int) (ts.map D.int)
  | [] => .nil
  | t :: ts => .cons (.int t) (reps_of_ints ts)
section
variable {W : Lw} {n : Nat} {X : Cx} {N : List Str} {sc : ScN} {Ex : Sg → XK} {L : Pl} {ev : E → Env → M D} {a : Expr} {pos : Pos}
/-- the one argument, read -/
theorem one_imp {p : Prim} {e : E} {σ : Sg} {H : Hp} {Q : VK} (q : SE L Ex (fun env => do let ds ← evL ev [e] env; M.ofO (primD p ds)) σ H Q) : SE L Ex (ev e) σ H fun v H1 => ∃ F C c d d', Cok L F C H1 c ∧ Rep L F C H1 v d ∧ primD p [d] = some d' ∧ Cont L F C H1 d' Q := by
  have q : SE L Ex (fun env => ev e env >>= fun d => M.ofO (primD p [d])) σ H Q := by
    obtain ⟨F, C, env, c, si, o⟩ := q
    refine ⟨F, C, env, c, si, ?_⟩
    have e1 : (evL ev [e] env >>= fun ds => M.ofO (primD p ds)) = (ev e env >>= fun d => M.ofO (primD p [d])) := by
      funext c
      show M.bind (M.bind (ev e env) _) _ c = M.bind (ev e env) _ c
      unfold M.bind
      cases ev e env c <;> rfl
    have o : Out RV L F C H (Ex σ) Q ((evL ev [e] env >>= fun ds => M.ofO (primD p ds)) c) := o
    rw [e1] at o
    exact o
  refine (SG.bind (R := RV) (k := fun d env => M.ofO (primD p [d])) q).imp fun v H1 h1 => ?_
  obtain ⟨F, C, c, ⟨_, d⟩, d', ck, ⟨_, r⟩, e, k⟩ := SK.fin (f := fun (g : Unit × D) => primD p [g.2]) h1
  exact ⟨F, C, c, d, d', ck, r, e, k⟩
/-- texts or whole numbers in a row -/
theorem seq_keys {F : Fz} {C : List Addr} {H : Hp} {K : PySem.W.Frag} {v : V} {d : D} {xs : List D} (r : Rep L F C H v d) (e : seqD d = some xs) : ∃ a vs, v = .ref a ∧ (SqL K H a vs ∨ SqT K H a vs) ∧ Reps L F C H vs xs := by
  cases d <;> simp only [seqD, reduceCtorEq, Option.some.injEq] at e
  · subst e
    cases r with
    | tup o f h d1 r => exact ⟨_, _, rfl, .inr (.inl (.inr ⟨o, h⟩)), r⟩
  · subst e
    cases r with
    | lst f h r => exact ⟨_, _, rfl, .inl (.of h), r⟩
theorem inr_inj (a b : T) (h : (Sum.inr (toS a) : Key) = Sum.inr (toS b)) : a = b := toS_inj (Sum.inr.inj h)
theorem inl_inj (a b : Int) (h : (Sum.inl a : Key) = Sum.inl b) : a = b := Sum.inl.inj h
theorem strs_kV (ts : List T) : (ts.map toS).map V.str = (ts.map fun t => (Sum.inr (toS t) : Key)).map kV := by
  rw [List.map_map, List.map_map]; rfl
theorem ints_kV (ns : List Int) : ns.map V.int = (ns.map fun t => (Sum.inl t : Key)).map kV := by
  rw [List.map_map]; rfl
/-- a set's own object is laid and left -/
theorem Cont.laid {F : Fz} {C : List Addr} {H : Hp} {d : D} {Q : VK} {p : Addr} {o : HO} (k : Cont L F C H d Q) (hf : Fin F H) (hp : H p = none) : Cont L F C (upd H p o) d Q := fun v F' H' ex r =>
  k v F' H' (Ext.trans ((Ext.refl hf).updNew hp fun f => hf p f hp) ex) r
theorem snd_set (hX : CxOk W n X N sc Ex) (hF : Facts W) {i2 : Str} {p2 p3 : Pos} {t : TE} (h2 : gloB sc i2 "set" = true) (h4 : notStar a = true) (ha : PE X a t) : PE X (.Call (.Name i2 p2) [a] [] p3) (tCB (rSetM X) (tCons t tNil)) :=
  snd_callG hX hF (.inr ⟨_, rfl⟩) bn_set h2 (call_setMO hX.calm) (by simp [allPlain, h4]) (pa_cons ha pa_nil (star_cons h4))
theorem snd_sset (hX : CxOk W n X N sc Ex) (hF : Facts W) {i1 i2 : Str} {p1 p2 p3 : Pos} {e : E} (h1 : gloB sc i1 "sorted" = true) (h2 : gloB sc i2 "set" = true) (h4 : notStar a = true) (ha : PE X a (SE W.L Ex (ev e))) :
    PE X (.Call (.Name i1 p1) [.Call (.Name i2 p2) [a] [] p3] [] pos) (SE W.L Ex fun env => do let ds ← evL ev [e] env; M.ofO (primD .sset ds)) := by
  refine PEimp (snd_callG hX hF (.inl ⟨_, rfl⟩) bn_sorted h1 (call_srtM hX.calm) rfl (pa_cons (snd_set (p3 := p3) hX hF h2 h4 ha) pa_nil (star_cons rfl))) fun σ H Q q => ?_
  refine (one_imp q).imp fun v H1 ⟨F, C, c, d, d', ck, r, e1, k⟩ => ?_
  have e1 : (seqD d).bind ssetD = some d' := e1
  obtain ⟨xs, e2, e3⟩ := Option.bind_eq_some_iff.mp e1
  obtain ⟨b, vs, rfl, hq, rs⟩ := seq_keys (K := X.K) r e2
  unfold ssetD at e3
  split at e3
  · rename_i ts e4
    rw [Option.ite_none_right_eq_some] at e3
    obtain ⟨hl, e3⟩ := e3
    cases e3
    rw [reps_strs rs e4, strs_kV] at hq
    refine ⟨b, _, rfl, hq, by simpa using hl, fun p hp => ⟨p, _, rfl, upd_same, ?_, .inl ⟨ts, fun kk => ?_, fun q hq2 => ?_⟩⟩⟩
    · have := addsK_len (ts.map fun t => (Sum.inr (toS t) : Key))
      rw [List.length_map] at this
      omega
    · rw [addsK_mem, List.mem_map]
      constructor
      · rintro ⟨t, ht, rfl⟩; exact ⟨_, List.mem_map_of_mem ht, rfl⟩
      · rintro ⟨x, hx, rfl⟩
        obtain ⟨t, ht, rfl⟩ := List.mem_map.mp hx
        exact ⟨t, ht, rfl⟩
    · have k2 := k.laid (o := SetMO X.prog X.w p (addsK (ts.map fun t => (Sum.inr (toS t) : Key)))) ck.fin hp
      exact k2.newL ((Ext.refl ck.fin).updNew hp (C := []) (fun f => ck.fin p f hp)).fin hq2 (reps_of_strs _)
  · split at e3
    · rename_i ns e4
      rw [Option.ite_none_right_eq_some] at e3
      obtain ⟨hl, e3⟩ := e3
      cases e3
      rw [reps_ints rs e4, ints_kV] at hq
      refine ⟨b, _, rfl, hq, by simpa using hl, fun p hp => ⟨p, _, rfl, upd_same, ?_, .inr ⟨ns, fun kk => ?_, fun q hq2 => ?_⟩⟩⟩
      · have := addsK_len (ns.map fun t => (Sum.inl t : Key))
        rw [List.length_map] at this
        omega
      · rw [addsK_mem, List.mem_map]
        constructor
        · rintro ⟨t, ht, rfl⟩; exact ⟨_, ht, rfl⟩
        · rintro ⟨x, hx, rfl⟩; exact ⟨x, hx, rfl⟩
      · have k2 := k.laid (o := SetMO X.prog X.w p (addsK (ns.map fun t => (Sum.inl t : Key)))) ck.fin hp
        exact k2.newL ((Ext.refl ck.fin).updNew hp (C := []) (fun f => ck.fin p f hp)).fin hq2 (reps_of_ints _)
    · cases e3
theorem snd_lset (hX : CxOk W n X N sc Ex) (hF : Facts W) {i1 i2 : Str} {p1 p2 p3 : Pos} {e : E} (h1 : gloB sc i1 "len" = true) (h2 : gloB sc i2 "set" = true) (h4 : notStar a = true) (ha : PE X a (SE W.L Ex (ev e))) :
    PE X (.Call (.Name i1 p1) [.Call (.Name i2 p2) [a] [] p3] [] pos) (SE W.L Ex fun env => do let ds ← evL ev [e] env; M.ofO (primD .lset ds)) := by
  refine PEimp (snd_callG hX hF (.inl ⟨_, rfl⟩) bn_len h1 call_lenM rfl (pa_cons (snd_set (p3 := p3) hX hF h2 h4 ha) pa_nil (star_cons rfl))) fun σ H Q q => ?_
  refine (one_imp q).imp fun v H1 ⟨F, C, c, d, d', ck, r, e1, k⟩ => ?_
  have e1 : (seqD d).bind lsetD = some d' := e1
  obtain ⟨xs, e2, e3⟩ := Option.bind_eq_some_iff.mp e1
  obtain ⟨b, vs, rfl, hq, rs⟩ := seq_keys (K := X.K) r e2
  unfold lsetD at e3
  split at e3
  · rename_i ts e4
    rw [Option.ite_none_right_eq_some] at e3
    obtain ⟨hl, e3⟩ := e3
    cases e3
    rw [reps_strs rs e4, strs_kV] at hq
    refine ⟨b, _, rfl, hq, by simpa using hl, fun p hp => ⟨p, _, rfl, upd_same, ?_⟩⟩
    rw [addsK_map inr_inj, List.length_map]
    exact (k.laid ck.fin hp).now ((Ext.refl ck.fin).updNew hp (C := []) (fun f => ck.fin p f hp)).fin (.int _)
  · split at e3
    · rename_i ns e4
      rw [Option.ite_none_right_eq_some] at e3
      obtain ⟨hl, e3⟩ := e3
      cases e3
      rw [reps_ints rs e4, ints_kV] at hq
      refine ⟨b, _, rfl, hq, by simpa using hl, fun p hp => ⟨p, _, rfl, upd_same, ?_⟩⟩
      rw [addsK_map inl_inj, List.length_map]
      exact (k.laid ck.fin hp).now ((Ext.refl ck.fin).updNew hp (C := []) (fun f => ck.fin p f hp)).fin (.int _)
    · cases e3
end
end Hg
end
section
set_option Elab.async false
set_option linter.all false
set_option autoImplicit false
set_option maxRecDepth 100000
set_option maxHeartbeats 2000000
/-! A18d: tuple(range(..)). -/
namespace Hg
open PySem PySem.Spec PyProof.Rows PySem.SeqAt L2
theorem rgV_reps {L : Pl} {F : Fz} {C : List Addr} {H : Hp} (a b : Int) : Reps L F C H (rgV a b) (rngL a b) := by
  unfold rgV rngL
  have : ∀ xs : List Nat, Reps L F C H (xs.map fun i => V.int (a + (i : Nat))) (xs.map fun k => D.int (a + (k : Nat))) := fun xs => by
    induction xs with
    | nil => exact .nil
    | cons x xs ih => exact .cons (.int _) ih
  exact this _
section
variable {X : Cx} {e : Expr} {te : L2.St → Hp → (Int → Int → Hp → Prop) → Prop}
/-- its object known -/
def tTupRgF (te : L2.St → Hp → (Int → Int → Hp → Prop) → Prop) : TE := fun σ H Q => te σ H fun a b H1 => RgOk a b ∧ ∀ q (o : Obj), H1 q = none → o.dict = none → Q (.ref q) (upd H1 q (.frz o (.tup (rgV a b))))
theorem pe_tupRgF {p pos : Pos} (hc : X.calm = true) (hg : Gl X "tuple") (hm : X.mg "tuple" = none) (he : PRg X e te) (na : starEach [e] X.env = (false, eval e X.env) :: starEach [] X.env := by rfl) : PE X (.Call (.Name "tuple" p) [e] [] pos) (tTupRgF te) := by
  refine ⟨fun pins s σ H Q I h => ?_⟩
  refine Call_ (ld_blt I hg hm boot_tuple (PyProof.Rows.callWith_type1 (args_cons (thn (he pins s σ H _ I h) fun x s1 ⟨r, a, b, t, u, v, H1, ex, hr, I1, ok, q⟩ => args_nil ?_) na) na))
  subst ex
  obtain ⟨b1, b2, b3, b4, b5⟩ := ok
  refine call_tuple_range (n := (b - a).toNat) (I1.ok.hd hc) hr (small_one b1 b2 b3 b4) (rangeSize_nat a b) b5 fun h' tk acc hk hi => ?_
  have I2 : Inv X pins σ H1 { s1 with heap := h', toks := tk } := I1.kept hk
  refine ⟨.ref h'.objs.size, upd H1 h'.objs.size (.frz { cls := .type "tuple", data := .seq acc } (.tup (rgV a b))), I2.laid (t' := tk) (fun c o e => Heap.get?_push_of_some _ e) (Nat.le_refl _) (show ObjOk X.prog X.w _ _ _ (.frz _ (.tup (rgV a b))) from ⟨Heap.get?_push_size _ rfl, ?_, acc.toList, vals_rg hi, ?_⟩), rfl, q _ _ (I2.hok.fresh (Nat.le_refl _)) rfl⟩
  · rw [rgV_length, sizeLine_eq]; omega
  · rw [Array.toArray_toList]; exact IsTup.new _ _
end
section
variable {W : Lw} {n : Nat} {X : Cx} {N : List Str} {sc : ScN} {Ex : Sg → XK} {ev : E → Env → M D} {a b : Expr} {pos : Pos}
theorem snd_rngt (hX : CxOk W n X N sc Ex) (hF : Facts W) {i1 i2 : Str} {p1 p2 p3 : Pos} {e f : E} (h1 : gloB sc i1 "tuple" = true) (h2 : gloB sc i2 "range" = true) (h3 : notStar a = true) (h4 : notStar b = true) (ha : PE X a (SE W.L Ex (ev e))) (hb : PE X b (SE W.L Ex (ev f))) :
    PE X (.Call (.Name i1 p1) [.Call (.Name i2 p2) [a, b] [] p3] [] pos) (SE W.L Ex fun env => do let ds ← evL ev [e, f] env; M.ofO (primD .rngt ds)) := by
  obtain ⟨rfl, g1⟩ := gloB_of h1
  obtain ⟨rfl, g2⟩ := gloB_of h2
  have sb : starEach [b] X.env = (false, eval b X.env) :: starEach [] X.env := star_cons h4
  refine PEimp (pe_tupRgF hX.calm (hX.gl _ g1) (by rw [hX.mg]; exact hF.blt "tuple" bn_tuple.mem) (prg_2 (hX.gl _ g2) (by rw [hX.mg]; exact hF.blt "range" (by decide)) ha hb (star_cons h3) sb (by rw [sb]; rfl))) fun σ H Q q => ?_
  have q : SE W.L Ex (fun env => ev e env >>= fun x => ev f env >>= fun y => M.ofO (primD .rngt [x, y])) σ H Q := by
    obtain ⟨F, C, env, c, si, o⟩ := q
    refine ⟨F, C, env, c, si, ?_⟩
    have e1 : (evL ev [e, f] env >>= fun ds => M.ofO (primD .rngt ds)) = (ev e env >>= fun x => ev f env >>= fun y => M.ofO (primD .rngt [x, y])) := by
      funext c
      show M.bind (M.bind (ev e env) _) _ c = M.bind (ev e env) _ c
      unfold M.bind
      cases ev e env c with
      | ok d c1 =>
        dsimp only
        show M.bind (M.bind (M.bind (ev f env) _) _) _ c1 = M.bind (ev f env) _ c1
        unfold M.bind
        cases ev f env c1 <;> rfl
      | exc x c1 => rfl
      | bad => rfl
    have o : Out RV W.L F C H (Ex σ) Q ((evL ev [e, f] env >>= fun ds => M.ofO (primD .rngt ds)) c) := o
    rw [e1] at o
    exact o
  refine (SG.bind (R := RV) (k := fun x env => ev f env >>= fun y => M.ofO (primD .rngt [x, y])) q).imp fun x H1 h1 => ?_
  refine (SK.bind (R := RV) (k := fun gx y env => M.ofO (primD .rngt [gx.2, y])) (stabV stab0 x) h1).imp fun y H2 h2 => ?_
  obtain ⟨F, C, c, ⟨⟨_, dx⟩, dy⟩, d, ck, ⟨⟨_, rx⟩, ry⟩, e, k⟩ := SK.fin (f := fun (g : (Unit × D) × D) => primD .rngt [g.1.2, g.2]) h2
  dsimp only at e rx ry
  unfold primD at e
  split at e <;> (try contradiction)
  rename_i heq
  cases heq
  split at e <;> cases e
  rename_i hz
  cases rep_int rx
  cases rep_int ry
  exact ⟨_, _, rfl, rfl, ⟨by omega, by omega, by omega, by omega, by omega⟩, fun q o hq ho => k.newT ck.fin hq (rgV_reps _ _) ho⟩
end
end Hg
end
section
set_option Elab.async false
set_option linter.all false
set_option autoImplicit false
set_option maxRecDepth 100000
set_option maxHeartbeats 2000000
/-! A19: every expression that is matched computes what the small syntax says. -/
namespace Hg
open PySem PySem.Spec PyProof.Rows PySem.SeqAt L2
section
variable {W : Lw} {n : Nat} {X : Cx} {N : List Str} {sc : ScN} {Ex : Sg → XK} {L : Pl} {ev : E → Env → M D} {ma mb mc m : Env → M D} {a b c x : Expr} {pos : Pos}
theorem evEs_evL (cf : Nat → List D → M D) : ∀ (es : List E) (env : Env), evEs cf es env = evL (evE cf) es env
  | [], _ => rfl
  | e :: es, env => by
    show (do let d ← evE cf e env; let ds ← evEs cf es env; pure (d :: ds)) = _
    rw [evEs_evL cf es env]
    rfl
theorem snd_prim (hX : CxOk W n X N sc Ex) (hF : Facts W) {p : Prim} {es : List E} {xs : List Expr} (h : argsOf sc p x = some xs) (ha : AllPE X W.L Ex ev es xs) : PE X x (SE W.L Ex fun env => do let ds ← evL ev es env; M.ofO (primD p ds)) := by
  have hu := hX.units
  unfold argsOf at h
  split at h
  · rename_i t id p1 y ty p2 p3
    simp only [Option.ite_none_right_eq_some, Option.some.injEq] at h
    obtain ⟨hg, rfl⟩ := h
    obtain ⟨e, rfl, _, he⟩ := ha.one
    exact snd_isi hX hF hg he
  · simp only [Option.ite_none_right_eq_some, Option.some.injEq, Bool.and_eq_true] at h
    obtain ⟨⟨⟨h1, h2⟩, h3⟩, rfl⟩ := h
    obtain ⟨e, rfl, _, he⟩ := ha.one
    exact snd_sset hX hF h1 h2 h3 he
  · simp only [Option.ite_none_right_eq_some, Option.some.injEq, Bool.and_eq_true] at h
    obtain ⟨⟨⟨h1, h2⟩, h3⟩, rfl⟩ := h
    obtain ⟨e, rfl, _, he⟩ := ha.one
    exact snd_lset hX hF h1 h2 h3 he
  · simp only [Option.ite_none_right_eq_some, Option.some.injEq, Bool.and_eq_true] at h
    obtain ⟨⟨⟨⟨h1, h2⟩, h3⟩, h4⟩, rfl⟩ := h
    obtain ⟨e, f, rfl, _, he, _, hf⟩ := ha.two
    exact snd_rngt hX hF h1 h2 h3 h4 he hf
  all_goals first | cases h | skip
  all_goals simp only [Option.ite_none_right_eq_some, Option.some.injEq] at h
  all_goals obtain ⟨hg, rfl⟩ := h
  · exact snd_blt hX hF (.inl ⟨_, rfl⟩) bn_len hg (cd_len hX.K) ha.plain ha.pa
  · exact snd_blt hX hF (.inr ⟨_, rfl⟩) bn_list hg (cd_list hX.calm) ha.plain ha.pa
  · exact snd_blt hX hF (.inr ⟨_, rfl⟩) bn_tuple hg cd_tuple ha.plain ha.pa
  · exact snd_blt hX hF (.inr ⟨_, rfl⟩) bn_dict hg (cd_dict hX.calm) ha.plain ha.pa
  · exact snd_blt hX hF (.inl ⟨_, rfl⟩) bn_all hg (cd_all hX.calm) ha.plain ha.pa
  · exact snd_blt hX hF (.inl ⟨_, rfl⟩) bn_any hg (cd_any hX.calm) ha.plain ha.pa
  · exact snd_blt hX hF (.inl ⟨_, rfl⟩) bn_max hg (cd_max1 hX.calm) ha.plain ha.pa
  · exact snd_blt hX hF (.inl ⟨_, rfl⟩) bn_max hg (cd_max2 hX.calm) ha.plain ha.pa
  · exact snd_blt hX hF (.inl ⟨_, rfl⟩) bn_min hg (cd_min2 hX.calm (by have := hX.units; omega)) ha.plain ha.pa
  · exact snd_blt hX hF (.inl ⟨_, rfl⟩) bn_sorted hg (cd_srt hX.K hX.units) ha.plain ha.pa
  · exact snd_blt hX hF (.inr ⟨_, rfl⟩) bn_str hg cd_str ha.plain ha.pa
  · exact snd_blt hX hF (.inl ⟨_, rfl⟩) bn_sum hg (cd_sum hX.calm) ha.plain ha.pa
  · exact snd_blt hX hF (.inl ⟨_, rfl⟩) bn_abs hg cd_abs ha.plain ha.pa
  · exact snd_blt hX hF (.inr ⟨_, rfl⟩) bn_int hg cd_int1 ha.plain ha.pa
end
section
variable {L : Pl} {F : Fz} {C C0 : List Addr} {H : Hp} {c : Cells}
mutual
theorem Rep.low : ∀ {v : V} {d : D}, Rep L F C H v d → noCel d = true → Rep L F C0 H v d
  | _, _, .non, _ => .non
  | _, _, .bl b, _ => .bl b
  | _, _, .int i, _ => .int i
  | _, _, .str x, _ => .str x
  | _, _, .tup o f h d r, e => .tup o f h d (Reps.low r (by simpa [noCel] using e))
  | _, _, .pr f h r, e => .pr f h (Reps.low r (by simpa [noCel] using e))
  | _, _, .lst f h r, e => .lst f h (Reps.low r (by simpa [noCel] using e))
  | _, _, .dct o f h r, e => .dct o f h (RepK.low r (by simpa [noCel] using e))
  | _, _, .scr o f h, _ => .scr o f h
  | _, _, .scrK h, _ => .scrK h
  | _, _, .fn f h, _ => .fn f h
  | _, _, .cel h, e => by simp [noCel] at e
theorem Reps.low : ∀ {v : List V} {d : List D}, Reps L F C H v d → noCels d = true → Reps L F C0 H v d
  | _, _, .nil, _ => .nil
  | _, _, .cons h r, e => .cons (Rep.low h (by simp only [noCels, Bool.and_eq_true] at e; exact e.1)) (Reps.low r (by simp only [noCels, Bool.and_eq_true] at e; exact e.2))
theorem RepK.low : ∀ {v : List (Key × V)} {d : List (T × D)}, RepK L F C H v d → noCelK d = true → RepK L F C0 H v d
  | _, _, .nil, _ => .nil
  | _, _, .cons h r, e => .cons (Rep.low h (by simp only [noCelK, Bool.and_eq_true] at e; exact e.1)) (RepK.low r (by simp only [noCelK, Bool.and_eq_true] at e; exact e.2))
end
theorem Own.low {a : Addr} {d : D} (h : Own L F C H a d) (e : noCel d = true) : Own L F C0 H a d := by
  cases h with
  | lst e1 r => exact .lst e1 (r.low (by simpa [noCel] using e))
  | dct e1 r => exact .dct e1 (r.low (by simpa [noCel] using e))
end
section
variable {L : Pl} {F F' : Fz} {C C0 Cn : List Addr} {H H' : Hp} {c : Cells} {p : Addr} {n : Nat}
theorem Cok.low (ck : Cok L F (C0 ++ Cn) H c) (hn : C0.length = n) : Cok L F C0 H (c.take n) := by
  have hl := ck.len
  rw [List.length_append] at hl
  refine ⟨by rw [List.length_take]; omega, (List.nodup_append.mp ck.nd).1, fun k a d h1 h2 => ?_, fun a f h => ck.ap a f (List.mem_append_left _ h), ck.fin, fun k d h => ?_⟩
  · have hk : k < C0.length := (List.getElem?_eq_some_iff.mp h1).1
    rw [List.getElem?_take_of_lt (by omega)] at h2
    exact (ck.own k a d (by rw [List.getElem?_append_left hk]; exact h1) h2).low (ck.nc k d h2)
  · by_cases hk : k < n
    · rw [List.getElem?_take_of_lt hk] at h; exact ck.nc k d h
    · rw [List.getElem?_eq_none (by rw [List.length_take]; omega)] at h; cases h
theorem app_get1 {α : Type} {l : List α} {x : α} {k : Nat} {y : α} (h : (l ++ [x])[k]? = some y) : l[k]? = some y ∨ (k = l.length ∧ y = x) := by
  rcases Nat.lt_trichotomy k l.length with q | q | q
  · rw [List.getElem?_append_left q] at h; exact .inl h
  · subst q; simp at h; exact .inr ⟨rfl, h.symm⟩
  · rw [List.getElem?_eq_none (by simp; omega)] at h; cases h
theorem Cok.new0 (ck : Cok L F C H c) (hp : H p = none) : Cok L F (C ++ [p]) (upd H p (.lst [])) (c ++ [.lst []]) := by
  have nF : ¬ F p := fun f => ck.fin p f hp
  have nC : p ∉ C := fun h => ck.trk p h hp
  have up : ∀ a, F a → F a ∧ upd H p (HO.lst []) a = H a := fun a f => ⟨f, upd_ne (show a ≠ p from fun e => nF (e ▸ f))⟩
  have mono : ∀ (k : Nat) (a : Addr), C[k]? = some a → (C ++ [p])[k]? = some a := fun k a h => by
    rw [List.getElem?_append_left (List.getElem?_eq_some_iff.mp h).1]; exact h
  refine ⟨by simp [ck.len], ?_, fun k a d h1 h2 => ?_, fun a f h => ?_, (ck.updNew nF nC).fin, fun k d h => ?_⟩
  · rw [List.nodup_append]
    refine ⟨ck.nd, by simp, fun a ha b hb => ?_⟩
    rw [List.mem_singleton] at hb
    subst hb
    exact fun e => nC (e ▸ ha)
  · rcases app_get1 h1 with h1 | ⟨e1, rfl⟩
    · rcases app_get1 h2 with h2 | ⟨e2, rfl⟩
      · exact (ck.own k a d h1 h2).mono up mono (upd_ne fun e => nC (e ▸ List.mem_of_getElem? h1))
      · have := (List.getElem?_eq_some_iff.mp h1).1
        rw [ck.len] at this
        omega
    · rcases app_get1 h2 with h2 | ⟨e2, rfl⟩
      · have := (List.getElem?_eq_some_iff.mp h2).1
        rw [← ck.len] at this
        omega
      · exact .lst upd_same .nil
  · rcases List.mem_append.mp h with h | h
    · exact ck.ap a f h
    · rw [List.mem_singleton] at h
      subst h
      exact nF f
  · rcases app_get1 h with h | ⟨_, rfl⟩
    · exact ck.nc k d h
    · rfl
theorem Ext.cut (e : Ext F (C ++ [p]) (upd H p (.lst [])) F' H') (hp : H p = none) : Ext F C H F' H' where
  mono := e.mono
  new := fun a f => (e.new a f).imp id fun q => by
    by_cases z : a = p
    · subst z; rw [upd_same] at q; cases q
    · rw [upd_ne z] at q; exact q
  keep := fun a o h n => by
    have z : a ≠ p := ne_of_none h hp
    refine e.keep a o (by rw [upd_ne z]; exact h) fun q => ?_
    rcases List.mem_append.mp q with q | q
    · exact n q
    · exact z (List.mem_singleton.mp q)
  trk := fun a h => e.trk a (by
    by_cases z : a = p
    · subst z; rw [upd_same]; simp
    · rw [upd_ne z]; exact h)
  fin := e.fin
end
section
variable {W : Lw} {n : Nat} {X : Cx} {N : List Str} {sc : ScN} {Ex : Sg → XK} {ev : E → Env → M D} {a : Expr} {pos : Pos}
def tNew (t : TA) : TA := fun σ H Q => t σ H fun vs H1 => ∀ p, H1 p = none → Q (vs ++ [.ref p]) (upd H1 p (.lst []))
theorem pa_initN {L : Pl} : ∀ {xs ys : List Expr} {es : List E}, initN xs = some ys → AllPE X L Ex ev es ys → PA X xs (tNew (SAn es.length L Ex (evL ev es))) ∧ allPlain xs = true
  | [], ys, es, h, _ => by simp [initN] at h
  | [x], ys, es, h, ha => by
    unfold initN at h
    dsimp only at h
    split at h
    · cases h
      cases es with
      | cons _ _ => exact ha.elim
      | nil =>
        refine ⟨PAimp (pa_cons (pe_lst pa_nil) pa_nil (star_cons rfl)) fun σ H Q q => ?_, rfl⟩
        obtain ⟨F, C, env, c, si, o⟩ := q
        have o := o [] F H (.refl si.cok.fin) si.cok ⟨.nil, rfl⟩
        exact ⟨Nat.zero_le _, fun p hp => o p hp⟩
    · cases h
  | x :: y :: xs, ys, es, h, ha => by
    unfold initN at h
    dsimp only at h
    obtain ⟨zs, h1, rfl⟩ := Option.map_eq_some_iff.mp h
    cases es with
    | nil => exact ha.elim
    | cons e es =>
      obtain ⟨g1, g2⟩ := pa_initN h1 ha.2.2
      refine ⟨PAimp (pa_cons ha.2.1 g1 (star_cons ha.1)) fun σ H Q q => ?_, by simp only [allPlain, Bool.and_eq_true] at g2 ⊢; exact ⟨ha.1, g2⟩⟩
      refine (SG.bind (R := RV) (m := ev e) (k := fun d env => do let ds ← evL ev es env; pure (d :: ds)) q).imp fun v H1 h1 => ?_
      refine (SK.bind (R := RLn es.length) (k := fun gd ds env => pure (gd.2 :: ds)) (stabV stab0 v) h1).imp fun vs H2 h2 p hp => ?_
      obtain ⟨F, C, env, c, ⟨⟨_, dx⟩, ds⟩, si, ⟨⟨_, rx⟩, rs, hl⟩, o⟩ := h2
      exact o (v :: vs) F H2 (.refl si.cok.fin) si.cok ⟨.cons rx rs, congrArg (· + 1) hl⟩ p hp
theorem snd_calln (hX : CxOk W n X N sc Ex) (hF : Facts W) (hn : FnsAt W n) {f : Nat} {id : Str} {es : List E} {xs ys : List Expr} {p : Pos} (hid : (W.nm.fnm f).map toS = some id) (hg : isGlo (sc.lookup id) = true) (ho : okName id = true) (hi : initN (a :: xs) = some ys) (ha : AllPE X W.L Ex ev es ys) :
    PE X (.Call (.Name id p) (a :: xs) [] pos) (SE W.L Ex fun env => do let ds ← evL ev es env; outN (callF W.tab n f) ds) := by
  obtain ⟨x, hx, rfl⟩ := Option.map_eq_some_iff.mp hid
  obtain ⟨fdat, ps, Fn, Bd⟩ := hn f x hx
  obtain ⟨Fn, Bd⟩ := fn_cast hX Fn Bd
  obtain ⟨hm, hk⟩ := hF.fns f x hx
  have hgl : sc.lookup (toS x) = some .globalImplicit := by
    unfold isGlo at hg
    split at hg
    · assumption
    · cases hg
  obtain ⟨hr, hp⟩ := pa_initN hi ha
  simp only [allPlain, Bool.and_eq_true] at hp
  refine PEimp (pe_callS Fn hX.room (hX.gl _ hgl) (by rw [hX.mg]; exact hm) (by rw [hX.K]; exact hk) Bd hX.pass hr (okName_of ho).1 (star_cons hp.1) (back_plain hp.2)) fun σ H Q q => ?_
  refine (SG.bind (R := RLn es.length) (m := evL ev es) (k := fun ds env => outN (callF W.tab n f) ds) q).imp fun vs H1 h1 q hq => ?_
  obtain ⟨F, C, env, c, ⟨_, ds⟩, si, ⟨_, rs, _⟩, o⟩ := h1
  have o : Out RV W.L F C H1 (Ex σ) Q (outN (callF W.tab n f) ds c) := o
  have nF : ¬ F q := fun f => si.cok.fin q f hq
  have up : ∀ a, F a → F a ∧ upd H1 q (HO.lst []) a = H1 a := fun a f => ⟨f, upd_ne (show a ≠ q from fun e => nF (e ▸ f))⟩
  have hlen : c.length = C.length := si.cok.len.symm
  refine ⟨F, C ++ [q], ds ++ [.cel c.length], c ++ [.lst []], (rs.mono up fun k a h => by rw [List.getElem?_append_left (List.getElem?_eq_some_iff.mp h).1]; exact h).app (.cons (.cel (by rw [hlen]; simp)) .nil), si.cok.new0 hq, ?_⟩
  unfold outN at o
  cases e : callF W.tab n f (ds ++ [.cel c.length]) (c ++ [.lst []]) with
  | bad => rw [e] at o; exact o.elim
  | exc x c2 =>
    rw [e] at o
    exact fun F' H' ext ck => o F' H' (ext.cut hq) (ck.low hlen.symm)
  | ok d c2 =>
    rw [e] at o
    dsimp only at o
    split at o
    · rename_i hd
      exact fun v F' H' ext ck r => o v F' H' (ext.cut hq) (ck.low hlen.symm) (r.low hd)
    · exact o.elim
end
end Hg
end
section
set_option Elab.async false
set_option linter.all false
set_option autoImplicit false
set_option maxRecDepth 100000
set_option maxHeartbeats 1000000
/-! A19b: a tuple turned round. -/
namespace Hg
open PySem PySem.Spec PyProof.Rows L2 HT
section
variable {prog : Program} {w : World} {A : Around} {E : Value → Shared → Prop} {s : Shared}
theorem sliceApplied_rev {sl : Addr} {vs : Value} {n : Nat} {Q : Int × Int × Nat → Shared → Prop} (hs : s.heap.IsSliceOf sl .none .none vs) (ps : IsPart vs (some (-1)))
    (h : Q ((n : Int) - 1, -1, n) s) : wpAny (model prog w) A (Builtin.Slice.sliceApplied (.ref sl) (pure (n : Int))) Q E s := by
  obtain ⟨os, hos, hcs, hds⟩ := id hs
  unfold Builtin.Slice.sliceApplied Builtin.Slice.sliceFields
  refine wpAny_bind (wpAny_bind (wpAny_field hos hds (x := .none) rfl (wpAny_bind (wpAny_field hos hds (x := .none) rfl (wpAny_bind (wpAny_field hos hds (x := vs) rfl (wpAny_pure ?_)))))))
  refine wpAny_bind (slicePart_ ps ?_)
  show wpAny _ _ (if ((-1 : Int) == 0) = true then _ else _) _ _ s
  rw [if_neg (by decide)]
  refine wpAny_bind (slicePart_ .none (wpAny_bind (slicePart_ .none (wpAny_bind (wpAny_pure ?_)))))
  have e1 : Builtin.Slice.sliceAdjust none none (-1) (n : Int) = ((n : Int) - 1, -1) := rfl
  have e2 : Builtin.Slice.slicePlaces ((n : Int) - 1) (-1) (-1) = n := by
    unfold Builtin.Slice.slicePlaces
    rw [if_neg (by decide)]
    by_cases h : (n : Int) - 1 > -1
    · rw [if_pos h, show (- -1 : Int) = 1 by decide, Int.ediv_one]
      omega
    · rw [if_neg h]
      omega
  show wpAny _ _ (match Builtin.Slice.sliceAdjust none none (-1) (n : Int) with | (lo, hi) => pure (lo, (-1 : Int), Builtin.Slice.slicePlaces lo hi (-1))) _ _ s
  rw [e1]
  show wpAny _ _ (pure ((n : Int) - 1, (-1 : Int), Builtin.Slice.slicePlaces ((n : Int) - 1) (-1) (-1))) _ _ s
  rw [e2]
  exact wpAny_pure h
theorem fmap_congr {α β : Type} {f g : α → Option β} : ∀ {l : List α}, (∀ x ∈ l, f x = g x) → l.filterMap f = l.filterMap g
  | [], _ => rfl
  | x :: l, h => by
    have e := h x List.mem_cons_self
    have ih := fmap_congr (l := l) fun y hy => h y (List.mem_cons_of_mem _ hy)
    cases q : f x with
    | none => rw [List.filterMap_cons_none q, List.filterMap_cons_none (e ▸ q), ih]
    | some y => rw [List.filterMap_cons_some q, List.filterMap_cons_some (e ▸ q), ih]
theorem pick_rev (xs : Array Value) : ((List.range xs.size).filterMap fun (m : Nat) => xs[((xs.size : Int) - 1 + (m : Int) * (-1)).toNat]?) = xs.toList.reverse := by
  have e : (List.range xs.size).filterMap (fun (m : Nat) => xs[((xs.size : Int) - 1 + (m : Int) * (-1)).toNat]?) = ((List.range xs.size).map fun k => xs.size - 1 - k).filterMap (xs[·]?) := by
    rw [List.filterMap_map]
    refine fmap_congr fun m hm => ?_
    have := List.mem_range.mp hm
    have q : ((xs.size : Int) - 1 + (m : Int) * (-1)).toNat = xs.size - 1 - m := by omega
    show _ = xs[xs.size - 1 - m]?
    rw [q]
  rw [e, PySem.W.krv_range, List.filterMap_reverse, PySem.W.krv_all]
theorem getItem_tuple_rev {t sl : Addr} {items : Array Value} {vs : Value} {Q : Value → Shared → Prop} (ht : IsTup s.heap t items) (hs : s.heap.IsSliceOf sl .none .none vs) (ps : IsPart vs (some (-1)))
    (h : Q (.ref s.heap.objs.size) { s with heap := s.heap.push { cls := .type "tuple", data := .seq items.toList.reverse.toArray } })
    (hsz : items.size ≤ sizeLine) : wpAny (model prog w) A (getItem (.ref t) (.ref sl)) Q E s := by
  have htake : sizeOk (.seq items.toList.reverse.toArray) := by
    show items.toList.reverse.toArray.size ≤ sizeLine
    rw [List.size_toArray, List.length_reverse, Array.length_toList]
    exact hsz
  obtain ⟨os, hos, hcs, hds⟩ := id hs
  have hTs : s.TypeIs (.ref sl) "slice" := ⟨os, hos, hcs⟩
  unfold getItem
  try with_reducible refine wpAny_holding ?_
  first | refine wpAny_bind (wpAny_pure ?_) | skip
  refine wpAny_bind (wpAny_sequenceKey ht.typeIs (by decide) ?_)
  refine wpAny_bind (wpAny_callSpecial?_slot (name := Str.ofString "__getitem__") ht.typeIs PyProof.Rows.slot_tuple_getitem
    (wpAny_call_entry PyProof.Rows.slot_tuple_getitem ht.typeIs entry_tuple_getitem ?_ (args_tuple_getitem _ _)))
  show wpAny _ _ (Builtin.Tuple.tupleItemsOf (.ref t) >>= _) _ _ s
  refine wpAny_bind (tupleItemsOf_ ht ?_)
  refine wpAny_bind (wpAny_typeOf hTs ?_)
  rw [if_pos (by decide)]
  refine wpAny_bind (sliceApplied_rev hs ps ?_)
  have hno : ¬ ((((items.size : Int) - 1) == 0 && (-1 : Int) == 1 && items.size == items.size) = true) := by
    intro q
    rw [Bool.and_eq_true, Bool.and_eq_true] at q
    exact absurd q.1.2 (by decide)
  show wpAny _ _ (if (((items.size : Int) - 1) == 0 && (-1 : Int) == 1 && items.size == items.size) = true then _ else _) _ _ s
  rw [if_neg hno, pick_rev]
  first
    | exact wpAny_bind (m := Builtin.Tuple.tupleExact _) (wpAny_newObj_type (wpAny_pure ⟨_, rfl, wpAny_pure h⟩) htake)
    | exact wpAny_bind (m := Builtin.Tuple.tupleExact _) (wpAny_newObj_type (wpAny_bind (wpAny_pure (wpAny_pure ⟨_, rfl, wpAny_pure h⟩))) htake)
    | exact wpAny_bind (wpAny_bind (m := Builtin.Tuple.tupleExact _) (wpAny_newObj_type (wpAny_pure (wpAny_pure ⟨_, rfl, wpAny_pure h⟩)) htake))
    | exact wpAny_bind (wpAny_bind (m := Builtin.Tuple.tupleExact _) (wpAny_newObj_type (wpAny_pure ⟨_, rfl, wpAny_pure h⟩) htake))
end
/-- x[::-1] of a list or a tuple -/
def tRevA (K : PySem.W.Frag) (te : TE) : TE := fun σ H Q => te σ H fun x H1 => ∃ a xs, x = .ref a ∧ ((SqL K H1 a xs ∧ ∀ p, H1 p = none → Q (.ref p) (upd H1 p (.lst xs.reverse))) ∨ (SqT K H1 a xs ∧ ∀ p (o : Obj), H1 p = none → o.dict = none → Q (.ref p) (upd H1 p (.frz o (.tup xs.reverse)))))
theorem pe_revA {X : Cx} {e : Expr} {te : TE} {k : Nat} {p1 p2 p3 pos : Pos} (he : PE X e te) : PE X (.Subscript e (.Slice none none (some (.UnaryOp .USub (.Constant (.int 1) k p1) p2)) p3) pos) (tRevA X.K te) := by
  refine ⟨fun pins s σ H Q I h => ?_⟩
  refine Subscript_ (thn (he.run pins s σ H _ I h) fun v s1 ⟨x, H1, I1, r1, q1⟩ => ?_)
  obtain ⟨a, xs, ex, q⟩ := q1
  subst ex
  cases r1
  have hst : PO X (some (.UnaryOp .USub (.Constant (.int 1) k p1) p2)) (tPart (tUn (rU fun i => .int (-i)) (tC (.int 1)))) := po_some (pe_un un_neg pe_int)
  refine wpAny_Slice (thn (po_none.run pins s1 σ H1 (fun o H2 => o = none ∧ H2 = H1) I1 ⟨rfl, rfl⟩) fun vl s2 ⟨l, H2, I2, pl, el, e2⟩ => ?_)
  subst el e2
  refine thn (po_none.run pins s2 σ H2 (fun o H3 => o = none ∧ H3 = H2) I2 ⟨rfl, rfl⟩) fun vu s3 ⟨u, H3, I3, pu, eu, e3⟩ => ?_
  subst eu e3
  refine thn (hst.run pins s3 σ H3 (fun o H4 => o = some (-1) ∧ H4 = H3) I3 ⟨1, rfl, -1, rfl, rfl, rfl⟩) fun vs s4 ⟨o, H4, I4, ps, eo, e4⟩ => ?_
  subst eo e4
  cases pl
  cases pu
  have I5 : Inv X pins σ H4 { s4 with heap := s4.heap.push { cls := .type "slice", data := .fields #[.none, .none, vs] } } := I4.kept (t' := s4.toks) fun b ob q => Heap.get?_push_of_some _ q
  show wpAny (model X.prog X.w) X.A (subscriptTail e (.Slice none none (some (.UnaryOp .USub (.Constant (.int 1) k p1) p2)) p3) (.ref a) (.ref s4.heap.objs.size)) (EP X pins σ Q) X.xe { s4 with heap := s4.heap.push { cls := .type "slice", data := .fields #[.none, .none, vs] } }
  rcases q with ⟨hx, q⟩ | ⟨hx, q⟩
  · obtain ⟨its, r, ht, hz⟩ := I5.list hx
    have hlen := r.length
    refine tail_any (ops := [.ref a, .ref s4.heap.objs.size]) ht.isList.typeIs (PySem.slot_list_getitem.lookup) ?_ (by with_unfolding_all rfl)
    refine wpAny_getItem_list_slice ht.isList (Heap.IsSliceOf.new _ .none .none vs) .none .none ps (by decide) ?_ (by rw [List.size_toArray]; omega)
    rw [PySem.W.krv_pick]
    refine ⟨.ref _, _, I5.laid (t' := s4.toks) (o := .lst xs.reverse) (fun b ob q => Heap.get?_push_of_some _ q) (Nat.le_refl _) ?_, rfl, q _ (I5.hok.fresh (Nat.le_refl _))⟩
    exact ⟨by rw [List.length_reverse]; exact hz, _, 0, r.reverse, Heap.get?_push_size _ rfl⟩
  · obtain ⟨its, r, ht, hz⟩ := I5.tuple hx
    have hlen := r.length
    refine tail_any (ops := [.ref a, .ref s4.heap.objs.size]) ht.typeIs (PyProof.Rows.slot_tuple_getitem.lookup) ?_ (by with_unfolding_all rfl)
    refine getItem_tuple_rev ht (Heap.IsSliceOf.new _ .none .none vs) ps ?_ (by rw [List.size_toArray]; omega)
    refine ⟨.ref _, _, I5.laid (t' := s4.toks) (o := .frz { cls := .type "tuple", data := .seq its.reverse.toArray } (.tup xs.reverse)) (fun b ob q => Heap.get?_push_of_some _ q) (Nat.le_refl _) ?_, rfl, q _ _ (I5.hok.fresh (Nat.le_refl _)) rfl⟩
    exact ⟨Heap.get?_push_size _ rfl, by rw [List.length_reverse]; exact hz, its.reverse, r.reverse, ⟨_, Heap.get?_push_size _ rfl, rfl, _, rfl⟩⟩
end Hg
end
section
set_option Elab.async false
set_option linter.all false
set_option autoImplicit false
set_option maxRecDepth 100000
set_option maxHeartbeats 2000000
/-! A19c: calls whose value nobody else holds; tuple(range(..)); list(..) of an own thing. -/
namespace Hg
open PySem PySem.Spec PyProof.Rows PySem.SeqAt L2
section
variable {X : Cx} {L : Pl}
theorem cd_dictN (hc : X.calm = true) : CallR X (.type "dict") (fun xs H Q => ∃ (F : Fz) (C : List Addr) (c : Cells) (ds : List D) (d : D), Cok L F C H c ∧ Reps L F C H xs ds ∧ primD .dict ds = some d ∧ ∀ (p : Addr) (kvs : List (Key × V)) (ps : List (T × D)), H p = none → d = .dct ps → RepK L F C H kvs ps → Q (.ref p) (upd H p (.dK kvs))) := by
  intro pins s σ H xs us Q I r h
  obtain ⟨F, C, c, ds, d, ck, hr, e, k⟩ := h
  -- what both have
  have fin : ∀ {kvs : List (Key × V)} {ps : List (T × D)} {prs : List (Key × Value)} {h' : Heap} {tk : Nat}, RepK L F C H kvs ps → d = .dct (dictD ps) → KV kvs prs → kvs.length ≤ sizeLine → h'.DictOf (mixKind X.prog X.w) s.heap.objs.size (PySem.merged [] prs) → (∀ b o, s.heap.get? b = some o → h'.get? b = some o) → EP X pins σ Q (.ref s.heap.objs.size) { s with heap := h', toks := tk } := by
    intro kvs ps prs h' tk hk hd rel hz hd' kp
    subst hd
    have hm : (s.heap.objs.size == sysModules) = false := beq_eq_false_iff_ne.mpr (Nat.ne_of_gt I.big)
    have hlen : (mergeK [] kvs).length ≤ sizeLine := by
      refine Nat.le_trans (length_mergeK kvs []) ?_
      rw [List.length_nil, Nat.zero_add]; exact hz
    have hn : H s.heap.objs.size = none := I.hok.fresh (Nat.le_refl _)
    have I1 : Inv X pins σ (upd H s.heap.objs.size (.dK (mergeK [] kvs))) { s with heap := h', toks := tk } := I.laid (t' := tk) kp (Nat.le_refl _) (show ObjOk X.prog X.w _ _ _ (.dK (mergeK [] kvs)) from ⟨hlen, hm, PySem.merged [] prs, KV.merge rel .nil, hd'⟩)
    exact ⟨.ref s.heap.objs.size, _, I1, rfl, k _ _ _ hn rfl (merge_rep hk .nil)⟩
  unfold primD at e
  split at e <;> (try contradiction)
  · obtain ⟨v, rfl, rv⟩ := len1 hr
    obtain ⟨ps, e1, e2⟩ := Option.map_eq_some_iff.mp e
    cases rv with
    | lst f h rr =>
      rename_i a vs
      obtain ⟨u, rfl, rx⟩ := vals1 r
      cases rx
      obtain ⟨Ts, kvs, rfl, hp, hk⟩ := pairs_rep (K := X.K) rr e1
      obtain ⟨its, rvs, pl, hz⟩ := I.list (SqL.of h)
      have ei := refs_at rvs
      subst ei
      rw [List.length_map] at hz
      obtain ⟨prs, rel, hl, hpr⟩ := pairs_of I hp
      obtain ⟨o, n, ho, hcl, hd, hdat⟩ := pl
      refine L2.call_dict_pairs (prs := prs) (I.ok.hd hc) ho hcl hd hdat (by simp [hl]) (by rw [hl]; exact hz) (fun j q' e => ?_) fun h' tk hd' kp => fin hk e2.symm rel (by rw [rel.length, hl]; exact hz) hd' kp
      obtain ⟨b, u, e1, e2, e3⟩ := hpr j q' e
      exact ⟨b, u, by simp [e1], e2, e3⟩
  · obtain ⟨v, rfl, rv⟩ := len1 hr
    obtain ⟨ps, e1, e2⟩ := Option.map_eq_some_iff.mp e
    cases rv with
    | tup o f h d1 rr =>
      rename_i a vs
      obtain ⟨u, rfl, rx⟩ := vals1 r
      cases rx
      obtain ⟨Ts, kvs, rfl, hp, hk⟩ := pairs_rep (K := X.K) rr e1
      obtain ⟨ho, hz, its, rvs, o2, ho2, hcl, n, hdat⟩ := I.hok a _ h
      have eo : o2 = o := by rw [ho] at ho2; exact (Option.some.inj ho2).symm
      subst eo
      have ei := refs_at rvs
      subst ei
      rw [List.length_map] at hz
      obtain ⟨prs, rel, hl, hpr⟩ := pairs_of I hp
      let f1 : Nat → Addr := fun j => Ts.getD j 0
      have hpr2 : ∀ j (q : Key × Value), prs[j]? = some q → ∃ u, Ts[j]? = some (f1 j) ∧ IsTup s.heap (f1 j) #[u, q.2] ∧ keyIs q.1 u = true := fun j q e => by
        obtain ⟨b, u, e1, e2, e3⟩ := hpr j q e
        have : f1 j = b := by show Ts.getD j 0 = b; rw [List.getD_eq_getElem?_getD, e1]; rfl
        rw [this]
        exact ⟨u, e1, e2, e3⟩
      have hex : ∃ pv : List (Value × Value), pv.length = prs.length ∧ ∀ (j : Nat) (kk vv : Value), pv[j]? = some (kk, vv) → ∃ q : Key × Value, prs[j]? = some q ∧ vv = q.2 ∧ Ts[j]? = some (f1 j) ∧ IsTup s.heap (f1 j) #[kk, vv] ∧ keyIs q.1 kk = true := by
        have gen : ∀ m, m ≤ prs.length → ∃ pv : List (Value × Value), pv.length = m ∧ ∀ (j : Nat) (kk vv : Value), pv[j]? = some (kk, vv) → ∃ q : Key × Value, prs[j]? = some q ∧ vv = q.2 ∧ Ts[j]? = some (f1 j) ∧ IsTup s.heap (f1 j) #[kk, vv] ∧ keyIs q.1 kk = true := by
          intro m
          induction m with
          | zero => intro _; exact ⟨[], rfl, fun j kk vv e => by simp at e⟩
          | succ m ih =>
            intro hm
            obtain ⟨pv, h1, h2⟩ := ih (by omega)
            have e0 : prs[m]? = some prs[m] := List.getElem?_eq_getElem (by omega)
            obtain ⟨u, e1, e2, e3⟩ := hpr2 m _ e0
            refine ⟨pv ++ [(u, prs[m].2)], by simp [h1], fun j kk vv e => ?_⟩
            by_cases hj : j < pv.length
            · rw [List.getElem?_append_left hj] at e
              exact h2 j kk vv e
            · rw [List.getElem?_append_right (by omega)] at e
              cases hx : j - pv.length with
              | zero =>
                rw [hx] at e
                have : j = m := by omega
                subst this
                simp only [List.getElem?_cons_zero, Option.some.injEq, Prod.mk.injEq] at e
                obtain ⟨rfl, rfl⟩ := e
                exact ⟨_, e0, rfl, e1, e2, e3⟩
              | succ z => rw [hx] at e; simp at e
        exact gen _ (Nat.le_refl _)
      obtain ⟨pv, hpl, hpv⟩ := hex
      refine PySem.call_dict_pairs (knd := mixKind X.prog X.w) (kvs := prs) (PySem.PairArg.tuple a (Ts.map Value.ref).toArray f1 pv) (I.ok.hd hc) ⟨⟨o2, n, ho, hcl, d1, hdat⟩, by simp [hpl, hl], fun j kk vv e => ?_⟩ ⟨hpl.symm, fun i key v e => ?_⟩ (by rw [hpl, hl]; exact hz) fun h' tk hd' kp => fin hk e2.symm rel (by rw [rel.length, hl]; exact hz) hd' (fun b o hb => kp b o (by simp) hb)
      · obtain ⟨q, _, _, e1, e2, _⟩ := hpv j kk vv e
        exact ⟨by simp [e1], .inl e2⟩
      · obtain ⟨q, e0, rfl, _, _, e3⟩ := hpv i key v e
        exact ⟨q.1, e0, e3⟩
end
section
variable {W : Lw} {n : Nat} {X : Cx} {N : List Str} {sc : ScN} {Ex : Sg → XK} {L : Pl} {ev : E → Env → M D} {ma mb : Env → M D} {a b x : Expr} {pos : Pos}
/-- the wish at a new thing -/
theorem outN_lay {F F1 : Fz} {C : List Addr} {H H1 : Hp} {E : XK} {Q : VK} {d : D} {c1 : Cells} {l : Addr} {ob : HO} (o : OutN L F C H E Q ((M.ofO (some d) : M D) c1)) (ex : Ext F C H F1 H1) (ck : Cok L F1 C H1 c1) (hl : H1 l = none) (ow : ¬ F1 l → Own L F1 C (upd H1 l ob) l d) : Q (.ref l) (upd H1 l ob) := by
  have o : ∀ (p : Addr) (F2 : Fz) (H2 : Hp), H p = none → Ext F C H F2 H2 → Cok L F2 C H2 c1 → Own L F2 C H2 p d → ¬ F2 p → p ∉ C → Q (.ref p) H2 := o
  have h0 : H l = none := by
    cases q : H l with
    | none => rfl
    | some u => exact absurd hl (ex.trk l (by rw [q]; simp))
  have nF : ¬ F1 l := fun f => ck.fin l f hl
  have nC : l ∉ C := fun h => ck.trk l h hl
  exact o l F1 _ h0 (ex.updNew h0 nF) (ck.updNew nF nC) (ow nF) nF nC
/-- a call with one argument whose value is new -/
theorem snd_newB {p : Prim} {e : E} {t : TA} {r : List V → Hp → VK → Prop} (ha : PE X a (SE L Ex (ev e))) (hs : notStar a = true) (hx : ∀ t, PA X [a] t → PE X x (tCB r t))
    (hr : ∀ (F F1 : Fz) (C : List Addr) (H H1 : Hp) (E : XK) (Q : VK) (c1 : Cells) (v : V) (d d' : D), Ext F C H F1 H1 → Cok L F1 C H1 c1 → Rep L F1 C H1 v d → primD p [d] = some d' → OutN L F C H E Q ((M.ofO (some d') : M D) c1) → r [v] H1 Q) :
    PE X x (SGN L Ex fun env => do let ds ← evL ev [e] env; M.ofO (primD p ds)) := by
  refine PEimp (hx _ (AllPE.pa (ev := ev) (es := [e]) ⟨hs, ha, trivial⟩)) fun σ H Q q => ?_
  obtain ⟨F, C, env, c, si, o⟩ := q
  have o : OutN L F C H (Ex σ) Q ((evL ev [e] env >>= fun ds => M.ofO (primD p ds)) c) := o
  refine ⟨F, C, env, c, si, ?_⟩
  cases e1 : evL ev [e] env c with
  | bad => rw [M.bind_bad e1] at o; exact o
  | exc x c1 => rw [M.bind_exc e1] at o; exact o
  | ok ds c1 =>
    rw [M.bind_ok e1] at o
    intro vs F1 H1 ex ck ⟨rs, hl⟩
    match ds, hl with
    | [d], _ =>
      obtain ⟨v, rfl, rv⟩ := len1 rs
      cases e2 : primD p [d] with
      | none => rw [e2] at o; exact o.elim
      | some d' =>
        rw [e2] at o
        exact hr F F1 C H H1 (Ex σ) Q c1 v d d' ex ck rv e2 o
theorem snd_listN (hX : CxOk W n X N sc Ex) (hF : Facts W) {id : Str} {p : Pos} {e : E} (hg : gloB sc id "list" = true) (hs : notStar a = true) (ha : PE X a (SE W.L Ex (ev e))) : PE X (.Call (.Name id p) [a] [] pos) (SGN W.L Ex fun env => do let ds ← evL ev [e] env; M.ofO (primD .list ds)) := by
  refine snd_newB (t := tNil) ha hs (fun t ht => snd_callG hX hF (.inr ⟨_, rfl⟩) bn_list hg (CallRor call_list_of (call_listD hX.calm)) (by simp [allPlain, hs]) ht) fun F F1 C H H1 E Q c1 v d d' ex ck rv e2 o => ?_
  unfold primD at e2
  split at e2 <;> (try contradiction)
  all_goals (rename_i heq; cases heq; cases e2)
  · cases rv with
    | lst f h r => exact .inl ⟨_, _, rfl, .inl (.of h), fun l hl => outN_lay o ex ck hl fun nF => .lst upd_same (r.updNew nF)⟩
  · cases rv with
    | tup o2 f h d1 r => exact .inl ⟨_, _, rfl, .inr (.inl (.inr ⟨o2, h⟩)), fun l hl => outN_lay o ex ck hl fun nF => .lst upd_same (r.updNew nF)⟩
  · cases rv with
    | dct o2 f h r => exact .inr ⟨_, _, rfl, .inr ⟨o2, h⟩, fun l hl => outN_lay o ex ck hl fun nF => .lst upd_same (RepK.keys (K := []) r _ _ _)⟩
theorem repK_updNew {F : Fz} {C : List Addr} {H : Hp} {p : Addr} {ob : HO} {vs : List (Key × V)} {ds : List (T × D)} (r : RepK L F C H vs ds) (nF : ¬ F p) : RepK L F C (upd H p ob) vs ds := r.mono (fun x f => ⟨f, upd_ne (show x ≠ p from fun e => nF (e ▸ f))⟩) fun _ _ h => h
theorem snd_dictN (hX : CxOk W n X N sc Ex) (hF : Facts W) {id : Str} {p : Pos} {e : E} (hg : gloB sc id "dict" = true) (hs : notStar a = true) (ha : PE X a (SE W.L Ex (ev e))) : PE X (.Call (.Name id p) [a] [] pos) (SGN W.L Ex fun env => do let ds ← evL ev [e] env; M.ofO (primD .dict ds)) := by
  refine snd_newB (t := tNil) ha hs (fun t ht => snd_callG hX hF (.inr ⟨_, rfl⟩) bn_dict hg (cd_dictN (L := W.L) hX.calm) (by simp [allPlain, hs]) ht) fun F F1 C H H1 E Q c1 v d d' ex ck rv e2 o => ?_
  exact ⟨F1, C, c1, [d], d', ck, .cons rv .nil, e2, fun l kvs ps hl hd rk => by
    subst hd
    exact outN_lay o ex ck hl fun nF => .dct upd_same (repK_updNew rk nF)⟩
/-- list(x) of an own thing -/
theorem list_own (hX : CxOk W n X N sc Ex) (hF : Facts W) {i : Nat} {f id : Str} {p1 p2 : Pos} (h : (gloB sc f "list" && mV N sc i id) = true) : PE X (.Call (.Name f p1) [.Name id p2] [] pos) (SE W.L Ex fun env => M.ofO ((getO env i).bind fun d => primD .list [d])) := by
  simp only [Bool.and_eq_true] at h
  refine PEimp (snd_callG hX hF (.inr ⟨_, rfl⟩) bn_list h.1 (CallRor call_list_of (call_listD hX.calm)) rfl (pa_cons (snd_own hX h.2) pa_nil (star_cons rfl))) fun σ H Q q => ?_
  obtain ⟨F, C, env, c, d, si, e, k⟩ := q.fin
  obtain ⟨od, e1, e2⟩ := Option.bind_eq_some_iff.mp e
  obtain ⟨a, h1, o, _⟩ := own_at si e1
  refine ⟨_, h1, ?_⟩
  cases o with
  | lst h r =>
    cases e2
    exact .inl ⟨_, _, rfl, .inl (.of h), fun l hl => k.newL si.cok.fin hl r⟩
  | dct h r =>
    cases e2
    exact .inr ⟨_, _, rfl, .inl h, fun l hl => k.newL si.cok.fin hl (RepK.keys (K := []) r _ _ _)⟩
end
end Hg
end
section
set_option Elab.async false
set_option linter.all false
set_option autoImplicit false
set_option maxRecDepth 100000
set_option maxHeartbeats 2000000
/-! A20: expressions: all of them at once. -/
namespace Hg
open PySem PySem.Spec PyProof.Rows PySem.SeqAt L2
section
variable {X : Cx} {L : Pl} {Ex : Sg → XK} {ma mb : Env → M D} {a b x : Expr} {pos : Pos}
theorem pw_of {op : BoolOp} {vs : List Expr} {t : TT} (h : PT X (.BoolOp op vs pos) t) : PW X (.BoolOp op vs pos) t := ⟨fun wh pins s σ H Q I q => h.run pins s σ H Q I q⟩
theorem pt_of {t : TT} (h : PW X x t) : PT X x t := ⟨fun pins s σ H Q I q => h.run _ pins s σ H Q I q⟩
theorem PB.and {rest : List Expr} (ha : PB X L Ex a ma) (hb : rest = [] ∧ PB X L Ex b mb ∨ PB X L Ex (.BoolOp .And (b :: rest) pos) mb) : PB X L Ex (.BoolOp .And (a :: b :: rest) pos) (fun env => (do if ← M.toB (ma env) then (do let r ← M.toB (mb env); pure (D.bl r)) else pure (D.bl false) : M D)) := by
  rcases hb with ⟨rfl, hb⟩ | hb
  · exact ⟨snd_and (fun ta tb ha hb => pe_and ha (pe_one hb)) ha.1 hb.1, snd_andW (fun ta tb ha hb => pt_of (pw_and ha (pw_and1 hb))) ha.2 hb.2⟩
  · refine ⟨?_, ?_⟩
    · exact snd_and (b := .BoolOp .And (b :: rest) pos) (fun ta tb ha hb => pe_and ha hb) ha.1 hb.1
    · exact snd_andW (b := .BoolOp .And (b :: rest) pos) (fun ta tb ha hb => pt_of (pw_and ha (pw_of hb))) ha.2 hb.2
theorem PB.or {rest : List Expr} (ha : PB X L Ex a ma) (hb : rest = [] ∧ PB X L Ex b mb ∨ PB X L Ex (.BoolOp .Or (b :: rest) pos) mb) : PB X L Ex (.BoolOp .Or (a :: b :: rest) pos) (fun env => (do if ← M.toB (ma env) then pure (D.bl true) else (do let r ← M.toB (mb env); pure (D.bl r)) : M D)) := by
  rcases hb with ⟨rfl, hb⟩ | hb
  · exact ⟨snd_or (fun ta tb ha hb => pe_or ha (pe_one hb)) ha.1 hb.1, snd_orW (fun ta tb ha hb => pt_of (pw_or ha (pw_or1 hb))) ha.2 hb.2⟩
  · refine ⟨?_, ?_⟩
    · exact snd_or (b := .BoolOp .Or (b :: rest) pos) (fun ta tb ha hb => pe_or ha hb) ha.1 hb.1
    · exact snd_orW (b := .BoolOp .Or (b :: rest) pos) (fun ta tb ha hb => pt_of (pw_or ha (pw_of hb))) ha.2 hb.2
end
section
variable {W : Lw} {n : Nat}
theorem bin_or {X : Cx} {N : List Str} {sc : ScN} {Ex : Sg → XK} (hX : CxOk W n X N sc Ex) {o : BOp} {op : Operator} (h : bopM o op = true) : OpR X (binaryOp op) (rD2 W.L (binD o)) := by
  have hu := hX.units
  cases o <;> cases op <;> first | (exact absurd h (by decide)) | skip
  · exact or_add
  · exact or_sub
  · exact or_mul
  · exact or_fdiv
  · exact or_mod
  · exact or_pow
theorem isGlo_of {o : Option NameKind} (h : isGlo o = true) : o = some .globalImplicit := by
  unfold isGlo at h
  split at h
  · rfl
  · cases h
theorem len_of_all {X : Cx} {L : Pl} {Ex : Sg → XK} {ev : E → Env → M D} : ∀ {es : List E} {xs : List Expr}, AllPE X L Ex ev es xs → es.length = xs.length
  | [], [], _ => rfl
  | e :: es, x :: xs, h => by simp [len_of_all h.2.2]
  | [], _ :: _, h => h.elim
  | _ :: _, [], h => h.elim
theorem bind_assocM {α β γ : Type} (m : M α) (f : α → M β) (g : β → M γ) : ((m >>= f) >>= g) = (m >>= fun a => f a >>= g) := by
  funext c
  show M.bind (M.bind m f) g c = M.bind m (fun a => M.bind (f a) g) c
  unfold M.bind
  cases m c <;> rfl
theorem PB.of' {X : Cx} {L : Pl} {Ex : Sg → XK} {x : Expr} {m : Env → M D} (h : PE X x (SE L Ex m)) (hx : ∀ whole, isTrue x X.env whole = (do let v ← whole; standAt x.pos; holding [v] (truthy v))) : PB X L Ex x m := ⟨h, snd_test h hx⟩
theorem snd_constL {X : Cx} {L : Pl} {Ex : Sg → XK} {x : Expr} {v : V} {d : D} (h : PE X x (tC v)) (r : ∀ F C H, Rep L F C H v d) : PE X x (SE L Ex fun _ => pure d) :=
  PEimp h fun σ H Q q => by
    obtain ⟨F, C, c, ck, k⟩ := SG.pure q
    exact k.now ck.fin (r _ _ _)
theorem snd_neg {X : Cx} {L : Pl} {Ex : Sg → XK} {a : Expr} {ma : Env → M D} {pos : Pos} (ha : PE X a (SE L Ex ma)) : PE X (.UnaryOp .USub a pos) (SE L Ex fun env => do match ← ma env with
    | .int i => pure (.int (-i))
    | _ => M.bad) := by
  refine PEimp (pe_un un_neg ha) fun σ H Q q => ?_
  refine (SG.bind (R := RV) (k := fun d env => (match d with
    | .int i => pure (.int (-i))
    | _ => M.bad : M D)) q).imp fun v H1 h1 => ?_
  obtain ⟨F, C, env, c, ⟨_, d⟩, si, ⟨_, r⟩, o⟩ := h1
  cases d <;> first | exact o.elim | skip
  exact ⟨_, rep_int r, o _ F H1 (.refl si.cok.fin) si.cok (.int _)⟩
theorem args_plain {sc : ScN} {p : Prim} {x : Expr} {xs : List Expr} (h : argsOf sc p x = some xs) : plainT x = true := by
  unfold argsOf at h
  split at h <;> first | rfl | cases h
theorem reps_rev {L : Pl} {F : Fz} {C : List Addr} {H : Hp} : ∀ {vs : List V} {ds : List D}, Reps L F C H vs ds → Reps L F C H vs.reverse ds.reverse
  | _, _, .nil => .nil
  | _, _, .cons h r => by
    rw [List.reverse_cons, List.reverse_cons]
    exact (reps_rev r).app (.cons h .nil)
theorem snd_rev {X : Cx} {L : Pl} {Ex : Sg → XK} {a : Expr} {ma : Env → M D} {k : Nat} {p1 p2 p3 pos : Pos} (ha : PE X a (SE L Ex ma)) : PE X (.Subscript a (.Slice none none (some (.UnaryOp .USub (.Constant (.int 1) k p1) p2)) p3) pos) (SE L Ex fun env => do match ← ma env with
    | .lst xs => pure (.lst xs.reverse)
    | .tup xs => pure (.tup xs.reverse)
    | _ => M.bad) := by
  refine PEimp (pe_revA ha) fun σ H Q q => ?_
  refine (SG.bind (R := RV) (k := fun d env => (match d with
    | .lst xs => pure (.lst xs.reverse)
    | .tup xs => pure (.tup xs.reverse)
    | _ => M.bad : M D)) q).imp fun v H1 h1 => ?_
  obtain ⟨F, C, env, c, ⟨_, d⟩, si, ⟨_, r⟩, o⟩ := h1
  cases d <;> first | exact o.elim | skip
  · rename_i xs
    cases r with
    | tup ob f h hd r => exact ⟨_, _, rfl, .inr ⟨.inl (.inr ⟨ob, h⟩), fun p o2 hp ho => o (.ref p) _ _ ((ext_new si.cok.fin hp).cells (by simp)) (si.cok.ext0 (ext_new si.cok.fin hp)) (.tup o2 (.inr rfl) upd_same ho (reps_new si.cok.fin hp (reps_rev r)))⟩⟩
  · rename_i xs
    cases r with
    | lst f h r => exact ⟨_, _, rfl, .inl ⟨.of h, fun p hp => o (.ref p) _ _ ((ext_new si.cok.fin hp).cells (by simp)) (si.cok.ext0 (ext_new si.cok.fin hp)) (.lst (.inr rfl) upd_same (reps_new si.cok.fin hp (reps_rev r)))⟩⟩
theorem mth_plain {p : Prim} {x : Expr} {z : Expr × List Expr} (h : mthOf p x = some z) : plainT x = true := by
  unfold mthOf at h
  split at h <;> first | rfl | cases h
theorem pts_yes {Y : Cx} {cf : Nat → List D → M D} {e : E} (h : isTrueE e = true) : PTs Y [] (SB W.L Ex0 fun env => M.toB (evE cf e env)) := by
  cases e <;> first | (exfalso; revert h; simp [isTrueE]; done) | skip
  rename_i b
  cases b <;> first | (exfalso; revert h; simp [isTrueE]; done) | skip
  refine ⟨fun pins s σ H Q I q => pts_nil.run pins s σ H Q I ?_⟩
  obtain ⟨F, C, env, c, si, o⟩ := q
  exact o true F H (.refl si.cok.fin) si.cok rfl
theorem own_in_op {X : Cx} {N : List Str} {sc : ScN} {Ex : Sg → XK} (hX : CxOk W n X N sc Ex) {o : COp} {op : CmpOp} (hi : inO o = true) (h : copM o op = true) : OpR X (compareOp op) (rWo W.L fun y od => (cmpD o y od).map .bl) := by
  have hu := hX.units
  cases o <;> first | (exact absurd hi (by decide)) | skip
  · cases op <;> first | (exact absurd h (by decide)) | skip
    exact or_own_in (by omega) false
  · cases op <;> first | (exact absurd h (by decide)) | skip
    exact or_own_in (by omega) true
theorem cmp_dct {o : COp} {k : List (T × D)} {y : D} : cmpD o (.dct k) y = none := by
  cases o <;> cases y <;> first | rfl | simp [cmpD, eqO, inD, inL, plainD]
theorem ofO_map (o : Option Bool) : (do let r ← M.ofO o; pure (D.bl r) : M D) = M.ofO (o.map D.bl) := by cases o <;> rfl
mutual
theorem sndE (hF : Facts W) (hn : FnsAt W n) : ∀ (e : E) (x : Expr) (X : Cx) (N : List Str) (sc : ScN) (Ex : Sg → XK), CxOk W n X N sc Ex → mE W.nm N sc e x = true → PB X W.L Ex x (evE (callF W.tab n) e)
  | .var i, x, X, N, sc, Ex, hX, h => by
    unfold mE at h
    split at h
    · exact PB.of (snd_var hX h) rfl
    · cases h
  | .int i, x, X, N, sc, Ex, hX, h => by
    unfold mE at h
    split at h
    · rw [beq_iff_eq] at h
      subst h
      exact PB.of (snd_const pe_int fun _ _ _ _ => .int i) rfl
    · cases h
  | .str t, x, X, N, sc, Ex, hX, h => by
    unfold mE at h
    split at h
    · rw [beq_iff_eq] at h
      subst h
      exact PB.of (snd_const pe_str fun _ _ _ _ => .str t) rfl
    · cases h
  | .bl t, x, X, N, sc, Ex, hX, h => by
    unfold mE at h
    split at h
    · rw [beq_iff_eq] at h
      subst h
      exact PB.of (snd_const pe_bl fun _ _ _ _ => .bl t) rfl
    · cases h
  | .non, x, X, N, sc, Ex, hX, h => by
    unfold mE at h
    split at h
    · exact PB.of (snd_const pe_non fun _ _ _ _ => .non) rfl
    · cases h
  | .gint t i, x, X, N, sc, Ex, hX, h => by
    unfold mE at h
    split at h
    · simp only [Bool.and_eq_true, beq_iff_eq, decide_eq_true_eq] at h
      obtain ⟨⟨⟨rfl, h1⟩, h2⟩, h3⟩ := h
      obtain ⟨tk, h4⟩ := hF.gi _ h1
      exact PB.of (snd_const (pe_glob (hX.gl _ (isGlo_of h2)) (by rw [hX.mg]; exact h4) (v := .int i) ⟨tk, rfl⟩ (okName_of h3).1) fun _ _ _ _ => .int i) rfl
    · cases h
  | .gstr t z, x, X, N, sc, Ex, hX, h => by
    unfold mE at h
    split at h
    · simp only [Bool.and_eq_true, beq_iff_eq, decide_eq_true_eq] at h
      obtain ⟨⟨⟨rfl, h1⟩, h2⟩, h3⟩ := h
      obtain ⟨tk, h4⟩ := hF.gs _ h1
      exact PB.of (snd_const (pe_glob (hX.gl _ (isGlo_of h2)) (by rw [hX.mg]; exact h4) (v := .str (toS z)) ⟨tk, rfl⟩ (okName_of h3).1) fun _ _ _ _ => .str z) rfl
    · cases h
  | .fn f, x, X, N, sc, Ex, hX, h => by
    unfold mE at h
    split at h
    · simp only [Bool.and_eq_true, decide_eq_true_eq] at h
      obtain ⟨⟨h1, h2⟩, h3⟩ := h
      obtain ⟨t, ht, rfl⟩ := Option.map_eq_some_iff.mp h1
      obtain ⟨h4, h5⟩ := hF.fns f t ht
      exact PB.of (snd_constL (pe_glob (hX.gl _ (isGlo_of h2)) (by rw [hX.mg]; exact h4) (v := .ref (W.L.fn f)) rfl (okName_of h3).1) fun _ _ _ => .fn f (by rw [hF.has, ht]; rfl)) rfl
    · cases h
  | .bin o a b, x, X, N, sc, Ex, hX, h => by
    unfold mE at h
    split at h
    · simp only [Bool.and_eq_true] at h
      exact PB.of (snd_bin (bin_or hX h.1.1) (sndE hF hn a _ X N sc Ex hX h.1.2).1 (sndE hF hn b _ X N sc Ex hX h.2).1) rfl
    · cases h
  | .neg a, x, X, N, sc, Ex, hX, h => by
    unfold mE at h
    split at h
    · exact PB.of' (snd_neg (sndE hF hn a _ X N sc Ex hX h).1) fun whole => rfl
    · cases h
  | .not a, x, X, N, sc, Ex, hX, h => by
    unfold mE at h
    split at h
    · have ha := sndE hF hn a _ X N sc Ex hX h
      exact ⟨snd_not ha.1, snd_notT ha.2⟩
    · cases h
  | .cmp o a b, x, X, N, sc, Ex, hX, h => by
    unfold mE at h
    split at h
    · simp only [Bool.and_eq_true] at h
      have ha := (sndE hF hn a _ X N sc Ex hX h.1.2).1
      have hb := (sndE hF hn b _ X N sc Ex hX h.2).1
      exact ⟨snd_cmp hX h.1.1.1 h.1.1.2 ha hb, snd_cmpT hX h.1.1.1 h.1.1.2 ha hb⟩
    · cases h
  | .isn a, x, X, N, sc, Ex, hX, h => by
    unfold mE at h
    split at h
    · have ha := (sndE hF hn a _ X N sc Ex hX h).1
      exact PB.both (pe_cmpR op_isN ha pe_non (bhm _ rfl)) (pt_cmpR op_isN ha pe_non (bhm _ rfl)) fun σ H Q q => isn_imp q
    · cases h
  | .nisn a, x, X, N, sc, Ex, hX, h => by
    unfold mE at h
    split at h
    · have ha := (sndE hF hn a _ X N sc Ex hX h).1
      exact PB.both (pe_cmpR op_notN ha pe_non (bhm _ rfl)) (pt_cmpR op_notN ha pe_non (bhm _ rfl)) fun σ H Q q => nisn_imp q
    · cases h
  | .chn o1 o2 a b c, x, X, N, sc, Ex, hX, h => by
    unfold mE at h
    split at h
    · simp only [Bool.and_eq_true] at h
      have ha := (sndE hF hn a _ X N sc Ex hX h.1.1.2).1
      have hb := (sndE hF hn b _ X N sc Ex hX h.1.2).1
      have hc := (sndE hF hn c _ X N sc Ex hX h.2).1
      exact PB.both (pe_chain (or_cmp hX h.1.1.1.1.1) (or_cmp hX h.1.1.1.1.2) ha hb hc (bhm _ h.1.1.1.2)) (pt_chain (or_cmp hX h.1.1.1.1.1) (or_cmp hX h.1.1.1.1.2) ha hb hc (bhm _ h.1.1.1.2)) fun σ H Q q => chn_imp q
    · cases h
  | .and a b, x, X, N, sc, Ex, hX, h => by
    unfold mE at h
    split at h
    · rename_i u v rest pos
      simp only [Bool.and_eq_true] at h
      refine PB.and (sndE hF hn a _ X N sc Ex hX h.1) ?_
      have h2 := h.2
      split at h2
      · exact .inl ⟨rfl, sndE hF hn b _ X N sc Ex hX h2⟩
      · exact .inr (sndE hF hn b _ X N sc Ex hX h2)
    · cases h
  | .or a b, x, X, N, sc, Ex, hX, h => by
    unfold mE at h
    split at h
    · rename_i u v rest pos
      simp only [Bool.and_eq_true] at h
      refine PB.or (sndE hF hn a _ X N sc Ex hX h.1) ?_
      have h2 := h.2
      split at h2
      · exact .inl ⟨rfl, sndE hF hn b _ X N sc Ex hX h2⟩
      · exact .inr (sndE hF hn b _ X N sc Ex hX h2)
    · cases h
  | .ite c a b, x, X, N, sc, Ex, hX, h => by
    unfold mE at h
    split at h
    · simp only [Bool.and_eq_true] at h
      exact PB.ite (sndE hF hn c _ X N sc Ex hX h.1.1) (sndE hF hn a _ X N sc Ex hX h.1.2) (sndE hF hn b _ X N sc Ex hX h.2)
    · cases h
  | .tup es, x, X, N, sc, Ex, hX, h => by
    unfold mE at h
    split at h
    · simp only [Bool.and_eq_true, decide_eq_true_eq] at h
      have ha := sndEs hF hn es _ X N sc Ex hX h.2
      refine (PB.of (snd_tup h.1 ha.pa) rfl).eq fun env => ?_
      rw [← evEs_evL]
      rfl
    · cases h
  | .lst es, x, X, N, sc, Ex, hX, h => by
    unfold mE at h
    split at h
    · simp only [Bool.and_eq_true, decide_eq_true_eq] at h
      have ha := sndEs hF hn es _ X N sc Ex hX h.2
      refine (PB.of (snd_lst h.1 ha.pa) rfl).eq fun env => ?_
      rw [← evEs_evL]
      rfl
    · cases h
  | .ix a b, x, X, N, sc, Ex, hX, h => by
    unfold mE at h
    split at h
    · simp only [Bool.and_eq_true] at h
      exact PB.of (snd_ix hX h.1.1 (sndE hF hn a _ X N sc Ex hX h.1.2).1 (sndE hF hn b _ X N sc Ex hX h.2).1) rfl
    · cases h
  | .sl a lo hi, x, X, N, sc, Ex, hX, h => by
    unfold mE at h
    split at h
    · simp only [Bool.and_eq_true] at h
      have ha := (sndE hF hn a _ X N sc Ex hX h.1.1).1
      have h1 := h.1.2
      have h2 := h.2
      have bd : ∀ (e : E) (o : Option Expr), (∀ x, mE W.nm N sc e x = true → PE X x (SE W.L Ex (evE (callF W.tab n) e))) → (match o with | none => isNon e | some x => !isNon e && mE W.nm N sc e x) = true → PO X o (SG RBd W.L Ex fun env => evB e (evE (callF W.tab n) e env)) := fun e o ih he => by
        cases o with
        | none => cases e <;> first | exact snd_bnd0 | (exfalso; revert he; simp [isNon]; done)
        | some y =>
          simp only [Bool.and_eq_true, Bool.not_eq_true'] at he
          exact snd_bnd1 he.1 (ih y he.2)
      exact PB.of (snd_sl ha (bd lo _ (fun x hx => (sndE hF hn lo x X N sc Ex hX hx).1) h1) (bd hi _ (fun x hx => (sndE hF hn hi x X N sc Ex hX hx).1) h2)) rfl
    · cases h
  | .call f es, x, X, N, sc, Ex, hX, h => by
    unfold mE at h
    split at h
    · simp only [Bool.and_eq_true, decide_eq_true_eq] at h
      have ha := sndEs hF hn es _ X N sc Ex hX h.2
      refine (PB.of (snd_call hX hF hn h.1.1.1 h.1.1.2 h.1.2 ha.plain ha.pa) rfl).eq fun env => ?_
      rw [← evEs_evL]
      rfl
    · cases h
  | .calln f es, x, X, N, sc, Ex, hX, h => by
    unfold mE at h
    split at h
    · split at h
      · rename_i ys e
        simp only [Bool.and_eq_true, decide_eq_true_eq] at h
        have ha := sndEs hF hn es _ X N sc Ex hX h.2
        refine (PB.of (snd_calln hX hF hn h.1.1.1 h.1.1.2 h.1.2 e ha) rfl).eq fun env => ?_
        rw [← evEs_evL]
        rfl
      · cases h
    · cases h
  | .callv g es, x, X, N, sc, Ex, hX, h => by
    unfold mE at h
    split at h
    · simp only [Bool.and_eq_true] at h
      have ha := sndEs hF hn es _ X N sc Ex hX h.2
      refine (PB.of (snd_callv hX hF hn h.1.1 ha.plain (sndE hF hn g _ X N sc Ex hX h.1.2).1 ha.pa) rfl).eq fun env => ?_
      rw [← evEs_evL]
      rfl
    · cases h
  | .prim p es, x, X, N, sc, Ex, hX, h => by
    unfold mE at h
    split at h
    · rename_i xs e
      have ha := sndEs hF hn es _ X N sc Ex hX h
      refine (PB.of (snd_prim hX hF e ha) (args_plain e)).eq fun env => ?_
      rw [← evEs_evL]
      rfl
    · cases h
  | .mth p o es, x, X, N, sc, Ex, hX, h => by
    unfold mE at h
    split at h
    · rename_i ox xs e
      simp only [Bool.and_eq_true] at h
      have ha := sndEs hF hn es _ X N sc Ex hX h.2
      refine (PB.of (snd_mth hX e (sndE hF hn o _ X N sc Ex hX h.1).1 ha) (mth_plain e)).eq fun env => ?_
      simp only [← evEs_evL]
      rfl
    · cases h
  | .lc k ses tg vs cond elt, x, X, N, sc, Ex, hX, h => by
    unfold mE at h
    split at h
    · simp only [Bool.and_eq_true] at h
      obtain ⟨⟨⟨⟨⟨⟨h1, h2⟩, h3⟩, h4⟩, h5⟩, h6⟩, h7⟩ := h
      split at h1
      · rename_i xs e1
        have hs := snd_src (tg := _) hX hF e1 (sndEs hF hn ses xs X N sc Ex hX h1)
        refine (PB.of (snd_lc (mt := evE (callF W.tab n) cond) (me := evE (callF W.tab n) elt) hX hs h2 h3 h4 h5 ?_ fun Y hY => (sndE hF hn elt _ Y N _ Ex0 hY h7).1) rfl).eq fun env => ?_
        · intro Y hY
          split at h6
          · exact pts_yes h6
          · exact pts_one (sndE hF hn cond _ Y N _ Ex0 hY h6).2
          · cases h6
        · show ((evL _ ses env >>= fun ds => M.ofO (srcD k ds)) >>= fun xs => _) = (evEs _ ses env >>= fun ds => M.ofO (srcD k ds) >>= fun xs => _)
          rw [bind_assocM, evEs_evL]
      · cases h1
    · cases h
  | .rev a, x, X, N, sc, Ex, hX, h => by
    unfold mE at h
    split at h
    · exact PB.of (snd_rev (sndE hF hn a _ X N sc Ex hX h).1) rfl
    · cases h
  | .cpop i e, x, X, N, sc, Ex, hX, h => by simp [mE] at h
  | .olst i, x, X, N, sc, Ex, hX, h => by
    unfold mE at h
    split at h
    · exact PB.of (list_own hX hF h) rfl
    · cases h
  | .oget i k z, x, X, N, sc, Ex, hX, h => by simp [mE] at h
  | .osub i e, x, X, N, sc, Ex, hX, h => by
    unfold mE at h
    split at h
    · simp only [Bool.and_eq_true] at h
      have he := (sndE hF hn e _ X N sc Ex hX h.2).1
      exact PB.of (PEimp (pe_ix (ix_own (by have := hX.units; omega)) (snd_own hX h.1.1) he (plainIx_of h.1.2)) fun σ H Q q => ow_imp q) rfl
    · cases h
  | .ocr o e i, x, X, N, sc, Ex, hX, h => by
    unfold mE at h
    split at h
    · simp only [Bool.and_eq_true] at h
      have he := (sndE hF hn e _ X N sc Ex hX h.2).1
      have ho := own_in_op hX h.1.1.1 h.1.1.2
      exact PB.both (pe_cmpR ho he (snd_own hX h.1.2) (bhm _ rfl)) (pt_cmpR ho he (snd_own hX h.1.2) (bhm _ rfl)) fun σ H Q q => wo_imp q
    · cases h
  | .ocl o i e, x, X, N, sc, Ex, hX, h => by
    unfold mE at h
    split at h
    · simp only [Bool.and_eq_true] at h
      have he := (sndE hF hn e _ X N sc Ex hX h.2).1
      have ho := OpRimp (cmp_own_l hX h.1.1.1) (t' := rOw W.L fun od y => (cmpD o od y).map .bl) fun x y H Q ⟨F, C, c, a, od, dy, d, ck, e0, ho, nc, hy, e1, k⟩ => ⟨F, C, c, a, od, dy, d, ck, e0, ho, nc, hy, (by
        cases ho with
        | lst _ _ => exact e1
        | dct _ _ =>
          have e1 : Option.map D.bl (cmpD o (.dct _) dy) = some d := e1
          rw [cmp_dct] at e1
          cases e1), k⟩
      exact PB.both (pe_cmpR ho (snd_own hX h.1.2) he (bhm _ h.1.1.2)) (pt_cmpR ho (snd_own hX h.1.2) he (bhm _ h.1.1.2)) fun σ H Q q => ow_imp q
    · cases h
  | .oln i, x, X, N, sc, Ex, hX, h => by
    unfold mE at h
    split at h
    · exact PB.of (len_own hX hF h) rfl
    · cases h
  | .cln i, x, X, N, sc, Ex, hX, h => by
    unfold mE at h
    split at h
    · exact PB.of (len_cel hX hF h) rfl
    · cases h
theorem sndEs (hF : Facts W) (hn : FnsAt W n) : ∀ (es : List E) (xs : List Expr) (X : Cx) (N : List Str) (sc : ScN) (Ex : Sg → XK), CxOk W n X N sc Ex → mEs W.nm N sc es xs = true → AllPE X W.L Ex (evE (callF W.tab n)) es xs
  | [], [], X, N, sc, Ex, hX, h => trivial
  | [], _ :: _, X, N, sc, Ex, hX, h => by simp [mEs] at h
  | _ :: _, [], X, N, sc, Ex, hX, h => by simp [mEs] at h
  | e :: es, x :: xs, X, N, sc, Ex, hX, h => by
    simp only [mEs, Bool.and_eq_true] at h
    exact ⟨h.1.1, (sndE hF hn e x X N sc Ex hX h.1.2).1, sndEs hF hn es xs X N sc Ex hX h.2⟩
end
end
end Hg
end
section
set_option Elab.async false
set_option linter.all false
set_option autoImplicit false
set_option maxRecDepth 100000
set_option maxHeartbeats 2000000
/-! A21: statements: what is said of them. -/
namespace Hg
open PySem PySem.Spec PyProof.Rows PySem.SeqAt L2
/-- where the def began (0), and a later point from which the frozen things stand (s) -/
structure Ba where
  F0 : Fz
  C0 : List Addr
  H0 : Hp
  Fs : Fz
  Cs : List Addr
  Hs : Hp
structure Bs (B : Ba) (F : Fz) (C : List Addr) (H : Hp) (σ : Sg) (env : Env) : Prop where
  ext : Ext B.F0 B.C0 B.H0 F H
  cs : ∃ Cn, C = B.C0 ++ Cn ∧ ∀ a ∈ Cn, B.H0 a = none
  own : ∀ (i : Nat) (a : Addr) (d : D), env[i]? = some (.own d) → σ[i]? = some (some (.ref a)) → B.H0 a = none
  lat : Lat B.Fs B.Hs F H
  pre : ∃ Cx, C = B.Cs ++ Cx
def OutS (L : Pl) (B : Ba) (W : XK) (Dn : Ends) : Res Fl → Prop
  | .ok (.nx env) c => ∀ σ F C H, Bs B F C H σ env → SI L F C σ H env c → Dn.nx σ H
  | .ok (.rt d) c => ∀ v F C H, Bs B F C H [] [] → Cok L F C H c → Rep L F C H v d → Dn.rt v H
  | .exc x c => ∀ F C H, Bs B F C H [] [] → Cok L F C H c → W (.ref (L.er x)) none H
  | .bad => False
def SS (L : Pl) (W : XK) (m : Env → M Fl) : TS := fun Dn σ H => ∃ B F C env c, Bs B F C H σ env ∧ SI L F C σ H env c ∧ OutS L B W Dn (m env c)
section
variable {L : Pl} {B : Ba} {W : XK} {Dn : Ends} {F F' : Fz} {C : List Addr} {H H' : Hp} {σ : Sg} {env : Env} {c c' : Cells} {d : D} {v : V} {i : Nat} {p : Addr}
theorem Bs.low (b : Bs B F C H σ env) : Bs B F C H [] [] := ⟨b.ext, b.cs, fun i a d h => by simp at h, b.lat, b.pre⟩
theorem Bs.step (b : Bs B F C H σ env) (ck : Cok L F C H c) (e : Ext F C H F' H') : Bs B F' C H' σ env where
  ext := {
    mono := fun a f => e.mono a (b.ext.mono a f)
    new := fun a f => by
      rcases e.new a f with f | f
      · exact b.ext.new a f
      · right
        cases q : B.H0 a with
        | none => rfl
        | some o => exact absurd f (b.ext.trk a (by rw [q]; simp))
    keep := fun a o h n => by
      refine e.keep a o (b.ext.keep a o h n) fun hc => ?_
      obtain ⟨Cn, rfl, hn⟩ := b.cs
      rcases List.mem_append.mp hc with z | z
      · exact n z
      · rw [hn a z] at h; cases h
    trk := fun a h => e.trk a (b.ext.trk a h)
    fin := e.fin }
  cs := b.cs
  own := b.own
  lat := b.lat.trans (Lat.of e ck.ap ck.fin)
  pre := b.pre
theorem Bs.set (b : Bs B F C H σ env) : Bs B F C H (σ.set i (some v)) (env.set i (.val d)) where
  ext := b.ext
  cs := b.cs
  own := fun j a d' h1 h2 => by
    by_cases e : i = j
    · subst e
      by_cases hl : i < env.length
      · rw [List.getElem?_set_self hl] at h1; cases h1
      · rw [List.getElem?_eq_none (by simp; omega)] at h1; cases h1
    · rw [List.getElem?_set_ne e] at h1 h2
      exact b.own j a d' h1 h2
  lat := b.lat
  pre := b.pre
/-- an expression, then what follows -/
theorem ss_bind {α β : Type} {R : RTy β α} {m : Env → M α} {k : Env → α → M Fl} (b : Bs B F C H σ env) (si : SI L F C σ H env c) (o : OutS L B W Dn ((m env >>= fun a => k env a) c)) :
    SG R L (fun _ => W) m σ H fun v H1 => ∃ F1 a c1, Bs B F1 C H1 σ env ∧ SI L F1 C σ H1 env c1 ∧ R L C F1 H1 v a ∧ OutS L B W Dn (k env a c1) := by
  refine ⟨F, C, env, c, si, ?_⟩
  cases e : m env c with
  | bad => rw [M.bind_bad e] at o; exact o
  | exc x c1 =>
    rw [M.bind_exc e] at o
    intro F1 H1 ex ck
    exact o F1 C H1 (b.step si.cok ex).low ck
  | ok a c1 =>
    rw [M.bind_ok e] at o
    intro v F1 H1 ex ck r
    exact ⟨F1, a, c1, b.step si.cok ex, si.step ex ck, r, o⟩
theorem ss_nx (b : Bs B F C H σ env) (si : SI L F C σ H env c) (o : OutS L B W Dn ((pure (Fl.nx env) : M Fl) c)) : Dn.nx σ H := o σ F C H b si
/-! ### one's own things -/
theorem SI.setO (s : SI L F C σ H env c) (hp : H p = none) {vs : List V} {ds : List D} (r : Reps L F C H vs ds) : SI L F C (σ.set i (some (.ref p))) (upd H p (.lst vs)) (env.set i (.own (.lst ds))) c := by
  have nF : ¬ F p := fun f => s.cok.fin p f hp
  have nC : p ∉ C := fun h => s.cok.trk p h hp
  have up : ∀ a, F a → F a ∧ upd H p (HO.lst vs) a = H a := fun a f => ⟨f, upd_ne (show a ≠ p from fun e => nF (e ▸ f))⟩
  have at_ : ∀ (j : Nat) (sl : Slot), (env.set i (.own (.lst ds)))[j]? = some sl → (i = j ∧ sl = .own (.lst ds) ∧ j < σ.length) ∨ (i ≠ j ∧ env[j]? = some sl) := fun j sl h => by
    by_cases e : i = j
    · subst e
      by_cases hl : i < env.length
      · rw [List.getElem?_set_self hl] at h; cases h; exact .inl ⟨rfl, rfl, by rw [← s.len]; exact hl⟩
      · rw [List.getElem?_eq_none (by simp; omega)] at h; cases h
    · rw [List.getElem?_set_ne e] at h; exact .inr ⟨e, h⟩
  have other : ∀ (j : Nat) (a : Addr) (d : D), env[j]? = some (.own d) → σ[j]? = some (some (.ref a)) → a ≠ p := fun j a d h1 h2 e => by
    obtain ⟨a', h3, o, _⟩ := s.own j d h1
    rw [h2] at h3; cases h3
    subst e
    exact o.trk hp
  refine ⟨s.cok.updNew nF nC, by simp [s.len], fun j d h => ?_, fun j d h => ?_, fun j k a d d' hjk h1 h2 h3 h4 => ?_⟩
  · rcases at_ j _ h with ⟨_, e, _⟩ | ⟨e, h⟩
    · cases e
    · obtain ⟨v, h1, h2⟩ := s.val j d h
      exact ⟨v, by rw [List.getElem?_set_ne e]; exact h1, h2.mono up fun _ _ h => h⟩
  · rcases at_ j _ h with ⟨rfl, e, hl⟩ | ⟨e, h⟩
    · cases e
      exact ⟨p, List.getElem?_set_self hl, .lst upd_same (r.mono up fun _ _ h => h), nF, nC⟩
    · obtain ⟨a, h1, o, h3, h4⟩ := s.own j d h
      exact ⟨a, by rw [List.getElem?_set_ne e]; exact h1, o.mono up (fun _ _ h => h) (upd_ne (other j a d h h1)), h3, h4⟩
  · rcases at_ j _ h1 with ⟨rfl, _, hl⟩ | ⟨e1, h1⟩ <;> rcases at_ k _ h2 with ⟨rfl, _, hl2⟩ | ⟨e2, h2⟩
    · exact hjk rfl
    · rw [List.getElem?_set_self hl] at h3; cases h3
      rw [List.getElem?_set_ne e2] at h4
      exact other k p d' h2 h4 rfl
    · rw [List.getElem?_set_self hl2] at h4; cases h4
      rw [List.getElem?_set_ne e1] at h3
      exact other j p d h1 h3 rfl
    · rw [List.getElem?_set_ne e1] at h3
      rw [List.getElem?_set_ne e2] at h4
      exact s.dis j k a d d' hjk h1 h2 h3 h4
theorem Bs.setO (b : Bs B F C H σ env) (ck : Cok L F C H c) (hp : H p = none) {o : HO} : Bs B F C (upd H p o) (σ.set i (some (.ref p))) (env.set i (.own d)) where
  ext := by
    have h0 : B.H0 p = none := by
      cases q : B.H0 p with
      | none => rfl
      | some o => exact absurd hp (b.ext.trk p (by rw [q]; simp))
    exact b.ext.updNew h0 fun f => ck.fin p f hp
  cs := b.cs
  own := fun j a d' h1 h2 => by
    by_cases e : i = j
    · subst e
      by_cases hl : i < σ.length
      · rw [List.getElem?_set_self hl] at h2; cases h2
        cases q : B.H0 p with
        | none => rfl
        | some o => exact absurd hp (b.ext.trk p (by rw [q]; simp))
      · rw [List.getElem?_eq_none (by simp; omega)] at h2; cases h2
    · rw [List.getElem?_set_ne e] at h1 h2
      exact b.own j a d' h1 h2
  lat := fun a f => ⟨(b.lat a f).1, by
    rw [upd_ne (show a ≠ p from fun e => ck.fin p (e ▸ (b.lat a f).1) hp)]
    exact (b.lat a f).2⟩
  pre := b.pre
/-- its own list changes -/
theorem SI.own_set (s : SI L F C σ H env c) (e : getO env i = some d) (h1 : σ[i]? = some (some (.ref p))) {d' : D} {o : HO} (ho : ∀ H', (∀ a, F a → F a ∧ H' a = H a) → H' p = some o → Own L F C H' p d') : SI L F C σ (upd H p o) (env.set i (.own d')) c := by
  obtain ⟨p', h2, ow, nF, nC⟩ := own_at s e
  rw [h1] at h2; cases h2
  have ee : env[i]? = some (.own d) := by
    unfold getO at e
    split at e
    · rename_i q; cases e; exact q
    · cases e
  have hl : i < env.length := by
    rcases Nat.lt_or_ge i env.length with h | h
    · exact h
    · rw [List.getElem?_eq_none h] at ee; cases ee
  have up : ∀ a, F a → F a ∧ upd H p o a = H a := fun a f => ⟨f, upd_ne (show a ≠ p from fun e => nF (e ▸ f))⟩
  have at_ : ∀ (j : Nat) (sl : Slot), (env.set i (.own d'))[j]? = some sl → (i = j ∧ sl = .own d') ∨ (i ≠ j ∧ env[j]? = some sl) := fun j sl h => by
    by_cases e : i = j
    · subst e
      rw [List.getElem?_set_self hl] at h; cases h; exact .inl ⟨rfl, rfl⟩
    · rw [List.getElem?_set_ne e] at h; exact .inr ⟨e, h⟩
  have other : ∀ (j : Nat) (a : Addr) (d : D), i ≠ j → env[j]? = some (.own d) → σ[j]? = some (some (.ref a)) → a ≠ p := fun j a d hij h3 h4 e => s.dis i j p _ _ hij ee h3 h1 (e ▸ h4)
  refine ⟨s.cok.updNew nF nC, by simp [s.len], fun j d h => ?_, fun j d h => ?_, fun j k a d d' hjk h1' h2 h3 h4 => ?_⟩
  · rcases at_ j _ h with ⟨_, e⟩ | ⟨e, h⟩
    · cases e
    · obtain ⟨v, h1, h2⟩ := s.val j d h
      exact ⟨v, h1, h2.mono up fun _ _ h => h⟩
  · rcases at_ j _ h with ⟨rfl, e⟩ | ⟨e, h⟩
    · cases e
      exact ⟨p, h1, ho _ up upd_same, nF, nC⟩
    · obtain ⟨a, h5, o, h3, h4⟩ := s.own j d h
      exact ⟨a, h5, o.mono up (fun _ _ h => h) (upd_ne (other j a d e h h5)), h3, h4⟩
  · rcases at_ j _ h1' with ⟨rfl, _⟩ | ⟨e1, h1'⟩ <;> rcases at_ k _ h2 with ⟨rfl, _⟩ | ⟨e2, h2⟩
    · exact hjk rfl
    · exact s.dis _ k a _ d' hjk ee h2 h3 h4
    · exact s.dis j _ a d _ hjk h1' ee h3 h4
    · exact s.dis j k a d d' hjk h1' h2 h3 h4
theorem Bs.own_set (b : Bs B F C H σ env) (ck : Cok L F C H c) (nF : ¬ F p) (e : env[i]? = some (.own d)) (h1 : σ[i]? = some (some (.ref p))) {d' : D} {o : HO} : Bs B F C (upd H p o) σ (env.set i (.own d')) where
  ext := b.ext.updNew (b.own i p d e h1) nF
  cs := b.cs
  own := fun j a d2 h2 h3 => by
    by_cases q : i = j
    · subst q
      exact b.own i a d e h3
    · rw [List.getElem?_set_ne q] at h2
      exact b.own j a d2 h2 h3
  lat := fun a f => ⟨(b.lat a f).1, by
    rw [upd_ne (show a ≠ p from fun e => nF (e ▸ (b.lat a f).1))]
    exact (b.lat a f).2⟩
  pre := b.pre
theorem getO_at {d : D} (e : getO env i = some d) : env[i]? = some (.own d) := by
  unfold getO at e
  split at e
  · rename_i q; cases e; exact q
  · cases e
/-- its own list is frozen -/
theorem SI.frzL (s : SI L F C σ H env c) (e : getO env i = some d) (h1 : σ[i]? = some (some (.ref p))) (hd : ∃ xs, d = .lst xs) : SI L (fun x => F x ∨ x = p) C σ H (env.set i (.val d)) c := by
  obtain ⟨p', h2, ow, nF, nC⟩ := own_at s e
  rw [h1] at h2; cases h2
  have ee := getO_at e
  have hl : i < env.length := by
    rcases Nat.lt_or_ge i env.length with h | h
    · exact h
    · rw [List.getElem?_eq_none h] at ee; cases ee
  have up : ∀ a, F a → (F a ∨ a = p) ∧ H a = H a := fun a f => ⟨.inl f, rfl⟩
  have at_ : ∀ (j : Nat) (sl : Slot), (env.set i (.val d))[j]? = some sl → (i = j ∧ sl = .val d) ∨ (i ≠ j ∧ env[j]? = some sl) := fun j sl h => by
    by_cases e : i = j
    · subst e
      rw [List.getElem?_set_self hl] at h; cases h; exact .inl ⟨rfl, rfl⟩
    · rw [List.getElem?_set_ne e] at h; exact .inr ⟨e, h⟩
  refine ⟨addF s.cok ow.trk nC, by simp [s.len], fun j d2 h => ?_, fun j d2 h => ?_, fun j k a d d' hjk h1' h2 h3 h4 => ?_⟩
  · rcases at_ j _ h with ⟨rfl, e⟩ | ⟨e, h⟩
    · cases e
      exact ⟨_, h1, ow.rep hd⟩
    · obtain ⟨v, h1, h2⟩ := s.val j d2 h
      exact ⟨v, h1, h2.addF⟩
  · rcases at_ j _ h with ⟨rfl, e⟩ | ⟨e, h⟩
    · cases e
    · obtain ⟨a, h5, o, h3, h4⟩ := s.own j d2 h
      exact ⟨a, h5, o.mono up (fun _ _ h => h) rfl, fun f => f.elim h3 fun q => s.dis i j p _ _ e ee h h1 (q ▸ h5), h4⟩
  · rcases at_ j _ h1' with ⟨_, e⟩ | ⟨e1, h1'⟩
    · cases e
    · rcases at_ k _ h2 with ⟨_, e⟩ | ⟨e2, h2⟩
      · cases e
      · exact s.dis j k a d d' hjk h1' h2 h3 h4
theorem Bs.frzL (b : Bs B F C H σ env) (s : SI L F C σ H env c) (e : getO env i = some d) (h1 : σ[i]? = some (some (.ref p))) : Bs B (fun x => F x ∨ x = p) C H σ (env.set i (.val d)) where
  ext := by
    obtain ⟨p', h2, ow, nF, nC⟩ := own_at s e
    rw [h1] at h2; cases h2
    exact ⟨fun a f => .inl (b.ext.mono a f), fun a f => f.elim (b.ext.new a) fun q => .inr (by rw [q]; exact b.own i _ d (getO_at e) h1), b.ext.keep, b.ext.trk, fun a f => f.elim (b.ext.fin a) fun q => by rw [q]; exact ow.trk⟩
  cs := b.cs
  own := fun j a d2 h2 h3 => by
    by_cases q : i = j
    · subst q
      by_cases hl : i < env.length
      · rw [List.getElem?_set_self hl] at h2; cases h2
      · rw [List.getElem?_eq_none (by simp; omega)] at h2; cases h2
    · rw [List.getElem?_set_ne q] at h2
      exact b.own j a d2 h2 h3
  lat := fun a f => ⟨.inl (b.lat a f).1, (b.lat a f).2⟩
  pre := b.pre
end
end Hg
end
section
set_option Elab.async false
set_option linter.all false
set_option autoImplicit false
set_option maxRecDepth 100000
set_option maxHeartbeats 2000000
/-! A22: cells; the statements one by one. -/
namespace Hg
open PySem PySem.Spec PyProof.Rows PySem.SeqAt L2
section
variable {L : Pl} {B : Ba} {W : XK} {Dn : Ends} {F F' : Fz} {C : List Addr} {H H' : Hp} {σ : Sg} {env : Env} {c c' : Cells} {d : D} {v : V} {i : Nat} {p : Addr}
theorem app_get {α : Type} {l : List α} {x : α} {k : Nat} {y : α} (h : (l ++ [x])[k]? = some y) : l[k]? = some y ∨ (k = l.length ∧ y = x) := by
  rcases Nat.lt_trichotomy k l.length with q | q | q
  · rw [List.getElem?_append_left q] at h; exact .inl h
  · subst q; simp at h; exact .inr ⟨rfl, h.symm⟩
  · rw [List.getElem?_eq_none (by simp; omega)] at h; cases h
theorem Cok.new (ck : Cok L F C H c) (hp : H p = none) {vs : List V} {ds : List D} (r : Reps L F C H vs ds) (hc : noCels ds = true) : Cok L F (C ++ [p]) (upd H p (.lst vs)) (c ++ [.lst ds]) := by
  have nF : ¬ F p := fun f => ck.fin p f hp
  have nC : p ∉ C := fun h => ck.trk p h hp
  have up : ∀ a, F a → F a ∧ upd H p (HO.lst vs) a = H a := fun a f => ⟨f, upd_ne (show a ≠ p from fun e => nF (e ▸ f))⟩
  have mono : ∀ (k : Nat) (a : Addr), C[k]? = some a → (C ++ [p])[k]? = some a := fun k a h => by
    rw [List.getElem?_append_left (List.getElem?_eq_some_iff.mp h).1]; exact h
  refine ⟨by simp [ck.len], ?_, fun k a d h1 h2 => ?_, fun a f h => ?_, (ck.updNew nF nC).fin, fun k d h => ?_⟩
  · rw [List.nodup_append]
    refine ⟨ck.nd, by simp, fun a ha b hb => ?_⟩
    rw [List.mem_singleton] at hb
    subst hb
    exact fun e => nC (e ▸ ha)
  · rcases app_get h1 with h1 | ⟨e1, rfl⟩
    · rcases app_get h2 with h2 | ⟨e2, rfl⟩
      · exact (ck.own k a d h1 h2).mono up mono (upd_ne fun e => nC (e ▸ List.mem_of_getElem? h1))
      · have := (List.getElem?_eq_some_iff.mp h1).1
        rw [ck.len] at this
        omega
    · rcases app_get h2 with h2 | ⟨e2, rfl⟩
      · have := (List.getElem?_eq_some_iff.mp h2).1
        rw [← ck.len] at this
        omega
      · exact .lst upd_same (r.mono up mono)
  · rcases List.mem_append.mp h with h | h
    · exact ck.ap a f h
    · rw [List.mem_singleton] at h
      subst h
      exact nF f
  · rcases app_get h with h | ⟨_, rfl⟩
    · exact ck.nc k d h
    · simpa [noCel] using hc
theorem SI.setN (s : SI L F C σ H env c) (hp : H p = none) {vs : List V} {ds : List D} (r : Reps L F C H vs ds) (hc : noCels ds = true) : SI L F (C ++ [p]) (σ.set i (some (.ref p))) (upd H p (.lst vs)) (env.set i (.val (.cel c.length))) (c ++ [.lst ds]) := by
  have nF : ¬ F p := fun f => s.cok.fin p f hp
  have nC : p ∉ C := fun h => s.cok.trk p h hp
  have up : ∀ a, F a → F a ∧ upd H p (HO.lst vs) a = H a := fun a f => ⟨f, upd_ne (show a ≠ p from fun e => nF (e ▸ f))⟩
  have mono : ∀ (k : Nat) (a : Addr), C[k]? = some a → (C ++ [p])[k]? = some a := fun k a h => by
    rw [List.getElem?_append_left (List.getElem?_eq_some_iff.mp h).1]; exact h
  have s1 : SI L F (C ++ [p]) σ (upd H p (.lst vs)) env (c ++ [.lst ds]) := by
    refine ⟨s.cok.new hp r hc, s.len, fun j d h => ?_, fun j d h => ?_, s.dis⟩
    · obtain ⟨v, h1, h2⟩ := s.val j d h
      exact ⟨v, h1, h2.mono up mono⟩
    · obtain ⟨a, h1, o, h3, h4⟩ := s.own j d h
      have ne : a ≠ p := fun e => o.trk (e ▸ hp)
      refine ⟨a, h1, o.mono up mono (upd_ne ne), h3, fun h => ?_⟩
      rcases List.mem_append.mp h with h | h
      · exact h4 h
      · exact ne (List.mem_singleton.mp h)
  refine s1.set (.cel ?_)
  rw [← s.cok.len]
  simp
theorem Bs.setN (b : Bs B F C H σ env) (ck : Cok L F C H c) (hp : H p = none) {o : HO} : Bs B F (C ++ [p]) (upd H p o) (σ.set i (some (.ref p))) (env.set i (.val d)) := by
  have b1 := b.setO (i := i) (d := d) ck hp (o := o)
  have h0 : B.H0 p = none := by
    cases q : B.H0 p with
    | none => rfl
    | some o => exact absurd hp (b.ext.trk p (by rw [q]; simp))
  refine ⟨b1.ext, ?_, (b.set (i := i) (v := .ref p) (d := d)).own, b1.lat, ?_⟩
  · obtain ⟨Cn, rfl, hn⟩ := b.cs
    refine ⟨Cn ++ [p], by simp, fun a ha => ?_⟩
    rcases List.mem_append.mp ha with h | h
    · exact hn a h
    · rw [List.mem_singleton.mp h]; exact h0
  · obtain ⟨Cx, rfl⟩ := b.pre
    exact ⟨Cx ++ [p], by simp⟩
theorem nodup_at {α : Type} : ∀ {l : List α} {i j : Nat}, l.Nodup → (hi : i < l.length) → (hj : j < l.length) → l[i] = l[j] → i = j
  | x :: l, 0, 0, _, _, _, _ => rfl
  | x :: l, 0, j + 1, h, _, hj, e => absurd (show x ∈ l from by
      have e : x = l[j]'(by simpa using hj) := e
      rw [e]; exact List.getElem_mem _) (List.nodup_cons.mp h).1
  | x :: l, i + 1, 0, h, hi, _, e => absurd (show x ∈ l from by
      have e : l[i]'(by simpa using hi) = x := e
      rw [← e]; exact List.getElem_mem _) (List.nodup_cons.mp h).1
  | x :: l, i + 1, j + 1, h, hi, hj, e => congrArg (· + 1) (nodup_at (List.nodup_cons.mp h).2 (by simpa using hi) (by simpa using hj) e)
/-- a cell's list changes -/
theorem Cok.chg {k : Nat} (ck : Cok L F C H c) (hk : C[k]? = some p) {o : HO} {d' : D} (hc : noCel d' = true) (ho : ∀ H', (∀ a, F a → F a ∧ H' a = H a) → H' p = some o → Own L F C H' p d') : Cok L F C (upd H p o) (c.set k d') := by
  have hpC : p ∈ C := List.mem_of_getElem? hk
  have nF : ¬ F p := fun f => ck.ap p f hpC
  have up : ∀ a, F a → F a ∧ upd H p o a = H a := fun a f => ⟨f, upd_ne (show a ≠ p from fun e => nF (e ▸ f))⟩
  refine ⟨by simp [ck.len], ck.nd, fun j a d h1 h2 => ?_, ck.ap, fun x f => by rw [upd_ne (show x ≠ p from fun e => nF (e ▸ f))]; exact ck.fin x f, fun j d h => ?_⟩
  rotate_left
  · by_cases e : k = j
    · subst e
      by_cases hl : k < c.length
      · rw [List.getElem?_set_self hl] at h; cases h; exact hc
      · rw [List.getElem?_eq_none (by simp; omega)] at h; cases h
    · rw [List.getElem?_set_ne e] at h
      exact ck.nc j d h
  by_cases e : k = j
  · subst e
    rw [hk] at h1; cases h1
    have hl : k < c.length := by rw [← ck.len]; exact (List.getElem?_eq_some_iff.mp hk).1
    rw [List.getElem?_set_self hl] at h2; cases h2
    exact ho _ up upd_same
  · rw [List.getElem?_set_ne e] at h2
    refine (ck.own j a d h1 h2).mono up (fun _ _ h => h) (upd_ne fun q => e ?_)
    subst q
    obtain ⟨l1, e1⟩ := List.getElem?_eq_some_iff.mp hk
    obtain ⟨l2, e2⟩ := List.getElem?_eq_some_iff.mp h1
    exact nodup_at ck.nd l1 l2 (e1.trans e2.symm)
theorem SI.chg {k : Nat} (s : SI L F C σ H env c) (hk : C[k]? = some p) {o : HO} {d' : D} (hc : noCel d' = true) (ho : ∀ H', (∀ a, F a → F a ∧ H' a = H a) → H' p = some o → Own L F C H' p d') : SI L F C σ (upd H p o) env (c.set k d') := by
  have hpC : p ∈ C := List.mem_of_getElem? hk
  have nF : ¬ F p := fun f => s.cok.ap p f hpC
  have up : ∀ a, F a → F a ∧ upd H p o a = H a := fun a f => ⟨f, upd_ne (show a ≠ p from fun e => nF (e ▸ f))⟩
  refine ⟨s.cok.chg hk hc ho, s.len, fun j d h => ?_, fun j d h => ?_, s.dis⟩
  · obtain ⟨v, h1, h2⟩ := s.val j d h
    exact ⟨v, h1, h2.mono up fun _ _ h => h⟩
  · obtain ⟨a, h1, o, h3, h4⟩ := s.own j d h
    exact ⟨a, h1, o.mono up (fun _ _ h => h) (upd_ne fun e => h4 (e ▸ hpC)), h3, h4⟩
theorem Bs.chg {k : Nat} (b : Bs B F C H σ env) (ck : Cok L F C H c) (hk : C[k]? = some p) {o : HO} : Bs B F C (upd H p o) σ env where
  ext := by
    have hpC : p ∈ C := List.mem_of_getElem? hk
    have nF : ¬ F p := fun f => ck.ap p f hpC
    refine ⟨b.ext.mono, b.ext.new, fun a u h n => ?_, fun a h => ?_, fun a f => ?_⟩
    · rw [upd_ne]
      · exact b.ext.keep a u h n
      · intro e
        subst e
        obtain ⟨Cn, rfl, hn⟩ := b.cs
        rcases List.mem_append.mp hpC with z | z
        · exact n z
        · rw [hn _ z] at h; cases h
    · by_cases q : a = p
      · subst q; rw [upd_same]; simp
      · rw [upd_ne q]; exact b.ext.trk a h
    · rw [upd_ne (show a ≠ p from fun e => nF (e ▸ f))]; exact b.ext.fin a f
  cs := b.cs
  own := b.own
  lat := fun a f => ⟨(b.lat a f).1, by
    have nF : ¬ F p := fun f => ck.ap p f (List.mem_of_getElem? hk)
    rw [upd_ne (show a ≠ p from fun e => nF (e ▸ (b.lat a f).1))]
    exact (b.lat a f).2⟩
  pre := b.pre
end
mutual
theorem bindT_own : ∀ (tg : Tg) (d : D) (env env' : Env), bindT tg d env = some env' → ∀ (j : Nat) (d2 : D), env'[j]? = some (.own d2) → j ∉ slotsT tg ∧ env[j]? = some (.own d2)
  | .nm i, d, env, env', e, j, d2, h => by
    simp only [bindT, Option.some.injEq] at e
    subst e
    by_cases q : i = j
    · subst q
      by_cases hl : i < env.length
      · rw [List.getElem?_set_self hl] at h; cases h
      · rw [List.getElem?_eq_none (by simp; omega)] at h; cases h
    · rw [List.getElem?_set_ne q] at h
      exact ⟨by simp [slotsT]; exact fun z => q z.symm, h⟩
  | .tp ts, d, env, env', e, j, d2, h => by
    have : ∃ ds, bindTs ts ds env = some env' := by
      cases d <;> simp only [bindT, reduceCtorEq] at e
      · exact ⟨_, e⟩
      · exact ⟨_, e⟩
      · exact ⟨_, e⟩
    obtain ⟨ds, e⟩ := this
    exact bindTs_own ts ds env env' e j d2 h
theorem bindTs_own : ∀ (ts : List Tg) (ds : List D) (env env' : Env), bindTs ts ds env = some env' → ∀ (j : Nat) (d2 : D), env'[j]? = some (.own d2) → j ∉ slotsTs ts ∧ env[j]? = some (.own d2)
  | [], [], env, env', e, j, d2, h => by
    simp only [bindTs, Option.some.injEq] at e
    subst e
    exact ⟨by simp [slotsTs], h⟩
  | [], _ :: _, env, env', e, j, d2, h => by simp [bindTs] at e
  | _ :: _, [], env, env', e, j, d2, h => by simp [bindTs] at e
  | t :: ts, d :: ds, env, env', e, j, d2, h => by
    simp only [bindTs, Option.bind_eq_some_iff] at e
    obtain ⟨env1, e1, e2⟩ := e
    obtain ⟨h1, h2⟩ := bindTs_own ts ds env1 env' e2 j d2 h
    obtain ⟨h3, h4⟩ := bindT_own t d env env1 e1 j d2 h2
    exact ⟨by simp only [slotsTs, List.mem_append, not_or]; exact ⟨h3, h1⟩, h4⟩
end
section
variable {L : Pl} {B : Ba} {F : Fz} {C : List Addr} {H : Hp} {σ : Sg} {env : Env} {c : Cells} {d : D} {i : Nat} {p : Addr}
/-- its own dict is frozen -/
theorem SI.frzD (s : SI L F C σ H env c) {ds : List (T × D)} (e : getO env i = some (.dct ds)) (h1 : σ[i]? = some (some (.ref p))) {kvs : List (Key × V)} (hk : H p = some (.dK kvs)) (r : RepK L F C H kvs ds) (od : Obj) : SI L (fun x => F x ∨ x = p) C σ (upd H p (.frz od (.dK kvs))) (env.set i (.val (.dct ds))) c := by
  obtain ⟨p', h2, ow, nF, nC⟩ := own_at s e
  rw [h1] at h2; cases h2
  have ee := getO_at e
  have hl : i < env.length := by
    rcases Nat.lt_or_ge i env.length with h | h
    · exact h
    · rw [List.getElem?_eq_none h] at ee; cases ee
  have up : ∀ a, F a → (F a ∨ a = p) ∧ upd H p (HO.frz od (.dK kvs)) a = H a := fun a f => ⟨.inl f, upd_ne (show a ≠ p from fun e => nF (e ▸ f))⟩
  have at_ : ∀ (j : Nat) (sl : Slot), (env.set i (.val (.dct ds)))[j]? = some sl → (i = j ∧ sl = .val (.dct ds)) ∨ (i ≠ j ∧ env[j]? = some sl) := fun j sl h => by
    by_cases e : i = j
    · subst e
      rw [List.getElem?_set_self hl] at h; cases h; exact .inl ⟨rfl, rfl⟩
    · rw [List.getElem?_set_ne e] at h; exact .inr ⟨e, h⟩
  have other : ∀ (j : Nat) (a : Addr) (d : D), i ≠ j → env[j]? = some (.own d) → σ[j]? = some (some (.ref a)) → a ≠ p := fun j a d hij h3 h4 q => s.dis i j p _ _ hij ee h3 h1 (q ▸ h4)
  refine ⟨addF (s.cok.updNew nF nC) (by rw [upd_same]; simp) nC, by simp [s.len], fun j d2 h => ?_, fun j d2 h => ?_, fun j k a d d' hjk h1' h2 h3 h4 => ?_⟩
  · rcases at_ j _ h with ⟨rfl, e⟩ | ⟨e, h⟩
    · cases e
      exact ⟨_, h1, .dct od (.inr rfl) upd_same (r.mono up fun _ _ h => h)⟩
    · obtain ⟨v, h1, h2⟩ := s.val j d2 h
      exact ⟨v, h1, h2.mono up fun _ _ h => h⟩
  · rcases at_ j _ h with ⟨rfl, e⟩ | ⟨e, h⟩
    · cases e
    · obtain ⟨a, h5, o, h3, h4⟩ := s.own j d2 h
      exact ⟨a, h5, o.mono up (fun _ _ h => h) (upd_ne (other j a d2 e h h5)), fun f => f.elim h3 fun q => other j a d2 e h h5 q, h4⟩
  · rcases at_ j _ h1' with ⟨_, e⟩ | ⟨e1, h1'⟩
    · cases e
    · rcases at_ k _ h2 with ⟨_, e⟩ | ⟨e2, h2⟩
      · cases e
      · exact s.dis j k a d d' hjk h1' h2 h3 h4
theorem Bs.frzD (b : Bs B F C H σ env) (s : SI L F C σ H env c) {ds : List (T × D)} (e : getO env i = some (.dct ds)) (h1 : σ[i]? = some (some (.ref p))) (o : HO) : Bs B (fun x => F x ∨ x = p) C (upd H p o) σ (env.set i (.val (.dct ds))) := by
  obtain ⟨p', h2, ow, nF, nC⟩ := own_at s e
  rw [h1] at h2; cases h2
  have b1 := b.frzL s e h1
  have h0 : B.H0 p = none := b.own i _ _ (getO_at e) h1
  have b2 := b.ext.updNew (ob := o) h0 nF
  refine ⟨⟨b1.ext.mono, b1.ext.new, b2.keep, b2.trk, fun a f => ?_⟩, b1.cs, b1.own, fun a f => ⟨.inl (b.lat a f).1, ?_⟩, b1.pre⟩
  · rcases f with f | f
    · exact b2.fin a f
    · rw [f, upd_same]; simp
  · rw [upd_ne (show a ≠ p from fun q => nF (q ▸ (b.lat a f).1))]
    exact (b.lat a f).2
end
section
variable {Wl : Lw} {n : Nat} {X : Cx} {N : List Str} {sc : ScN} {W : XK} {L : Pl} {x y : Expr} {pos : Pos} {m ma mb : Env → M D}
def notComp : Expr → Bool
  | .ListComp _ _ _ _ => false
  | .SetComp _ _ _ _ => false
  | .DictComp _ _ _ _ _ => false
  | _ => true
theorem sw_no {t : Option Expr} {l : Nat} {env : PySem.Env} (h : notComp x = true) : swapsWith x t l env = pure false := by
  cases x <;> first | rfl | (exfalso; revert h; simp [notComp]; done)
theorem ss_set {st : Stmt} {i : Nat} (h : PS X st (tAsg (SE L (fun _ => W) m) (gName i))) : PS X st (SS L W fun env => do let d ← m env; pure (.nx (env.set i (.val d)))) := by
  refine PSimp h fun Dn σ H q => ?_
  obtain ⟨B, F, C, env, c, b, si, o⟩ := q
  refine (ss_bind (R := RV) (m := m) (k := fun env d => pure (.nx (env.set i (.val d)))) b si o).imp fun v H1 ⟨F1, d, c1, b1, si1, r, o⟩ => ?_
  exact o _ F1 C H1 b1.set (si1.set r)
theorem ss_setO {st : Stmt} {i k : Nat} {xs : List Expr} {me : Env → M (List D)} (hk : k ≤ 1000) (ha : PA X xs (SAn k L (fun _ => W) me)) (h : ∀ te, PE X (.List xs pos) te → PS X st (tAsg te (gName i))) : PS X st (SS L W fun env => do let ds ← me env; pure (.nx (env.set i (.own (.lst ds))))) := by
  refine PSimp (h _ (pe_lst ha)) fun Dn σ H q => ?_
  obtain ⟨B, F, C, env, c, b, si, o⟩ := q
  refine (ss_bind (R := RLn k) (m := me) (k := fun env ds => pure (.nx (env.set i (.own (.lst ds))))) b si o).imp fun vs H1 ⟨F1, ds, c1, b1, si1, r, o⟩ => ?_
  exact ⟨by rw [r.1.len, r.2]; have := two24; omega, fun p hp => o _ F1 C _ (b1.setO si1.cok hp) (si1.setO hp r.1)⟩
theorem ss_setN {st : Stmt} {i k : Nat} {xs : List Expr} {me : Env → M (List D)} (hk : k ≤ 1000) (ha : PA X xs (SAn k L (fun _ => W) me)) (h : ∀ te, PE X (.List xs pos) te → PS X st (tAsg te (gName i))) : PS X st (SS L W fun env => do let ds ← me env; fun c => if noCels ds then .ok (.nx (env.set i (.val (.cel c.length)))) (c ++ [.lst ds]) else .bad) := by
  refine PSimp (h _ (pe_lst ha)) fun Dn σ H q => ?_
  obtain ⟨B, F, C, env, c, b, si, o⟩ := q
  refine (ss_bind (R := RLn k) (m := me) (k := fun env ds => fun c => if noCels ds then .ok (.nx (env.set i (.val (.cel c.length)))) (c ++ [.lst ds]) else .bad) b si o).imp fun vs H1 ⟨F1, ds, c1, b1, si1, r, o⟩ => ?_
  split at o
  · rename_i hc
    exact ⟨by rw [r.1.len, r.2]; have := two24; omega, fun p hp => o _ F1 _ _ (b1.setN si1.cok hp) (si1.setN hp r.1 hc)⟩
  · exact o.elim
theorem ss_unp {st : Stmt} {tg : Tg} (h : PS X st (tAsg (SE L (fun _ => W) m) (gT L tg))) : PS X st (SS L W fun env => do let d ← m env; let env' ← M.ofO (bindT tg d env); pure (.nx env')) := by
  refine PSimp h fun Dn σ H q => ?_
  obtain ⟨B, F, C, env, c, b, si, o⟩ := q
  refine (ss_bind (R := RV) (m := m) (k := fun env d => do let env' ← M.ofO (bindT tg d env); pure (.nx env')) b si o).imp fun v H1 ⟨F1, d, c1, b1, si1, r, o⟩ => ?_
  cases e : bindT tg d env with
  | none => rw [e] at o; exact o.elim
  | some env' =>
    rw [e] at o
    refine ⟨F1, C, c1, d, env, env', si1, r, e, fun σ' si' hl hk => o σ' F1 C H1 ⟨b1.ext, b1.cs, fun j a d2 h1 h2 => ?_, b1.lat, b1.pre⟩ si'⟩
    obtain ⟨q1, q2⟩ := bindT_own tg d env env' e j d2 h1
    rw [hk j q1] at h2
    exact b1.own j a d2 q2 h2
theorem ss_ret {st : Stmt} (h : PS X st (tRet (SE L (fun _ => W) m))) : PS X st (SS L W fun env => do let d ← m env; pure (.rt d)) := by
  refine PSimp h fun Dn σ H q => ?_
  obtain ⟨B, F, C, env, c, b, si, o⟩ := q
  refine (ss_bind (R := RV) (m := m) (k := fun env d => pure (.rt d)) b si o).imp fun v H1 ⟨F1, d, c1, b1, si1, r, o⟩ => ?_
  exact o v F1 C H1 b1.low si1.cok r
theorem ss_ex {st : Stmt} (h : PS X st (tDrop (SE L (fun _ => W) m))) : PS X st (SS L W fun env => do let _ ← m env; pure (.nx env)) := by
  refine PSimp h fun Dn σ H q => ?_
  obtain ⟨B, F, C, env, c, b, si, o⟩ := q
  refine (ss_bind (R := RV) (m := m) (k := fun env d => pure (.nx env)) b si o).imp fun v H1 ⟨F1, d, c1, b1, si1, r, o⟩ => ?_
  exact o σ F1 C H1 b1 si1
theorem ss_if {a b : List Stmt} {ma mb : Env → M Fl} (hc : PT X x (SB L (fun _ => W) fun env => M.toB (m env))) (ha : PSs X a (SS L W ma)) (hb : PSs X b (SS L W mb)) : PS X (.If x a b pos) (SS L W fun env => do if ← M.toB (m env) then ma env else mb env) := by
  refine PSimp (ps_if hc ha hb) fun Dn σ H q => ?_
  obtain ⟨B, F, C, env, c, b, si, o⟩ := q
  refine (ss_bind (R := RB) (m := fun env => M.toB (m env)) (k := fun env b => if b then ma env else mb env) b si o).imp fun v H1 ⟨F1, d, c1, b1, si1, r, o⟩ => ?_
  have r : v = d := r
  subst r
  cases v with
  | true => exact ⟨B, F1, C, env, c1, b1, si1, o⟩
  | false => exact ⟨B, F1, C, env, c1, b1, si1, o⟩
theorem sss_nil : PSs X [] (SS L W fun env => pure (.nx env)) := PSsimp pss_nil fun Dn σ H q => by
  obtain ⟨B, F, C, env, c, b, si, o⟩ := q
  exact o σ F C H b si
theorem sss_cons {st : Stmt} {rest : List Stmt} {m1 m2 : Env → M Fl} (h1 : PS X st (SS L W m1)) (h2 : PSs X rest (SS L W m2)) : PSs X (st :: rest) (SS L W fun env => do match ← m1 env with
    | .nx env' => m2 env'
    | .rt d => pure (.rt d)) := by
  refine PSsimp (pss_cons h1 h2) fun Dn σ H q => ?_
  obtain ⟨B, F, C, env, c, b, si, o⟩ := q
  refine ⟨B, F, C, env, c, b, si, ?_⟩
  have o : OutS L B W Dn ((m1 env >>= fun fl => match fl with
    | .nx env' => m2 env'
    | .rt d => pure (.rt d)) c) := o
  cases e : m1 env c with
  | bad => rw [M.bind_bad e] at o; exact o
  | exc y c1 => rw [M.bind_exc e] at o; exact o
  | ok fl c1 =>
    rw [M.bind_ok e] at o
    cases fl with
    | rt d => exact o
    | nx env' => exact fun σ' F' C' H' b' si' => ⟨B, F', C', env', c1, b', si', o⟩
theorem sss_frz {sts : List Stmt} {i : Nat} {m : Env → M Fl} (h : PSs X sts (SS L W m)) : PSs X sts (SS L W fun env => do match ← (match getO env i with
    | some d => pure (Fl.nx (env.set i (.val d)))
    | none => M.bad : M Fl) with
    | .nx env' => m env'
    | .rt d => pure (.rt d)) := by
  refine ⟨fun pins s σ H Dn I q => ?_⟩
  obtain ⟨B, F, C, env, c, b, si, o⟩ := q
  cases e : getO env i with
  | none =>
    dsimp only at o
    rw [e] at o
    exact o.elim
  | some d =>
    dsimp only at o
    rw [e] at o
    obtain ⟨a, h1, ow, _⟩ := own_at si e
    cases ow with
    | lst hl r => exact h.run pins s σ H Dn I ⟨B, _, C, _, c, b.frzL si e h1, si.frzL e h1 ⟨_, rfl⟩, o⟩
    | dct hl r =>
      obtain ⟨od, I2⟩ := I.lock hl trivial
      exact h.run pins s σ _ Dn I2 ⟨B, _, C, _, c, b.frzD si e h1 _, si.frzD e h1 hl r od, o⟩
theorem sss_nev {sts : List Stmt} {m : Env → M Fl} : PSs X sts (SS L W fun env => (M.bad >>= fun (a : Fl) => m env)) := PSsimp pss_never fun Dn σ H q => by
  obtain ⟨B, F, C, env, c, b, si, o⟩ := q
  exact o.elim
end
end Hg
end
section
set_option Elab.async false
set_option linter.all false
set_option autoImplicit false
set_option maxRecDepth 100000
set_option maxHeartbeats 2000000
/-! A23: append, pairs, loops. -/
namespace Hg
open PySem PySem.Spec PyProof.Rows PySem.SeqAt L2
section
variable {Wl : Lw} {n : Nat} {X : Cx} {N : List Str} {sc : ScN} {W : XK} {L : Pl} {x y : Expr} {pos : Pos} {m ma mb : Env → M D}
/-- o.append(x) -/
theorem pe_app (hX : CxOk Wl n X N sc (fun _ => W)) {i : Nat} {id nm : Str} {p0 ap cp : Pos} {te : TE} (h : ((nm == ("append" : Str)) && (ap.endLine == cp.line) && mV N sc i id && notStar x) = true) (he : PE X x te) :
    PE X (.Call (.Attribute (.Name id p0) nm ap) [x] [] cp) (tBM X.K "list" rAppend (tVar i) (tCons te tNil)) := by
  simp only [Bool.and_eq_true, beq_iff_eq] at h
  obtain ⟨⟨⟨rfl, hl⟩, hv⟩, hs⟩ := h
  exact pe_bm PySem.F.plainAttrs_list PySem.F.slot_list_append PySem.F.type_list_append mt_append (snd_own hX hv) (pa_cons he pa_nil (star_cons hs)) rfl (by
    have e1 : starEach [x] X.env = (false, eval x X.env) :: starEach [] X.env := star_cons hs
    rw [e1]; rfl) (by simpa using hl) (star_cons hs) rfl
theorem ss_app (hX : CxOk Wl n X N sc (fun _ => W)) {i : Nat} {id nm : Str} {p0 ap cp : Pos} (h : ((nm == ("append" : Str)) && (ap.endLine == cp.line) && mV N sc i id && notStar x) = true) (he : PE X x (SE L (fun _ => W) m)) :
    PS X (.Expr (.Call (.Attribute (.Name id p0) nm ap) [x] [] cp) pos) (SS L W fun env => match getO env i with
    | some (.lst xs) => do
      let d ← m env
      if xs.length < 1000000 then pure (.nx (env.set i (.own (.lst (xs ++ [d]))))) else M.bad
    | _ => M.bad) := by
  refine PSimp (ps_expr (pe_app hX h he)) fun Dn σ H q => ?_
  obtain ⟨B, F, C, env, c, b, si, o⟩ := q
  cases e : getO env i with
  | none => dsimp only at o; rw [e] at o; exact o.elim
  | some d =>
    dsimp only at o
    rw [e] at o
    cases d <;> first | exact o.elim | skip
    rename_i xs
    obtain ⟨a, h1, ow, nF, nC⟩ := own_at si e
    refine ⟨_, h1, ?_, ?_⟩
    · cases ow with
      | lst hl r => exact .inl ⟨rfl, _, .of hl⟩
    have o : OutS L B W Dn ((m env >>= fun d => if xs.length < 1000000 then pure (.nx (env.set i (.own (.lst (xs ++ [d]))))) else M.bad) c) := o
    refine (ss_bind (R := RV) (m := m) (k := fun env' d => if xs.length < 1000000 then pure (.nx (env.set i (.own (.lst (xs ++ [d]))))) else M.bad) b si o).imp fun v H1 ⟨F1, d, c1, b1, si1, r, o⟩ => ?_
    obtain ⟨a', h2, ow1, nF1, nC1⟩ := own_at si1 e
    rw [h1] at h2; cases h2
    split at o
    · rename_i hlen
      cases ow1 with
      | lst hl rs =>
        refine ⟨a, _, v, rfl, rfl, hl, by rw [rs.len]; have := two24; omega, ?_⟩
        exact o σ F1 C _ (b1.own_set si1.cok nF1 (getO_at e) h1) (si1.own_set e h1 fun H' up hp => .lst hp ((rs.app (.cons r .nil)).mono up fun _ _ h => h))
    · exact o.elim
theorem noCels_app {d : D} (hd : noCel d = true) : ∀ {xs : List D}, noCels xs = true → noCels (xs ++ [d]) = true
  | [], _ => by simp [noCels, hd]
  | x :: xs, h => by
    simp only [noCels, Bool.and_eq_true] at h
    simp only [List.cons_append, noCels, Bool.and_eq_true]
    exact ⟨h.1, noCels_app hd h.2⟩
theorem ss_capp (hX : CxOk Wl n X N sc (fun _ => W)) {i : Nat} {id nm : Str} {p0 ap cp : Pos} (h : ((nm == ("append" : Str)) && (ap.endLine == cp.line) && mV N sc i id && notStar x) = true) (he : PE X x (SE L (fun _ => W) m)) :
    PS X (.Expr (.Call (.Attribute (.Name id p0) nm ap) [x] [] cp) pos) (SS L W fun env => fun c => match getV env i with
    | some (.cel k) => match c[k]? with
      | some (.lst _) => (do
        let d ← m env
        fun c => match c[k]? with
          | some (.lst xs) => if xs.length < 1000000 ∧ noCel d = true then Res.ok (Fl.nx env) (c.set k (.lst (xs ++ [d]))) else .bad
          | _ => .bad : M Fl) c
      | _ => .bad
    | _ => .bad) := by
  refine PSimp (ps_expr (pe_app hX h he)) fun Dn σ H q => ?_
  obtain ⟨B, F, C, env, c, b, si, o⟩ := q
  dsimp only at o
  split at o
  · rename_i k e
    have e2 : env[i]? = some (.val (.cel k)) := by
      unfold getV at e
      split at e
      · rename_i q; cases e; exact q
      · cases e
    obtain ⟨v, h1, r⟩ := si.val i _ e2
    split at o
    · rename_i xs0 e3
      cases r with
      | cel hk =>
        refine ⟨_, h1, ?_, ?_⟩
        · cases si.cok.own k _ _ hk e3 with
          | lst hl r => exact .inl ⟨rfl, _, .of hl⟩
        refine (ss_bind (R := RV) (m := m) (k := fun env' d => fun c => match c[k]? with
          | some (.lst xs) => if xs.length < 1000000 ∧ noCel d = true then Res.ok (Fl.nx env) (c.set k (.lst (xs ++ [d]))) else .bad
          | _ => .bad) b si o).imp fun v H1 ⟨F1, d, c1, b1, si1, r, o⟩ => ?_
        split at o
        · rename_i xs e4
          split at o
          · rename_i hlen
            cases si1.cok.own k _ _ hk e4 with
            | lst hl rs =>
              refine ⟨_, _, v, rfl, rfl, hl, by rw [rs.len]; have := two24; omega, ?_⟩
              exact o σ F1 C _ (b1.chg si1.cok hk) (si1.chg hk (by
                have z := si1.cok.nc k _ e4
                simp only [noCel] at z ⊢
                exact noCels_app hlen.2 z) fun H' up hp => .lst hp ((rs.app (.cons r .nil)).mono up fun _ _ h => h))
          · exact o.elim
        · exact o.elim
    · exact o.elim
  · exact o.elim
/-! ### a, b = x, y -/
theorem ss_par {st : Stmt} {i j : Nat} {xs : List Expr} {me : Env → M (List D)} (ha : PA X xs (SAn 2 L (fun _ => W) me)) (h : ∀ t, PA X xs t → PS X st (tPar i j t)) : PS X st (SS L W fun env => do
    match ← me env with
    | [a, b] => pure (.nx ((env.set i (.val a)).set j (.val b)))
    | _ => M.bad) := by
  refine PSimp (h _ ha) fun Dn σ H q => ?_
  obtain ⟨B, F, C, env, c, b, si, o⟩ := q
  refine (ss_bind (R := RLn 2) (m := me) (k := fun env ds => (match ds with
    | [a, b] => pure (.nx ((env.set i (.val a)).set j (.val b)))
    | _ => M.bad : M Fl)) b si o).imp fun vs H1 ⟨F1, ds, c1, b1, si1, r, o⟩ => ?_
  obtain ⟨r, hl⟩ := r
  match ds, hl with
  | [d1, d2], _ =>
    obtain ⟨v, w, rfl, r1, r2⟩ := len2 r
    exact ⟨v, w, rfl, o _ F1 C H1 b1.set.set ((si1.set r1).set r2)⟩
/-! ### while -/
theorem whl_s {c : Env → M D} {b : Env → M Fl} {k : Nat} {env : Env} : whlL c b (k + 1) env = (M.toB (c env) >>= fun t => if t then (b env >>= fun fl => match fl with
      | .nx env2 => whlL c b k env2
      | .rt d => pure (.rt d)) else pure (.nx env)) := by
  conv => lhs; unfold whlL
  all_goals congr 1
theorem OutS_bind {B : Ba} {Dn : Ends} {m1 : M Fl} {k : Env → M Fl} {c : Cells} {nx : Sg → Hp → Prop} (o : OutS L B W Dn ((m1 >>= fun fl => match fl with
      | .nx env2 => k env2
      | .rt d => pure (.rt d)) c)) (hn : ∀ env c1 σ F C H, Bs B F C H σ env → SI L F C σ H env c1 → OutS L B W Dn (k env c1) → nx σ H) : OutS L B W ⟨nx, Dn.rt, Dn.nx, nx⟩ (m1 c) := by
  cases e : m1 c with
  | bad => rw [M.bind_bad e] at o; exact o
  | exc y c1 => rw [M.bind_exc e] at o; exact o
  | ok fl c1 =>
    rw [M.bind_ok e] at o
    cases fl with
    | rt d => exact o
    | nx env => exact fun σ F C H b si => hn env c1 σ F C H b si o
theorem ss_whl {body : List Stmt} {mb : Env → M Fl} {k : Nat} (hp : PassesOwn (model X.prog X.w) X.A X.env X.xe) (hc : PT X x (SB L (fun _ => W) fun env => M.toB (m env))) (hb : PSs X body (SS L W mb)) : PS X (.While x body [] pos) (SS L W fun env => whlL m mb k env) := by
  refine PSimp (ps_while hp hc hb) fun Dn σ H q => ?_
  obtain ⟨B, F, C, env, c, b, si, o⟩ := q
  refine ⟨fun k σ H => ∃ F C env c, Bs B F C H σ env ∧ SI L F C σ H env c ∧ OutS L B W Dn (whlL m mb k env c), ⟨k, F, C, env, c, b, si, o⟩, ?_⟩
  rintro k σ H ⟨F, C, env, c, b, si, o⟩
  cases k with
  | zero => exact o.elim
  | succ k =>
    rw [whl_s] at o
    refine (ss_bind (R := RB) (m := fun env => M.toB (m env)) (k := fun env t => if t then (mb env >>= fun fl => match fl with
      | .nx env2 => whlL m mb k env2
      | .rt d => pure (.rt d)) else pure (.nx env)) b si o).imp fun t H1 ⟨F1, t', c1, b1, si1, r, o⟩ => ?_
    have r : t = t' := r
    subst r
    cases t with
    | false => exact o σ F1 C H1 b1 si1
    | true =>
      rw [if_pos rfl]
      refine ⟨fun σ H => ∃ F C env c, Bs B F C H σ env ∧ SI L F C σ H env c ∧ OutS L B W Dn (whlL m mb k env c), fun σ' H' q => ⟨k, by omega, q⟩, B, F1, C, env, c1, b1, si1, ?_⟩
      exact OutS_bind o fun env c1 σ F C H b si o => ⟨F, C, env, c1, b, si, o⟩
/-! ### for -/
theorem for_s {tg : Tg} {b : Env → M Fl} {d : D} {r : List D} {env : Env} : forL tg b (d :: r) env = (match bindT tg d env with
    | none => M.bad
    | some env' => (b env' >>= fun fl => match fl with
      | .nx env2 => forL tg b r env2
      | .rt d => pure (.rt d))) := by
  conv => lhs; unfold forL
  all_goals (cases bindT tg d env <;> rfl)
theorem ss_for {tx ix : Expr} {tg : Tg} {body : List Stmt} {ms : Env → M (List D)} {mb : Env → M Fl} (hp : PassesOwn (model X.prog X.w) X.A X.env X.xe) (hc : X.calm = true) (hs : PI X tx ix (SG RJ L (fun _ => W) ms)) (hg : PG X tx (gT L tg)) (hb : PSs X body (SS L W mb)) (hst : notSet ix = true) :
    PS X (.For tx ix body [] pos) (SS L W fun env => do let xs ← ms env; forL tg mb xs env) := by
  refine PSimp (ps_for hp hc hs hg hb (fold_id hst)) fun Dn σ H q => ?_
  obtain ⟨B, F, C, env, c, b, si, o⟩ := q
  refine (ss_bind (R := RJ) (m := ms) (k := fun env xs => forL tg mb xs env) b si o).imp fun J H1 ⟨F1, xs, c1, b1, si1, w, o⟩ => ?_
  have w : WalkD L C F1 H1 J xs := w
  let B2 : Ba := { B with Fs := F1, Cs := C, Hs := H1 }
  have widen : ∀ {F2 : Fz} {C2 : List Addr} {H2 : Hp} {σ2 : Sg} {env2 : Env}, Bs B2 F2 C2 H2 σ2 env2 → Bs B F2 C2 H2 σ2 env2 := fun b2 => ⟨b2.ext, b2.cs, b2.own, b1.lat.trans b2.lat, by
    obtain ⟨C1, e1⟩ := b1.pre
    obtain ⟨C2, e2⟩ := b2.pre
    have e2 : _ = C ++ C2 := e2
    exact ⟨C1 ++ C2, by rw [e2, e1, List.append_assoc]⟩⟩
  refine ⟨fun i k σ H => k = xs.length - i ∧ i ≤ xs.length ∧ ∃ F C env c, Bs B2 F C H σ env ∧ SI L F C σ H env c ∧ OutS L B2 W Dn (forL tg mb (xs.drop i) env c), ⟨xs.length, by simp, Nat.zero_le _, F1, C, env, c1, ⟨b1.ext, b1.cs, b1.own, lat_refl, [], by simp [B2]⟩, si1, ?_⟩, ?_⟩
  · have wid : ∀ r, OutS L B W Dn r → OutS L B2 W Dn r := fun r h => by
      cases r with
      | bad => exact h
      | exc x c => exact fun F C H b ck => h F C H (widen b) ck
      | ok fl c => cases fl with
        | nx env => exact fun σ F C H b si => h σ F C H (widen b) si
        | rt d => exact fun v F C H b ck r => h v F C H (widen b) ck r
    exact wid _ o
  rintro i k σ2 H2 ⟨rfl, hi, F2, C2, env2, c2, b2, si2, o⟩
  by_cases hlt : i < xs.length
  · refine .inr ⟨w.go i F2 H2 hlt b2.lat, _, fun σ' H' q => ⟨xs.length - (i + 1), by omega, rfl, hlt, q⟩, fun v H3 hy => ?_⟩
    obtain ⟨F3, ext, r⟩ := w.yld i F2 H2 v H3 xs[i] b2.lat si2.cok.fin (List.getElem?_eq_getElem hlt) hy
    have hd : xs.drop i = xs[i] :: xs.drop (i + 1) := by rw [List.drop_eq_getElem_cons hlt]
    rw [hd, for_s] at o
    have ck3 := si2.cok.ext0 ext
    have si3 := si2.step (ext.cells (C := C2) (by simp)) ck3
    have b3 := b2.step si2.cok (ext.cells (C := C2) (by simp))
    have r3 : Rep L F3 C2 H3 v xs[i] := by
      obtain ⟨Cx, e⟩ := b2.pre
      have e : C2 = C ++ Cx := e
      refine r.mono (fun a f => ⟨f, rfl⟩) fun j a h => ?_
      rw [e, List.getElem?_append_left (List.getElem?_eq_some_iff.mp h).1]
      exact h
    cases eb : bindT tg xs[i] env2 with
    | none => rw [eb] at o; exact o.elim
    | some env3 =>
      rw [eb] at o
      refine ⟨F3, C2, c2, xs[i], env2, env3, si3, r3, eb, fun σ4 si4 hl hk => ?_⟩
      have b4 : Bs B2 F3 C2 H3 σ4 env3 := ⟨b3.ext, b3.cs, fun j a d h1 h2 => by
        obtain ⟨q1, q2⟩ := bindT_own tg xs[i] env2 env3 eb j d h1
        rw [hk j q1] at h2
        exact b3.own j a d q2 h2, b3.lat, b3.pre⟩
      refine ⟨B2, F3, C2, env3, c2, b4, si4, ?_⟩
      exact OutS_bind o fun env c1 σ F C H b si o => ⟨F, C, env, c1, b, si, o⟩
  · have e : i = xs.length := by omega
    subst e
    rw [List.drop_length] at o
    exact .inl ⟨w.stop F2 H2 b2.lat, o σ2 F2 C2 H2 b2 si2⟩
end
end Hg
end
section
set_option Elab.async false
set_option linter.all false
set_option autoImplicit false
set_option maxRecDepth 100000
set_option maxHeartbeats 2000000
/-! A23b: extend, pop, own dicts. -/
namespace Hg
open PySem PySem.Spec PyProof.Rows PySem.SeqAt L2
section
variable {Wl : Lw} {n : Nat} {X : Cx} {N : List Str} {sc : ScN} {W : XK} {L : Pl} {x y : Expr} {pos : Pos} {m ma mb : Env → M D}
def ownCall (want : Str) (N : List Str) (sc : ScN) (i : Nat) (id nm : Str) (ap cp : Pos) (x : Expr) : Bool := (nm == want) && (ap.endLine == cp.line) && mV N sc i id && notStar x
theorem pe_ext (hX : CxOk Wl n X N sc (fun _ => W)) {i : Nat} {id nm : Str} {p0 ap cp : Pos} {te : TE} (h : ownCall "extend" N sc i id nm ap cp x = true) (he : PE X x te) :
    PE X (.Call (.Attribute (.Name id p0) nm ap) [x] [] cp) (tBM X.K "list" rExtend (tVar i) (tCons te tNil)) := by
  simp only [ownCall, Bool.and_eq_true, beq_iff_eq] at h
  obtain ⟨⟨⟨rfl, hl⟩, hv⟩, hs⟩ := h
  exact pe_bm PySem.F.plainAttrs_list PySem.F.slot_list_extend PySem.F.type_list_extend mt_extend (snd_own hX hv) (pa_cons he pa_nil (star_cons hs)) rfl (by
    have e1 : starEach [x] X.env = (false, eval x X.env) :: starEach [] X.env := star_cons hs
    rw [e1]; rfl) (by simpa using hl) (star_cons hs) rfl
theorem pe_popAt (hX : CxOk Wl n X N sc (fun _ => W)) {i : Nat} {id nm : Str} {p0 ap cp : Pos} {te : TE} (h : ownCall "pop" N sc i id nm ap cp x = true) (he : PE X x te) :
    PE X (.Call (.Attribute (.Name id p0) nm ap) [x] [] cp) (tBM X.K "list" rPopAt (tVar i) (tCons te tNil)) := by
  simp only [ownCall, Bool.and_eq_true, beq_iff_eq] at h
  obtain ⟨⟨⟨rfl, hl⟩, hv⟩, hs⟩ := h
  exact pe_bm PySem.F.plainAttrs_list PySem.F.slot_list_pop PySem.F.type_list_pop mt_popAt (snd_own hX hv) (pa_cons he pa_nil (star_cons hs)) rfl (by
    have e1 : starEach [x] X.env = (false, eval x X.env) :: starEach [] X.env := star_cons hs
    rw [e1]; rfl) (by simpa using hl) (star_cons hs) rfl
theorem ss_ext (hX : CxOk Wl n X N sc (fun _ => W)) {i : Nat} {id nm : Str} {p0 ap cp : Pos} (h : ownCall "extend" N sc i id nm ap cp x = true) (he : PE X x (SE L (fun _ => W) m)) :
    PS X (.Expr (.Call (.Attribute (.Name id p0) nm ap) [x] [] cp) pos) (SS L W fun env => match getO env i with
    | some (.lst xs) => do
      match ← m env with
      | .lst ys => if xs.length + ys.length < 1000000 then pure (.nx (env.set i (.own (.lst (xs ++ ys))))) else M.bad
      | _ => M.bad
    | _ => M.bad) := by
  refine PSimp (ps_expr (pe_ext hX h he)) fun Dn σ H q => ?_
  obtain ⟨B, F, C, env, c, b, si, o⟩ := q
  cases e : getO env i with
  | none => dsimp only at o; rw [e] at o; exact o.elim
  | some d =>
    dsimp only at o
    rw [e] at o
    cases d <;> first | exact o.elim | skip
    rename_i xs
    obtain ⟨a, h1, ow, nF, nC⟩ := own_at si e
    refine ⟨_, h1, ?_, ?_⟩
    · cases ow with
      | lst hl r => exact .inl ⟨rfl, _, .of hl⟩
    have o : OutS L B W Dn ((m env >>= fun d => (match d with
      | .lst ys => if xs.length + ys.length < 1000000 then pure (.nx (env.set i (.own (.lst (xs ++ ys))))) else M.bad
      | _ => M.bad : M Fl)) c) := o
    refine (ss_bind (R := RV) (m := m) (k := fun env' d => (match d with
      | .lst ys => if xs.length + ys.length < 1000000 then pure (.nx (env.set i (.own (.lst (xs ++ ys))))) else M.bad
      | _ => M.bad : M Fl)) b si o).imp fun v H1 ⟨F1, d, c1, b1, si1, r, o⟩ => ?_
    obtain ⟨a', h2, ow1, nF1, nC1⟩ := own_at si1 e
    rw [h1] at h2; cases h2
    cases d <;> first | exact o.elim | skip
    rename_i ys
    dsimp only at o
    split at o
    · rename_i hlen
      cases ow1 with
      | lst hl rs =>
        cases r with
        | lst f hb rb =>
          refine ⟨a, _, _, _, rfl, rfl, hl, hb, by rw [rs.len, rb.len]; have := two24; omega, ?_⟩
          exact o σ F1 C _ (b1.own_set si1.cok nF1 (getO_at e) h1) (si1.own_set e h1 fun H' up hp => .lst hp ((rs.app rb).mono up fun _ _ h => h))
    · exact o.elim
theorem ss_pop (hX : CxOk Wl n X N sc (fun _ => W)) {i j : Nat} {id nm y : Str} {p0 ap cp py : Pos} (h : ownCall "pop" N sc i id nm ap cp x = true) (he : PE X x (SE L (fun _ => W) m))
    (hy : ∀ te, PE X (.Call (.Attribute (.Name id p0) nm ap) [x] [] cp) te → PS X (.Assign [.Name y py] (.Call (.Attribute (.Name id p0) nm ap) [x] [] cp) pos) (tAsg te (gName j))) :
    PS X (.Assign [.Name y py] (.Call (.Attribute (.Name id p0) nm ap) [x] [] cp) pos) (SS L W fun env => match getO env i with
    | some (.lst xs) => do
      match ← m env with
      | .int k => match ixG xs.length k with
        | some m => match xs[m]? with
          | some d => pure (.nx ((env.set i (.own (.lst (xs.eraseIdx m)))).set j (.val d)))
          | none => M.bad
        | none => M.bad
      | _ => M.bad
    | _ => M.bad) := by
  refine PSimp (hy _ (pe_popAt hX h he)) fun Dn σ H q => ?_
  obtain ⟨B, F, C, env, c, b, si, o⟩ := q
  cases e : getO env i with
  | none => dsimp only at o; rw [e] at o; exact o.elim
  | some d =>
    dsimp only at o
    rw [e] at o
    cases d <;> first | exact o.elim | skip
    rename_i xs
    obtain ⟨a, h1, ow, nF, nC⟩ := own_at si e
    refine ⟨_, h1, ?_, ?_⟩
    · cases ow with
      | lst hl r => exact .inl ⟨rfl, _, .of hl⟩
    have o : OutS L B W Dn ((m env >>= fun d => (match d with
      | .int k => match ixG xs.length k with
        | some m => match xs[m]? with
          | some d => pure (.nx ((env.set i (.own (.lst (xs.eraseIdx m)))).set j (.val d)))
          | none => M.bad
        | none => M.bad
      | _ => M.bad : M Fl)) c) := o
    refine (ss_bind (R := RV) (m := m) (k := fun env' d => (match d with
      | .int k => match ixG xs.length k with
        | some m => match xs[m]? with
          | some d => pure (.nx ((env.set i (.own (.lst (xs.eraseIdx m)))).set j (.val d)))
          | none => M.bad
        | none => M.bad
      | _ => M.bad : M Fl)) b si o).imp fun v H1 ⟨F1, d, c1, b1, si1, r, o⟩ => ?_
    obtain ⟨a', h2, ow1, nF1, nC1⟩ := own_at si1 e
    rw [h1] at h2; cases h2
    cases d <;> first | exact o.elim | skip
    rename_i k
    dsimp only at o
    cases hm : ixG xs.length k with
    | none => rw [hm] at o; exact o.elim
    | some mm =>
      rw [hm] at o
      dsimp only at o
      cases hd : xs[mm]? with
      | none => rw [hd] at o; exact o.elim
      | some dd =>
        rw [hd] at o
        unfold ixG at hm
        split at hm
        · rename_i hz
          cases ow1 with
          | lst hl rs =>
            cases rep_int r
            obtain ⟨w, g1, g2⟩ := rs.at hd
            have hz2 := two24
            have hlen := rs.len
            rw [← hlen] at hm
            obtain ⟨s1, s2, s3, s4⟩ := ixN_seq hm
            refine ⟨a, _, _, mm, w, rfl, rfl, hl, by omega, by omega, s1, g1, ?_⟩
            exact o _ F1 C _ (b1.own_set si1.cok nF1 (getO_at e) h1).set ((si1.own_set e h1 fun H' up hp => .lst hp ((rs.erase mm).mono up fun _ _ h => h)).set (g2.mono (fun b f => ⟨f, upd_ne fun e => nF1 (by rw [← e]; exact f)⟩) fun _ _ h => h))
        · cases hm
/-- two values in a row -/
abbrev RP : RTy (V × V) (D × D) := fun L C F H v d => Rep L F C H v.1 d.1 ∧ Rep L F C H v.2 d.2
theorem ss_put (hX : CxOk Wl n X N sc (fun _ => W)) {i : Nat} {id : Str} {p0 sp : Pos} {k e : Expr} {mk me : Env → M D} (hv : mV N sc i id = true) (hc : notComp e = true) (he : PE X e (SE L (fun _ => W) me)) (hk : PE X k (SE L (fun _ => W) mk)) :
    PS X (.Assign [.Subscript (.Name id p0) k sp] e pos) (SS L W fun env => match getO env i with
    | some (.dct kvs) => do
      let d ← me env
      match ← mk env with
      | .str x => if kvs.length < 1000000 then pure (.nx (env.set i (.own (.dct (putD x d kvs))))) else M.bad
      | _ => M.bad
    | _ => M.bad) := by
  have hu := hX.units
  refine PSimp (ps_dput (by omega) (snd_own hX hv) hk he (sw_no hc)) fun Dn σ H q => ?_
  obtain ⟨B, F, C, env, c, b, si, o⟩ := q
  cases e1 : getO env i with
  | none => dsimp only at o; rw [e1] at o; exact o.elim
  | some d =>
    dsimp only at o
    rw [e1] at o
    cases d <;> first | exact o.elim | skip
    rename_i kvs
    have o : OutS L B W Dn (((me env >>= fun d => mk env >>= fun x => (pure (d, x) : M (D × D))) >>= fun g => (match g.2 with
      | .str x => if kvs.length < 1000000 then pure (.nx (env.set i (.own (.dct (putD x g.1 kvs))))) else M.bad
      | _ => M.bad : M Fl)) c) := by
      rw [bind_assocM]
      have e2 : (fun d => (mk env >>= fun x => (pure (d, x) : M (D × D))) >>= fun g => (match g.2 with
        | .str x => if kvs.length < 1000000 then pure (.nx (env.set i (.own (.dct (putD x g.1 kvs))))) else M.bad
        | _ => M.bad : M Fl)) = fun d => mk env >>= fun x => (match x with
        | .str x => if kvs.length < 1000000 then pure (.nx (env.set i (.own (.dct (putD x d kvs))))) else M.bad
        | _ => M.bad : M Fl) := by
        funext d
        rw [bind_assocM]
        rfl
      rw [e2]
      exact o
    have q := ss_bind (R := RP) (m := fun env => me env >>= fun d => mk env >>= fun x => (pure (d, x) : M (D × D))) (k := fun env' g => (match g.2 with
      | .str x => if kvs.length < 1000000 then pure (.nx (env.set i (.own (.dct (putD x g.1 kvs))))) else M.bad
      | _ => M.bad : M Fl)) b si o
    refine (SG.bind (R := RV) (m := me) (k := fun d env => mk env >>= fun x => (pure (d, x) : M (D × D))) q).imp fun v H1 h1 => ?_
    obtain ⟨a, ha, _⟩ := own_at si e1
    refine ⟨_, ha, ?_⟩
    refine (SK.bind (R := RV) (m := mk) (k := fun (g : Unit × D) x env => (pure (g.2, x) : M (D × D))) (stabV stab0 v) h1).imp fun w H2 h2 => ?_
    obtain ⟨F2, C2, env2, c2, g2, si2, rs2, o2⟩ := h2
    obtain ⟨F3, dd, c3, b3, si3, r3, o3⟩ := o2 (v, w) F2 H2 (.refl si2.cok.fin) si2.cok ⟨rs2.1.2, rs2.2⟩
    obtain ⟨d1, d2⟩ := dd
    dsimp only at o3
    cases d2 <;> first | exact o3.elim | skip
    rename_i z
    dsimp only at o3
    split at o3
    · rename_i hlen
      obtain ⟨a', ha', ow, nF, nC⟩ := own_at si3 e1
      rw [ha] at ha'; cases ha'
      cases ow with
      | dct hl rk =>
        cases rep_str r3.2
        refine ⟨a, _, rfl, DPut.k (k := .inr (toS z)) hl (by rw [rk.len]; have := two24; omega), ?_⟩
        exact o3 σ F3 C _ (b3.own_set si3.cok nF (getO_at e1) ha) (si3.own_set e1 ha fun H' up hp => .dct hp ((putK_rep r3.1 rk).mono up fun _ _ h => h))
    · exact o3.elim
/-! ### a dict of one's own -/
variable {B : Ba} {Dn : Ends} {F : Fz} {C : List Addr} {H : Hp} {σ : Sg} {env : Env} {c : Cells} {i : Nat} {p : Addr}
theorem SI.setG (s : SI L F C σ H env c) (nF : ¬ F p) (nC : p ∉ C) (other : ∀ (j : Nat) (a : Addr) (d : D), env[j]? = some (.own d) → σ[j]? = some (some (.ref a)) → a ≠ p) {o : HO} {d0 : D} (ho : Own L F C (upd H p o) p d0) : SI L F C (σ.set i (some (.ref p))) (upd H p o) (env.set i (.own d0)) c := by
  have up : ∀ a, F a → F a ∧ upd H p o a = H a := fun a f => ⟨f, upd_ne (show a ≠ p from fun e => nF (e ▸ f))⟩
  have place : ∀ (j : Nat) (sl : Slot), (env.set i (.own d0))[j]? = some sl → (i = j ∧ sl = .own d0 ∧ j < σ.length) ∨ (i ≠ j ∧ env[j]? = some sl) := fun j sl h => by
    by_cases e : i = j
    · subst e
      by_cases hl : i < env.length
      · rw [List.getElem?_set_self hl] at h; cases h; exact .inl ⟨rfl, rfl, by rw [← s.len]; exact hl⟩
      · rw [List.getElem?_eq_none (by simp; omega)] at h; cases h
    · rw [List.getElem?_set_ne e] at h; exact .inr ⟨e, h⟩
  refine ⟨s.cok.updNew nF nC, by simp [s.len], fun j d h => ?_, fun j d h => ?_, fun j k a d d' hjk h1 h2 h3 h4 => ?_⟩
  · rcases place j _ h with ⟨_, e, _⟩ | ⟨e, h⟩
    · cases e
    · obtain ⟨v, h1, h2⟩ := s.val j d h
      exact ⟨v, by rw [List.getElem?_set_ne e]; exact h1, h2.mono up fun _ _ h => h⟩
  · rcases place j _ h with ⟨rfl, e, hl⟩ | ⟨e, h⟩
    · cases e
      exact ⟨p, List.getElem?_set_self hl, ho, nF, nC⟩
    · obtain ⟨a, h1, o, h3, h4⟩ := s.own j d h
      exact ⟨a, by rw [List.getElem?_set_ne e]; exact h1, o.mono up (fun _ _ h => h) (upd_ne (other j a d h h1)), h3, h4⟩
  · rcases place j _ h1 with ⟨rfl, _, hl⟩ | ⟨e1, h1⟩ <;> rcases place k _ h2 with ⟨rfl, _, hl2⟩ | ⟨e2, h2⟩
    · exact hjk rfl
    · rw [List.getElem?_set_self hl] at h3; cases h3
      rw [List.getElem?_set_ne e2] at h4
      exact other k p d' h2 h4 rfl
    · rw [List.getElem?_set_self hl2] at h4; cases h4
      rw [List.getElem?_set_ne e1] at h3
      exact other j p d h1 h3 rfl
    · rw [List.getElem?_set_ne e1] at h3
      rw [List.getElem?_set_ne e2] at h4
      exact s.dis j k a d d' hjk h1 h2 h3 h4
theorem Bs.setG (b : Bs B F C H σ env) (h0 : B.H0 p = none) (nF : ¬ F p) {o : HO} {d : D} : Bs B F C (upd H p o) (σ.set i (some (.ref p))) (env.set i (.own d)) where
  ext := b.ext.updNew h0 nF
  cs := b.cs
  own := fun j a d' h1 h2 => by
    by_cases e : i = j
    · subst e
      by_cases hl : i < σ.length
      · rw [List.getElem?_set_self hl] at h2; cases h2; exact h0
      · rw [List.getElem?_eq_none (by simp; omega)] at h2; cases h2
    · rw [List.getElem?_set_ne e] at h1 h2
      exact b.own j a d' h1 h2
  lat := fun a f => ⟨(b.lat a f).1, by
    rw [upd_ne (show a ≠ p from fun e => nF (e ▸ (b.lat a f).1))]
    exact (b.lat a f).2⟩
  pre := b.pre
theorem base_none (b : Bs B F C H σ env) (hp : H p = none) : B.H0 p = none := by
  cases q : B.H0 p with
  | none => rfl
  | some o => exact absurd hp (b.ext.trk p (by rw [q]; simp))
theorem own_ne (s : SI L F C σ H env c) (hp : H p = none) : ∀ (j : Nat) (a : Addr) (d : D), env[j]? = some (.own d) → σ[j]? = some (some (.ref a)) → a ≠ p := fun j a d h1 h2 e => by
  obtain ⟨a', h3, o, _⟩ := s.own j d h1
  rw [h2] at h3; cases h3
  subst e
  exact o.trk hp
theorem ss_setD0 {st : Stmt} (h : ∀ te, PE X (.Dict [] [] pos) te → PS X st (tAsg te (gName i))) : PS X st (SS L W fun env => (pure (.nx (env.set i (.own (.dct [])))) : M Fl)) := by
  refine PSimp (h _ pe_dnewK) fun Dn σ H q => ?_
  obtain ⟨B, F, C, env, c, b, si, o⟩ := q
  intro p hp
  have nF : ¬ F p := fun f => si.cok.fin p f hp
  have nC : p ∉ C := fun h => si.cok.trk p h hp
  exact o _ F C _ (b.setG (base_none b hp) nF) (si.setG nF nC (own_ne si hp) (.dct upd_same .nil))
theorem ss_setD1 {st : Stmt} {k e : Expr} {mk me : Env → M D} (hk : PE X k (SE L (fun _ => W) mk)) (he : PE X e (SE L (fun _ => W) me)) (h : ∀ te, PE X (.Dict [some k] [e] pos) te → PS X st (tAsg te (gName i))) : PS X st (SS L W fun env => do
    match ← mk env with
    | .str x => do let d ← me env; pure (.nx (env.set i (.own (.dct [(x, d)]))))
    | _ => M.bad) := by
  refine PSimp (h _ (pe_disp (pps_cons hk he pps_nil) rfl rfl (by simp) (by simp))) fun Dn σ H q => ?_
  obtain ⟨B, F, C, env, c, b, si, o⟩ := q
  intro p hp
  have nF : ¬ F p := fun f => si.cok.fin p f hp
  have nC : p ∉ C := fun h => si.cok.trk p h hp
  have e0 : Ext F C H F (upd H p (.dK [])) := (Ext.refl si.cok.fin).updNew hp nF
  have ck0 := si.cok.updNew (ob := .dK []) nF nC
  have si0 := si.step e0 ck0
  refine ⟨F, C, env, c, si0, ?_⟩
  have o : OutS L B W Dn ((mk env >>= fun x => (match x with
    | .str x => (me env >>= fun d => (pure (.nx (env.set i (.own (.dct [(x, d)])))) : M Fl))
    | _ => M.bad : M Fl)) c) := o
  cases ek : mk env c with
  | bad => rw [M.bind_bad ek] at o; exact o
  | exc x c1 =>
    rw [M.bind_exc ek] at o
    exact fun F1 H1 ex ck => o F1 C H1 (b.step si.cok (e0.trans ex)).low ck
  | ok xk c1 =>
    rw [M.bind_ok ek] at o
    intro v F1 H1 ex ck r
    have si1 := si0.step ex ck
    cases xk <;> first | exact o.elim | skip
    rename_i z
    dsimp only at o
    cases rep_str r
    refine ⟨F1, C, env, c1, si1, ?_⟩
    cases ee : me env c1 with
    | bad => rw [M.bind_bad ee] at o; exact o
    | exc x c2 =>
      rw [M.bind_exc ee] at o
      exact fun F2 H2 ex2 ck2 => o F2 C H2 (b.step si.cok ((e0.trans ex).trans ex2)).low ck2
    | ok d c2 =>
      rw [M.bind_ok ee] at o
      intro w F2 H2 ex2 ck2 r2
      have xx := ex.trans ex2
      have hp2 : H2 p = some (.dK []) := xx.keep p _ upd_same nC
      have nF2 : ¬ F2 p := fun f => by
        rcases xx.new p f with f | f
        · exact nF f
        · rw [upd_same] at f; cases f
      have si2 := si1.step ex2 ck2
      have b2 := b.step si.cok (e0.trans xx)
      refine ⟨hp2, [(.inr (toS z), w)], rfl, by simp, ?_⟩
      have em : mergeK [] [((.inr (toS z) : Key), w)] = [(.inr (toS z), w)] := by simp [mergeK, putK]
      rw [em]
      refine o _ F2 C _ (b2.setG (base_none b hp) nF2) (si2.setG nF2 nC (own_ne si hp) (.dct upd_same (.cons (r2.mono (fun a f => ⟨f, upd_ne (show a ≠ p from fun e => nF2 (e ▸ f))⟩) fun _ _ h => h) .nil)))
end
end Hg
end
section
set_option Elab.async false
set_option linter.all false
set_option autoImplicit false
set_option maxRecDepth 100000
set_option maxHeartbeats 2000000
/-! A23c: a new thing becomes one's own, or a cell. -/
namespace Hg
open PySem PySem.Spec PyProof.Rows PySem.SeqAt L2
theorem upd_self {H : Hp} {p : Addr} {o : HO} (h : H p = some o) : upd H p o = H := by
  funext a
  by_cases e : a = p
  · subst e; rw [upd_same, h]
  · rw [upd_ne e]
section
variable {X : Cx} {W : XK} {L : Pl} {m : Env → M D}
theorem ss_setG {st : Stmt} {i : Nat} (h : PS X st (tAsg (SGN L (fun _ => W) m) (gName i))) : PS X st (SS L W fun env => do let d ← m env; pure (.nx (env.set i (.own d)))) := by
  refine PSimp h fun Dn σ H q => ?_
  obtain ⟨B, F, C, env, c, b, si, o⟩ := q
  have o : OutS L B W Dn ((m env >>= fun d => pure (.nx (env.set i (.own d)))) c) := o
  refine ⟨F, C, env, c, si, ?_⟩
  cases e : m env c with
  | bad => rw [M.bind_bad e] at o; exact o
  | exc x c1 =>
    rw [M.bind_exc e] at o
    exact fun F1 H1 ex ck => o F1 C H1 (b.step si.cok ex).low ck
  | ok d c1 =>
    rw [M.bind_ok e] at o
    intro p F1 H1 hp ex ck ow nF nC
    have si1 := si.step ex ck
    have b1 := b.step si.cok ex
    have b0 := base_none b hp
    have other := own_ne si hp
    have key : ∀ ob : HO, H1 p = some ob → (upd H1 p ob = H1) := fun ob h => upd_self h
    cases ow with
    | lst hl r =>
      rename_i vs ds
      have b2 := b1.setG (i := i) (o := .lst vs) (d := .lst ds) b0 nF
      have s2 := si1.setG (i := i) nF nC other (o := .lst vs) (d0 := .lst ds) (by rw [key _ hl]; exact .lst hl r)
      rw [key _ hl] at b2 s2
      exact o _ F1 C H1 b2 s2
    | dct hl r =>
      rename_i vs ds
      have b2 := b1.setG (i := i) (o := .dK vs) (d := .dct ds) b0 nF
      have s2 := si1.setG (i := i) nF nC other (o := .dK vs) (d0 := .dct ds) (by rw [key _ hl]; exact .dct hl r)
      rw [key _ hl] at b2 s2
      exact o _ F1 C H1 b2 s2
theorem ss_setNG {st : Stmt} {i : Nat} (hl : ∀ env c d c', m env c = .ok d c' → ∃ xs, d = .lst xs) (h : PS X st (tAsg (SGN L (fun _ => W) m) (gName i))) : PS X st (SS L W fun env => do
    let d ← m env
    fun c => if noCel d then .ok (.nx (env.set i (.val (.cel c.length)))) (c ++ [d]) else .bad) := by
  refine PSimp h fun Dn σ H q => ?_
  obtain ⟨B, F, C, env, c, b, si, o⟩ := q
  obtain ⟨kf, hk⟩ : ∃ kf : D → M Fl, ∀ d c, kf d c = if noCel d then .ok (.nx (env.set i (.val (.cel c.length)))) (c ++ [d]) else .bad := ⟨fun d c => if noCel d then .ok (.nx (env.set i (.val (.cel c.length)))) (c ++ [d]) else .bad, fun _ _ => rfl⟩
  have o : OutS L B W Dn ((m env >>= kf) c) := by
    have e : (m env >>= kf) c = M.bind (m env) (fun d => fun c => if noCel d then .ok (.nx (env.set i (.val (.cel c.length)))) (c ++ [d]) else .bad) c := by
      show M.bind (m env) kf c = _
      unfold M.bind
      cases m env c with
      | ok d c1 => exact hk d c1
      | exc x c1 => rfl
      | bad => rfl
    rw [e]; exact o
  refine ⟨F, C, env, c, si, ?_⟩
  cases e : m env c with
  | bad => rw [M.bind_bad e] at o; exact o
  | exc x c1 =>
    rw [M.bind_exc e] at o
    exact fun F1 H1 ex ck => o F1 C H1 (b.step si.cok ex).low ck
  | ok d c1 =>
    rw [M.bind_ok e] at o
    intro p F1 H1 hp ex ck ow nF nC
    obtain ⟨xs, rfl⟩ := hl _ _ _ _ e
    rw [hk] at o
    split at o
    · rename_i hc
      have hc : noCels xs = true := by simpa [noCel] using hc
      cases ow with
      | lst hl r =>
        rename_i vs
        -- as if the list were laid now
        have n0 : upd (fun a => if a = p then none else H1 a) p (.lst vs) = H1 := by
          funext a
          by_cases q : a = p
          · subst q; rw [upd_same]; exact hl.symm
          · rw [upd_ne q]; simp [q]
        let H0 : Hp := fun a => if a = p then none else H1 a
        have h0 : H0 p = none := by simp [H0]
        have same : ∀ a, a ≠ p → H0 a = H1 a := fun a q => by simp [H0, q]
        have ex0 : Ext F C H F1 H0 := ⟨ex.mono, ex.new, fun a u q z => by rw [same a (ne_of_none q hp)]; exact ex.keep a u q z, fun a q => by rw [same a (fun z => q (by rw [z]; exact hp))]; exact ex.trk a q, fun a f => by rw [same a (fun z => nF (z ▸ f))]; exact ex.fin a f⟩
        have up : ∀ a, F1 a → F1 a ∧ H0 a = H1 a := fun a f => ⟨f, same a fun z => nF (z ▸ f)⟩
        have ck0 : Cok L F1 C H0 c1 := ⟨ck.len, ck.nd, fun k a d h1 h2 => (ck.own k a d h1 h2).mono up (fun _ _ h => h) (same a fun z => nC (z ▸ List.mem_of_getElem? h1)), ck.ap, ex0.fin, ck.nc⟩
        have si0 := si.step ex0 ck0
        have b1 := b.step si.cok ex0
        have r0 : Reps L F1 C H0 vs xs := r.mono up fun _ _ h => h
        have b2 := b1.setN (i := i) (o := .lst vs) (d := .cel c1.length) ck0 h0
        have s2 := si0.setN (i := i) h0 r0 hc
        have n1 : upd H0 p (.lst vs) = H1 := n0
        rw [n1] at b2 s2
        exact o _ F1 _ _ b2 s2
    · exact o.elim
end
end Hg
end
section
set_option Elab.async false
set_option linter.all false
set_option autoImplicit false
set_option maxRecDepth 100000
set_option maxHeartbeats 2000000
/-! A24: every statement that is matched does what the small syntax says. -/
namespace Hg
open PySem PySem.Spec PyProof.Rows PySem.SeqAt L2
def isCelK (k : Option NameKind) : Bool := match k with
  | some .cell => true
  | _ => false
def isLocK (k : Option NameKind) : Bool := match k with
  | some .local => true
  | _ => false
def notTupE : Expr → Bool
  | .Tuple _ _ _ => false
  | _ => true
/-- no row of swapped stores -/
def noSwap (sc : ScN) (ts : List Expr) (x : Expr) : Bool := notTupE x || ts.any fun t => match t with
  | .Name id _ => isCelK (sc.lookup id)
  | _ => true
def swapLc (sc : ScN) (y : Str) (py : Pos) : Expr → Bool
  | .ListComp _ _ scope pos => (py.line == pos.line) && isLocK (sc.lookup y) && !(scope.names.any fun (n, k) => n == y && (k == .local || k == .cell))
  | _ => false
def appM (N : List Str) (sc : ScN) (i : Nat) : Stmt → Option Expr
  | .Expr (.Call (.Attribute (.Name id p0) nm ap) [x] [] cp) pos => if ((nm == ("append" : Str)) && (ap.endLine == cp.line) && mV N sc i id && notStar x) = true then some x else none
  | _ => none
def extM (N : List Str) (sc : ScN) (i : Nat) : Stmt → Option Expr
  | .Expr (.Call (.Attribute (.Name id p0) nm ap) [x] [] cp) pos => if ownCall "extend" N sc i id nm ap cp x = true then some x else none
  | _ => none
def isNonD : D → Bool
  | .non => true
  | _ => false
/-- a handler that is known -/
def triOk (h : Nat) (tbl : List (Nat × D)) (nmo : Option Str) (suite : List Stmt) : Bool := match h, nmo, suite with
  | 0, none, [.Return (some (.Constant .none _ _)) _] => tbl.all fun p => isNonD p.2
  | _, _, _ => false
/-- which it is, of the first m -/
def whV (m x : Nat) : Int := if x < m then (x : Int) else -1
/-- an entry tells which it is -/
def isRefD (m : Nat) : Nat × D → Bool
  | (x, .tup [.str y, .int i]) => decide (x < m) && (y == tx "refused") && (i == whV m x)
  | _ => false
/-- a handler that asks which it is -/
def triW (nm : Nm) (N : List Str) (sc : ScN) (tbl : List (Nat × D)) : Option Str → List Stmt → Bool
  | some v, [.Return (some (.Call (.Name id _) [.Name v2 _] [] _)) _] => match nm.wh with
    | some (wn, m) => (id == toS wn) && isGlo (sc.lookup id) && okName id && (v2 == v) && okName v && decide (sc.lookup v = some .local) && decide (v ∈ N) && tbl.all (isRefD m)
    | none => false
  | _, _ => false
/-- what makes a thing that nobody else holds -/
def freshE : E → Bool
  | .lc .. => true
  | .prim .list [_] => true
  | .prim .dict [_] => true
  | _ => false
def freshL : E → Bool
  | .prim .list [_] => true
  | _ => false
section
variable (nm : Nm) (N : List Str) (sc : ScN)
mutual
def mS : S → Stmt → Bool
  | .set i e, st => (match st with
    | .Assign [.Name y py] x _ => decide (N[i]? = some y) && isLoc (sc.lookup y) && (notComp x || isCelK (sc.lookup y) || swapLc sc y py x) && mE nm N sc e x
    | _ => false)
  | .setO i e, st => (match e with
    | .lst es => (match st with
      | .Assign [.Name y _] (.List xs _) _ => decide (N[i]? = some y) && isLoc (sc.lookup y) && decide (es.length ≤ 1000) && mEs nm N sc es xs
      | _ => false)
    | _ => (match st with
      | .Assign [.Name y py] x _ => freshE e && decide (N[i]? = some y) && isLoc (sc.lookup y) && (notComp x || isCelK (sc.lookup y) || swapLc sc y py x) && mE nm N sc e x
      | _ => false))
  | .setN i e, st => (match e with
    | .lst es => (match st with
      | .Assign [.Name y _] (.List xs _) _ => decide (N[i]? = some y) && isLoc (sc.lookup y) && decide (es.length ≤ 1000) && mEs nm N sc es xs
      | _ => false)
    | _ => (match st with
      | .Assign [.Name y py] x _ => freshL e && decide (N[i]? = some y) && isLoc (sc.lookup y) && notComp x && mE nm N sc e x
      | _ => false))
  | .setD i o, st => (match o with
    | none => (match st with
      | .Assign [.Name y _] (.Dict [] [] _) _ => decide (N[i]? = some y) && isLoc (sc.lookup y)
      | _ => false)
    | some (k, e) => (match st with
      | .Assign [.Name y _] (.Dict [some kx] [ex] _) _ => decide (N[i]? = some y) && isLoc (sc.lookup y) && mE nm N sc k kx && mE nm N sc e ex
      | _ => false))
  | .ext i e, st => (match extM N sc i st with | some x => mE nm N sc e x | none => false)
  | .pop j i e, st => (match st with
    | .Assign [.Name y _] (.Call (.Attribute (.Name id _) mn ap) [x] [] cp) _ => decide (N[j]? = some y) && isLoc (sc.lookup y) && ownCall "pop" N sc i id mn ap cp x && mE nm N sc e x
    | _ => false)
  | .put i k e, st => (match st with
    | .Assign [.Subscript (.Name id _) kx _] ex _ => mV N sc i id && notComp ex && mE nm N sc k kx && mE nm N sc e ex
    | _ => false)
  | .unp tg e, st => (match st with
    | .Assign [.Tuple ts k p] x _ => noSwap sc ts x && mT N sc tg (.Tuple ts k p) && mE nm N sc e x
    | _ => false)
  | .par i j a b, st => (match st with
    | .Assign [.Tuple [.Name y py, .Name z pz] _ _] (.Tuple [u, v] _ _) _ => decide (N[i]? = some y) && decide (N[j]? = some z) && decide (i ≠ j) && isLocK (sc.lookup y) && isLocK (sc.lookup z) && decide (y ≠ z) && (py.line == pz.line) && notStar u && notStar v && !(foldedForSure 8 u && foldedForSure 8 v) && !(constantsAlone 8 u && constantsAlone 8 v) && mE nm N sc a u && mE nm N sc b v
    | _ => false)
  | .app i e, st => (match appM N sc i st with | some x => mE nm N sc e x | none => false)
  | .capp i e, st => (match appM N sc i st with | some x => mE nm N sc e x | none => false)
  | .ex e, st => (match st with
    | .Expr x _ => notComp x && mE nm N sc e x
    | _ => false)
  | .ifs c a b, st => (match st with
    | .If x y z _ => mE nm N sc c x && mSs a y && mSs b z
    | _ => false)
  | .forr k ses tg b, st => (match st with
    | .For tx ix body [] _ => (match srcOf sc (isTupE tx) k ix with | some xs => mEs nm N sc ses xs | none => false) && notSet ix && mT N sc tg tx && mSs b body
    | _ => false)
  | .whl c b, st => (match st with
    | .While x body [] _ => mE nm N sc c x && mSs b body
    | _ => false)
  | .ret e, st => (match st with
    | .Return (some x) _ => mE nm N sc e x
    | _ => false)
  | .tri b h tbl, st => (match st with
    | .Try body [.ExceptHandler (some (.Name x _)) nmo suite _] [] [] _ => (x == ("HangError" : Str)) && isGlo (sc.lookup x) && nm.hg && (triOk h tbl nmo suite || triW nm N sc tbl nmo suite) && mSs b body
    | _ => false)
  | .rse x, st => (match st with
    | .Raise (some (.Call (.Name id _) [.Constant (.str _) _ _] [] _)) none _ => decide ((nm.enm x).map toS = some id) && isGlo (sc.lookup id) && okName id
    | _ => false)
  | _, _ => false
def mSs : List S → List Stmt → Bool
  | [], sts => sts.isEmpty
  | s :: ss, sts => (match s with
    | .frz _ => mSs ss sts
    | .nev => true
    | _ => (match sts with
      | st :: sts => mS s st && mSs ss sts
      | [] => false))
end
end
section
variable {W : Lw} {n : Nat} {X : Cx} {N : List Str} {sc : ScN} {E : XK} {x y : Expr} {pos : Pos}
theorem isLocK_of {o : Option NameKind} (h : isLocK o = true) : o = some .local := by
  unfold isLocK at h
  split at h
  · rfl
  · cases h
theorem isCelK_of {o : Option NameKind} (h : isCelK o = true) : o = some .cell := by
  unfold isCelK at h
  split at h
  · rfl
  · cases h
theorem sw_cell {t : Str} {p : Pos} {l : Nat} {env : PySem.Env} (h : env.scope.names.lookup t = some .cell) : swapsWith x (some (.Name t p)) l env = pure false := by
  have hk : env.kindOf t = some .cell := h
  unfold swapsWith
  cases x <;> first | rfl | (simp only [hk]; simp; generalize (env.blockKind == ScopeKind.function) = q; cases q <;> rfl)
theorem ps_setAny (hX : CxOk W n X N sc (fun _ => E)) {i : Nat} {id : Str} {py spos : Pos} {t : TE} (h1 : N[i]? = some id) (h2 : isLoc (sc.lookup id) = true) (h3 : (notComp x || isCelK (sc.lookup id)) = true) (he : PE X x t) : PS X (.Assign [.Name id py] x spos) (tAsg t (gName i)) := by
  obtain ⟨l1, l2⟩ := isLoc_of hX h2
  refine ps_set (by rw [hX.nms]; exact hX.nd) (by rw [hX.nms]; exact h1) l1 he ?_ l2
  rcases Bool.or_eq_true_iff.mp h3 with h | h
  · exact sw_no h
  · exact sw_cell (hX.cel _ (isCelK_of h)).1
theorem fm_lt {f : Expr → Option Str} {bad : Expr → Bool} (hf : ∀ t, bad t = true → f t = none) : ∀ l : List Expr, l.any bad = true → (l.filterMap f).length < l.length
  | [], h => by simp at h
  | t :: l, h => by
    rw [List.any_cons, Bool.or_eq_true_iff] at h
    cases e : f t with
    | none =>
      rw [List.filterMap_cons_none e]
      exact Nat.lt_succ_of_le (List.length_filterMap_le _ _)
    | some z =>
      rw [List.filterMap_cons_some e]
      rcases h with h | h
      · rw [hf t h] at e; cases e
      · simpa using fm_lt hf l h
theorem sole_no {t : Expr} {l : Nat} {env : PySem.Env} (h : notComp x = true) : swapsWithSole [t] x l env = pure false := sw_no h
theorem swst_no {ts : List Expr} {k : Nat} {p : Pos} {env : PySem.Env} (hs : ∀ id, sc.lookup id = some .cell → env.scope.names.lookup id = some .cell) (h : noSwap sc ts x = true) : swappedStores [.Tuple ts k p] x env = pure none := by
  unfold noSwap at h
  cases hx : notTupE x with
  | true => cases x <;> first | rfl | (exfalso; revert hx; simp [notTupE]; done)
  | false =>
    rw [hx, Bool.false_or] at h
    cases x <;> first | (exfalso; revert hx; simp [notTupE]; done) | skip
    rename_i vs k2 p2
    unfold swappedStores
    dsimp only
    split
    · rfl
    split
    · rfl
    split
    · rfl
    · rename_i hlen
      exfalso
      apply hlen
      simp only [bne_iff_ne, ne_eq, Bool.or_eq_true]
      refine .inl (Nat.ne_of_lt (fm_lt (fun t ht => ?_) ts h))
      cases t <;> first | rfl | skip
      rename_i id q
      have e : env.kindOf id = some .cell := hs id (isCelK_of ht)
      dsimp only
      rw [e]
      rfl
theorem fm2 {f : Expr → Option Str} {a b : Expr} {x y : Str} (h1 : f a = some x) (h2 : f b = some y) : [a, b].filterMap f = [x, y] := by
  rw [List.filterMap_cons_some h1, List.filterMap_cons_some h2]
  rfl
theorem swst_yes {u v : Expr} {id z : Str} {py pz pt p2 : Pos} {kt k2} {env : PySem.Env} (hk : env.scope.kind = .function) (hy : env.scope.names.lookup id = some .local) (hz : env.scope.names.lookup z = some .local) (hyz : id ≠ z) (hl : (py.line == pz.line) = true) (hu : notStar u = true) (hv : notStar v = true)
    (hf : (foldedForSure 8 u && foldedForSure 8 v) = false) (hc : (constantsAlone 8 u && constantsAlone 8 v) = false) : swappedStores [.Tuple [.Name id py, .Name z pz] kt pt] (.Tuple [u, v] k2 p2) env = pure (some [id, z]) := by
  have ky : env.kindOf id = some .local := hy
  have kz : env.kindOf z = some .local := hz
  have hb : env.blockKind = .function := by unfold Env.blockKind; rw [hk]; rfl
  have hl' : pz.line = py.line := by rw [beq_iff_eq] at hl; exact hl.symm
  have ed : ([id, z] : List Str).eraseDups.length = 2 := by
    have e1 : (id == z) = false := by rw [beq_eq_false_iff_ne]; exact hyz
    have e2 : (z == id) = false := by rw [beq_eq_false_iff_ne]; exact fun q => hyz q.symm
    simp [List.eraseDups, List.eraseDupsBy, List.eraseDupsBy.loop, e1, e2]
  unfold swappedStores
  dsimp only
  rw [if_neg (by simp [hb])]
  rw [if_neg (by simp only [List.any_cons, List.any_nil, Bool.or_false, Bool.or_eq_true, not_or]; exact ⟨by cases u <;> first | (simp; done) | (exfalso; revert hu; simp [notStar]; done), by cases v <;> first | (simp; done) | (exfalso; revert hv; simp [notStar]; done)⟩)]
  rw [fm2 (a := Expr.Name id py) (b := Expr.Name z pz) (x := id) (y := z)]
  · rw [if_neg (by rw [ed]; simp)]
    rw [if_neg (by simpa [List.all_cons] using hf)]
    rw [if_neg (by simpa [List.all_cons] using hc)]
  · show (if (env.kindOf id == some .local && py.line == py.line) = true then some id else none) = some id
    rw [ky]; simp
  · show (if (env.kindOf z == some .local && pz.line == py.line) = true then some z else none) = some z
    rw [kz, hl']; simp
end
end Hg
end
section
set_option Elab.async false
set_option linter.all false
set_option autoImplicit false
set_option maxRecDepth 100000
set_option maxHeartbeats 2000000
/-! A24b: try. -/
namespace Hg
open PySem PySem.Spec PyProof.Rows PySem.SeqAt L2
/-- what a body's context gives -/
structure SxOk (W : Lw) (n : Nat) (X : Cx) (N : List Str) (sc : ScN) (E : XK) : Prop where
  cx : CxOk W n X N sc (fun _ => E)
  own : PassesOwn (model X.prog X.w) X.A X.env X.xe
  tk : Takes X fun cls d _ H => E cls d H
  hs : X.stack = X.env :: X.outer
  hf : X.env.frame = some X.env.locals
section
variable {W : Lw} {n : Nat} {X : Cx} {N : List Str} {sc : ScN} {E : XK} {wf : Nat}
theorem SxOk.tr (hX : SxOk W n X N sc E) {pn : List (Addr × Obj)} {xe : Value → Shared → Prop} {V : WX} (tk : Takes (X.tr pn xe) V) (ow : PassesOwn (model X.prog X.w) X.A X.env xe) : SxOk W n (X.tr pn xe) N sc (fun cls d H => ∀ σ, V cls d σ H) := by
  have tk' : Takes (X.tr pn xe) fun cls d _ H => ∀ σ, V cls d σ H := tk.imp fun c d σ H h => h σ
  exact ⟨⟨hX.cx.prog, hX.cx.w, hX.cx.K, hX.cx.mg, hX.cx.base, hX.cx.nms, hX.cx.nd, hX.cx.calm, hX.cx.room, hX.cx.vis, hX.cx.gl, hX.cx.loc, hX.cx.cel, hX.cx.fre, fun σ => passAt tk' σ⟩, ow, tk', hX.hs, hX.hf⟩
def triM (m : Env → M Fl) (tbl : List (Nat × D)) : Env → M Fl := fun env c => match m env c with
  | .exc x c' => match lkE x tbl with
    | some d => .ok (.rt d) c'
    | none => .bad
  | r => r
theorem tbl_non : ∀ {tbl : List (Nat × D)} {x : Nat} {d : D}, (tbl.all fun p => isNonD p.2) = true → lkE x tbl = some d → d = .non
  | (y, e) :: r, x, d, h, q => by
    simp only [List.all_cons, Bool.and_eq_true] at h
    unfold lkE at q
    split at q
    · cases q
      revert h
      cases e <;> simp [isNonD]
    · exact tbl_non h.2 q
theorem ss_tri0 (hF : Facts W) (hX : SxOk W n X N sc E) {body : List Stmt} {m : Env → M Fl} {tbl : List (Nat × D)} {x : Str} {j : Nat} {np p1 p2 p3 pos : Pos} (hx : x = ("HangError" : Str)) (hg : isGlo (sc.lookup x) = true) (hh : W.nm.hg = true) (ht : (tbl.all fun p => isNonD p.2) = true)
    (hb : ∀ (X' : Cx) (E' : XK), SxOk W n X' N sc E' → PSs X' body (SS W.L E' m)) :
    PS X (.Try body [.ExceptHandler (some (.Name x np)) none [.Return (some (.Constant .none j p1)) p2] p3] [] [] pos) (SS W.L E (triM m tbl)) := by
  obtain ⟨a, ga, ex⟩ := hF.hang hh
  subst hx
  refine PSimp (ps_try_only (c := .ref a) (tb := fun V => SS W.L (fun cls d H => ∀ σ, V cls d σ H) m) (ts := fun _ _ _ => fun D σ H => D.rt .non H) hX.hs hX.hf ⟨hX.cx.gl _ (isGlo_of hg), by decide, .inl (by rw [hX.cx.mg]; exact ga)⟩ hX.tk
    (fun V pn xe tk ow => hb _ _ (hX.tr tk ow)) (fun a oe cls d pn _ _ => PSsimp (pss_one (ps_ret pe_non)) fun D σ H q => q)) fun Dn σ H q => ?_
  obtain ⟨B, F, C, env, c, b, si, o⟩ := q
  refine ⟨B, F, C, env, c, b, si, ?_⟩
  have o : OutS W.L B E Dn (match m env c with
    | .exc x c' => match lkE x tbl with
      | some d => .ok (.rt d) c'
      | none => .bad
    | r => r) := o
  cases e : m env c with
  | bad => rw [e] at o; exact o
  | ok fl c' =>
    rw [e] at o
    cases fl <;> exact o
  | exc y c' =>
    rw [e] at o
    dsimp only at o
    cases e2 : lkE y tbl with
    | none => rw [e2] at o; exact o.elim
    | some d =>
      rw [e2] at o
      have hd := tbl_non ht e2
      subst hd
      intro F2 C2 H2 b2 ck σ2
      refine ⟨true, by rw [hX.cx.K]; exact ex y, fun _ a _ => ?_, fun z => Bool.noConfusion z⟩
      exact o .non F2 C2 H2 b2 ck .non
end
end Hg
end
section
set_option Elab.async false
set_option linter.all false
set_option autoImplicit false
set_option maxRecDepth 100000
set_option maxHeartbeats 2000000
/-! A24c: the def that tells which refusal it is, called where one is handled. -/
namespace Hg
open PySem PySem.Spec PyProof.Rows PySem.SeqAt L2
/-! ### isinstance of the error that is handled -/
section
variable {X : Cx} {p : Addr × Obj} {D : Addr}
theorem call_isP (hp : p ∈ X.pn) (cc : ExcC X.K D) (hz : Zc (.ref D) none p.2) (hf : ∃ vs, p.2.data = .fields vs) : CallR X (.builtin "isinstance") (rIsE X.K D p.1) := by
  intro pins s σ H xs us Q I r ⟨c, cv, b, exs, hcv, e, q⟩
  subst exs
  obtain ⟨u1, u2, rfl, rx, rt⟩ := Vals.two r
  cases rx
  have ec := hcv _ rt
  subst ec
  have there := (I.pin p (List.mem_append_left _ hp)).1
  have J : PySem.W.InstAt s.heap p.1 p.2 D none := by
    obtain ⟨a, oc, od, oda, osl⟩ := p
    obtain ⟨vs, hv⟩ := hf
    obtain ⟨z1, z2⟩ := hz
    dsimp only at z1 z2 hv there ⊢
    subst z1 z2 hv
    exact ⟨there, rfl, rfl, trivial⟩
  exact PySem.W.kia_one (PySem.W.handS_kitx_exc cc.hg cc.hk cc.hs cc.hd cc.ha cc.hn cc.ht cc.hm) I.kIn J e (fun z => nomatch z) fun tk => ⟨.bl b, H, I.kept (t' := tk) fun _ _ h => h, rfl, q⟩
end
/-- what is known of an error's class: which of the first m it is -/
structure ErF (K : PySem.W.Frag) (m : Nat) (er : Nat → Addr) (x : Nat) : Prop where
  c : ExcC K (er x)
  one : ∀ y, y < m → PySem.W.kitOne K (.ref (er x)) (.ref (er y)) = some (decide (x = y))
  ve : PySem.W.kitOne K (.ref (er x)) (.type "ValueError") = some true
/-! ### the text -/
def isiC (e : Str) (sc : ScN) : Expr → Option Str
  | .Call (.Name id _) [.Name a _, .Name c _] [] _ => if gloB sc id "isinstance" && (a == e) && isVis (sc.lookup a) && okName a && isGlo (sc.lookup c) && okName c then some c else none
  | _ => none
def isiL (e : Str) (sc : ScN) : List Expr → Option (List Str)
  | [] => some []
  | x :: xs => (isiC e sc x).bind fun c => (isiL e sc xs).map (c :: ·)
def isMth (want own id nm : Str) (sc : ScN) (ap cp : Pos) : Bool := (nm == want) && (ap.endLine == cp.line) && (id == own) && isVis (sc.lookup id) && okName id
def isTrueX : Expr → Bool
  | .Constant (.bool true) _ _ => true
  | _ => false
/-- return ("refused", ..) -/
def isRef : Expr → Option Expr
  | .Tuple [.Constant (.str y) _ _, x] _ _ => if y == toS (tx "refused") then some x else none
  | _ => none
def isNeg1 : Expr → Bool
  | .UnaryOp .USub (.Constant (.int 1) _ _) _ => true
  | _ => false
def isIdx (own : Str) (sc : ScN) : Expr → Bool
  | .Call (.Attribute (.Name id _) nm ap) [t] [] cp => isMth "index" own id nm sc ap cp && isTrueX t
  | _ => false
def isCnt (own : Str) (sc : ScN) : Expr → Bool
  | .Call (.Attribute (.Name id _) nm ap) [t] [] cp => isMth "count" own id nm sc ap cp && isTrueX t
  | _ => false
def isTest (e own : Str) (sc : ScN) : Expr → Bool
  | .BoolOp .Or [.Compare l [.NotEq] [.Constant (.int 1) _ _] _, .UnaryOp .Not y _] _ => isCnt own sc l && decide (isiC e sc y = some (Str.ofString "ValueError"))
  | _ => false
def isRet (f : Expr → Bool) : Stmt → Bool
  | .Return (some r) _ => match isRef r with | some x => f x | none => false
  | _ => false
/-- what is told behind the first row; the classes of all rows that are put on -/
def whTail (e own : Str) (sc : ScN) : List Stmt → Option (List Str)
  | [.If t [a] [] _, b] => if isTest e own sc t && isRet isNeg1 a && isRet (isIdx own sc) b then some [] else none
  | .Expr (.Call (.Attribute (.Name id _) nm ap) [.List xs _] [] cp) _ :: r => if isMth "extend" own id nm sc ap cp then (isiL e sc xs).bind fun cs => (whTail e own sc r).map (cs ++ ·) else none
  | _ => none
def whBody (e own : Str) (sc : ScN) : List Stmt → Option (List Str)
  | .Assign [.Name y _] (.List xs _) _ :: r => if (y == own) && decide (sc.lookup y = some .local) then (isiL e sc xs).bind fun cs => (whTail e own sc r).map (cs ++ ·) else none
  | _ => none
/-! ### where it runs -/
structure HotX (W : Lw) (X : Cx) (e own : Str) (sc : ScN) : Prop where
  K : X.K = W.L.K
  mg : X.mg = W.mg
  nms : X.N = [e, own]
  ne : e ≠ own
  units : X.A.units + 100 < cLine
  vis : ∀ x, isVis (sc.lookup x) = true → Vis X.env.scope x
  loc : ∀ x, sc.lookup x = some .local → X.env.scope.names.lookup x = some .local
  gl : ∀ x, sc.lookup x = some .globalImplicit → Gl X x
section
variable {W : Lw} {X : Cx} {e own : Str} {sc : ScN} {p : Addr × Obj} {m x0 : Nat}
/-- e's slot bears the error -/
def At0 (p : Addr × Obj) (σ : Sg) : Prop := σ[0]? = some (some (.ref p.1))
theorem HotX.nd (h : HotX W X e own sc) : X.N.Nodup := by rw [h.nms]; simp [h.ne]
theorem pe_e (hX : HotX W X e own sc) {a : Str} {pos : Pos} (ha : a = e) (hv : isVis (sc.lookup a) = true) (ho : okName a = true) : PE X (.Name a pos) (tVar 0) := by
  obtain ⟨h1, h2, _⟩ := okName_of ho
  exact pe_var (i := 0) (by rw [hX.nms, ha]; rfl) (hX.vis _ hv) h1 h2
theorem pe_own (hX : HotX W X e own sc) {a : Str} {pos : Pos} (ha : a = own) (hv : isVis (sc.lookup a) = true) (ho : okName a = true) : PE X (.Name a pos) (tVar 1) := by
  obtain ⟨h1, h2, _⟩ := okName_of ho
  exact pe_var (i := 1) (by rw [hX.nms, ha]; rfl) (hX.vis _ hv) h1 h2
/-- what a class's name says of the error -/
def Says (W : Lw) (X : Cx) (x0 : Nat) (sc : ScN) (c : Str) (b : Bool) : Prop := isGlo (sc.lookup c) = true → okName c = true → ∀ pos, ∃ (v : V) (cv : Value), PE X (.Name c pos) (tC v) ∧ (∀ u, RelV v u → u = cv) ∧ PySem.W.kitOne X.K (.ref (W.L.er x0)) cv = some b
theorem says_ve (hX : HotX W X e own sc) (hF : Facts W) (er : ErF W.L.K m W.L.er x0) : Says W X x0 sc (Str.ofString "ValueError") true := fun hg ho pos =>
  ⟨.ty "ValueError", .type "ValueError", pe_bltn (hX.gl _ (isGlo_of hg)) (by rw [hX.mg]; exact hF.blt "ValueError" (by simp [bltNames])) (by decide +kernel) rfl, fun u h => h, by rw [hX.K]; exact er.ve⟩
theorem says_er (hX : HotX W X e own sc) (hF : Facts W) (er : ErF W.L.K m W.L.er x0) {y : Nat} (hy : y < m) {t : T} (ht : W.nm.enm y = some t) : Says W X x0 sc (toS t) (decide (x0 = y)) := fun hg ho pos => by
  obtain ⟨g1, _⟩ := hF.ers y t ht
  exact ⟨.ref (W.L.er y), .ref (W.L.er y), pe_glob (hX.gl _ (isGlo_of hg)) (by rw [hX.mg]; exact g1) rfl (okName_of ho).1, fun u h => h, by rw [hX.K]; exact er.one y hy⟩
theorem pe_isC (hX : HotX W X e own sc) (hF : Facts W) (er : ErF W.L.K m W.L.er x0) (hp : p ∈ X.pn) (hz : Zc (.ref (W.L.er x0)) none p.2) (hf : ∃ vs, p.2.data = .fields vs) {x : Expr} {c : Str} {b : Bool} (h : isiC e sc x = some c) (hs : Says W X x0 sc c b) :
    PE X x (fun σ H Q => At0 p σ ∧ Q (.bl b) H) := by
  unfold isiC at h
  split at h
  · rename_i id p1 a p2 c' p3 p4
    split at h
    · rename_i hh
      cases h
      simp only [Bool.and_eq_true, beq_iff_eq] at hh
      obtain ⟨⟨⟨⟨⟨h1, h2⟩, h3⟩, h4⟩, h5⟩, h6⟩ := hh
      obtain ⟨rfl, h7⟩ := gloB_of h1
      obtain ⟨v, cv, hc, hcv, hk⟩ := hs h5 h6 p3
      have hb := bn_isi
      refine PEimp (pe_callB (call_isP hp (by rw [hX.K]; exact er.c) hz hf) (hX.gl _ h7) (by rw [hX.mg]; exact hF.blt _ hb.mem) hb.boot (pa_cons (pe_e hX h2 h3 h4) (pa_cons hc pa_nil (star_cons rfl)) (star_cons rfl)) hb.nm hb.db (star_cons rfl) (back_plain rfl)) fun σ H Q q => ?_
      exact ⟨_, q.1, v, cv, b, rfl, hcv, hk, q.2⟩
    · cases h
  · cases h
/-- what each class's name says -/
def SaysL (W : Lw) (X : Cx) (x0 : Nat) (sc : ScN) : List Str → List Bool → Prop
  | [], [] => True
  | c :: cs, b :: bs => Says W X x0 sc c b ∧ SaysL W X x0 sc cs bs
  | _, _ => False
theorem SaysL.split : ∀ {cs ds : List Str} {bs : List Bool}, SaysL W X x0 sc (cs ++ ds) bs → ∃ b1 b2, bs = b1 ++ b2 ∧ SaysL W X x0 sc cs b1 ∧ SaysL W X x0 sc ds b2
  | [], ds, bs, h => ⟨[], bs, rfl, trivial, h⟩
  | c :: cs, ds, [], h => h.elim
  | c :: cs, ds, b :: bs, h => by
    obtain ⟨b1, b2, rfl, h1, h2⟩ := SaysL.split (cs := cs) h.2
    exact ⟨b :: b1, b2, rfl, ⟨h.1, h1⟩, h2⟩
theorem isi_star {x : Expr} {c : Str} (h : isiC e sc x = some c) : notStar x = true := by
  cases x <;> first | rfl | (simp [isiC] at h; done)
theorem pa_isL (hX : HotX W X e own sc) (hF : Facts W) (er : ErF W.L.K m W.L.er x0) (hp : p ∈ X.pn) (hz : Zc (.ref (W.L.er x0)) none p.2) (hf : ∃ vs, p.2.data = .fields vs) : ∀ {xs : List Expr} {cs : List Str} {bs : List Bool}, isiL e sc xs = some cs → SaysL W X x0 sc cs bs →
    PA X xs (fun σ H Q => At0 p σ ∧ Q (bs.map V.bl) H)
  | [], cs, bs, h, hs => by
    cases h
    cases bs with
    | cons _ _ => exact hs.elim
    | nil => exact PAimp pa_nil fun σ H Q q => q.2
  | x :: xs, cs, bs, h, hs => by
    unfold isiL at h
    obtain ⟨c, h1, h2⟩ := Option.bind_eq_some_iff.mp h
    obtain ⟨cs', h3, rfl⟩ := Option.map_eq_some_iff.mp h2
    cases bs with
    | nil => exact hs.elim
    | cons b bs =>
      refine PAimp (pa_cons (pe_isC hX hF er hp hz hf h1 hs.1) (pa_isL hX hF er hp hz hf h3 hs.2) (star_cons (isi_star h1))) fun σ H Q q => ?_
      exact ⟨q.1, q.1, q.2⟩
/-- what is wished of the end -/
def WhQ (H0 : Hp) (r : Int) (Dn : Ends) : Prop := ∀ (q : Addr) (o : Obj) (H' : Hp), (∀ b u, H0 b = some u → H' b = some u) → H0 q = none → o.dict = none → H' q = some (.frz o (.tup [.str (toS (tx "refused")), .int r])) → Dn.rt (.ref q) H'
/-- a truth value itself -/
def bId (b : Bool) : Bool := b
/-- what is told of the row of answers -/
def whRes (bs : List Bool) : Int := if bs.countP bId = 1 then ((bs.findIdx bId : Nat) : Int) else -1
theorem trueX_of {x : Expr} (h : isTrueX x = true) : ∃ k pos, x = .Constant (.bool true) k pos := by
  unfold isTrueX at h
  split at h
  · exact ⟨_, _, rfl⟩
  · cases h
theorem pe_ownM (hX : HotX W X e own sc) {want : String} {want2 : String} {id nm : Str} {p0 ap cp : Pos} {x : Expr} {te : TE} {r : V → List V → Hp → VK → Prop} (pa : PlainAttrs "list") (slot : PySem.Slot "list" (Str.ofString want) want2) (hty : typeOf (.builtin want2) = pure (.type "method_descriptor")) (hm : MtR X want2 r) (h : isMth (Str.ofString want) own id nm sc ap cp = true) (hn : notStar x = true) (he : PE X x te) :
    PE X (.Call (.Attribute (.Name id p0) nm ap) [x] [] cp) (tBM X.K "list" r (tVar 1) (tCons te tNil)) := by
  simp only [isMth, Bool.and_eq_true, beq_iff_eq] at h
  obtain ⟨⟨⟨⟨rfl, hl⟩, ho⟩, hv⟩, hk⟩ := h
  exact pe_bm pa slot hty hm (pe_own hX ho hv hk) (pa_cons he pa_nil (star_cons hn)) rfl (by
    have e1 : starEach [x] X.env = (false, eval x X.env) :: starEach [] X.env := star_cons hn
    rw [e1]; rfl) (by simpa using hl) (star_cons hn) rfl
theorem dp_bls {K : PySem.W.Frag} {H : Hp} : ∀ (bs : List Bool), DpAll K H (bs.map V.bl) (bs.map PyData.bool)
  | [] => .nil
  | b :: bs => .cons (.bl b) (dp_bls bs)
theorem plain_bls : ∀ (bs : List Bool), PyData.plainAll (bs.map PyData.bool) = true
  | [] => rfl
  | b :: bs => plain_bls bs
theorem depth_bls : ∀ (bs : List Bool), PyData.depthAll (bs.map PyData.bool) = 0
  | [] => rfl
  | b :: bs => by
    have := depth_bls bs
    simp only [List.map_cons, PyData.depthAll, this, PyData.depth]
    rfl
theorem lay_bls : ∀ (bs : List Bool), PyData.canLayAll0 (bs.map PyData.bool) = true
  | [] => rfl
  | b :: bs => by
    have := lay_bls bs
    simp only [List.map_cons, PyData.canLayAll0, this]
    rfl
theorem cnt_bls : ∀ (bs : List Bool), ((bs.map PyData.bool).countP fun z => PyData.eqv z (.bool true)) = bs.countP bId
  | [] => rfl
  | b :: bs => by
    rw [List.map_cons, List.countP_cons, List.countP_cons, cnt_bls bs]
    cases b <;> rfl
theorem idx_bls {bs : List Bool} (h : bs.countP bId = 1) : bs[bs.findIdx bId]? = some true ∧ ∀ i, i < bs.findIdx bId → bs[i]? = some false := by
  have hm : ∃ b ∈ bs, bId b = true := List.countP_pos_iff.mp (by omega)
  have hl := List.findIdx_lt_length_of_exists hm
  refine ⟨?_, fun i hi => ?_⟩
  · rw [List.getElem?_eq_getElem hl]
    have := List.findIdx_getElem (w := hl) (p := bId)
    exact congrArg some this
  · have hil : i < bs.length := by omega
    rw [List.getElem?_eq_getElem hil]
    have := List.not_of_lt_findIdx hi
    cases hb : bs[i] with
    | false => rfl
    | true => rw [hb] at this; exact absurd (show bId true = true from rfl) (by rw [this]; decide)
/-- the reading of what stands behind the first row -/
def tWh (p : Addr × Obj) (bs : List Bool) : TS := fun Dn σ H => At0 p σ ∧ ∃ (H0 : Hp) (p1 : Addr) (bs1 : List Bool), σ[1]? = some (some (.ref p1)) ∧ H p1 = some (.lst (bs1.map V.bl)) ∧ H0 p1 = none ∧ (∀ b u, H0 b = some u → H b = some u) ∧ bs1.length + bs.length ≤ 1000 ∧ WhQ H0 (whRes (bs1 ++ bs)) Dn
theorem pss_end (hX : HotX W X e own sc) (hF : Facts W) (er : ErF W.L.K m W.L.er x0) (hp : p ∈ X.pn) (hz : Zc (.ref (W.L.er x0)) none p.2) (hf : ∃ vs, p.2.data = .fields vs) {t : Expr} {a b : Stmt} {ip : Pos} (h : (isTest e own sc t && isRet isNeg1 a && isRet (isIdx own sc) b) = true) : PSs X [.If t [a] [] ip, b] (tWh p []) := by
  simp only [Bool.and_eq_true] at h
  obtain ⟨⟨h1, h2⟩, h3⟩ := h
  have hu := hX.units
  -- the test
  unfold isTest at h1
  split at h1
  · rename_i l k1 k2 k3 y yp bp
    simp only [Bool.and_eq_true, decide_eq_true_eq] at h1
    obtain ⟨h1, h4⟩ := h1
    unfold isCnt at h1
    split at h1
    · rename_i id p0 nm ap tt cp
      simp only [Bool.and_eq_true] at h1
      obtain ⟨kk, kp, rfl⟩ := trueX_of h1.2
      have hc := pe_ownM (p0 := p0) (want := "count") hX PySem.F.plainAttrs_list PySem.F.slot_list_count PySem.F.type_list_count (mt_cntD hu) h1.1 (show notStar (.Constant (.bool true) kk kp) = true from rfl) (pe_bl (b := true))
      have hi := pe_isC hX hF er hp hz hf h4 (says_ve hX hF er)
      have hT : PT X (.BoolOp .Or [.Compare (.Call (.Attribute (.Name id p0) nm ap) [.Constant (.bool true) kk kp] [] cp) [.NotEq] [.Constant (.int 1) k1 k2] k3, .UnaryOp .Not y yp] bp) _ := PW.pt (pw_or (pt_cmpR op_ne hc (pe_int (i := 1)) (bhm _ rfl)) (pw_or1 (pt_not (pt_val hi (by
        unfold isiC at h4
        split at h4
        · intro whole; rfl
        · cases h4)))))
      -- the returns
      unfold isRet at h2 h3
      split at h2
      · rename_i r2 rp2
        split at h2
        · rename_i x2 e2
          split at h3
          · rename_i r3 rp3
            split at h3
            · rename_i x3 e3
              unfold isRef at e2 e3
              split at e2
              · rename_i y2 c1 c2 z2 c3 c4
                split at e2
                · rename_i hy2
                  cases e2
                  split at e3
                  · rename_i y3 d1 d2 z3 d3 d4
                    split at e3
                    · rename_i hy3
                      cases e3
                      rw [beq_iff_eq] at hy2 hy3
                      subst hy2 hy3
                      unfold isNeg1 at h2
                      split at h2
                      · unfold isIdx at h3
                        split at h3
                        · rename_i id4 p4 nm4 ap4 t4 cp4
                          simp only [Bool.and_eq_true] at h3
                          obtain ⟨kk4, kp4, rfl⟩ := trueX_of h3.2
                          have hx := pe_ownM (p0 := p4) (want := "index") hX PySem.F.plainAttrs_list PySem.F.slot_list_index PySem.F.type_list_index (mt_indexD (by omega)) h3.1 (show notStar (.Constant (.bool true) kk4 kp4) = true from rfl) (pe_bl (b := true))
                          refine PSsimp (pss_cons (ps_if hT (pss_one (ps_ret (pe_tupF (pa_cons pe_str (pa_cons (pe_un un_neg (pe_int (i := 1))) pa_nil (star_cons rfl)) (star_cons rfl))))) pss_nil) (pss_one (ps_ret (pe_tupF (pa_cons pe_str (pa_cons hx pa_nil (star_cons rfl)) (star_cons rfl)))))) fun Dn σ H q => ?_
                          obtain ⟨q0, H0, p1, bs, q1, q2, q3, q4, q5, q6⟩ := q
                          rw [List.append_nil] at q6
                          have dl : Dp X.K H (.ref p1) (.list (bs.map PyData.bool)) := .lst (.of q2) (dp_bls bs)
                          have dm : min (PyData.depthAll (bs.map PyData.bool)) (PyData.bool true).depth ≤ 64 := by rw [depth_bls]; exact Nat.le_trans (Nat.min_le_left _ _) (by decide)
                          have two : (2 : Nat) ≤ sizeLine := by decide
                          refine ⟨_, q1, .inl ⟨rfl, _, .of q2⟩, p1, _, .bool true, _, rfl, rfl, dl, .bl true, plain_bls bs, rfl, dm, rfl, ?_⟩
                          rw [cnt_bls]
                          by_cases hb : bs.countP bId = 1
                          · have e0 : (!decide (V.int ((bs.countP bId : Nat) : Int) = V.int 1)) = false := by rw [hb]; rfl
                            rw [e0]
                            refine ⟨false, rfl, ?_⟩
                            show (if false = true then _ else _)
                            rw [if_neg Bool.false_ne_true]
                            refine ⟨q0, true, rfl, ?_⟩
                            obtain ⟨i1, i2⟩ := idx_bls hb
                            refine ⟨_, q1, .inl ⟨rfl, _, .of q2⟩, p1, _, .bool true, _, bs.findIdx bId, .bool true, rfl, rfl, dl, .bl true, ?_, rfl, ?_, rfl, fun j z hj hz' => ?_, two, fun q o hq ho => ?_⟩
                            · unfold SeqAt.shaped
                              simp only [Bool.and_eq_true, decide_eq_true_eq]
                              refine ⟨lay_bls bs, ?_⟩
                              simp only [PyData.depth, depth_bls]
                              decide
                            · rw [List.getElem?_map, i1]; rfl
                            · rw [List.getElem?_map, i2 j hj] at hz'
                              cases hz'
                              rfl
                            · have hq0 : H0 q = none := by
                                cases z : H0 q with
                                | none => rfl
                                | some u => have := q4 q u z; rw [hq] at this; cases this
                              refine q6 q o _ (fun b u hbu => ?_) hq0 ho ?_
                              · rw [upd_ne (ne_of_none (q4 b u hbu) hq)]
                                exact q4 b u hbu
                              · unfold whRes
                                rw [if_pos hb]
                                exact upd_same
                          · have e0 : (!decide (V.int ((bs.countP bId : Nat) : Int) = V.int 1)) = true := by
                              rw [Bool.not_eq_true', decide_eq_false_iff_not]
                              intro z
                              injection z with z
                              omega
                            rw [e0]
                            refine ⟨true, rfl, ?_⟩
                            show (if true = true then _ else _)
                            rw [if_pos rfl]
                            refine ⟨1, rfl, two, fun q o hq ho => ?_⟩
                            have hq0 : H0 q = none := by
                              cases z : H0 q with
                              | none => rfl
                              | some u => have := q4 q u z; rw [hq] at this; cases this
                            refine q6 q o _ (fun b u hbu => ?_) hq0 ho ?_
                            · rw [upd_ne (ne_of_none (q4 b u hbu) hq)]
                              exact q4 b u hbu
                            · unfold whRes
                              rw [if_neg hb]
                              exact upd_same
                        · cases h3
                      · cases h2
                    · cases e3
                  · cases e3
                · cases e2
              · cases e2
            · cases h3
          · cases h3
        · cases h2
      · cases h2
    · cases h1
  · cases h1
theorem pss_tail (hX : HotX W X e own sc) (hF : Facts W) (er : ErF W.L.K m W.L.er x0) (hp : p ∈ X.pn) (hz : Zc (.ref (W.L.er x0)) none p.2) (hf : ∃ vs, p.2.data = .fields vs) : ∀ (body : List Stmt) (cs : List Str) (bs : List Bool), whTail e own sc body = some cs → SaysL W X x0 sc cs bs → PSs X body (tWh p bs) := by
  intro body
  induction body with
  | nil => intro cs bs h; simp [whTail] at h
  | cons st r ih =>
    intro cs bs h hs
    unfold whTail at h
    split at h
    · rename_i t a ip b heq
      split at h
      · rename_i hh
        cases h
        cases bs with
        | cons _ _ => exact hs.elim
        | nil =>
          cases heq
          exact pss_end hX hF er hp hz hf hh
      · cases h
    · rename_i eid p0 nm ap xs lp cp sp r' heq
      cases heq
      split at h
      · rename_i hm
        obtain ⟨c1, h1, h2⟩ := Option.bind_eq_some_iff.mp h
        obtain ⟨c2, h3, rfl⟩ := Option.map_eq_some_iff.mp h2
        obtain ⟨b1, b2, rfl, s1, s2⟩ := SaysL.split hs
        have hl := pe_lst (pos := lp) (pa_isL hX hF er hp hz hf h1 s1)
        have hx := pe_ownM (p0 := p0) (want := "extend") hX PySem.F.plainAttrs_list PySem.F.slot_list_extend PySem.F.type_list_extend mt_extend hm (show notStar (.List xs lp) = true from rfl) hl
        refine PSsimp (pss_cons (ps_expr hx) (ih c2 b2 h3 s2)) fun Dn σ H q => ?_
        obtain ⟨q0, H0, p1, bs1, q1, q2, q3, q4, q5, q6⟩ := q
        rw [List.length_append] at q5
        have hz2 := two24
        refine ⟨_, q1, .inl ⟨rfl, _, .of q2⟩, q0, by rw [List.length_map]; omega, fun l hl => ?_⟩
        have hne : p1 ≠ l := ne_of_none q2 hl
        refine ⟨p1, l, _, _, rfl, rfl, by rw [upd_ne hne]; exact q2, upd_same, by rw [List.length_map, List.length_map]; omega, q0, H0, p1, bs1 ++ b1, q1, by rw [upd_same, List.map_append], q3, fun b u hbu => ?_, by rw [List.length_append]; omega, by rw [List.append_assoc]; exact q6⟩
        rw [upd_ne (fun z => by rw [z, q3] at hbu; cases hbu), upd_ne (ne_of_none (q4 b u hbu) hl)]
        exact q4 b u hbu
      · cases h
    · cases h
/-- the reading of the whole body -/
def tWhB (p : Addr × Obj) (bs : List Bool) : TS := fun Dn σ H => At0 p σ ∧ σ.length = 2 ∧ bs.length ≤ 1000 ∧ WhQ H (whRes bs) Dn
theorem pss_body (hX : HotX W X e own sc) (hF : Facts W) (er : ErF W.L.K m W.L.er x0) (hp : p ∈ X.pn) (hz : Zc (.ref (W.L.er x0)) none p.2) (hf : ∃ vs, p.2.data = .fields vs) {body : List Stmt} {cs : List Str} {bs : List Bool} (h : whBody e own sc body = some cs) (hs : SaysL W X x0 sc cs bs) : PSs X body (tWhB p bs) := by
  unfold whBody at h
  split at h
  · rename_i y yp xs lp sp r
    split at h
    · rename_i hh
      simp only [Bool.and_eq_true, beq_iff_eq, decide_eq_true_eq] at hh
      obtain ⟨rfl, hy⟩ := hh
      obtain ⟨c1, h1, h2⟩ := Option.bind_eq_some_iff.mp h
      obtain ⟨c2, h3, rfl⟩ := Option.map_eq_some_iff.mp h2
      obtain ⟨b1, b2, rfl, s1, s2⟩ := SaysL.split hs
      have ll := hX.loc _ hy
      have hl := pe_lst (pos := lp) (pa_isL hX hF er hp hz hf h1 s1)
      refine PSsimp (pss_cons (ps_set (i := 1) hX.nd (by rw [hX.nms]; rfl) (.inl ll) hl (sw_no rfl) (.inr ll)) (pss_tail hX hF er hp hz hf r c2 b2 h3 s2)) fun Dn σ H q => ?_
      obtain ⟨q0, q1, q2, q3⟩ := q
      rw [List.length_append] at q2
      have hz2 := two24
      refine ⟨q0, by rw [List.length_map]; omega, fun l hl => ?_⟩
      refine ⟨?_, H, l, b1, by rw [List.getElem?_set_self (by omega)], upd_same, hl, fun b u hbu => ?_, by omega, q3⟩
      · show (σ.set 1 _)[0]? = _
        rw [List.getElem?_set_ne (by decide)]
        exact q0
      · rw [upd_ne (ne_of_none hbu hl)]
        exact hbu
    · cases h
  · cases h
end
/-- the def's run, where the error p is handled -/
theorem which_code {W : Lw} {fdat : FuncData} {f : Addr} {wn e own : Str} {st : Stmt} {cs : List Str} {bs : List Bool} {m x0 : Nat} {p : Addr × Obj} (Fd : FunD W.L.K wn wn (defArgs st) (defBody st) (defScope st) [] [] f fdat) (S : FnScope [e, own] [e] (defScope st)) (hne : e ≠ own) (hF : Facts W) (er : ErF W.L.K m W.L.er x0)
    (hz : Zc (.ref (W.L.er x0)) none p.2) (hf : ∃ vs, p.2.data = .fields vs) (hb : whBody e own (defScope st).names (defBody st) = some cs) (hl : bs.length ≤ 1000) (hs : ∀ X, HotX W X e own (defScope st).names → SaysL W X x0 (defScope st).names cs bs)
    {A : Around} {outer : List PySem.Env} {s : Shared} {H : Hp} {args : Args} {us : List Value} {Q : VK} (hr : L2H.RoomH 1 A) (hpin : L2H.PinOk outer H s p) (e0 : Env0 W.P W.w W.L.K W.mg W.base A outer s H) (hbd : BindsTo s fdat args ([e].zip us)) (r : Vals [.ref p.1] us) (hq : WhQ H (whRes bs) { nx := fun _ H' => Q .non H', rt := Q }) :
    codeAny (model W.P W.w) A (.call (.ref f) args) (CR L2.CX0 outer W.P W.w H s Q fun _ _ _ => False) s := by
  obtain ⟨oc, od, dV, kV, doc, pm, an, cdv, ct, osl, rfl, lk, hcd, _, _⟩ := Fd.ex
  have inH : W.L.K.In s.heap := e0.mod.kin.keeps fun b o z => (e0.bs b o z).1
  have lim : s.heap.NoLimit := e0.mod.nolimit.keeps fun b o z => (e0.bs b o z).1
  have nm : ∀ y ∈ [e].zip us, (defScope st).names.lookup y.1 = some .local ∨ ((defScope st).names.lookup y.1 = some .cell ∧ ((cellsFrom (s.heap.objs.size + 1) (defScope st).names []).lookup y.1).isSome = true) := fun ⟨n, v⟩ hy => by
    rcases S.par n (List.of_mem_zip hy).1 with q | q
    · exact .inl q
    · exact .inr ⟨q, PySem.W.cellsFrom_some _ _ _ (.inl q)⟩
  refine codeAny_call_function hr.depth (inH _ _ lk) rfl S.co S.gen rfl (PySem.W.codeRec_of inH hcd) (hbd _ _ _ _ ?_)
  refine wpAny_newFunctionEnv_cells S.kind nm fun env he s1 x => ?_
  subst he
  refine ⟨lim.keeps x.toInCall.keep, codeAny_func ?_⟩
  let Y := L2H.cxH L2.CX0 W.P W.w W.L.K W.mg W.base [e, own] wn (defScope st) f cdv A outer s H (fun _ _ _ => False) p
  have I : Inv Y [] (L2.start [e, own] [.ref p.1]) H s1 := L2H.inv_startH S hpin e0 rfl r x
  have hY : HotX W Y e own (defScope st).names := by
    have hu : Y.A.units + 100 < cLine := by
      have h1 := hr.un
      have h2 : Y.A.units ≤ A.units + 3 := Nat.le_refl _
      omega
    have hv : ∀ y, isVis ((defScope st).names.lookup y) = true → Vis Y.env.scope y := fun y h => by
      unfold isVis at h
      split at h
      · rename_i z; exact .inl z
      · rename_i z; exact .inr (.inl z)
      · rename_i z; exact .inr (.inr z)
      · cases h
    exact ⟨rfl, rfl, rfl, hne, hu, hv, fun y h => h, fun y h => h⟩
  have body := pss_body (p := p) hY hF er (show p ∈ [p] from List.mem_singleton.mpr rfl) hz hf hb (hs Y hY)
  refine wpAny_mono (body.run [] s1 _ H { nx := fun _ H' => Q .non H', rt := Q } I ⟨rfl, rfl, hl, hq⟩) (fun fl s' h => ?_) fun _ _ h => h
  have fin : ∀ {σ' : Sg} {H' : Hp} {v : V} {u : Value}, Inv Y [] σ' H' s' → RelV v u → Q v H' → CE outer W.P W.w H s Q u s' := fun J rv q => ⟨_, _, J.os, J.bare, J.base, J.hok, rv, q⟩
  cases fl with
  | ret u =>
    obtain ⟨v, σ', H', J, rv, q⟩ := h
    exact fin J rv q
  | next =>
    obtain ⟨σ', H', J, q⟩ := h
    exact fin (v := V.non) (u := Value.none) J rfl q
  | brk =>
    obtain ⟨_, _, _, q⟩ := h
    exact q.elim
  | cont =>
    obtain ⟨_, _, _, q⟩ := h
    exact q.elim
end Hg
end
section
set_option Elab.async false
set_option linter.all false
set_option autoImplicit false
set_option maxRecDepth 100000
set_option maxHeartbeats 2000000
/-! A24d: try .. except HangError as e: return which(e). -/
namespace Hg
open PySem PySem.Spec PyProof.Rows PySem.SeqAt L2
def errT : Nat → T
  | 0 => tx "NoMobile"
  | 1 => tx "NoHall"
  | 2 => tx "NoWeights"
  | 3 => tx "NoWay"
  | 4 => tx "NoNumber"
  | 5 => tx "Never"
  | 6 => tx "TooLong"
  | 7 => tx "TooDeep"
  | 8 => tx "NoText"
  | _ => tx "Nothing"
/-- the def that tells which refusal it is -/
structure WhOk (W : Lw) (wn : T) (m : Nat) : Prop where
  m10 : m = 8 ∨ m = 10
  def_ : ∃ (f : Addr) (fdat : FuncData) (e own : Str) (st : Stmt), W.mg (toS wn) = some (.ref f) ∧ PySem.W.keepIn W.L.K (.ref f) = true ∧ FunD W.L.K (toS wn) (toS wn) (defArgs st) (defBody st) (defScope st) [] [] f fdat ∧ FnScope [e, own] [e] (defScope st) ∧ e ≠ own ∧
    whBody e own (defScope st).names (defBody st) = some ((List.range m).map fun y => toS (errT y)) ∧ Binds W.L.K fdat [e] []
  enm : ∀ y, y < m → W.nm.enm y = some (errT y)
  er : ∀ x, x < m → ErF W.L.K m W.L.er x
theorem whRes_range {m x : Nat} (hm : m = 8 ∨ m = 10) (hx : x < m) : whRes ((List.range m).map fun y => decide (x = y)) = whV m x := by
  have h : ∀ x, x < 10 → whRes ((List.range 8).map fun y => decide (x = y)) = whV 8 x ∧ whRes ((List.range 10).map fun y => decide (x = y)) = whV 10 x := by decide
  rcases hm with rfl | rfl
  · exact (h x (by omega)).1
  · exact (h x hx).2
theorem says_range {W : Lw} {X : Cx} {e own : Str} {sc : ScN} {m x : Nat} (hX : HotX W X e own sc) (hF : Facts W) (er : ErF W.L.K m W.L.er x) (he : ∀ y, y < m → W.nm.enm y = some (errT y)) : ∀ (ys : List Nat), (∀ y ∈ ys, y < m) → SaysL W X x sc (ys.map fun y => toS (errT y)) (ys.map fun y => decide (x = y))
  | [], _ => trivial
  | y :: ys, h => ⟨says_er hX hF er (h y List.mem_cons_self) (he y (h y List.mem_cons_self)), says_range hX hF er he ys fun z hz => h z (List.mem_cons_of_mem _ hz)⟩
section
variable {W : Lw} {n : Nat} {X : Cx} {N : List Str} {sc : ScN} {E : XK} {wf m : Nat} {wn : T}
/-- the call of it, in a suite -/
theorem pe_which (hF : Facts W) (wo : WhOk W wn m) (hX : CxOk W n X N sc (fun _ => E)) {a : Addr} {oe : Obj} {pn : List (Addr × Obj)} {x i : Nat} (hx : x < m) (hz : Zc (.ref (W.L.er x)) none oe) (hf : ∃ vs, oe.data = .fields vs) {id v : Str} {q np pos : Pos} (hid : id = toS wn) (hg : isGlo (sc.lookup id) = true) (ho : okName id = true) (hi : N[i]? = some v) (hv : sc.lookup v = some .local) (hov : okName v = true) :
    PE (X.suite a ((a, oe) :: pn)) (.Call (.Name id q) [.Name v np] [] pos) (fun σ H Q => σ[i]? = some (some (.ref a)) ∧ WhQ H (whV m x) { nx := fun _ _ => True, rt := Q }) := by
  obtain ⟨f, fdat, e, own, st, h1, h2, h3, h4, h5, h6, h7⟩ := wo.def_
  obtain ⟨g1, g2, _⟩ := okName_of hov
  have gl : Gl (X.suite a ((a, oe) :: pn)) id := hX.gl _ (isGlo_of hg)
  have ha : PA (X.suite a ((a, oe) :: pn)) [.Name v np] (tCons (tVar i) tNil) := pa_cons (pe_var (i := i) (by show X.N[i]? = _; rw [hX.nms]; exact hi) (.inl (hX.loc _ hv)) g1 g2) pa_nil (star_cons rfl)
  subst hid
  refine ⟨fun pins s σ H Q I ⟨hσ, hq⟩ => ?_⟩
  have hmg : (X.suite a ((a, oe) :: pn)).mg (toS wn) = some (.ref f) := by
    show X.mg _ = _
    rw [hX.mg]; exact h1
  refine wpAny_Call_Name_kw (ld_glob I gl hmg ?_ (okName_of ho).1)
  have hk : PySem.W.keepIn (X.suite a ((a, oe) :: pn)).K (.ref f) = true := by
    show PySem.W.keepIn X.K _ = _
    rw [hX.K]; exact h2
  refine PySem.W.callWith_K (h₀ := X.base) I.ok.mod.kin hk (thn (ha.run pos pins s σ H (fun vs H1 => vs = [.ref a] ∧ H1 = H) I ⟨_, hσ, rfl, rfl⟩) fun us s1 hh => ?_) (star_cons rfl) (back_plain rfl)
  obtain ⟨vs, H1, I1, r, rfl, rfl⟩ := hh
  refine ⟨I1.kIn, ?_⟩
  have P1 := I1.pin (a, oe) (List.mem_append_left _ List.mem_cons_self)
  have pin : L2H.PinOk (X.suite a ((a, oe) :: pn)).stack H1 s1 (a, oe) := ⟨P1.1, P1.2.1, fun hm => (List.mem_cons.mp (I1.stkSub a hm)).elim P1.2.2.1 P1.2.2.2.1, P1.2.2.2.2⟩
  have room : L2H.RoomH 1 (X.suite a ((a, oe) :: pn)).A := by
    have r1 := hX.room.mono (show 1 ≤ n + 1 by omega)
    exact ⟨r1.dp, r1.un⟩
  have lus : us.length = 1 := by rw [← r.length]; rfl
  have KI : W.L.K.In s1.heap := by have := I1.kIn; rw [← hX.K]; exact this
  have bd := h7 s1 us KI (by rw [List.append_nil]; exact lus)
  rw [List.append_nil] at bd
  have e0 : Env0 W.P W.w W.L.K W.mg W.base (X.suite a ((a, oe) :: pn)).A (X.suite a ((a, oe) :: pn)).stack s1 H1 := by
    have z := I1.env0
    have z : Env0 X.prog X.w X.K X.mg X.base (X.suite a ((a, oe) :: pn)).A (X.suite a ((a, oe) :: pn)).stack s1 H1 := z
    rw [hX.prog, hX.w, hX.K, hX.mg, hX.base] at z
    exact z
  have er := wo.er x hx
  have run := which_code (p := (a, oe)) (bs := (List.range m).map fun y => decide (x = y)) (Q := Q) h3 h4 h5 hF er hz hf h6 (by rcases wo.m10 with rfl | rfl <;> simp) (fun Y hY => says_range hY hF er wo.enm _ fun y hy => List.mem_range.mp hy) room pin e0 bd r (by rw [whRes_range wo.m10 hx]; exact hq)
  have pw : (X.suite a ((a, oe) :: pn)).prog = W.P := hX.prog
  have ww : (X.suite a ((a, oe) :: pn)).w = W.w := hX.w
  rw [← pw, ← ww] at run
  refine wpAny_call (codeAny_mono run fun r s' h => ?_)
  cases r with
  | error e => exact h.elim
  | ok fl =>
    cases fl with
    | ret u => exact I1.after h
    | next => exact h.elim
    | brk => exact h.elim
    | cont => exact h.elim
/-- the wish at a raise may lean on how many slots there are -/
theorem takes_len {Y : Cx} {V : WX} (t : Takes Y V) : Takes Y fun c d _ H => ∀ σ, σ.length = Y.N.length → V c d σ H := fun u s' ⟨a, B, sI, pins, σ, H, cls, d, e, I, nb, up, sky, na, os, ag, w⟩ =>
  t u s' ⟨a, B, sI, pins, σ, H, cls, d, e, I, nb, up, sky, na, os, ag, w σ I.len⟩
theorem SxOk.trL (hX : SxOk W n X N sc E) {pn : List (Addr × Obj)} {xe : Value → Shared → Prop} {V : WX} (tk : Takes (X.tr pn xe) V) (ow : PassesOwn (model X.prog X.w) X.A X.env xe) : SxOk W n (X.tr pn xe) N sc (fun cls d H => ∀ σ, σ.length = N.length → V cls d σ H) := by
  have tk' : Takes (X.tr pn xe) fun cls d _ H => ∀ σ, σ.length = N.length → V cls d σ H := by
    have := takes_len tk
    have e : (X.tr pn xe).N = N := hX.cx.nms
    rw [e] at this
    exact this
  exact ⟨⟨hX.cx.prog, hX.cx.w, hX.cx.K, hX.cx.mg, hX.cx.base, hX.cx.nms, hX.cx.nd, hX.cx.calm, hX.cx.room, hX.cx.vis, hX.cx.gl, hX.cx.loc, hX.cx.cel, hX.cx.fre, fun σ => passAt tk' σ⟩, ow, tk', hX.hs, hX.hf⟩
theorem tbl_ref : ∀ {tbl : List (Nat × D)} {x : Nat} {d : D}, tbl.all (isRefD m) = true → lkE x tbl = some d → x < m ∧ d = .tup [.str (tx "refused"), .int (whV m x)]
  | (y, e) :: r, x, d, h, q => by
    simp only [List.all_cons, Bool.and_eq_true] at h
    unfold lkE at q
    split at q
    · rename_i hy
      cases q
      have h1 := h.1
      unfold isRefD at h1
      split at h1
      · rename_i heq
        cases heq
        simp only [Bool.and_eq_true, decide_eq_true_eq, beq_iff_eq] at h1
        obtain ⟨⟨h2, rfl⟩, rfl⟩ := h1
        subst hy
        exact ⟨h2, rfl⟩
      · cases h1
    · exact tbl_ref h.2 q
theorem ss_triW (hF : Facts W) (wo : WhOk W wn m) (hX : SxOk W n X N sc E) {body : List Stmt} {ms : Env → M Fl} {tbl : List (Nat × D)} {x v id : Str} {i : Nat} {np q1 q2 q3 p2 p3 pos : Pos} (hx : x = ("HangError" : Str)) (hg : isGlo (sc.lookup x) = true) (hh : W.nm.hg = true) (ht : tbl.all (isRefD m) = true)
    (hid : id = toS wn) (hgi : isGlo (sc.lookup id) = true) (ho : okName id = true) (hi : N[i]? = some v) (hv : sc.lookup v = some .local) (hov : okName v = true) (hb : ∀ (X' : Cx) (E' : XK), SxOk W n X' N sc E' → PSs X' body (SS W.L E' ms)) :
    PS X (.Try body [.ExceptHandler (some (.Name x np)) (some v) [.Return (some (.Call (.Name id q1) [.Name v q2] [] q3)) p2] p3] [] [] pos) (SS W.L E (triM ms tbl)) := by
  obtain ⟨a0, ga, ex⟩ := hF.hang hh
  subst hx
  have hil : i < N.length := (List.getElem?_eq_some_iff.mp hi).1
  refine PSimp (ps_try_as (c := .ref a0) (i := i) (tb := fun V => SS W.L (fun cls d H => ∀ σ, σ.length = N.length → V cls d σ H) ms) (ts := fun a cls d => fun Dn σ H => ∃ y, y < m ∧ cls = .ref (W.L.er y) ∧ d = none ∧ σ[i]? = some (some (.ref a)) ∧ WhQ H (whV m y) Dn) hX.hs hX.hf (by rw [hX.cx.nms]; exact hX.cx.nd) (by rw [hX.cx.nms]; exact hi) (hX.cx.loc _ hv) ⟨hX.cx.gl _ (isGlo_of hg), by decide, .inl (by rw [hX.cx.mg]; exact ga)⟩ hX.tk
    (fun V pn xe tk ow => hb _ _ (hX.trL tk ow)) (fun a oe cls d pn hz hf => ⟨fun pins s σ H Dn I qq => ?_⟩)) fun Dn σ H q => ?_
  · obtain ⟨y, hy, rfl, rfl, hs, hw⟩ := qq
    exact (pss_one (ps_ret (pe_which hF wo hX.cx hy hz hf hid hgi ho hi hv hov))).run pins s σ H Dn I ⟨hs, hw⟩
  obtain ⟨B, F, C, env, c, b, si, o⟩ := q
  refine ⟨B, F, C, env, c, b, si, ?_⟩
  have o : OutS W.L B E Dn (match ms env c with
    | .exc x c' => match lkE x tbl with
      | some d => .ok (.rt d) c'
      | none => .bad
    | r => r) := o
  cases e : ms env c with
  | bad => rw [e] at o; exact o
  | ok fl c' =>
    rw [e] at o
    cases fl <;> exact o
  | exc y c' =>
    rw [e] at o
    dsimp only at o
    cases e2 : lkE y tbl with
    | none => rw [e2] at o; exact o.elim
    | some d =>
      rw [e2] at o
      obtain ⟨hy, hd⟩ := tbl_ref ht e2
      subst hd
      intro F2 C2 H2 b2 ck σ2 hσ2
      refine ⟨true, by rw [hX.cx.K]; exact ex y, fun _ a _ => ⟨y, hy, rfl, rfl, List.getElem?_set_self (by omega), fun q oq H' keep hq hod hv' => ?_⟩, fun z => Bool.noConfusion z⟩
      have nF : ¬ F2 q := fun f => ck.fin q f hq
      have ext : ∀ C0, Ext F2 C0 H2 (fun a => F2 a ∨ a = q) H' := fun C0 => ⟨fun a f => .inl f, fun a f => f.elim .inl fun z => .inr (z ▸ hq), fun a u h _ => keep a u h, fun a h => by
        cases z : H2 a with
        | none => exact absurd z h
        | some u => rw [keep a u z]; simp, fun a f => f.elim (fun f => by
        cases z : H2 a with
        | none => exact absurd z (ck.fin a f)
        | some u => rw [keep a u z]; simp) fun z => by rw [z, hv']; simp⟩
      exact o (.ref q) _ C2 H' (b2.step ck (ext C2)) (ck.ext0 (ext [])) (.tup oq (.inr rfl) hv' hod (.cons (.str _) (.cons (.int _) .nil)))
/-- what is known of the def that tells which -/
def WhF (W : Lw) : Prop := ∀ wn m, W.nm.wh = some (wn, m) → WhOk W wn m
theorem ss_triA (hF : Facts W) (hw : WhF W) (hX : SxOk W n X N sc E) {body : List Stmt} {ms : Env → M Fl} {tbl : List (Nat × D)} {x : Str} {nmo : Option Str} {suite : List Stmt} {np p3 pos : Pos} (hx : x = ("HangError" : Str)) (hg : isGlo (sc.lookup x) = true) (hh : W.nm.hg = true) (ht : triW W.nm N sc tbl nmo suite = true)
    (hb : ∀ (X' : Cx) (E' : XK), SxOk W n X' N sc E' → PSs X' body (SS W.L E' ms)) : PS X (.Try body [.ExceptHandler (some (.Name x np)) nmo suite p3] [] [] pos) (SS W.L E (triM ms tbl)) := by
  unfold triW at ht
  split at ht
  · rename_i v id q1 v2 q2 q3 p2
    split at ht
    · rename_i wn m hwm
      simp only [Bool.and_eq_true, beq_iff_eq, decide_eq_true_eq] at ht
      obtain ⟨⟨⟨⟨⟨⟨⟨t1, t2⟩, t3⟩, rfl⟩, t5⟩, t6⟩, t7⟩, t8⟩ := ht
      obtain ⟨i, hi, e⟩ := List.getElem_of_mem t7
      exact ss_triW hF (hw wn m hwm) hX hx hg hh t8 t1 t2 t3 (i := i) (by rw [List.getElem?_eq_getElem hi, e]) t6 t5 hb
    · cases ht
  · cases ht
end
end Hg
end
section
set_option Elab.async false
set_option linter.all false
set_option autoImplicit false
set_option maxRecDepth 100000
set_option maxHeartbeats 2000000
/-! A25: all statements at once. -/
namespace Hg
open PySem PySem.Spec PyProof.Rows PySem.SeqAt L2
section
variable {W : Lw} {n : Nat} {X : Cx} {N : List Str} {sc : ScN} {E : XK} {wf : Nat}
theorem SS_eq {L : Pl} {st : Stmt} {m m' : Env → M Fl} (h : PS X st (SS L E m)) (e : ∀ env, m env = m' env) : PS X st (SS L E m') := by
  have : m = m' := funext e
  rw [← this]; exact h
theorem SSs_eq {L : Pl} {st : List Stmt} {m m' : Env → M Fl} (h : PSs X st (SS L E m)) (e : ∀ env, m env = m' env) : PSs X st (SS L E m') := by
  have : m = m' := funext e
  rw [← this]; exact h
theorem st_set (hF : Facts W) (hn : FnsAt W n) (hX : CxOk W n X N sc (fun _ => E)) {i : Nat} {e : Hg.E} {st : Stmt} (h : mS W.nm N sc (.set i e) st = true) : PS X st (SS W.L E fun env => do let d ← evE (callF W.tab n) e env; pure (.nx (env.set i (.val d)))) := by
  unfold mS at h
  split at h
  · rename_i y py x spos
    simp only [Bool.and_eq_true, decide_eq_true_eq] at h
    obtain ⟨⟨⟨h1, h2⟩, h3⟩, h4⟩ := h
    have he := (sndE hF hn e x X N sc _ hX h4).1
    by_cases hq : (notComp x || isCelK (sc.lookup y)) = true
    · exact ss_set (ps_setAny hX h1 h2 hq he)
    · rw [Bool.or_eq_true] at h3
      rcases h3 with h3 | h3
      · exact absurd h3 hq
      · unfold swapLc at h3
        split at h3
        · rename_i elt gens scope pos
          simp only [Bool.and_eq_true, Bool.not_eq_true'] at h3
          cases e <;> simp only [mE, Bool.false_eq_true] at h4
          case prim p es =>
            exfalso
            have z : argsOf sc p (.ListComp elt gens scope pos) = none := by cases p <;> rfl
            rw [z] at h4
            cases h4
          case mth p o es =>
            exfalso
            have z : mthOf p (.ListComp elt gens scope pos) = none := by cases p <;> rfl
            rw [z] at h4
            cases h4
          case lc k ses tg vs cond el =>
            split at h4
            · rename_i q0 ex tx ix ifs scope' pos' heq
              cases heq
              simp only [Bool.and_eq_true] at h4
              obtain ⟨⟨⟨⟨⟨⟨g1, g2⟩, g3⟩, g4⟩, g5⟩, g6⟩, g7⟩ := h4
              split at g1
              · rename_i xs e1
                have hs := snd_src (tg := tx) hX hF e1 (sndEs hF hn ses xs X N sc _ hX g1)
                have key := ps_lcSwap (ifs := ifs) (py := py) (spos := spos) (mt := evE (callF W.tab n) cond) (me := evE (callF W.tab n) el) hX hs g2 g3 g4 g5 (fun Y hY => by
                  split at g6
                  · exact pts_yes g6
                  · exact pts_one (sndE hF hn cond _ Y N _ Ex0 hY g6).2
                  · cases g6) (fun Y hY => (sndE hF hn el _ Y N _ Ex0 hY g7).1) h1 (isLocK_of h3.1.2) h3.1.1 h3.2
                refine SS_eq (ss_set key) fun env => ?_
                have e2 : evE (callF W.tab n) (.lc k ses tg vs cond el) env = (do let xs ← (do let ds ← evL (evE (callF W.tab n)) ses env; M.ofO (srcD k ds)); let r ← M.calm (lcL tg (evE (callF W.tab n) cond) (evE (callF W.tab n) el) (wipeE env vs) xs []); pure (D.lst r)) := by
                  show (evEs _ ses env >>= fun ds => M.ofO (srcD k ds) >>= fun xs => _) = ((evL _ ses env >>= fun ds => M.ofO (srcD k ds)) >>= fun xs => _)
                  rw [bind_assocM, evEs_evL]
                rw [e2]
              · cases g1
            · cases h4
        · cases h3
  · cases h
/-- list(..), dict(..): new things -/
theorem snd_freshP (hF : Facts W) (hn : FnsAt W n) (hX : CxOk W n X N sc (fun _ => E)) {p : Prim} {e0 : Hg.E} {x : Expr} (hp : p = .list ∨ p = .dict) (h : mE W.nm N sc (.prim p [e0]) x = true) : PE X x (SGN W.L (fun _ => E) (evE (callF W.tab n) (.prim p [e0]))) := by
  unfold mE at h
  split at h
  · rename_i xs e1
    have ev : (evE (callF W.tab n) (.prim p [e0])) = fun env => (do let ds ← evL (evE (callF W.tab n)) [e0] env; M.ofO (primD p ds)) := by
      funext env
      rw [← evEs_evL]
      rfl
    rw [ev]
    rcases hp with rfl | rfl
    · unfold argsOf at e1
      split at e1 <;> first | contradiction | skip
      all_goals simp only [Option.ite_none_right_eq_some, Option.some.injEq, reduceCtorEq] at e1
      obtain ⟨hg, rfl⟩ := e1
      simp only [mEs, Bool.and_eq_true] at h
      exact snd_listN hX hF hg h.1.1 (sndE hF hn e0 _ X N sc _ hX h.1.2).1
    · unfold argsOf at e1
      split at e1 <;> first | contradiction | skip
      all_goals simp only [Option.ite_none_right_eq_some, Option.some.injEq, reduceCtorEq] at e1
      obtain ⟨hg, rfl⟩ := e1
      simp only [mEs, Bool.and_eq_true] at h
      exact snd_dictN hX hF hg h.1.1 (sndE hF hn e0 _ X N sc _ hX h.1.2).1
  · cases h
theorem list_isL {cf : Nat → List D → M D} {e0 : Hg.E} {env : Env} {c c' : Cells} {d : D} (h : evE cf (.prim .list [e0]) env c = .ok d c') : ∃ xs, d = .lst xs := by
  have h : M.bind (evEs cf [e0] env) (fun ds => M.ofO (primD .list ds)) c = .ok d c' := h
  unfold M.bind at h
  cases q : evEs cf [e0] env c with
  | bad => rw [q] at h; cases h
  | exc x c1 => rw [q] at h; cases h
  | ok ds c1 =>
    rw [q] at h
    dsimp only at h
    cases q2 : primD .list ds with
    | none => rw [q2] at h; cases h
    | some z =>
      rw [q2] at h
      have h : (Res.ok z c1 : Res D) = .ok d c' := h
      cases h
      unfold primD at q2
      split at q2 <;> (try contradiction)
      all_goals (cases q2; exact ⟨_, rfl⟩)
theorem st_setF (hF : Facts W) (hn : FnsAt W n) (hX : CxOk W n X N sc (fun _ => E)) {i : Nat} {e : Hg.E} {y : Str} {py spos : Pos} {x : Expr} (h0 : freshE e = true) (h1 : N[i]? = some y) (h2 : isLoc (sc.lookup y) = true) (h3 : (notComp x || isCelK (sc.lookup y) || swapLc sc y py x) = true) (h4 : mE W.nm N sc e x = true) :
    PS X (.Assign [.Name y py] x spos) (SS W.L E fun env => do let d ← evE (callF W.tab n) e env; pure (.nx (env.set i (.own d)))) := by
  unfold freshE at h0
  split at h0
  · rename_i k ses tg vs cond el
    unfold mE at h4
    split at h4
    · rename_i ex tx ix ifs scope pos
      simp only [Bool.and_eq_true] at h4
      obtain ⟨⟨⟨⟨⟨⟨g1, g2⟩, g3⟩, g4⟩, g5⟩, g6⟩, g7⟩ := h4
      split at g1
      · rename_i xs e1
        have hs := snd_src (tg := tx) hX hF e1 (sndEs hF hn ses xs X N sc _ hX g1)
        have hc : ∀ Y, CxOk W n Y N scope.names Ex0 → PTs Y ifs (SB W.L Ex0 fun env => M.toB (evE (callF W.tab n) cond env)) := fun Y hY => by
          split at g6
          · exact pts_yes g6
          · exact pts_one (sndE hF hn cond _ Y N _ Ex0 hY g6).2
          · cases g6
        have he : ∀ Y, CxOk W n Y N scope.names Ex0 → PE Y ex (SE W.L Ex0 (evE (callF W.tab n) el)) := fun Y hY => (sndE hF hn el _ Y N _ Ex0 hY g7).1
        have e2 : ∀ env, evE (callF W.tab n) (.lc k ses tg vs cond el) env = (do let xs ← (do let ds ← evL (evE (callF W.tab n)) ses env; M.ofO (srcD k ds)); let r ← M.calm (lcL tg (evE (callF W.tab n) cond) (evE (callF W.tab n) el) (wipeE env vs) xs []); pure (D.lst r)) := fun env => by
          show (evEs _ ses env >>= fun ds => M.ofO (srcD k ds) >>= fun xs => _) = ((evL _ ses env >>= fun ds => M.ofO (srcD k ds)) >>= fun xs => _)
          rw [bind_assocM, evEs_evL]
        have fin : ∀ {t : TE}, True := trivial
        by_cases hq : (notComp (.ListComp ex [⟨tx, ix, ifs, 0⟩] scope pos) || isCelK (sc.lookup y)) = true
        · refine SS_eq (ss_setG (i := i) (ps_setAny hX h1 h2 hq (snd_lcN (pos := pos) hX hs g2 g3 g4 g5 hc he))) fun env => ?_
          rw [e2]
        · rw [Bool.or_eq_true] at h3
          rcases h3 with h3 | h3
          · exact absurd h3 hq
          · simp only [swapLc, Bool.and_eq_true, Bool.not_eq_true'] at h3
            refine SS_eq (ss_setG (i := i) (ps_lcSwapN (spos := spos) hX hs g2 g3 g4 g5 hc he h1 (isLocK_of h3.1.2) h3.1.1 h3.2)) fun env => ?_
            rw [e2]
      · cases g1
    · cases h4
  · have hn2 : notComp x = true ∨ isCelK (sc.lookup y) = true ∨ swapLc sc y py x = true := by
      simpa [Bool.or_eq_true, or_assoc] using h3
    have hx : notComp x = true := by
      cases x <;> first | rfl | (exfalso; revert h4; simp [mE, argsOf]; done)
    exact ss_setG (ps_setAny hX h1 h2 (by rw [hx]; rfl) (snd_freshP hF hn hX (.inl rfl) h4))
  · have hx : notComp x = true := by
      cases x <;> first | rfl | (exfalso; revert h4; simp [mE, argsOf]; done)
    exact ss_setG (ps_setAny hX h1 h2 (by rw [hx]; rfl) (snd_freshP hF hn hX (.inr rfl) h4))
  · cases h0
theorem st_setO (hF : Facts W) (hn : FnsAt W n) (hX : CxOk W n X N sc (fun _ => E)) {i : Nat} {e : Hg.E} {st : Stmt} (h : mS W.nm N sc (.setO i e) st = true) : PS X st (SS W.L E (evS (callF W.tab n) wf (.setO i e))) := by
    unfold mS at h
    split at h
    · split at h
      · rename_i es q0 y py xs lp spos
        simp only [Bool.and_eq_true, decide_eq_true_eq] at h
        obtain ⟨⟨⟨h1, h2⟩, h3⟩, h4⟩ := h
        have ha := sndEs hF hn es xs X N sc _ hX h4
        refine SS_eq (ss_setO (i := i) h3 ha.pa fun te ht => ps_setAny hX h1 h2 rfl ht) fun env => ?_
        show (evL _ es env >>= fun ds => _) = ((evEs _ es env >>= fun ds => pure (D.lst ds)) >>= fun d => _)
        rw [bind_assocM, evEs_evL]
        rfl
      · cases h
    · split at h
      · simp only [Bool.and_eq_true, decide_eq_true_eq] at h
        obtain ⟨⟨⟨⟨h0, h1⟩, h2⟩, h3⟩, h4⟩ := h
        exact st_setF hF hn hX h0 h1 h2 h3 h4
      · cases h
theorem st_setN (hF : Facts W) (hn : FnsAt W n) (hX : CxOk W n X N sc (fun _ => E)) {i : Nat} {e : Hg.E} {st : Stmt} (h : mS W.nm N sc (.setN i e) st = true) : PS X st (SS W.L E (evS (callF W.tab n) wf (.setN i e))) := by
    unfold mS at h
    split at h
    · split at h
      · rename_i es q0 y py xs lp spos
        simp only [Bool.and_eq_true, decide_eq_true_eq] at h
        obtain ⟨⟨⟨h1, h2⟩, h3⟩, h4⟩ := h
        have ha := sndEs hF hn es xs X N sc _ hX h4
        refine SS_eq (ss_setN (i := i) h3 ha.pa fun te ht => ps_setAny hX h1 h2 rfl ht) fun env => ?_
        funext c
        rw [← evEs_evL]
        show M.bind (evEs _ es env) _ c = M.bind (M.bind (evEs _ es env) _) _ c
        unfold M.bind
        cases evEs (callF W.tab n) es env c <;> rfl
      · cases h
    · split at h
      · simp only [Bool.and_eq_true, decide_eq_true_eq] at h
        obtain ⟨⟨⟨⟨h0, h1⟩, h2⟩, h3⟩, h4⟩ := h
        unfold freshL at h0
        split at h0
        · rename_i e0
          exact ss_setNG (fun env c d c' z => list_isL z) (ps_setAny hX h1 h2 (by rw [h3]; rfl) (snd_freshP hF hn hX (.inl rfl) h4))
        · cases h0
      · cases h
theorem app_inv {i : Nat} {st : Stmt} {x : Expr} (h : appM N sc i st = some x) : ∃ id p0 nm ap cp pos, st = .Expr (.Call (.Attribute (.Name id p0) nm ap) [x] [] cp) pos ∧ ((nm == ("append" : Str)) && (ap.endLine == cp.line) && mV N sc i id && notStar x) = true := by
  unfold appM at h
  split at h
  · simp only [Option.ite_none_right_eq_some, Option.some.injEq] at h
    obtain ⟨h, rfl⟩ := h
    exact ⟨_, _, _, _, _, _, rfl, h⟩
  · cases h
theorem ext_inv {i : Nat} {st : Stmt} {x : Expr} (h : extM N sc i st = some x) : ∃ id p0 nm ap cp pos, st = .Expr (.Call (.Attribute (.Name id p0) nm ap) [x] [] cp) pos ∧ ownCall "extend" N sc i id nm ap cp x = true := by
  unfold extM at h
  split at h
  · simp only [Option.ite_none_right_eq_some, Option.some.injEq] at h
    obtain ⟨h, rfl⟩ := h
    exact ⟨_, _, _, _, _, _, rfl, h⟩
  · cases h
theorem sole_tup {ts : List Expr} {k : Nat} {p : Pos} {x : Expr} {l : Nat} {env : PySem.Env} : swapsWithSole [.Tuple ts k p] x l env = pure false := by
  cases x <;> rfl
mutual
theorem sndS (hF : Facts W) (hw : WhF W) (hn : FnsAt W n) : ∀ (s : S) (st : Stmt) (X : Cx) (E : XK), SxOk W n X N sc E → mS W.nm N sc s st = true → PS X st (SS W.L E (evS (callF W.tab n) wf s))
  | .set i e, st, X, E, hX, h => st_set hF hn hX.cx h
  | .setO i e, st, X, E, hX, h => st_setO hF hn hX.cx h
  | .setN i e, st, X, E, hX, h => st_setN hF hn hX.cx h
  | .unp tg e, st, X, E, hX, h => by
    unfold mS at h
    split at h
    · rename_i ts k p x spos
      simp only [Bool.and_eq_true] at h
      obtain ⟨⟨h2, h3⟩, h4⟩ := h
      exact ss_unp (ps_asg (sndE hF hn e x X N sc _ hX.cx h4).1 (sndT hX.cx tg _ h3) sole_tup (swst_no (fun id hid => (hX.cx.cel id hid).1) h2) rfl)
    · cases h
  | .par i j a b, st, X, E, hX, h => by
    unfold mS at h
    split at h
    · simp only [Bool.and_eq_true, decide_eq_true_eq, Bool.not_eq_true'] at h
      obtain ⟨⟨⟨⟨⟨⟨⟨⟨⟨⟨⟨⟨h1, h2⟩, h3⟩, h4⟩, h5⟩, h6⟩, h7⟩, h8⟩, h9⟩, h10⟩, h11⟩, h12⟩, h13⟩ := h
      have l1 := hX.cx.loc _ (isLocK_of h4)
      have l2 := hX.cx.loc _ (isLocK_of h5)
      have ha : PA X [_, _] _ := snd_cons h8 (sndE hF hn a _ X N sc _ hX.cx h12).1 (snd_cons h9 (sndE hF hn b _ X N sc _ hX.cx h13).1 snd_nil)
      refine SS_eq (ss_par (i := i) (j := j) ha fun t ht => ⟨fun pins s σ H Dn I q => (ps_par hX.cx.calm (by rw [hX.cx.nms]; exact hX.cx.nd) (by rw [hX.cx.nms]; exact h1) (by rw [hX.cx.nms]; exact h2) h3 l1 l2 ht (swst_yes I.ok.kind l1 l2 h6 h7 h8 h9 h10 h11) rfl).run pins s σ H Dn I q⟩) fun env => ?_
      funext c
      show M.bind (M.bind (evE _ a env) fun d => M.bind (M.bind (evE _ b env) fun d => M.bind (pure []) _) _) _ c = M.bind (evE _ a env) (fun x => M.bind (evE _ b env) _) c
      unfold M.bind
      cases evE (callF W.tab n) a env c with
      | bad => rfl
      | exc x c => rfl
      | ok d c =>
        dsimp only
        cases evE (callF W.tab n) b env c <;> rfl
    · cases h
  | .app i e, st, X, E, hX, h => by
    unfold mS at h
    split at h
    · rename_i x e1
      obtain ⟨id, p0, nm, ap, cp, pos, rfl, h1⟩ := app_inv e1
      exact ss_app hX.cx h1 (sndE hF hn e x X N sc _ hX.cx h).1
    · cases h
  | .capp i e, st, X, E, hX, h => by
    unfold mS at h
    split at h
    · rename_i x e1
      obtain ⟨id, p0, nm, ap, cp, pos, rfl, h1⟩ := app_inv e1
      exact ss_capp hX.cx h1 (sndE hF hn e x X N sc _ hX.cx h).1
    · cases h
  | .ex e, st, X, E, hX, h => by
    unfold mS at h
    split at h
    · simp only [Bool.and_eq_true] at h
      exact ss_ex (ps_expr (sndE hF hn e _ X N sc _ hX.cx h.2).1 (sw_no h.1))
    · cases h
  | .ifs c a b, st, X, E, hX, h => by
    unfold mS at h
    split at h
    · simp only [Bool.and_eq_true] at h
      exact ss_if (sndE hF hn c _ X N sc _ hX.cx h.1.1).2 (sndSs hF hw hn a _ X E hX h.1.2) (sndSs hF hw hn b _ X E hX h.2)
    · cases h
  | .forr k ses tg b, st, X, E, hX, h => by
    unfold mS at h
    split at h
    · simp only [Bool.and_eq_true] at h
      obtain ⟨⟨⟨h1, h2⟩, h3⟩, h4⟩ := h
      split at h1
      · rename_i xs e1
        refine SS_eq (ss_for hX.own hX.cx.calm (snd_src (tg := _) hX.cx hF e1 (sndEs hF hn ses xs X N sc _ hX.cx h1)) (sndT hX.cx tg _ h3) (sndSs hF hw hn b _ X E hX h4) h2) fun env => ?_
        show ((evL _ ses env >>= fun ds => M.ofO (srcD k ds)) >>= fun xs => _) = (evEs _ ses env >>= fun ds => M.ofO (srcD k ds) >>= fun xs => _)
        rw [bind_assocM, evEs_evL]
      · cases h1
    · cases h
  | .whl c b, st, X, E, hX, h => by
    unfold mS at h
    split at h
    · simp only [Bool.and_eq_true] at h
      exact ss_whl hX.own (sndE hF hn c _ X N sc _ hX.cx h.1).2 (sndSs hF hw hn b _ X E hX h.2)
    · cases h
  | .ret e, st, X, E, hX, h => by
    unfold mS at h
    split at h
    · exact ss_ret (ps_ret (sndE hF hn e _ X N sc _ hX.cx h).1)
    · cases h
  | .frz i, st, X, E, hX, h => by simp [mS] at h
  | .setD i none, st, X, E, hX, h => by
    unfold mS at h
    dsimp only at h
    split at h
    · rename_i y py dp spos
      simp only [Bool.and_eq_true, decide_eq_true_eq] at h
      exact ss_setD0 (i := i) fun te ht => ps_setAny hX.cx h.1 h.2 rfl ht
    · cases h
  | .setD i (some (k, e)), st, X, E, hX, h => by
    unfold mS at h
    dsimp only at h
    split at h
    · rename_i y py kx ex dp spos
      simp only [Bool.and_eq_true, decide_eq_true_eq] at h
      exact ss_setD1 (i := i) (sndE hF hn k _ X N sc _ hX.cx h.1.2).1 (sndE hF hn e _ X N sc _ hX.cx h.2).1 fun te ht => ps_setAny hX.cx h.1.1.1 h.1.1.2 rfl ht
    · cases h
  | .ext i e, st, X, E, hX, h => by
    unfold mS at h
    split at h
    · rename_i x e1
      obtain ⟨id, p0, nm, ap, cp, pos, rfl, h1⟩ := ext_inv e1
      exact ss_ext hX.cx h1 (sndE hF hn e x X N sc _ hX.cx h).1
    · cases h
  | .pop j i e, st, X, E, hX, h => by
    unfold mS at h
    split at h
    · simp only [Bool.and_eq_true, decide_eq_true_eq] at h
      exact ss_pop hX.cx h.1.2 (sndE hF hn e _ X N sc _ hX.cx h.2).1 fun te ht => ps_setAny hX.cx h.1.1.1 h.1.1.2 rfl ht
    · cases h
  | .put i k e, st, X, E, hX, h => by
    unfold mS at h
    split at h
    · simp only [Bool.and_eq_true] at h
      exact ss_put hX.cx h.1.1.1 h.1.1.2 (sndE hF hn e _ X N sc _ hX.cx h.2).1 (sndE hF hn k _ X N sc _ hX.cx h.1.2).1
    · cases h
  | .rse x, st, X, E, hX, h => by
    unfold mS at h
    split at h
    · simp only [Bool.and_eq_true, decide_eq_true_eq] at h
      obtain ⟨⟨h1, h2⟩, h3⟩ := h
      obtain ⟨t, ht, rfl⟩ := Option.map_eq_some_iff.mp h1
      obtain ⟨g1, g2, g3, g4, g5⟩ := hF.ers x t ht
      refine PSimp (ps_raise hX.cx.calm hX.tk (pmk_own PySem.F.excBase_ValueError (by rw [hX.cx.K]; exact g2) (by rw [hX.cx.mg]; exact g1) (by rw [hX.cx.K]; exact g3) (raises_own (by rw [hX.cx.K]; exact g4) (by rw [hX.cx.K]; exact g5)) (hX.cx.gl _ (isGlo_of h2)) (okName_of h3).1)) fun Dn σ H q => ?_
      obtain ⟨B, F, C, env, c, b, si, o⟩ := q
      exact o F C H b.low si.cok
    · cases h
  | .tri b x tbl, st, X, E, hX, h => by
    unfold mS at h
    split at h
    · simp only [Bool.and_eq_true, beq_iff_eq] at h
      obtain ⟨⟨⟨⟨h1, h2⟩, h3⟩, h4⟩, h5⟩ := h
      rcases Bool.or_eq_true_iff.mp h4 with h4 | h4
      · unfold triOk at h4
        split at h4
        · exact ss_tri0 hF hX h1 h2 h3 h4 fun X' E' hX' => sndSs hF hw hn b _ X' E' hX' h5
        · cases h4
      · exact ss_triA hF hw hX h1 h2 h3 h4 fun X' E' hX' => sndSs hF hw hn b _ X' E' hX' h5
    · cases h
  | .lput i k e, st, X, E, hX, h => by simp [mS] at h
  | .nev, st, X, E, hX, h => by simp [mS] at h
theorem sndSs (hF : Facts W) (hw : WhF W) (hn : FnsAt W n) : ∀ (ss : List S) (sts : List Stmt) (X : Cx) (E : XK), SxOk W n X N sc E → mSs W.nm N sc ss sts = true → PSs X sts (SS W.L E (evSs (callF W.tab n) wf ss))
  | [], sts, X, E, hX, h => by
    cases sts with
    | nil => exact sss_nil
    | cons _ _ => simp [mSs] at h
  | s :: ss, sts, X, E, hX, h => by
    have gen : (∃ st r, sts = st :: r ∧ mS W.nm N sc s st = true ∧ mSs W.nm N sc ss r = true) → PSs X sts (SS W.L E (evSs (callF W.tab n) wf (s :: ss))) := fun ⟨st, r, e, h1, h2⟩ => by
      subst e
      exact sss_cons (sndS hF hw hn s st X E hX h1) (sndSs hF hw hn ss r X E hX h2)
    cases s <;> simp only [mSs] at h
    case frz i => exact sss_frz (i := i) (sndSs hF hw hn ss sts X E hX h)
    case nev => exact ⟨fun pins s σ H Dn I q => by
      obtain ⟨B, F, C, env, c, b, si, o⟩ := q
      exact o.elim⟩
    all_goals
      split at h
      · simp only [Bool.and_eq_true] at h
        exact gen ⟨_, _, rfl, h.1, h.2⟩
      · cases h
end
end
end Hg
end
section
set_option Elab.async false
set_option linter.all false
set_option autoImplicit false
set_option maxRecDepth 100000
set_option maxHeartbeats 2000000
/-! A26: defs. -/
namespace Hg
open PySem PySem.Spec PyProof.Rows PySem.SeqAt L2
/-- what is asked of a def -/
structure DefOk (W : Lw) (f : Nat) (x : T) (fd : FD) (st : Stmt) (N : List Str) : Prop where
  tab : W.tab f = some fd
  fun_ : ∃ fdat, FunD W.L.K (toS x) (toS x) (defArgs st) (defBody st) (defScope st) [] [] (W.L.fn f) fdat
  bind : ∀ (kV doc pm : Value) (an : Option Addr) (cdv ct : Value) (us : List Value), us.length = (N.take fd.np).length → bindArgs (PySem.W.fnOf (toS x) (toS x) (defArgs st) (defBody st) (defScope st) .none kV doc pm an cdv ct) ⟨us, []⟩ = pure ((N.take fd.np).zip us)
  scope : FnScope N (N.take fd.np) (defScope st)
  nv : N.length = fd.nv
  np : fd.np ≤ fd.nv
  body : mSs W.nm N (defScope st).names fd.body (defBody st) = true
theorem cutC_eq {n : Nat} {c : Cells} (h : n ≤ c.length) : cutC n c = c.take n := by
  unfold cutC
  split
  · rename_i e; rw [← e, List.take_length]
  · rfl
section
variable {W : Lw} {n : Nat} {f : Nat} {x : T} {fd : FD} {st : Stmt} {N : List Str}
theorem start_get {ds : List D} {vs : List V} {L : Pl} {F : Fz} {C : List Addr} {H : Hp} {c : Cells} (r : Reps L F C H vs ds) (ck : Cok L F C H c) (hl : ds.length ≤ N.length) : SI L F C (start N vs) H (ds.map Slot.val ++ List.replicate (N.length - ds.length) .emp) c := by
  have hlen := r.len
  refine ⟨ck, by simp [L2.start, hlen], fun i d h => ?_, fun i d h => ?_, fun i j a d d' _ h _ _ _ => ?_⟩
  · by_cases hi : i < ds.length
    · rw [List.getElem?_append_left (by simpa using hi), List.getElem?_map] at h
      obtain ⟨d', h1, h2⟩ := Option.map_eq_some_iff.mp h
      cases h2
      obtain ⟨v, h3, h4⟩ := r.at h1
      refine ⟨v, ?_, h4⟩
      unfold L2.start
      rw [List.getElem?_append_left (by simpa [hlen] using hi), List.getElem?_map, h3]
      rfl
    · rw [List.getElem?_append_right (by simpa using hi), List.getElem?_replicate] at h
      split at h <;> cases h
  all_goals
    exfalso
    by_cases hi : i < ds.length
    · rw [List.getElem?_append_left (by simpa using hi), List.getElem?_map] at h
      obtain ⟨d', h1, h2⟩ := Option.map_eq_some_iff.mp h
      cases h2
    · rw [List.getElem?_append_right (by simpa using hi), List.getElem?_replicate] at h
      split at h <;> cases h
theorem no_own {ds : List D} {k i : Nat} {d : D} (h : (ds.map Slot.val ++ List.replicate k .emp)[i]? = some (.own d)) : False := by
  by_cases hi : i < ds.length
  · rw [List.getElem?_append_left (by simpa using hi), List.getElem?_map] at h
    obtain ⟨d', h1, h2⟩ := Option.map_eq_some_iff.mp h
    cases h2
  · rw [List.getElem?_append_right (by simpa using hi), List.getElem?_replicate] at h
    split at h <;> cases h
/-- what leaves a body, seen from its start -/
theorem out_of {L : Pl} {F : Fz} {C : List Addr} {H : Hp} {c : Cells} {Q : VK} {E : XK} (ck : Cok L F C H c) {r : Res Fl} (o : Out RV L F C H E Q (outF c.length r)) : OutS L ⟨F, C, H, F, C, H⟩ E { nx := fun _ H' => Q .non H', rt := Q } r := by
  have low : ∀ {F2 : Fz} {C2 : List Addr} {H2 : Hp} {c2 : Cells}, Bs ⟨F, C, H, F, C, H⟩ F2 C2 H2 [] [] → Cok L F2 C2 H2 c2 → Cok L F2 C H2 (cutC c.length c2) := fun {F2 C2 H2 c2} b k => by
    obtain ⟨Cn, e, _⟩ := b.cs
    have e : C2 = C ++ Cn := e
    have hl := k.len
    rw [e, List.length_append, ck.len] at hl
    rw [cutC_eq (by omega)]
    exact (e ▸ k).low ck.len
  cases r with
  | bad => exact o
  | exc y c2 => exact fun F2 C2 H2 b k => o F2 H2 b.ext (low b k)
  | ok fl c2 =>
    cases fl with
    | nx env => exact fun σ F2 C2 H2 b si => o .non F2 H2 b.ext (low b.low si.cok) .non
    | rt d =>
      intro v F2 C2 H2 b k r
      have o : Out RV L F C H E Q (if c2.length = c.length then Res.ok d c2 else if noCel d then Res.ok d (c2.take c.length) else .bad) := o
      split at o
      · rename_i hl
        obtain ⟨Cn, e, _⟩ := b.cs
        have e : C2 = C ++ Cn := e
        have hc := k.len
        rw [e, List.length_append, ck.len, hl] at hc
        have : Cn = [] := List.length_eq_zero_iff.mp (by omega)
        subst this
        rw [List.append_nil] at e
        subst e
        exact o v F2 H2 b.ext k r
      · split at o
        · rename_i hd
          have z := low b k
          rw [cutC, if_neg (by assumption)] at z
          exact o v F2 H2 b.ext z (r.low hd)
        · exact o.elim
theorem fn_at (hF : Facts W) (hw : WhF W) (hn : FnsAt W n) (d : DefOk W f x fd st N) {fdat : FuncData} (F : FunD W.L.K (toS x) (toS x) (defArgs st) (defBody st) (defScope st) [] [] (W.L.fn f) fdat) : FnOk W.P W.w W.L.K W.mg W.base (L2.CX W.P W.w) (n + 2) (W.L.fn f) fdat (N.take fd.np) (spF W (n + 1) f) := by
  have arg : ∀ {vs H Q E}, spF W (n + 1) f vs H Q E → ∃ F C ds c, Reps W.L F C H vs ds ∧ Cok W.L F C H c ∧ ds.length = fd.np ∧ Out RV W.L F C H E Q (outF c.length (evSs (callF W.tab n) wFuel fd.body (ds.map Slot.val ++ List.replicate (fd.nv - fd.np) .emp) c)) := fun {vs H Q E} h => by
    obtain ⟨F, C, ds, c, r, ck, o⟩ := h
    rw [callF_some d.tab] at o
    by_cases e : ds.length = fd.np
    · rw [if_pos e] at o
      exact ⟨F, C, ds, c, r, ck, e, o⟩
    · rw [if_neg e] at o
      exact o.elim
  refine F.ok d.scope (fun vs H Q E h => ?_) (fun cdv A outer s H vs Q E hr h => ⟨SS W.L E (evSs (callF W.tab n) wFuel fd.body), ?_, ?_⟩)
  · obtain ⟨F, C, ds, c, r, ck, e, o⟩ := arg h
    rw [r.len, e, List.length_take, d.nv]
    have := d.np
    omega
  · refine sndSs hF hw hn fd.body (defBody st) _ _ ⟨?_, ?_, ?_, rfl, rfl⟩ d.body
    · refine ⟨rfl, rfl, rfl, rfl, rfl, rfl, d.scope.nd, rfl, hr, fun y h => ?_, fun y h => h, fun y h => h, fun y h => ⟨h, rfl⟩, fun y h => .inr h, fun σ => ?_⟩
      · unfold isVis at h
        split at h
        · rename_i e; exact .inl e
        · rename_i e; exact .inr (.inl e)
        · rename_i e; exact .inr (.inr e)
        · cases h
      · have tk := takes_of (X := cxOf (L2.CX W.P W.w) W.P W.w W.L.K W.mg W.base N (toS x) (defScope st) (W.L.fn f) cdv A outer s H E) (E := E) rfl rfl rfl rfl
        exact fun pins H1 s1 e s2 I c => passes_call tk (fun _ _ _ _ h => h) pins σ H1 s1 e s2 I c
    · exact passes_of rfl
    · exact takes_of (X := cxOf (L2.CX W.P W.w) W.P W.w W.L.K W.mg W.base N (toS x) (defScope st) (W.L.fn f) cdv A outer s H E) (E := E) rfl rfl rfl rfl
  · obtain ⟨F, C, ds, c, r, ck, e, o⟩ := arg h
    refine ⟨⟨F, C, H, F, C, H⟩, F, C, ds.map Slot.val ++ List.replicate (fd.nv - fd.np) .emp, c, ⟨.refl ck.fin, ⟨[], by simp, by simp⟩, fun i a d h => (no_own h).elim, lat_refl, [], by simp⟩, ?_, out_of ck o⟩
    have := start_get (N := N) r ck (by rw [e, d.nv]; exact d.np)
    rw [d.nv, e] at this
    exact this
theorem fn_step (hF : Facts W) (hw : WhF W) (hn : FnsAt W n) (d : DefOk W f x fd st N) : ∃ fdat ps, FnOk W.P W.w W.L.K W.mg W.base (L2.CX W.P W.w) (n + 2) (W.L.fn f) fdat ps (spF W (n + 1) f) ∧ Binds W.L.K fdat ps [] := by
  obtain ⟨fdat, F⟩ := d.fun_
  exact ⟨fdat, N.take fd.np, fn_at hF hw hn d F, F.bindsN d.bind⟩
/-- all defs, as deep as one likes -/
theorem fns_all (hF : Facts W) (hw : WhF W) (hd : ∀ f x, W.nm.fnm f = some x → ∃ fd st N, DefOk W f x fd st N) : ∀ n, FnsAt W n
  | 0 => fun f x hx => by
    obtain ⟨fd, st, N, d⟩ := hd f x hx
    obtain ⟨fdat, F⟩ := d.fun_
    have no : ∀ {vs H Q E}, ¬ spF W 0 f vs H Q E := fun h => by
      obtain ⟨F, C, ds, c, r, ck, o⟩ := h
      exact o
    exact ⟨fdat, N.take fd.np, ⟨fun vs H Q E h => (no h).elim, fun A outer s H args us vs Q E _ _ _ _ h => (no h).elim⟩, F.bindsN d.bind⟩
  | n + 1 => fun f x hx => by
    obtain ⟨fd, st, N, d⟩ := hd f x hx
    exact fn_step hF hw (fns_all hF hw hd n) d
end
end Hg
end
section
set_option Elab.async false
set_option linter.all false
set_option autoImplicit false
set_option maxRecDepth 100000
set_option maxHeartbeats 2000000
/-! A27: from a law's tables to its defs; the end. -/
namespace Hg
open PySem PySem.Spec PyProof.Rows PySem.SeqAt L2
/-- the def that tells which refusal it is: its name, place, slots, how many classes -/
structure WD where
  x : T
  i : Nat
  e : T
  own : T
  m : Nat
def nmOf (rs : List DR) (gi : List (T × Int)) (gs : List (T × T)) (es : List Nat) (wd : Option WD) : Nm := ⟨fun f => (lkR rs f).map DR.x, gi, gs, fun x => if x ∈ es then some (errT x) else none, true, wd.map fun d => (d.x, d.m)⟩
def fa0 (rs : List DR) (gi : List (T × Int)) (gs : List (T × T)) (es : List Nat) : List He.Fa :=
  rs.map (fun r => .glo (toS r.x)) ++ (bltNames.map (fun x => .free (Str.ofString x)) ++ (gi.map (fun p => .int (toS p.1) p.2) ++ (gs.map (fun p => .str (toS p.1) (toS p.2)) ++ (es.map (fun x => .glo (toS (errT x))) ++ (es.map (fun x => .exc (toS (errT x))) ++ (.glo "HangError" :: .exm "HangError" "HangError" true :: es.map (fun x => .exm (toS (errT x)) "HangError" true)))))))
def faOf (rs : List DR) (gi : List (T × Int)) (gs : List (T × T)) (es : List Nat) (wd : Option WD) : List He.Fa := fa0 rs gi gs es ++ wd.toList.map fun d => .glo (toS d.x)
def topOf (P : Program) (i : Nat) : Stmt := P.main.body.getD i (.Pass ⟨0, 0, 0, 0⟩)
def dOf (P : Program) (r : DR) : He.DefD := ⟨(toS r.x, none), toS r.x, toS r.x, defArgs (topOf P r.i), defBody (topOf P r.i), defScope (topOf P r.i), [], []⟩
def dOfW (P : Program) (d : WD) : He.DefD := ⟨(toS d.x, none), toS d.x, toS d.x, defArgs (topOf P d.i), defBody (topOf P d.i), defScope (topOf P d.i), [], []⟩
def fnOfs (P : Program) (rs : List DR) (wd : Option WD) : List He.DefD := rs.map (dOf P) ++ wd.toList.map (dOfW P)
/-- what the hook looks at besides: the errors' classes -/
def erCB (K : PySem.W.Frag) (D : Addr) : Bool := decide (PySem.W.findIn K (.ref D) "__getattribute__" = some (some (.builtin "BaseException.__getattribute__"))) && (decide (PySem.W.findIn K (.ref D) "__getattr__" = some none) && (decide (PySem.W.subIn K (.ref D) (.type "BaseException") = some true) && (PySem.W.hasDictIn K D && (decide (PySem.W.findIn K (.ref D) "__class__" = some (some (.builtin "object.__class__"))) &&
  (decide (PySem.W.specialIn K (.builtin "object.__class__") "__get__" = some (some (.builtin "getset_descriptor.__get__"))) && (decide (PySem.W.takesIn K (.builtin "object.__class__") = some true) && decide (PySem.W.mroIn K D (.type "object") = some true)))))))
def whCk (wd : Option WD) (K : PySem.W.Frag) : Bool := match wd with
  | none => true
  | some d => (List.range d.m).all fun x => erCB K (He.ga K (toS (errT x))) && (((List.range d.m).all fun y => decide (PySem.W.kitOne K (.ref (He.ga K (toS (errT x)))) (.ref (He.ga K (toS (errT y)))) = some (decide (x = y)))) && decide (PySem.W.kitOne K (.ref (He.ga K (toS (errT x)))) (.type "ValueError") = some true))
abbrev AlG : Type := He.AlD × Bool
def obG (n : Nat) (fa : List He.Fa) (fn : List He.DefD) (ck : PySem.W.Frag → Bool) (g : Addr → Option Obj) : AlG := (He.obsD fa fn (He.frG g (He.asD g n)), ck (He.frG g (He.asD g n)))
def hookG (n : Nat) (fa : List He.Fa) (fn : List He.DefD) (ck : PySem.W.Frag → Bool) : PySem.W.Hook where
  α := AlG
  obs := fun s => obG n fa fn ck s.heap.get?
  val := fun _ => (He.valD fn, true)
  says := fun _ h => ∃ K : PySem.W.Frag, K.In h ∧ He.SaysD fa fn K ∧ ck K = true
  of := fun _ _ e => ⟨_, He.frG_in, congrArg (fun z : AlG => z.1) e, congrArg (fun z : AlG => z.2) e⟩
  keeps := fun _ _ _ ⟨K, hK, c⟩ k => ⟨K, PySem.W.Frag.In.keeps hK k, c⟩
theorem obG_eq {n : Nat} {fa : List He.Fa} {fn : List He.DefD} {ck : PySem.W.Frag → Bool} {g : Addr → Option Obj} {s : Shared} (h : ∀ a, g a = s.heap.get? a) : obG n fa fn ck g = (hookG n fa fn ck).obs s := by
  rw [show g = s.heap.get? from funext h]
  rfl
def lwOf (P : Program) (w : World) (mg : Str → Option Value) (base : Heap) (K : PySem.W.Frag) (rs : List DR) (gi : List (T × Int)) (gs : List (T × T)) (es : List Nat) (wd : Option WD) : Lw :=
  ⟨P, w, mg, base, ⟨K, fun f => He.ga K (toS (((lkR rs f).map DR.x).getD [])), fun x => if x ∈ es then He.ga K (toS (errT x)) else He.ga K "HangError", fun f => ((lkR rs f).map DR.x).isSome⟩, tabOf rs, nmOf rs gi gs es wd⟩
/-- what the kernel looks at, def by def -/
def chkD (P : Program) (nm : Nm) (r : DR) : Bool :=
  let st := topOf P r.i
  let sc := defScope st
  let N := r.N.map toS
  (match sc.kind with | .function => true | _ => false) && !sc.isCoroutine && !sc.isGenerator && decide N.Nodup && decide (r.np ≤ r.N.length) &&
    ((N.take r.np).all fun x => isLoc (sc.names.lookup x)) && (sc.names.all fun y => match y.2 with | .free => false | _ => true) && mSs nm N sc.names r.body (defBody st)
/-- how its arguments bind -/
def BindOk (P : Program) (r : DR) : Prop := ∀ (kV doc pm : Value) (an : Option Addr) (cdv ct : Value) (us : List Value), us.length = ((r.N.map toS).take r.np).length →
  bindArgs (PySem.W.fnOf (toS r.x) (toS r.x) (defArgs (topOf P r.i)) (defBody (topOf P r.i)) (defScope (topOf P r.i)) .none kV doc pm an cdv ct) ⟨us, []⟩ = pure (((r.N.map toS).take r.np).zip us)
section
variable {P : Program} {w : World} {mg : Str → Option Value} {base h : Heap} {K : PySem.W.Frag} {rs : List DR} {gi : List (T × Int)} {gs : List (T × T)} {es : List Nat} {wd : Option WD}
theorem says_all {fa : List He.Fa} {fn : List He.DefD} (c : He.SaysD fa fn K) {f : He.Fa} (hf : f ∈ fa) : f.ok K = true := by
  obtain ⟨i, hi, e⟩ := List.getElem_of_mem hf
  exact c.fact i (by rw [List.getElem?_eq_getElem hi, e])
theorem says_def (c : He.SaysD (faOf rs gi gs es wd) (fnOfs P rs wd) K) {f : Nat} {r : DR} (h : lkR rs f = some r) : ∃ fd, FunD K (toS r.x) (toS r.x) (defArgs (topOf P r.i)) (defBody (topOf P r.i)) (defScope (topOf P r.i)) [] [] (He.ga K (toS r.x)) fd :=
  by
    obtain ⟨i, hi, e⟩ := List.getElem_of_mem (lkR_mem h)
    exact c.def_ i (d := dOf P r) (by unfold fnOfs; rw [List.getElem?_append_left (by rw [List.length_map]; exact hi), List.getElem?_map, List.getElem?_eq_getElem hi, e]; rfl)
theorem says_0 (c : He.SaysD (faOf rs gi gs es wd) (fnOfs P rs wd) K) {f : He.Fa} (hf : f ∈ fa0 rs gi gs es) : f.ok K = true := says_all c (List.mem_append_left _ hf)
theorem facts_of (X : K.In h) (G : h.Ns mainGlobals mg) (c : He.SaysD (faOf rs gi gs es wd) (fnOfs P rs wd) K) : Facts (lwOf P w mg base K rs gi gs es wd) where
  blt := fun x hx => He.free_ok X G (says_0 c (List.mem_append_right _ (List.mem_append_left _ (List.mem_map.mpr ⟨x, hx, rfl⟩))))
  gi := fun p hp => He.int_ok X G (says_0 c (List.mem_append_right _ (List.mem_append_right _ (List.mem_append_left _ (List.mem_map.mpr ⟨p, hp, rfl⟩)))))
  gs := fun p hp => He.str_ok X G (says_0 c (List.mem_append_right _ (List.mem_append_right _ (List.mem_append_right _ (List.mem_append_left _ (List.mem_map.mpr ⟨p, hp, rfl⟩))))))
  ers := fun x t hx => by
    have hx : (if x ∈ es then some (errT x) else none) = some t := hx
    split at hx
    · rename_i hm
      cases hx
      have g1 := He.glo_ok X G (says_0 c (f := .glo (toS (errT x))) (List.mem_append_right _ (List.mem_append_right _ (List.mem_append_right _ (List.mem_append_right _ (List.mem_append_left _ (List.mem_map.mpr ⟨x, hm, rfl⟩)))))))
      have g2 := He.exc_ok (says_0 c (f := .exc (toS (errT x))) (List.mem_append_right _ (List.mem_append_right _ (List.mem_append_right _ (List.mem_append_right _ (List.mem_append_right _ (List.mem_append_left _ (List.mem_map.mpr ⟨x, hm, rfl⟩))))))))
      have ee : (lwOf P w mg base K rs gi gs es wd).L.er x = He.ga K (toS (errT x)) := if_pos hm
      rw [ee]
      exact ⟨g1, g2⟩
    · cases hx
  hang := fun _ => by
    have tl : ∀ f : He.Fa, f ∈ (.glo "HangError" :: .exm "HangError" "HangError" true :: es.map (fun x => .exm (toS (errT x)) "HangError" true) : List He.Fa) → f ∈ fa0 rs gi gs es := fun f h => List.mem_append_right _ (List.mem_append_right _ (List.mem_append_right _ (List.mem_append_right _ (List.mem_append_right _ (List.mem_append_right _ h)))))
    refine ⟨He.ga K "HangError", He.glo_ok X G (says_0 c (tl _ List.mem_cons_self)), fun x => ?_⟩
    by_cases hm : x ∈ es
    · have ee : (lwOf P w mg base K rs gi gs es wd).L.er x = He.ga K (toS (errT x)) := if_pos hm
      rw [ee]
      exact He.exm_ok (says_0 c (tl _ (List.mem_cons_of_mem _ (List.mem_cons_of_mem _ (List.mem_map.mpr ⟨x, hm, rfl⟩)))))
    · have ee : (lwOf P w mg base K rs gi gs es wd).L.er x = He.ga K "HangError" := if_neg hm
      rw [ee]
      exact He.exm_ok (says_0 c (tl _ (List.mem_cons_of_mem _ List.mem_cons_self)))
  has := fun f => rfl
  fns := fun f x hx => by
    have hx : (lkR rs f).map DR.x = some x := hx
    obtain ⟨r, hr, rfl⟩ := Option.map_eq_some_iff.mp hx
    obtain ⟨fd, F⟩ := says_def c hr
    have e : (lwOf P w mg base K rs gi gs es wd).L.fn f = He.ga K (toS r.x) := by
      show He.ga K (toS (((lkR rs f).map DR.x).getD [])) = _
      rw [hr]; rfl
    rw [e]
    exact ⟨He.glo_ok X G (says_0 c (List.mem_append_left _ (List.mem_map.mpr ⟨r, lkR_mem hr, rfl⟩))), F.kp⟩
theorem ga_eq {f : Nat} {r : DR} (hr : lkR rs f = some r) : (lwOf P w mg base K rs gi gs es wd).L.fn f = He.ga K (toS r.x) := by
  show He.ga K (toS (((lkR rs f).map DR.x).getD [])) = _
  rw [hr]; rfl
theorem def_of (c : He.SaysD (faOf rs gi gs es wd) (fnOfs P rs wd) K) (hc : ∀ r ∈ rs, chkD P (nmOf rs gi gs es wd) r = true) (hb : ∀ r ∈ rs, BindOk P r) {f : Nat} {r : DR} (hr : lkR rs f = some r) : DefOk (lwOf P w mg base K rs gi gs es wd) f r.x r.fd (topOf P r.i) (r.N.map toS) := by
  have hm := lkR_mem hr
  have q := hc r hm
  unfold chkD at q
  simp only [Bool.and_eq_true, decide_eq_true_eq, Bool.not_eq_true', List.all_eq_true] at q
  obtain ⟨⟨⟨⟨⟨⟨⟨q1, q2⟩, q3⟩, q4⟩, q5⟩, q6⟩, q7⟩, q8⟩ := q
  refine ⟨?_, by rw [ga_eq hr]; exact says_def c hr, hb r hm, ⟨by revert q1; cases (defScope (topOf P r.i)).kind <;> simp, q2, q3, q4, ?_, fun y hy => ?_, fun y hy z => ?_⟩, by simp [DR.fd], q5, q8⟩
  · show (lkR rs f).map DR.fd = some r.fd
    rw [hr]; rfl
  · show List.take ((r.N.map toS).take r.np).length (r.N.map toS) = (r.N.map toS).take r.np
    rw [List.length_take, List.length_map, Nat.min_eq_left q5]
  · have := q6 y hy
    unfold isLoc at this
    split at this
    · rename_i z; exact .inl z
    · rename_i z; exact .inr z
    · cases this
  · have := q7 y hy
    rw [z] at this
    cases this
theorem defs_of (c : He.SaysD (faOf rs gi gs es wd) (fnOfs P rs wd) K) (hc : ∀ r ∈ rs, chkD P (nmOf rs gi gs es wd) r = true) (hb : ∀ r ∈ rs, BindOk P r) : ∀ f x, (lwOf P w mg base K rs gi gs es wd).nm.fnm f = some x → ∃ fd st N, DefOk (lwOf P w mg base K rs gi gs es wd) f x fd st N := fun f x hx => by
  have hx : (lkR rs f).map DR.x = some x := hx
  obtain ⟨r, hr, rfl⟩ := Option.map_eq_some_iff.mp hx
  exact ⟨_, _, _, def_of c hc hb hr⟩
/-- what the kernel looks at in the def that tells which -/
def chkW (P : Program) (es : List Nat) (d : WD) : Bool :=
  let st := topOf P d.i
  let sc := defScope st
  (match sc.kind with | .function => true | _ => false) && !sc.isCoroutine && !sc.isGenerator && decide (toS d.e ≠ toS d.own) && isLoc (sc.names.lookup (toS d.e)) && (sc.names.all fun y => match y.2 with | .free => false | _ => true) &&
    decide (whBody (toS d.e) (toS d.own) sc.names (defBody st) = some ((List.range d.m).map fun y => toS (errT y))) && (decide (d.m = 8) || decide (d.m = 10)) && ((List.range d.m).all fun x => decide (x ∈ es))
def BindOkW (P : Program) (d : WD) : Prop := ∀ (kV doc pm : Value) (an : Option Addr) (cdv ct : Value) (us : List Value), us.length = [toS d.e].length →
  bindArgs (PySem.W.fnOf (toS d.x) (toS d.x) (defArgs (topOf P d.i)) (defBody (topOf P d.i)) (defScope (topOf P d.i)) .none kV doc pm an cdv ct) ⟨us, []⟩ = pure ([toS d.e].zip us)
theorem whF_of (X : K.In h) (G : h.Ns mainGlobals mg) (c : He.SaysD (faOf rs gi gs es wd) (fnOfs P rs wd) K) (ck : whCk wd K = true) (hW : ∀ d, wd = some d → chkW P es d = true ∧ BindOkW P d) : WhF (lwOf P w mg base K rs gi gs es wd) := fun wn m hm => by
  have hm : (wd.map fun d => (d.x, d.m)) = some (wn, m) := hm
  obtain ⟨d, hd, he⟩ := Option.map_eq_some_iff.mp hm
  obtain ⟨rfl, rfl⟩ := Prod.mk.inj he
  subst hd
  obtain ⟨q, hb⟩ := hW d rfl
  unfold chkW at q
  simp only [Bool.and_eq_true, Bool.or_eq_true, decide_eq_true_eq, Bool.not_eq_true', List.all_eq_true] at q
  obtain ⟨⟨⟨⟨⟨⟨⟨⟨q1, q2⟩, q3⟩, q4⟩, q5⟩, q6⟩, q7⟩, q8⟩, q9⟩ := q
  have hes : ∀ x, x < d.m → x ∈ es := fun x hx => q9 x (List.mem_range.mpr hx)
  have er : ∀ x, x < d.m → (lwOf P w mg base K rs gi gs es (some d)).L.er x = He.ga K (toS (errT x)) := fun x hx => if_pos (hes x hx)
  have m10 : d.m ≤ 10 := by omega
  obtain ⟨fd, F⟩ := c.def_ rs.length (d := dOfW P d) (by unfold fnOfs; rw [List.getElem?_append_right (by rw [List.length_map]; omega)]; simp)
  have gl := He.glo_ok X G (says_all c (f := .glo (toS d.x)) (List.mem_append_right _ (by simp)))
  refine ⟨q8, ⟨He.ga K (toS d.x), fd, toS d.e, toS d.own, topOf P d.i, gl, F.kp, F, ⟨?_, q2, q3, by simpa using q4, rfl, fun y hy => ?_, fun y hy z => ?_⟩, q4, q7, F.bindsN hb⟩, fun y hy => ?_, fun x hx => ?_⟩
  · revert q1; cases (defScope (topOf P d.i)).kind <;> simp
  · rw [List.mem_singleton] at hy
    subst hy
    unfold isLoc at q5
    split at q5
    · rename_i z; exact .inl z
    · rename_i z; exact .inr z
    · cases q5
  · have := q6 y hy
    rw [z] at this
    cases this
  · show (if y ∈ es then some (errT y) else none) = _
    rw [if_pos (hes y (by omega))]
  · have ck : ((List.range d.m).all fun x => erCB K (He.ga K (toS (errT x))) && (((List.range d.m).all fun y => decide (PySem.W.kitOne K (.ref (He.ga K (toS (errT x)))) (.ref (He.ga K (toS (errT y)))) = some (decide (x = y)))) && decide (PySem.W.kitOne K (.ref (He.ga K (toS (errT x)))) (.type "ValueError") = some true))) = true := ck
    have := List.all_eq_true.mp ck x (List.mem_range.mpr hx)
    simp only [Bool.and_eq_true, decide_eq_true_eq, erCB, List.all_eq_true] at this
    obtain ⟨⟨a1, a2, a3, a4, a5, a6, a7, a8⟩, a9, a10⟩ := this
    refine ⟨?_, fun y hy => ?_, ?_⟩
    · rw [er x hx]
      exact ⟨a1, a2, a3, a4, a5, a6, a7, a8⟩
    · rw [er x hx, er y (by omega)]
      exact a9 y (List.mem_range.mpr hy)
    · rw [er x hx]
      exact a10
/-- the law's promise -/
theorem law_sp {W : Lw} {k f : Nat} {H : Hp} {a : Addr} {ns : List Int} (hO : Only H) (hS : SqL W.L.K H a (ns.map V.int)) (h : ∃ c, callF W.tab k f [.scr ns] [] = .ok (.bl true) c) : spF W k f [.ref a] H (fun v _ => v = .bl true) fun _ _ _ => False := by
  obtain ⟨c, h⟩ := h
  have mk : ∀ F, Fin F H → Rep W.L F [] H (.ref a) (.scr ns) → spF W k f [.ref a] H (fun v _ => v = .bl true) fun _ _ _ => False := fun F hf r => by
    refine ⟨F, [], [.scr ns], [], .cons r .nil, ⟨rfl, List.nodup_nil, by simp, fun _ _ => by simp, hf, by simp⟩, ?_⟩
    rw [h]
    exact fun v F' H' _ _ r => rep_bl r
  rcases hS with h1 | h1
  · rcases h1 with h1 | ⟨o, h1⟩
    · rcases hO a with z | ⟨o, xs, z⟩ <;> rw [h1] at z <;> cases z
    · exact mk (fun b => b = a) (fun b e => by rw [e, h1]; simp) (.scr o rfl h1)
  · exact mk (fun _ => False) (fun b e => e.elim) (.scrK fun H' => .inr h1)
/-- where no exception may leave -/
theorem fn_hush {base : Heap} {k : Nat} {f : Addr} {fd : FuncData} {ps : List Str} {sp : Sp} (F : FnOk P w K mg base (L2.CX P w) k f fd ps sp) : FnOk P w K mg base L2.CX0 k f fd ps (fun vs H Q _ => sp vs H Q fun _ _ _ => False) :=
  ⟨fun vs H Q E h => F.len _ _ _ _ h, fun A outer s H args us vs Q E hr he hb hv hs => codeAny_mono (F.run A outer s H args us vs Q _ hr he hb hv hs) fun r s' q => by
    cases r with
    | error e =>
      obtain ⟨_, _, _, _, _, _, _, _, _, _, _, _, z⟩ := q
      exact z.elim
    | ok fl => cases fl <;> exact q⟩
/-- what the end asks of a law -/
theorem law_F {n k ix : Nat} {r : DR} {x : Str} {fa : Addr} (X : K.In h) (G : h.Ns mainGlobals mg) (c : He.SaysD (faOf rs gi gs es wd) (fnOfs P rs wd) K) (hc : ∀ r ∈ rs, chkD P (nmOf rs gi gs es wd) r = true) (hb : ∀ r ∈ rs, BindOk P r) (hr : lkR rs ix = some r) (hx : (r.N.map toS).take r.np = [x])
    (hmg : mg (toS r.x) = some (.ref fa)) (ck : whCk wd K = true) (hW : ∀ d, wd = some d → chkW P es d = true ∧ BindOkW P d) (hlaw : ∀ ns : List Int, ns.length ≤ n → ∃ c, callF (tabOf rs) (k + 1) ix [.scr ns] [] = .ok (.bl true) c) :
    ∃ (K : PySem.W.Frag) (fd : FuncData) (sp : Sp), K.In h ∧ (∀ (s : Shared) (u : Value), BindsTo s fd ⟨[u], []⟩ [(x, u)]) ∧
        (∀ (H : Hp) (a : Addr) (ns : List Int), ns.length ≤ n → Only H → SqL K H a (ns.map V.int) → sp [.ref a] H (fun v _ => v = .bl true) fun _ _ _ => False) ∧
        ∀ base : Heap, K.In base → base.Ns mainGlobals mg → FnOk P w K mg base L2.CX0 (k + 2) fa fd [x] sp := by
  have hm := lkR_mem hr
  obtain ⟨fd, F⟩ := says_def c hr
  have e := hmg.symm.trans (He.glo_ok X G (says_0 c (List.mem_append_left _ (List.mem_map.mpr ⟨r, hm, rfl⟩))))
  cases e
  have b := FunD.bindsA F (hb r hm)
  rw [hx] at b
  refine ⟨K, fd, fun vs H Q _ => spF (lwOf P w mg h K rs gi gs es wd) (k + 1) ix vs H Q fun _ _ _ => False, X, fun s u => b s [u] rfl, fun H a ns hl hO hS => law_sp hO hS (hlaw ns hl), fun base hB hG => ?_⟩
  have hF : Facts (lwOf P w mg base K rs gi gs es wd) := facts_of X G c
  have hw : WhF (lwOf P w mg base K rs gi gs es wd) := whF_of hB hG c ck hW
  have hn := fns_all hF hw (defs_of (w := w) (mg := mg) (base := base) c hc hb) k
  have d := def_of (w := w) (mg := mg) (base := base) c hc hb hr
  have key := fn_at hF hw hn d (by rw [ga_eq hr]; exact F)
  rw [ga_eq hr] at key
  have hp : (r.N.map toS).take r.fd.np = [x] := hx
  rw [hp] at key
  exact fn_hush key
end
end Hg
end
section
set_option Elab.async false
set_option linter.all false
set_option autoImplicit false
set_option maxRecDepth 100000
/-! L0: plain lemmas: how the evaluator steps. -/
namespace Hg
section
variable {α β : Type}
@[simp] theorem ap_bind (m : M α) (f : α → M β) (c : Cells) : (m >>= f) c = (match m c with
  | .ok a c' => f a c'
  | .exc x c' => .exc x c'
  | .bad => .bad) := rfl
@[simp] theorem ap_pure (a : α) (c : Cells) : (pure a : M α) c = .ok a c := rfl
@[simp] theorem ap_ofO_some (a : α) (c : Cells) : (M.ofO (some a) : M α) c = .ok a c := rfl
@[simp] theorem ap_ofO_none (c : Cells) : (M.ofO (none : Option α) : M α) c = .bad := rfl
@[simp] theorem ap_bad (c : Cells) : (M.bad : M α) c = .bad := rfl
@[simp] theorem ap_ite (p : Prop) [Decidable p] (x y : M α) (c : Cells) : (if p then x else y) c = if p then x c else y c := by split <;> rfl
@[simp] theorem ap_toB (m : M D) (c : Cells) : (M.toB m) c = (match m c with
  | .ok d c' => (M.ofO (toBl d) : M Bool) c'
  | .exc x c' => .exc x c'
  | .bad => .bad) := by
  show M.bind m (fun d => M.ofO (toBl d)) c = _
  unfold M.bind
  cases m c <;> rfl
end
@[simp] theorem cmp_eq_str (x y : T) : cmpD .eq (.str x) (.str y) = some (x == y) := rfl
@[simp] theorem cmp_ne_str (x y : T) : cmpD .ne (.str x) (.str y) = some (!(x == y)) := rfl
@[simp] theorem cmp_eq_int (x y : Int) : cmpD .eq (.int x) (.int y) = some (x == y) := rfl
@[simp] theorem cmp_ne_int (x y : Int) : cmpD .ne (.int x) (.int y) = some (!(x == y)) := rfl
@[simp] theorem cmp_lt_int (x y : Int) : cmpD .lt (.int x) (.int y) = some (decide (x < y)) := rfl
@[simp] theorem cmp_le_int (x y : Int) : cmpD .le (.int x) (.int y) = some (decide (x ≤ y)) := rfl
@[simp] theorem cmp_gt_int (x y : Int) : cmpD .gt (.int x) (.int y) = some (decide (y < x)) := rfl
@[simp] theorem cmp_ge_int (x y : Int) : cmpD .ge (.int x) (.int y) = some (decide (y ≤ x)) := rfl
@[simp] theorem cmp_lt_str (x y : T) : cmpD .lt (.str x) (.str y) = some (decide (x < y)) := rfl
@[simp] theorem cmp_eq_bl (x y : Bool) : cmpD .eq (.bl x) (.bl y) = some (x == y) := by simp [cmpD, eqO, plainD, depD, eqD]
@[simp] theorem cmp_ne_bl (x y : Bool) : cmpD .ne (.bl x) (.bl y) = some (!(x == y)) := by simp [cmpD, eqO, plainD, depD, eqD]
@[simp] theorem cmp_eq_nn : cmpD .eq .non .non = some true := rfl
@[simp] theorem cmp_ne_nn : cmpD .ne .non .non = some false := rfl
@[simp] theorem noCel_non : noCel .non = true := rfl
@[simp] theorem noCel_bl (b : Bool) : noCel (.bl b) = true := rfl
@[simp] theorem noCel_int (b : Int) : noCel (.int b) = true := rfl
@[simp] theorem noCel_str (b : T) : noCel (.str b) = true := rfl
@[simp] theorem noCel_tup (xs : List D) : noCel (.tup xs) = noCels xs := by simp only [noCel]
@[simp] theorem noCel_lst (xs : List D) : noCel (.lst xs) = noCels xs := by simp only [noCel]
@[simp] theorem noCels_nil : noCels [] = true := rfl
@[simp] theorem noCels_cons (x : D) (xs : List D) : noCels (x :: xs) = (noCel x && noCels xs) := by simp only [noCels]
@[simp] theorem toBl_bl (b : Bool) : toBl (.bl b) = some b := rfl
@[simp] theorem add_int (i j : Int) : binD .add (.int i) (.int j) = some (.int (i + j)) := rfl
@[simp] theorem sub_int (i j : Int) : binD .sub (.int i) (.int j) = some (.int (i - j)) := rfl
@[simp] theorem rod_weight : (tx "rod" == tx "weight") = false := by decide
@[simp] theorem weight_weight : (tx "weight" == tx "weight") = true := by decide
/-! ### the evaluator's steps, form by form -/
def M.fn {α : Type} (f : Cells → Res α) : M α := f
@[simp] theorem ap_fn {α : Type} (f : Cells → Res α) (c : Cells) : M.fn f c = f c := rfl
/-- a comprehension's turns -/
def lcW (cf : Nat → List D → M D) (tg : Tg) (cond elt : E) (env : Env) (xs : List D) : M (List D) := lcL tg (evE cf cond) (evE cf elt) env xs []
/-- a walk's turns -/
def forW (cf : Nat → List D → M D) (wf : Nat) (tg : Tg) (b : List S) (xs : List D) (env : Env) : M Fl := forL tg (evSs cf wf b) xs env
def whlW (cf : Nat → List D → M D) (wf : Nat) (e : E) (b : List S) (n : Nat) (env : Env) : M Fl := whlL (evE cf e) (evSs cf wf b) n env
/-- is it None -/
def isnD : D → Bool
  | .non => true
  | _ => false
@[simp] theorem isnD_non : isnD .non = true := rfl
@[simp] theorem isnD_bl (x : Bool) : isnD (.bl x) = false := rfl
@[simp] theorem isnD_int (x : Int) : isnD (.int x) = false := rfl
@[simp] theorem isnD_str (x : T) : isnD (.str x) = false := rfl
@[simp] theorem isnD_tup (x : List D) : isnD (.tup x) = false := rfl
@[simp] theorem isnD_lst (x : List D) : isnD (.lst x) = false := rfl
@[simp] theorem isnD_dct (x : List (T × D)) : isnD (.dct x) = false := rfl
section
variable (cf : Nat → List D → M D) (wf : Nat) (env : Env)
@[simp] theorem evE_var (i : Nat) : evE cf (.var i) env = M.ofO (getV env i) := by (simp only [evE]) <;> rfl
@[simp] theorem evE_int (i : Int) : evE cf (.int i) env = pure (.int i) := by (simp only [evE]) <;> rfl
@[simp] theorem evE_str (x : T) : evE cf (.str x) env = pure (.str x) := by (simp only [evE]) <;> rfl
@[simp] theorem evE_bl (b : Bool) : evE cf (.bl b) env = pure (.bl b) := by (simp only [evE]) <;> rfl
@[simp] theorem evE_non : evE cf (.non) env = pure .non := by (simp only [evE]) <;> rfl
@[simp] theorem evE_gint (x : T) (i : Int) : evE cf (.gint x i) env = pure (.int i) := by (simp only [evE]) <;> rfl
@[simp] theorem evE_gstr (x z : T) : evE cf (.gstr x z) env = pure (.str z) := by (simp only [evE]) <;> rfl
@[simp] theorem evE_fn (f : Nat) : evE cf (.fn f) env = pure (.fn f) := by (simp only [evE]) <;> rfl
@[simp] theorem evE_bin (o : BOp) (a b : E) : evE cf (.bin o a b) env = (do let x ← evE cf a env; let y ← evE cf b env; M.ofO (binD o x y)) := by (simp only [evE]) <;> rfl
@[simp] theorem evE_neg (a : E) : evE cf (.neg a) env = (do match ← evE cf a env with
    | .int i => pure (.int (-i))
    | _ => M.bad) := by (simp only [evE]) <;> rfl
@[simp] theorem evE_not (a : E) : evE cf (.not a) env = (do let b ← M.toB (evE cf a env); pure (.bl (!b))) := by (simp only [evE]) <;> rfl
@[simp] theorem evE_cmp (o : COp) (a b : E) : evE cf (.cmp o a b) env = (do let x ← evE cf a env; let y ← evE cf b env; let r ← M.ofO (cmpD o x y); pure (.bl r)) := by (simp only [evE]) <;> rfl
@[simp] theorem evE_isn (a : E) : evE cf (.isn a) env = (do let d ← evE cf a env; pure (.bl (isnD d))) := by
  have e : evE cf (.isn a) env = (do match ← evE cf a env with
    | .non => pure (.bl true)
    | _ => pure (.bl false)) := by (simp only [evE]) <;> rfl
  rw [e]
  congr 1
  funext d
  cases d <;> rfl
@[simp] theorem evE_nisn (a : E) : evE cf (.nisn a) env = (do let d ← evE cf a env; pure (.bl (!isnD d))) := by
  have e : evE cf (.nisn a) env = (do match ← evE cf a env with
    | .non => pure (.bl false)
    | _ => pure (.bl true)) := by (simp only [evE]) <;> rfl
  rw [e]
  congr 1
  funext d
  cases d <;> rfl
@[simp] theorem evE_chn (o1 o2 : COp) (a b c : E) : evE cf (.chn o1 o2 a b c) env = (do
    let x ← evE cf a env; let y ← evE cf b env
    let r ← M.ofO (cmpD o1 x y)
    if r then do let z ← evE cf c env; let r2 ← M.ofO (cmpD o2 y z); pure (.bl r2) else pure (.bl false)) := by (simp only [evE]) <;> rfl
@[simp] theorem evE_and (a b : E) : evE cf (.and a b) env = (do if ← M.toB (evE cf a env) then (do let r ← M.toB (evE cf b env); pure (.bl r)) else pure (.bl false)) := by (simp only [evE]) <;> rfl
@[simp] theorem evE_or (a b : E) : evE cf (.or a b) env = (do if ← M.toB (evE cf a env) then pure (.bl true) else (do let r ← M.toB (evE cf b env); pure (.bl r))) := by (simp only [evE]) <;> rfl
@[simp] theorem evE_ite (c a b : E) : evE cf (.ite c a b) env = (do if ← M.toB (evE cf c env) then evE cf a env else evE cf b env) := by (simp only [evE]) <;> rfl
@[simp] theorem evE_tup (es : List E) : evE cf (.tup es) env = (do let ds ← evEs cf es env; pure (.tup ds)) := by (simp only [evE]) <;> rfl
@[simp] theorem evE_lst (es : List E) : evE cf (.lst es) env = (do let ds ← evEs cf es env; pure (.lst ds)) := by (simp only [evE]) <;> rfl
@[simp] theorem evE_ix (a b : E) : evE cf (.ix a b) env = (do let x ← evE cf a env; let y ← evE cf b env; M.ofO (ixD x y)) := by (simp only [evE]) <;> rfl
@[simp] theorem evE_sl (a lo hi : E) : evE cf (.sl a lo hi) env = (do let x ← evE cf a env; let l ← evB lo (evE cf lo env); let h ← evB hi (evE cf hi env); M.ofO (slD x l h)) := by (simp only [evE]) <;> rfl
@[simp] theorem evE_call (f : Nat) (es : List E) : evE cf (.call f es) env = (do let ds ← evEs cf es env; cf f ds) := by (simp only [evE]) <;> rfl
@[simp] theorem evE_calln (f : Nat) (es : List E) : evE cf (.calln f es) env = (do let ds ← evEs cf es env; outN (cf f) ds) := by (simp only [evE]) <;> rfl
@[simp] theorem evE_callv (g : E) (es : List E) : evE cf (.callv g es) env = (do
    match ← evE cf g env with
    | .fn f => do let ds ← evEs cf es env; cf f ds
    | _ => M.bad) := by (simp only [evE]) <;> rfl
@[simp] theorem evE_prim (p : Prim) (es : List E) : evE cf (.prim p es) env = (do let ds ← evEs cf es env; M.ofO (primD p ds)) := by (simp only [evE]) <;> rfl
@[simp] theorem evE_mth (p : Prim) (o : E) (es : List E) : evE cf (.mth p o es) env = (do
    let x ← evE cf o env
    if rcvOk p x then (do let ds ← evEs cf es env; M.ofO (primD p (x :: ds))) else M.bad) := by (simp only [evE]) <;> rfl
@[simp] theorem evE_lc (k : SrcK) (ses : List E) (tg : Tg) (vs : List Nat) (cond elt : E) : evE cf (.lc k ses tg vs cond elt) env = (do
    let ds ← evEs cf ses env
    let xs ← M.ofO (srcD k ds)
    let r ← M.calm (lcW cf tg cond elt (wipeE env vs) xs)
    pure (.lst r)) := by (simp only [evE]) <;> rfl
@[simp] theorem evE_rev (a : E) : evE cf (.rev a) env = (do match ← evE cf a env with
    | .lst xs => pure (.lst xs.reverse)
    | .tup xs => pure (.tup xs.reverse)
    | _ => M.bad) := by (simp only [evE]) <;> rfl
@[simp] theorem evE_cpop (i : Nat) (e : E) : evE cf (.cpop i e) env = (do
    match ← evE cf e env with
    | .int j => M.fn fun c => match getV env i with
      | some (.cel k) => match c[k]? with
        | some (.lst xs) => match ixG xs.length j with
          | some m => match xs[m]? with
            | some d => .ok d (c.set k (.lst (xs.eraseIdx m)))
            | none => .bad
          | none => .bad
        | _ => .bad
      | _ => .bad
    | _ => M.bad) := by (simp only [evE]) <;> rfl
@[simp] theorem evE_olst (i : Nat) : evE cf (.olst i) env = M.ofO ((getO env i).bind fun d => primD .list [d]) := by (simp only [evE]) <;> rfl
@[simp] theorem evE_oget (i : Nat) (k z : E) : evE cf (.oget i k z) env = (match getO env i with
    | some (.dct kvs) => do
      match ← evE cf k env with
      | .str x => do let d ← evE cf z env; pure ((lkD x kvs).getD d)
      | _ => M.bad
    | _ => M.bad) := by (simp only [evE]) <;> rfl
@[simp] theorem evE_osub (i : Nat) (e : E) : evE cf (.osub i e) env = (match getO env i with
    | some d => do let k ← evE cf e env; M.ofO (ixD d k)
    | none => M.bad) := by (simp only [evE]) <;> rfl
@[simp] theorem evE_ocr (o : COp) (e : E) (i : Nat) : evE cf (.ocr o e i) env = (match getO env i with
    | some d => do let x ← evE cf e env; M.ofO ((cmpD o x d).map D.bl)
    | none => M.bad) := by (simp only [evE]) <;> rfl
@[simp] theorem evE_ocl (o : COp) (i : Nat) (e : E) : evE cf (.ocl o i e) env = (match getO env i with
    | some d => do let x ← evE cf e env; M.ofO ((cmpD o d x).map D.bl)
    | none => M.bad) := by (simp only [evE]) <;> rfl
@[simp] theorem evE_oln (i : Nat) : evE cf (.oln i) env = M.ofO ((getO env i).bind lenD) := by (simp only [evE]) <;> rfl
@[simp] theorem evE_cln (i : Nat) : evE cf (.cln i) env = (M.fn fun c => match getV env i with
    | some (.cel k) => (M.ofO (c[k]?.bind lenD)) c
    | _ => .bad) := by (simp only [evE]) <;> rfl
@[simp] theorem evEs_nil : evEs cf [] env = pure [] := by (simp only [evEs]) <;> rfl
@[simp] theorem evEs_cons (e : E) (es : List E) : evEs cf (e :: es) env = (do let d ← evE cf e env; let ds ← evEs cf es env; pure (d :: ds)) := by (simp only [evEs]) <;> rfl
@[simp] theorem evS_set (i : Nat) (e : E) : evS cf wf (.set i e) env = (do let d ← evE cf e env; pure (.nx (env.set i (.val d)))) := by (simp only [evS]) <;> rfl
@[simp] theorem evS_setO (i : Nat) (e : E) : evS cf wf (.setO i e) env = (do let d ← evE cf e env; pure (.nx (env.set i (.own d)))) := by (simp only [evS]) <;> rfl
@[simp] theorem evS_setN (i : Nat) (e : E) : evS cf wf (.setN i e) env = (do
    let d ← evE cf e env
    M.fn fun c => if noCel d then .ok (.nx (env.set i (.val (.cel c.length)))) (c ++ [d]) else .bad) := by (simp only [evS]) <;> rfl
@[simp] theorem evS_setD0 (i : Nat) : evS cf wf (.setD i none) env = pure (.nx (env.set i (.own (.dct [])))) := by (simp only [evS]) <;> rfl
@[simp] theorem evS_setD1 (i : Nat) (k e : E) : evS cf wf (.setD i (some (k, e))) env = (do
    match ← evE cf k env with
    | .str x => do let d ← evE cf e env; pure (.nx (env.set i (.own (.dct [(x, d)]))))
    | _ => M.bad) := by (simp only [evS]) <;> rfl
@[simp] theorem evS_pop (j i : Nat) (e : E) : evS cf wf (.pop j i e) env = (match getO env i with
    | some (.lst xs) => do
      match ← evE cf e env with
      | .int k => match ixG xs.length k with
        | some m => match xs[m]? with
          | some d => pure (.nx ((env.set i (.own (.lst (xs.eraseIdx m)))).set j (.val d)))
          | none => M.bad
        | none => M.bad
      | _ => M.bad
    | _ => M.bad) := by (simp only [evS]) <;> rfl
@[simp] theorem evS_frz (i : Nat) : evS cf wf (.frz i) env = (match getO env i with
    | some d => pure (.nx (env.set i (.val d)))
    | none => M.bad) := by (simp only [evS]) <;> rfl
@[simp] theorem evS_unp (tg : Tg) (e : E) : evS cf wf (.unp tg e) env = (do let d ← evE cf e env; let env' ← M.ofO (bindT tg d env); pure (.nx env')) := by (simp only [evS]) <;> rfl
@[simp] theorem evS_par (i j : Nat) (a b : E) : evS cf wf (.par i j a b) env = (do let x ← evE cf a env; let y ← evE cf b env; pure (.nx ((env.set i (.val x)).set j (.val y)))) := by (simp only [evS]) <;> rfl
@[simp] theorem evS_app (i : Nat) (e : E) : evS cf wf (.app i e) env = (match getO env i with
    | some (.lst xs) => do
      let d ← evE cf e env
      if xs.length < 1000000 then pure (.nx (env.set i (.own (.lst (xs ++ [d]))))) else M.bad
    | _ => M.bad) := by (simp only [evS]) <;> rfl
@[simp] theorem evS_ext (i : Nat) (e : E) : evS cf wf (.ext i e) env = (match getO env i with
    | some (.lst xs) => do
      match ← evE cf e env with
      | .lst ys => if xs.length + ys.length < 1000000 then pure (.nx (env.set i (.own (.lst (xs ++ ys))))) else M.bad
      | _ => M.bad
    | _ => M.bad) := by (simp only [evS]) <;> rfl
@[simp] theorem evS_put (i : Nat) (k e : E) : evS cf wf (.put i k e) env = (match getO env i with
    | some (.dct kvs) => do
      let d ← evE cf e env
      match ← evE cf k env with
      | .str x => if kvs.length < 1000000 then pure (.nx (env.set i (.own (.dct (putD x d kvs))))) else M.bad
      | _ => M.bad
    | _ => M.bad) := by (simp only [evS]) <;> rfl
@[simp] theorem evS_lput (i : Nat) (k e : E) : evS cf wf (.lput i k e) env = (match getO env i with
    | some (.lst xs) => do
      let d ← evE cf e env
      match ← evE cf k env with
      | .int j => match ixG xs.length j with
        | some m => pure (.nx (env.set i (.own (.lst (xs.set m d)))))
        | none => M.bad
      | _ => M.bad
    | _ => M.bad) := by (simp only [evS]) <;> rfl
@[simp] theorem evS_capp (i : Nat) (e : E) : evS cf wf (.capp i e) env = (M.fn fun c => match getV env i with
    | some (.cel k) => match c[k]? with
      | some (.lst _) => (do
        let d ← evE cf e env
        M.fn fun c => match c[k]? with
          | some (.lst xs) => if xs.length < 1000000 ∧ noCel d = true then Res.ok (Fl.nx env) (c.set k (.lst (xs ++ [d]))) else .bad
          | _ => .bad : M Fl) c
      | _ => .bad
    | _ => .bad) := by (simp only [evS]) <;> rfl
@[simp] theorem evS_ex (e : E) : evS cf wf (.ex e) env = (do let _ ← evE cf e env; pure (.nx env)) := by (simp only [evS]) <;> rfl
@[simp] theorem evS_ifs (c : E) (a b : List S) : evS cf wf (.ifs c a b) env = (do if ← M.toB (evE cf c env) then evSs cf wf a env else evSs cf wf b env) := by (simp only [evS]) <;> rfl
@[simp] theorem evS_forr (k : SrcK) (ses : List E) (tg : Tg) (b : List S) : evS cf wf (.forr k ses tg b) env = (do
    let ds ← evEs cf ses env
    let xs ← M.ofO (srcD k ds)
    forW cf wf tg b xs env) := by (simp only [evS]) <;> rfl
@[simp] theorem evS_whl (c : E) (b : List S) : evS cf wf (.whl c b) env = whlW cf wf c b wf env := by (simp only [evS]) <;> rfl
@[simp] theorem evS_ret (e : E) : evS cf wf (.ret e) env = (do let d ← evE cf e env; pure (.rt d)) := by (simp only [evS]) <;> rfl
@[simp] theorem evS_rse (x : Nat) : evS cf wf (.rse x) env = (M.fn fun c => .exc x c) := by (simp only [evS]) <;> rfl
@[simp] theorem evS_tri (b : List S) (h : Nat) (tbl : List (Nat × D)) : evS cf wf (.tri b h tbl) env = (M.fn fun c => match evSs cf wf b env c with
    | .exc x c' => match lkE x tbl with
      | some d => .ok (.rt d) c'
      | none => .bad
    | r => r) := by (simp only [evS]) <;> rfl
@[simp] theorem evSs_nil : evSs cf wf [] env = pure (.nx env) := by (simp only [evSs]) <;> rfl
@[simp] theorem evSs_cons (s : S) (ss : List S) : evSs cf wf (s :: ss) env = (do match ← evS cf wf s env with
    | .nx env' => evSs cf wf ss env'
    | .rt d => pure (.rt d)) := by (simp only [evSs]) <;> rfl
end
@[simp] theorem outF_nx (n : Nat) (env : Env) (c : Cells) : outF n (.ok (.nx env) c) = .ok .non (cutC n c) := rfl
@[simp] theorem outF_rt (n : Nat) (d : D) (c : Cells) : outF n (.ok (.rt d) c) = if c.length = n then .ok d c else if noCel d then .ok d (c.take n) else .bad := rfl
@[simp] theorem outF_exc (n : Nat) (x : Nat) (c : Cells) : outF n (.exc x c) = .exc x (cutC n c) := rfl
@[simp] theorem cutC_same (c : Cells) : cutC c.length c = c := by simp [cutC]
/-! ### the built-ins -/
@[simp] theorem pr_len_tup (xs : List D) : primD .len [.tup xs] = some (.int xs.length) := rfl
@[simp] theorem pr_len_lst (xs : List D) : primD .len [.lst xs] = some (.int xs.length) := rfl
@[simp] theorem pr_len_scr (xs : List Int) : primD .len [.scr xs] = some (.int xs.length) := rfl
@[simp] theorem pr_len_str (xs : T) (h : xs.length ≤ 1000000) : primD .len [.str xs] = some (.int xs.length) := by simp [primD, h]
@[simp] theorem pr_list_lst (xs : List D) : primD .list [.lst xs] = some (.lst xs) := rfl
@[simp] theorem pr_list_tup (xs : List D) : primD .list [.tup xs] = some (.lst xs) := rfl
@[simp] theorem pr_list_dct (kvs : List (T × D)) : primD .list [.dct kvs] = some (.lst (kvs.map fun p => .str p.1)) := rfl
@[simp] theorem pr_tupl_lst (xs : List D) : primD .tupl [.lst xs] = some (.tup xs) := rfl
@[simp] theorem pr_tupl_tup (xs : List D) : primD .tupl [.tup xs] = some (.tup xs) := rfl
@[simp] theorem pr_dict_lst (xs : List D) : primD .dict [.lst xs] = (pairsD xs).map fun ps => .dct (dictD ps) := rfl
@[simp] theorem pr_dict_tup (xs : List D) : primD .dict [.tup xs] = (pairsD xs).map fun ps => .dct (dictD ps) := rfl
@[simp] theorem pr_all (xs : List D) : primD .all [.lst xs] = (allBl xs).map fun bs => .bl (bs.all id) := rfl
@[simp] theorem pr_any (xs : List D) : primD .any [.lst xs] = (allBl xs).map fun bs => .bl (bs.any id) := rfl
@[simp] theorem pr_sset (d : D) : primD .sset [d] = (seqD d).bind ssetD := rfl
@[simp] theorem pr_lset (d : D) : primD .lset [d] = (seqD d).bind lsetD := rfl
@[simp] theorem pr_max1 (xs : List D) : primD .max1 [.lst xs] = ((allInt xs).bind maxI).map .int := rfl
@[simp] theorem pr_max2 (a b : Int) : primD .max2 [.int a, .int b] = some (.int (max a b)) := by
  have : (if b > a then b else a) = max a b := by omega
  rw [← this]; rfl
@[simp] theorem pr_min2 (a b : Int) : primD .min2 [.int a, .int b] = some (.int (min a b)) := by
  have : (if b < a then b else a) = min a b := by omega
  rw [← this]; rfl
@[simp] theorem pr_sum (xs : List D) : primD .sum [.lst xs] = (allInt xs).map fun ns => .int ns.sum := rfl
@[simp] theorem pr_abs (a : Int) : primD .abs [.int a] = some (.int (if a < 0 then -a else a)) := rfl
@[simp] theorem pr_int1 (b : Bool) : primD .int1 [.bl b] = some (.int (if b then 1 else 0)) := rfl
@[simp] theorem pr_isi (t : TyN) (d : D) : primD (.isi t) [d] = (isiD t d).map .bl := rfl
@[simp] theorem pr_strip (x cs : T) (h : x.length ≤ 1000000) : primD .strip [.str x, .str cs] = some (.str (stripT x cs)) := by simp [primD, h]
@[simp] theorem pr_srt (xs : List D) : primD .srt [.lst xs] = srtD xs := rfl
@[simp] theorem rcv_count (xs : List D) : rcvOk .count (.lst xs) = true := rfl
@[simp] theorem rcv_countS (x : T) : rcvOk .cntS (.str x) = true := rfl
@[simp] theorem rcv_split (x : T) : rcvOk .split (.str x) = true := rfl
@[simp] theorem rcv_part (x : T) : rcvOk .part (.str x) = true := rfl
@[simp] theorem rcv_join (x : T) : rcvOk .join (.str x) = true := rfl
@[simp] theorem seqD_lst (xs : List D) : seqD (.lst xs) = some xs := rfl
@[simp] theorem seqD_tup (xs : List D) : seqD (.tup xs) = some xs := rfl
@[simp] theorem rcv_strip (x : T) : rcvOk .strip (.str x) = true := rfl
@[simp] theorem src_e_lst (xs : List D) : srcD .e [.lst xs] = some xs := rfl
@[simp] theorem src_e_tup (xs : List D) : srcD .e [.tup xs] = some xs := rfl
@[simp] theorem src_e_str (x : T) : srcD .e [.str x] = some (x.map fun c => .str [c]) := rfl
@[simp] theorem src_e_dct (kvs : List (T × D)) : srcD .e [.dct kvs] = some (kvs.map fun p => .str p.1) := rfl
@[simp] theorem src_zip_lst (xs ys : List D) : srcD .zip [.lst xs, .lst ys] = some (zipT xs ys) := rfl
@[simp] theorem src_zip_tup (xs ys : List D) : srcD .zip [.tup xs, .tup ys] = some (zipT xs ys) := rfl
@[simp] theorem src_enum (xs : List D) : srcD .enum [.lst xs] = some (enumL 0 xs) := rfl
@[simp] theorem src_items (kvs : List (T × D)) : srcD .items [.dct kvs] = some (kvs.map fun p => .pr [.str p.1, p.2]) := rfl
@[simp] theorem lenD_lst (xs : List D) : lenD (.lst xs) = some (.int xs.length) := rfl
@[simp] theorem ixD_dct (kvs : List (T × D)) (k : T) : ixD (.dct kvs) (.str k) = lkD k kvs := rfl
@[simp] theorem bOk_int (e : E) (i : Int) : bOk e (.int i) = true := by cases e <;> rfl
@[simp] theorem ap_evB (e : E) (m : M D) (c : Cells) : evB e m c = (match m c with
  | .ok d c' => if bOk e d then .ok d c' else .bad
  | .exc x c' => .exc x c'
  | .bad => .bad) := by
  show M.bind m _ c = _
  unfold M.bind
  cases m c with
  | ok d c' => dsimp only; split <;> rfl
  | exc x c' => rfl
  | bad => rfl
@[simp] theorem bOk_non (d : D) : bOk .non d = true := by cases d <;> rfl
@[simp] theorem bindT_nm (i : Nat) (d : D) (env : Env) : bindT (.nm i) d env = some (env.set i (.val d)) := by simp only [bindT]
@[simp] theorem bindT_tup (ts : List Tg) (ds : List D) (env : Env) : bindT (.tp ts) (.tup ds) env = bindTs ts ds env := by simp only [bindT]
@[simp] theorem bindT_pr (ts : List Tg) (ds : List D) (env : Env) : bindT (.tp ts) (.pr ds) env = bindTs ts ds env := by simp only [bindT]
@[simp] theorem bindTs_nil (env : Env) : bindTs [] [] env = some env := by simp only [bindTs]
@[simp] theorem bindTs_cons (t : Tg) (ts : List Tg) (d : D) (ds : List D) (env : Env) : bindTs (t :: ts) (d :: ds) env = (bindT t d env).bind fun env' => bindTs ts ds env' := by simp only [bindTs]
theorem callF_at {tab : Nat → Option FD} {n f : Nat} {fd : FD} {ds : List D} {c : Cells} (h : tab f = some fd) (hl : ds.length = fd.np) : callF tab (n + 1) f ds c = outF c.length (evSs (callF tab n) wFuel fd.body (ds.map Slot.val ++ List.replicate (fd.nv - fd.np) .emp) c) := by
  rw [callF_some h, if_pos hl]
  rfl
section
variable {cf : Nat → List D → M D} {wf : Nat} {s : S} {ss : List S} {env env' : Env} {c c' : Cells} {d : D} {x : Nat}
theorem sq_nx (h : evS cf wf s env c = .ok (.nx env') c') : evSs cf wf (s :: ss) env c = evSs cf wf ss env' c' := by
  simp [h]
theorem ss_rt (h : evS cf wf s env c = .ok (.rt d) c') : evSs cf wf (s :: ss) env c = .ok (.rt d) c' := by
  simp [h]
theorem ss_exc (h : evS cf wf s env c = .exc x c') : evSs cf wf (s :: ss) env c = .exc x c' := by
  simp [h]
end
end Hg
end
section
set_option Elab.async false
set_option linter.all false
set_option autoImplicit false
set_option maxRecDepth 100000
/-! L1: comprehensions, walks, sorted rows of texts, dicts: plain. -/
namespace Hg
@[simp] theorem ap_calm {α : Type} (m : M α) (c : Cells) : M.calm m c = (match m c with | .exc _ _ => .bad | r => r) := rfl
theorem lcL_at {tg : Tg} {tt te : Env → M D} {env env' : Env} {x : D} {r acc : List D} (h : bindT tg x env = some env') : lcL tg tt te env (x :: r) acc = (do
      if ← M.toB (tt env') then
        let y ← te env'
        if acc.length < 1000000 then lcL tg tt te env r (acc ++ [y]) else M.bad
      else lcL tg tt te env r acc) := by
  simp only [lcL, h]
/-- a comprehension that keeps each item -/
theorem lcL_map {α : Type} {tg : Tg} {tt te : Env → M D} {env : Env} {g f : α → D} : ∀ (xs : List α) (acc : List D) (c : Cells), (∀ x ∈ xs, ∃ env', bindT tg (g x) env = some env' ∧ (∀ c, tt env' c = .ok (.bl true) c) ∧ ∀ c, te env' c = .ok (f x) c) → acc.length + xs.length ≤ 1000000 → lcL tg tt te env (xs.map g) acc c = .ok (acc ++ xs.map f) c
  | [], acc, c, _, _ => by simp [lcL]
  | x :: xs, acc, c, h, hl => by
    obtain ⟨env', h1, h2, h3⟩ := h x List.mem_cons_self
    simp only [List.length_cons] at hl
    rw [List.map_cons, lcL_at h1]
    have e := lcL_map (tg := tg) (tt := tt) (te := te) (env := env) (g := g) (f := f) xs (acc ++ [f x]) c (fun y hy => h y (List.mem_cons_of_mem _ hy)) (by simp; omega)
    have hlt : acc.length < 1000000 := by omega
    simp [h2, h3, hlt, e]
/-- a comprehension that keeps some -/
theorem lcL_filter {α : Type} {tg : Tg} {tt te : Env → M D} {env : Env} {g f : α → D} {p : α → Bool} : ∀ (xs : List α) (acc : List D) (c : Cells), (∀ x ∈ xs, ∃ env', bindT tg (g x) env = some env' ∧ (∀ c, tt env' c = .ok (.bl (p x)) c) ∧ ∀ c, p x = true → te env' c = .ok (f x) c) → acc.length + xs.length ≤ 1000000 → lcL tg tt te env (xs.map g) acc c = .ok (acc ++ (xs.filter p).map f) c
  | [], acc, c, _, _ => by simp [lcL]
  | x :: xs, acc, c, h, hl => by
    obtain ⟨env', h1, h2, h3⟩ := h x List.mem_cons_self
    simp only [List.length_cons] at hl
    rw [List.map_cons, lcL_at h1]
    have hlt : acc.length < 1000000 := by omega
    cases q : p x with
    | true =>
      have e := lcL_filter (tg := tg) (tt := tt) (te := te) (env := env) (g := g) (f := f) (p := p) xs (acc ++ [f x]) c (fun y hy => h y (List.mem_cons_of_mem _ hy)) (by simp; omega)
      simp [h2, h3 _ q, hlt, e, q]
    | false =>
      have e := lcL_filter (tg := tg) (tt := tt) (te := te) (env := env) (g := g) (f := f) (p := p) xs acc c (fun y hy => h y (List.mem_cons_of_mem _ hy)) (by omega)
      simp [h2, e, q]
theorem lcL_mapD {tg : Tg} {tt te : Env → M D} {env : Env} {f : D → D} (xs acc : List D) (c : Cells) (h : ∀ x ∈ xs, ∃ env', bindT tg x env = some env' ∧ (∀ c, tt env' c = .ok (.bl true) c) ∧ ∀ c, te env' c = .ok (f x) c) (hl : acc.length + xs.length ≤ 1000000) : lcL tg tt te env xs acc c = .ok (acc ++ xs.map f) c := by
  have := lcL_map (g := id) (f := f) xs acc c h hl
  rwa [List.map_id] at this
/-! ### rows of texts -/
theorem T.lt_irrefl (x : T) : ¬ x < x := List.lt_irrefl x
theorem T.lt_trans {x y z : T} (h : x < y) (h2 : y < z) : x < z := List.lt_trans h h2
theorem T.lt_of_not {x y : T} (h : ¬ x < y) (h2 : ¬ y < x) : x = y := List.le_antisymm (List.not_lt.mp h2) (List.not_lt.mp h)
theorem insU_memT (x y : T) : ∀ xs : List T, y ∈ insU ltT x xs ↔ y = x ∨ y ∈ xs
  | [] => by simp [insU]
  | z :: r => by
    unfold insU ltT
    by_cases h : x < z
    · simp [h]
    · by_cases h2 : z < x
      · have := insU_memT x y r
        simp only [h, h2, decide_true, decide_false, if_true, Bool.false_eq_true, if_false, List.mem_cons]
        have e : (insU (fun a b => decide (a < b)) x r) = insU ltT x r := rfl
        rw [e, this]
        constructor
        · rintro (h | h | h) <;> simp [h]
        · rintro (h | h | h) <;> simp [h]
      · have e := T.lt_of_not h h2
        subst e
        simp [h]
theorem srtU_memT (y : T) : ∀ xs : List T, y ∈ srtU ltT xs ↔ y ∈ xs
  | [] => by simp [srtU]
  | x :: r => by simp [srtU, insU_memT, srtU_memT y r]
theorem insU_lt (x : T) : ∀ xs : List T, xs.Pairwise (· < ·) → (insU ltT x xs).Pairwise (· < ·)
  | [], _ => by simp [insU]
  | z :: r, h => by
    rw [List.pairwise_cons] at h
    unfold insU ltT
    by_cases h1 : x < z
    · simp only [h1, decide_true, if_true, List.pairwise_cons]
      refine ⟨fun y hy => ?_, h⟩
      rcases List.mem_cons.mp hy with rfl | hy
      · exact h1
      · exact T.lt_trans h1 (h.1 y hy)
    · by_cases h2 : z < x
      · simp only [h1, h2, decide_true, decide_false, if_true, Bool.false_eq_true, if_false, List.pairwise_cons]
        refine ⟨fun y hy => ?_, insU_lt x r h.2⟩
        rcases (insU_memT x y r).mp hy with rfl | hy
        · exact h2
        · exact h.1 y hy
      · simp only [h1, h2, decide_false, Bool.false_eq_true, if_false, List.pairwise_cons]
        exact h
theorem srtU_lt : ∀ xs : List T, (srtU ltT xs).Pairwise (· < ·)
  | [] => by simp [srtU]
  | x :: r => insU_lt x _ (srtU_lt r)
theorem insU_len (x : T) : ∀ xs : List T, (insU ltT x xs).length ≤ xs.length + 1
  | [] => by simp [insU]
  | z :: r => by
    unfold insU
    split
    · simp
    · split
      · have := insU_len x r; simp; omega
      · simp
theorem srtU_len : ∀ xs : List T, (srtU ltT xs).length ≤ xs.length
  | [] => by simp [srtU]
  | x :: r => by
    have := insU_len x (srtU ltT r)
    have := srtU_len r
    simp [srtU]; omega
theorem rising_nodup {xs : List T} (h : xs.Pairwise (· < ·)) : xs.Nodup := h.imp fun {a b} (hab : a < b) (e : a = b) => T.lt_irrefl a (by rw [e] at hab ⊢; exact hab)
theorem allStr_map (ts : List T) : allStr (ts.map D.str) = some ts := by
  induction ts with
  | nil => rfl
  | cons t ts ih => simp [allStr, ih]
theorem ssetD_map {ts : List T} (h : ts.length < 64) : ssetD (ts.map D.str) = some (.lst ((srtU ltT ts).map .str)) := by
  simp [ssetD, allStr_map, h]
theorem allInt_map (ts : List Int) : allInt (ts.map D.int) = some ts := by
  induction ts with
  | nil => rfl
  | cons t ts ih => simp [allInt, ih]
theorem allBl_map (ts : List Bool) : allBl (ts.map D.bl) = some ts := by
  induction ts with
  | nil => rfl
  | cons t ts ih => simp [allBl, ih]
theorem allBl_true {α : Type} (xs : List α) : allBl (xs.map fun _ => .bl true) = some (xs.map fun _ => true) := by
  induction xs with
  | nil => rfl
  | cons t ts ih => simp only [List.map_cons, allBl, ih]; rfl
theorem allBl_false {α : Type} (xs : List α) : allBl (xs.map fun _ => .bl false) = some (xs.map fun _ => false) := by
  induction xs with
  | nil => rfl
  | cons t ts ih => simp only [List.map_cons, allBl, ih]; rfl
theorem allInt_mapI {α : Type} (g : α → Int) (xs : List α) : allInt (xs.map fun p => .int (g p)) = some (xs.map g) := by
  induction xs with
  | nil => rfl
  | cons t ts ih => simp only [List.map_cons, allInt, ih]; rfl
theorem allStr_mapS {α : Type} (g : α → T) (xs : List α) : allStr (xs.map fun p => .str (g p)) = some (xs.map g) := by
  induction xs with
  | nil => rfl
  | cons t ts ih => simp only [List.map_cons, allStr, ih]; rfl
/-! ### dicts -/
theorem putD_new {k : T} {d : D} : ∀ {kvs : List (T × D)}, k ∉ kvs.map (·.1) → putD k d kvs = kvs ++ [(k, d)] := fun {kvs} h => by
  unfold putD
  rw [if_neg]
  simp only [List.any_eq_true, decide_eq_true_eq, not_exists, not_and]
  intro p hp e
  exact h (List.mem_map.mpr ⟨p, hp, e⟩)
theorem dictD_go : ∀ (ps acc : List (T × D)), (acc ++ ps).map (·.1) |>.Nodup → ps.foldl (fun a p => putD p.1 p.2 a) acc = acc ++ ps
  | [], acc, _ => by simp
  | p :: ps, acc, h => by
    rw [List.foldl_cons, putD_new, dictD_go ps (acc ++ [(p.1, p.2)]) (by simpa using h)]
    · simp
    · simp only [List.map_append, List.map_cons] at h
      intro hm
      rw [List.nodup_append] at h
      exact h.2.2 _ hm _ List.mem_cons_self rfl
/-- keys that come once: the dict is the row -/
theorem dictD_nodup {ps : List (T × D)} (h : (ps.map (·.1)).Nodup) : dictD ps = ps := by
  have := dictD_go ps [] (by simpa using h)
  simpa [dictD] using this
theorem lkD_none {k : T} : ∀ {kvs : List (T × D)}, k ∉ kvs.map (·.1) → lkD k kvs = none
  | [], _ => rfl
  | (x, d) :: r, h => by
    simp only [List.map_cons, List.mem_cons, not_or] at h
    unfold lkD
    rw [if_neg (fun e => h.1 e.symm)]
    exact lkD_none h.2
theorem lkD_mem {k : T} {d : D} : ∀ {kvs : List (T × D)}, (kvs.map (·.1)).Nodup → (k, d) ∈ kvs → lkD k kvs = some d
  | [], _, h => by cases h
  | (x, e) :: r, hn, h => by
    simp only [List.map_cons, List.nodup_cons] at hn
    unfold lkD
    rcases List.mem_cons.mp h with h | h
    · cases h; rw [if_pos rfl]
    · rw [if_neg]
      · exact lkD_mem hn.2 h
      · intro q; subst q
        exact hn.1 (List.mem_map.mpr ⟨_, h, rfl⟩)
mutual
theorem eqD_refl : ∀ d : D, plainD d = true → eqD d d = true
  | .non, _ => rfl
  | .bl b, _ => by simp [eqD]
  | .int i, _ => by simp [eqD]
  | .str x, _ => by simp [eqD]
  | .tup xs, h => by simp only [eqD]; exact eqDs_refl xs (by simpa [plainD] using h)
  | .lst xs, h => by simp only [eqD]; exact eqDs_refl xs (by simpa [plainD] using h)
  | .dct _, h => by simp [plainD] at h
  | .scr _, h => by simp [plainD] at h
  | .fn _, h => by simp [plainD] at h
  | .cel _, h => by simp [plainD] at h
  | .pr _, h => by simp [plainD] at h
theorem eqDs_refl : ∀ xs : List D, plainDs xs = true → eqDs xs xs = true
  | [], _ => rfl
  | x :: xs, h => by
    simp only [plainDs, Bool.and_eq_true] at h
    simp only [eqDs, Bool.and_eq_true]
    exact ⟨eqD_refl x h.1, eqDs_refl xs h.2⟩
end
theorem eqO_plain {a b : D} (ha : plainD a = true) (hb : plainD b = true) (hd : depD a ≤ 64) : eqO a b = some (eqD a b) := by
  unfold eqO
  split
  · simp [plainD] at ha
  · have : min (depD a) (depD b) ≤ 64 := by omega
    simp [ha, hb, this]
theorem cmp_eq_self {a : D} (ha : plainD a = true) (hd : depD a ≤ 64) : cmpD .eq a a = some true := by
  show eqO a a = _
  rw [eqO_plain ha ha hd, eqD_refl a ha]
theorem cmp_ne_self {a : D} (ha : plainD a = true) (hd : depD a ≤ 64) : cmpD .ne a a = some false := by
  show (eqO a a).map _ = _
  rw [eqO_plain ha ha hd, eqD_refl a ha]
  rfl
theorem plain_strs : ∀ ts : List T, plainDs (ts.map .str) = true
  | [] => rfl
  | t :: ts => by simp [plainDs, plainD, plain_strs ts]
theorem dep_strs : ∀ ts : List T, depDs (ts.map .str) = 0
  | [] => rfl
  | t :: ts => by simp [depDs, depD, dep_strs ts]
end Hg
end
section
set_option Elab.async false
set_option linter.all false
set_option autoImplicit false
set_option maxRecDepth 100000
namespace Hg
def b0_is_whole : List S := [
  .ret (.and (.prim (.isi .int) [(.var 0)]) (.and (.not (.prim (.isi .bool) [(.var 0)])) (.chn .le .le (.var 1) (.var 0) (.var 2))))
  ]
def n0_is_whole : List T := [(tx "thing"), (tx "low"), (tx "most")]
def f0_is_whole : FD := ⟨(tx "is_whole"), 3, 3, b0_is_whole⟩
class K0 (tab : Nat → Option FD) : Prop where
  h0 : tab 0 = some f0_is_whole
def b1_is_name : List S := [
  .ret (.and (.prim (.isi .str) [(.var 0)]) (.and (.chn .le .le (.int 1) (.prim .len [(.var 0)]) (.int 3)) (.cmp .eq (.mth .strip (.var 0) [(.gstr (tx "LETTERS") (tx "abcdefghijklmnopqrstuvwxyz"))]) (.str (tx "")))))
  ]
def n1_is_name : List T := [(tx "thing")]
def f1_is_name : FD := ⟨(tx "is_name"), 1, 1, b1_is_name⟩
class K1 (tab : Nat → Option FD) : Prop where
  h1 : tab 1 = some f1_is_name
def b2_is_part : List S := [
  .ifs (.or (.not (.prim (.isi .tup) [(.var 0)])) (.or (.cmp .lt (.prim .len [(.var 0)]) (.int 2)) (.not (.prim (.isi .str) [(.ix (.var 0) (.int 0))])))) [.ret (.bl false)] [],
  .ifs (.cmp .eq (.ix (.var 0) (.int 0)) (.str (tx "weight"))) [.ret (.and (.cmp .eq (.prim .len [(.var 0)]) (.int 2)) (.call 1 [(.ix (.var 0) (.int 1))]))] [],
  .ifs (.or (.cmp .ne (.ix (.var 0) (.int 0)) (.str (tx "rod"))) (.or (.cmp .ne (.prim .len [(.var 0)]) (.int 5)) (.cmp .eq (.var 1) (.int 0)))) [.ret (.bl false)] [],
  .ifs (.or (.not (.call 0 [(.ix (.var 0) (.int 1)), (.int 1), (.gint (tx "ARM") 9)])) (.not (.call 0 [(.ix (.var 0) (.int 2)), (.int 1), (.gint (tx "ARM") 9)]))) [.ret (.bl false)] [],
  .ret (.and (.call 2 [(.ix (.var 0) (.int 3)), (.bin .sub (.var 1) (.int 1))]) (.call 2 [(.ix (.var 0) (.int 4)), (.bin .sub (.var 1) (.int 1))]))
  ]
def n2_is_part : List T := [(tx "thing"), (tx "deep")]
def f2_is_part : FD := ⟨(tx "is_part"), 2, 2, b2_is_part⟩
class K2 (tab : Nat → Option FD) : Prop extends K1 tab, K0 tab where
  h2 : tab 2 = some f2_is_part
def b3_is_mobile : List S := [
  .ret (.call 2 [(.var 0), (.gint (tx "DEEP") 5)])
  ]
def n3_is_mobile : List T := [(tx "thing")]
def f3_is_mobile : FD := ⟨(tx "is_mobile"), 1, 1, b3_is_mobile⟩
class K3 (tab : Nat → Option FD) : Prop extends K2 tab where
  h3 : tab 3 = some f3_is_mobile
def b4_need_mobile : List S := [
  .ifs (.not (.call 3 [(.var 0)])) [.rse 0] []
  ]
def n4_need_mobile : List T := [(tx "thing")]
def f4_need_mobile : FD := ⟨(tx "need_mobile"), 1, 1, b4_need_mobile⟩
class K4 (tab : Nat → Option FD) : Prop extends K3 tab where
  h4 : tab 4 = some f4_need_mobile
def b5_leaves_of : List S := [
  .ifs (.cmp .eq (.ix (.var 0) (.int 0)) (.str (tx "weight"))) [.ret (.lst [(.tup [(.var 1), (.ix (.var 0) (.int 1))])])] [],
  .ret (.bin .add (.call 5 [(.ix (.var 0) (.int 3)), (.bin .add (.var 1) (.str (tx "l")))]) (.call 5 [(.ix (.var 0) (.int 4)), (.bin .add (.var 1) (.str (tx "r")))]))
  ]
def n5_leaves_of : List T := [(tx "mobile"), (tx "way")]
def f5_leaves_of : FD := ⟨(tx "leaves_of"), 2, 2, b5_leaves_of⟩
class K5 (tab : Nat → Option FD) : Prop where
  h5 : tab 5 = some f5_leaves_of
def b6_names_of : List S := [
  .ret (.prim .sset [(.lc .e [(.call 5 [(.var 0), (.str (tx ""))])] (.tp [(.nm 1), (.nm 2)]) [1, 2] (.bl true) (.var 2))])
  ]
def n6_names_of : List T := [(tx "mobile"), (tx "way"), (tx "name")]
def f6_names_of : FD := ⟨(tx "names_of"), 1, 3, b6_names_of⟩
class K6 (tab : Nat → Option FD) : Prop extends K5 tab where
  h6 : tab 6 = some f6_names_of
def b7_are_weights : List S := [
  .ifs (.not (.prim (.isi .tup) [(.var 0)])) [.ret (.bl false)] [],
  .forr .e [(.var 0)] (.nm 1) [.ifs (.or (.not (.prim (.isi .tup) [(.var 1)])) (.or (.cmp .ne (.prim .len [(.var 1)]) (.int 2)) (.or (.not (.call 1 [(.ix (.var 1) (.int 0))])) (.not (.call 0 [(.ix (.var 1) (.int 1)), (.int 1), (.gint (tx "GREAT") 999999)]))))) [.ret (.bl false)] []],
  .ret (.prim .all [(.lc .zip [(.var 0), (.sl (.var 0) (.int 1) .non)] (.tp [(.nm 2), (.nm 3)]) [2, 3] (.bl true) (.cmp .lt (.ix (.var 2) (.int 0)) (.ix (.var 3) (.int 0))))])
  ]
def n7_are_weights : List T := [(tx "thing"), (tx "row"), (tx "one"), (tx "other")]
def f7_are_weights : FD := ⟨(tx "are_weights"), 1, 4, b7_are_weights⟩
class K7 (tab : Nat → Option FD) : Prop extends K1 tab, K0 tab where
  h7 : tab 7 = some f7_are_weights
def b8_need_weights : List S := [
  .ifs (.or (.not (.call 7 [(.var 1)])) (.prim .any [(.lc .e [(.call 6 [(.var 0)])] (.nm 2) [2] (.bl true) (.cmp .nin (.var 2) (.prim .dict [(.var 1)])))])) [.rse 2] []
  ]
def n8_need_weights : List T := [(tx "mobile"), (tx "thing"), (tx "name")]
def f8_need_weights : FD := ⟨(tx "need_weights"), 2, 3, b8_need_weights⟩
class K8 (tab : Nat → Option FD) : Prop extends K7 tab, K6 tab where
  h8 : tab 8 = some f8_need_weights
def b9_load_of : List S := [
  .ifs (.cmp .eq (.ix (.var 0) (.int 0)) (.str (tx "weight"))) [.ret (.ix (.var 1) (.ix (.var 0) (.int 1)))] [],
  .ret (.bin .add (.call 9 [(.ix (.var 0) (.int 3)), (.var 1)]) (.call 9 [(.ix (.var 0) (.int 4)), (.var 1)]))
  ]
def n9_load_of : List T := [(tx "mobile"), (tx "book")]
def f9_load_of : FD := ⟨(tx "load_of"), 2, 2, b9_load_of⟩
class K9 (tab : Nat → Option FD) : Prop where
  h9 : tab 9 = some f9_load_of
def b10_tips_of : List S := [
  .ifs (.cmp .eq (.ix (.var 0) (.int 0)) (.str (tx "weight"))) [.ret (.lst [])] [],
  .set 3 (.bin .mul (.ix (.var 0) (.int 1)) (.call 9 [(.ix (.var 0) (.int 3)), (.var 1)])),
  .set 4 (.bin .mul (.ix (.var 0) (.int 2)) (.call 9 [(.ix (.var 0) (.int 4)), (.var 1)])),
  .setO 5 (.lst []),
  .ifs (.cmp .ne (.var 3) (.var 4)) [.app 5 (.tup [(.var 2), (.ix (.lst [(.str (tx "right")), (.str (tx "left"))]) (.prim .int1 [(.cmp .gt (.var 3) (.var 4))]))])] [],
  .frz 5,
  .ret (.bin .add (.bin .add (.var 5) (.call 10 [(.ix (.var 0) (.int 3)), (.var 1), (.bin .add (.var 2) (.str (tx "l")))])) (.call 10 [(.ix (.var 0) (.int 4)), (.var 1), (.bin .add (.var 2) (.str (tx "r")))]))
  ]
def n10_tips_of : List T := [(tx "mobile"), (tx "book"), (tx "way"), (tx "left"), (tx "right"), (tx "made")]
def f10_tips_of : FD := ⟨(tx "tips_of"), 3, 6, b10_tips_of⟩
class K10 (tab : Nat → Option FD) : Prop extends K9 tab where
  h10 : tab 10 = some f10_tips_of
def b11_tips : List S := [
  .ex (.call 4 [(.var 0)]),
  .ex (.call 8 [(.var 0), (.var 1)]),
  .ret (.call 10 [(.var 0), (.prim .dict [(.var 1)]), (.str (tx ""))])
  ]
def n11_tips : List T := [(tx "mobile"), (tx "weights")]
def f11_tips : FD := ⟨(tx "tips"), 2, 2, b11_tips⟩
class K11 (tab : Nat → Option FD) : Prop extends K4 tab, K8 tab, K10 tab where
  h11 : tab 11 = some f11_tips
def b12_is_still : List S := [
  .ret (.cmp .eq (.call 11 [(.var 0), (.var 1)]) (.lst []))
  ]
def n12_is_still : List T := [(tx "mobile"), (tx "weights")]
def f12_is_still : FD := ⟨(tx "is_still"), 2, 2, b12_is_still⟩
class K12 (tab : Nat → Option FD) : Prop extends K11 tab where
  h12 : tab 12 = some f12_is_still
def b13_part_at : List S := [
  .set 2 (.var 0),
  .ifs (.or (.not (.prim (.isi .str) [(.var 1)])) (.cmp .ne (.mth .strip (.var 1) [(.str (tx "lr"))]) (.str (tx "")))) [.rse 3] [],
  .forr .e [(.var 1)] (.nm 3) [.ifs (.cmp .eq (.ix (.var 2) (.int 0)) (.str (tx "weight"))) [.rse 3] [], .set 2 (.ix (.var 2) (.bin .add (.int 3) (.prim .int1 [(.cmp .eq (.var 3) (.str (tx "r")))])))],
  .ret (.var 2)
  ]
def n13_part_at : List T := [(tx "mobile"), (tx "way"), (tx "here"), (tx "side")]
def f13_part_at : FD := ⟨(tx "part_at"), 2, 4, b13_part_at⟩
class K13 (tab : Nat → Option FD) : Prop where
  h13 : tab 13 = some f13_part_at
def b14_rod_at : List S := [
  .set 2 (.call 13 [(.var 0), (.var 1)]),
  .ifs (.cmp .eq (.ix (.var 2) (.int 0)) (.str (tx "weight"))) [.rse 3] [],
  .ret (.var 2)
  ]
def n14_rod_at : List T := [(tx "mobile"), (tx "way"), (tx "here")]
def f14_rod_at : FD := ⟨(tx "rod_at"), 2, 3, b14_rod_at⟩
class K14 (tab : Nat → Option FD) : Prop extends K13 tab where
  h14 : tab 14 = some f14_rod_at
def b15_pull_of : List S := [
  .ret (.tup [(.bin .mul (.ix (.var 0) (.int 1)) (.call 9 [(.ix (.var 0) (.int 3)), (.var 1)])), (.bin .mul (.ix (.var 0) (.int 2)) (.call 9 [(.ix (.var 0) (.int 4)), (.var 1)]))])
  ]
def n15_pull_of : List T := [(tx "rod"), (tx "book")]
def f15_pull_of : FD := ⟨(tx "pull_of"), 2, 2, b15_pull_of⟩
class K15 (tab : Nat → Option FD) : Prop extends K9 tab where
  h15 : tab 15 = some f15_pull_of
def b16_pull : List S := [
  .ex (.call 4 [(.var 0)]),
  .ex (.call 8 [(.var 0), (.var 1)]),
  .ret (.call 15 [(.call 14 [(.var 0), (.var 2)]), (.prim .dict [(.var 1)])])
  ]
def n16_pull : List T := [(tx "mobile"), (tx "weights"), (tx "way")]
def f16_pull : FD := ⟨(tx "pull"), 3, 3, b16_pull⟩
class K16 (tab : Nat → Option FD) : Prop extends K4 tab, K8 tab, K15 tab, K14 tab where
  h16 : tab 16 = some f16_pull
def b17_pulls : List S := [
  .ifs (.cmp .eq (.ix (.var 0) (.int 0)) (.str (tx "weight"))) [.ret (.lst [])] [],
  .unp (.tp [(.nm 3), (.nm 4)]) (.call 15 [(.var 0), (.var 1)]),
  .ret (.bin .add (.bin .add (.lst [(.tup [(.var 2), (.prim .abs [(.bin .sub (.var 3) (.var 4))])])]) (.call 17 [(.ix (.var 0) (.int 3)), (.var 1), (.bin .add (.var 2) (.str (tx "l")))])) (.call 17 [(.ix (.var 0) (.int 4)), (.var 1), (.bin .add (.var 2) (.str (tx "r")))]))
  ]
def n17_pulls : List T := [(tx "part"), (tx "book"), (tx "way"), (tx "left"), (tx "right")]
def f17_pulls : FD := ⟨(tx "pulls"), 3, 5, b17_pulls⟩
class K17 (tab : Nat → Option FD) : Prop extends K15 tab where
  h17 : tab 17 = some f17_pulls
def b18_worst : List S := [
  .ex (.call 4 [(.var 0)]),
  .ex (.call 8 [(.var 0), (.var 1)]),
  .set 2 (.call 17 [(.var 0), (.prim .dict [(.var 1)]), (.str (tx ""))]),
  .set 3 (.prim .max1 [(.bin .add (.lst [(.int 0)]) (.lc .e [(.var 2)] (.tp [(.nm 5), (.nm 6)]) [5, 6] (.bl true) (.var 6)))]),
  .set 4 (.lc .e [(.var 2)] (.tp [(.nm 5), (.nm 6)]) [5, 6] (.cmp .eq (.var 6) (.var 3)) (.var 5)),
  .ret (.ite (.cmp .gt (.var 3) (.int 0)) (.ix (.var 4) (.int 0)) .non)
  ]
def n18_worst : List T := [(tx "mobile"), (tx "weights"), (tx "rows"), (tx "most"), (tx "some"), (tx "way"), (tx "many")]
def f18_worst : FD := ⟨(tx "worst"), 2, 7, b18_worst⟩
class K18 (tab : Nat → Option FD) : Prop extends K4 tab, K8 tab, K17 tab where
  h18 : tab 18 = some f18_worst
def b19__law_cell_at : List S := [
  .ifs (.cmp .lt (.var 1) (.prim .len [(.var 0)])) [.ret (.ix (.var 0) (.var 1))] [],
  .ifs (.cmp .eq (.var 0) (.lst [])) [.ret (.int 0)] [],
  .ret (.bin .add (.bin .mul (.ix (.var 0) (.bin .mod (.var 1) (.prim .len [(.var 0)]))) (.int 31)) (.var 1))
  ]
def n19__law_cell_at : List T := [(tx "_law_script"), (tx "_law_k")]
def f19__law_cell_at : FD := ⟨(tx "_law_cell_at"), 2, 2, b19__law_cell_at⟩
class K19 (tab : Nat → Option FD) : Prop where
  h19 : tab 19 = some f19__law_cell_at
def b20__law_mixed : List S := [
  .set 3 (.bin .mod (.bin .add (.bin .add (.bin .mul (.call 19 [(.var 0), (.var 1)]) (.int 1103515245)) (.bin .mul (.int 7919) (.var 1))) (.int 12345)) (.int 2147483647)),
  .ret (.bin .mod (.bin .mod (.bin .mod (.bin .pow (.var 3) (.int 5)) (.int 2147483647)) (.int 999983)) (.var 2))
  ]
def n20__law_mixed : List T := [(tx "_law_script"), (tx "_law_k"), (tx "_law_many"), (tx "_law_drawn")]
def f20__law_mixed : FD := ⟨(tx "_law_mixed"), 3, 4, b20__law_mixed⟩
class K20 (tab : Nat → Option FD) : Prop extends K19 tab where
  h20 : tab 20 = some f20__law_mixed
def b21__law_draw : List S := [
  .capp 1 (.int 0),
  .ret (.call 20 [(.var 0), (.cln 1), (.var 2)])
  ]
def n21__law_draw : List T := [(tx "_law_script"), (tx "_law_town"), (tx "_law_many")]
def f21__law_draw : FD := ⟨(tx "_law_draw"), 3, 3, b21__law_draw⟩
class K21 (tab : Nat → Option FD) : Prop extends K20 tab where
  h21 : tab 21 = some f21__law_draw
def b22__law_pick : List S := [
  .ret (.ix (.var 2) (.call 21 [(.var 0), (.var 1), (.prim .len [(.var 2)])]))
  ]
def n22__law_pick : List T := [(tx "_law_script"), (tx "_law_town"), (tx "_law_some_here")]
def f22__law_pick : FD := ⟨(tx "_law_pick"), 3, 3, b22__law_pick⟩
class K22 (tab : Nat → Option FD) : Prop extends K21 tab where
  h22 : tab 22 = some f22__law_pick
def b23__law_mobile : List S := [
  .ifs (.or (.cmp .eq (.var 3) (.int 0)) (.cmp .eq (.call 21 [(.var 0), (.var 1), (.int 4)]) (.int 0))) [.ret (.tup [(.str (tx "weight")), (.call 22 [(.var 0), (.var 1), (.var 2)])])] [],
  .set 4 (.call 22 [(.var 0), (.var 1), (.lst [(.int 2), (.int 3), (.int 4), (.int 9)])]),
  .par 6 7 (.bin .add (.int 1) (.call 21 [(.var 0), (.var 1), (.var 4)])) (.bin .add (.int 1) (.call 21 [(.var 0), (.var 1), (.var 4)])),
  .set 5 (.call 23 [(.var 0), (.var 1), (.var 2), (.bin .sub (.var 3) (.int 1))]),
  .ret (.tup [(.str (tx "rod")), (.var 6), (.var 7), (.var 5), (.call 23 [(.var 0), (.var 1), (.var 2), (.bin .sub (.var 3) (.int 1))])])
  ]
def n23__law_mobile : List T := [(tx "_law_script"), (tx "_law_town"), (tx "_law_names_here"), (tx "_law_deep"), (tx "_law_most"), (tx "_law_one"), (tx "_law_left"), (tx "_law_right")]
def f23__law_mobile : FD := ⟨(tx "_law_mobile"), 4, 8, b23__law_mobile⟩
class K23 (tab : Nat → Option FD) : Prop extends K22 tab, K21 tab where
  h23 : tab 23 = some f23__law_mobile
def b24__law_fresh : List S := [
  .ifs (.cmp .eq (.ix (.var 0) (.int 0)) (.str (tx "weight"))) [.capp 1 (.int 0), .ret (.tup [(.str (tx "weight")), (.ix (.str (tx "abcdefghijklmnopqrstuvwxyz")) (.bin .mod (.bin .mul (.cln 1) (.int 7)) (.int 26)))])] [],
  .set 2 (.call 24 [(.ix (.var 0) (.int 3)), (.var 1)]),
  .ret (.bin .add (.sl (.var 0) .non (.int 3)) (.tup [(.var 2), (.call 24 [(.ix (.var 0) (.int 4)), (.var 1)])]))
  ]
def n24__law_fresh : List T := [(tx "_law_part"), (tx "_law_row"), (tx "_law_one")]
def f24__law_fresh : FD := ⟨(tx "_law_fresh"), 2, 3, b24__law_fresh⟩
class K24 (tab : Nat → Option FD) : Prop where
  h24 : tab 24 = some f24__law_fresh
def b25__law_some : List S := [
  .set 3 (.call 23 [(.var 0), (.var 1), (.call 22 [(.var 0), (.var 1), (.lst [(.lst [(.str (tx "a"))]), (.lst [(.str (tx "a")), (.str (tx "b"))]), (.lst [(.str (tx "x")), (.str (tx "b")), (.str (tx "kk")), (.str (tx "c"))])])]), (.var 2)]),
  .ret (.ite (.cmp .eq (.call 21 [(.var 0), (.var 1), (.int 2)]) (.int 0)) (.var 3) (.calln 24 [(.var 3)]))
  ]
def n25__law_some : List T := [(tx "_law_script"), (tx "_law_town"), (tx "_law_deep"), (tx "_law_part")]
def f25__law_some : FD := ⟨(tx "_law_some"), 3, 4, b25__law_some⟩
class K25 (tab : Nat → Option FD) : Prop extends K23 tab, K22 tab, K24 tab, K21 tab where
  h25 : tab 25 = some f25__law_some
def b26__law_rods : List S := [
  .ifs (.cmp .eq (.ix (.var 0) (.int 0)) (.str (tx "weight"))) [.ret (.lst [])] [],
  .ret (.bin .add (.bin .add (.lst [(.tup [(.var 1), (.var 0)])]) (.call 26 [(.ix (.var 0) (.int 3)), (.bin .add (.var 1) (.str (tx "l")))])) (.call 26 [(.ix (.var 0) (.int 4)), (.bin .add (.var 1) (.str (tx "r")))]))
  ]
def n26__law_rods : List T := [(tx "_law_part"), (tx "_law_way")]
def f26__law_rods : FD := ⟨(tx "_law_rods"), 2, 2, b26__law_rods⟩
class K26 (tab : Nat → Option FD) : Prop where
  h26 : tab 26 = some f26__law_rods
def b27__law_leaves : List S := [
  .ret (.ite (.cmp .eq (.ix (.var 0) (.int 0)) (.str (tx "weight"))) (.lst [(.ix (.var 0) (.int 1))]) (.bin .add (.call 27 [(.ix (.var 0) (.int 3))]) (.call 27 [(.ix (.var 0) (.int 4))])))
  ]
def n27__law_leaves : List T := [(tx "_law_part")]
def f27__law_leaves : FD := ⟨(tx "_law_leaves"), 1, 1, b27__law_leaves⟩
class K27 (tab : Nat → Option FD) : Prop where
  h27 : tab 27 = some f27__law_leaves
def b28__law_names : List S := [
  .ret (.prim .sset [(.call 27 [(.var 0)])])
  ]
def n28__law_names : List T := [(tx "_law_part")]
def f28__law_names : FD := ⟨(tx "_law_names"), 1, 1, b28__law_names⟩
class K28 (tab : Nat → Option FD) : Prop extends K27 tab where
  h28 : tab 28 = some f28__law_names
def b29__law_weights : List S := [
  .set 3 (.call 22 [(.var 0), (.var 1), (.lst [(.int 1), (.int 2), (.int 4), (.int 12)])]),
  .ret (.prim .tupl [(.lc .e [(.var 2)] (.nm 4) [4] (.bl true) (.tup [(.var 4), (.bin .add (.int 1) (.call 21 [(.var 0), (.var 1), (.var 3)]))]))])
  ]
def n29__law_weights : List T := [(tx "_law_script"), (tx "_law_town"), (tx "_law_names_here"), (tx "_law_wide"), (tx "_law_name")]
def f29__law_weights : FD := ⟨(tx "_law_weights"), 3, 5, b29__law_weights⟩
class K29 (tab : Nat → Option FD) : Prop extends K22 tab, K21 tab where
  h29 : tab 29 = some f29__law_weights
def b30__law_load : List S := [
  .ret (.prim .sum [(.lc .e [(.call 27 [(.var 0)])] (.nm 2) [2] (.bl true) (.ix (.var 1) (.var 2)))])
  ]
def n30__law_load : List T := [(tx "_law_part"), (tx "_law_book"), (tx "_law_name")]
def f30__law_load : FD := ⟨(tx "_law_load"), 2, 3, b30__law_load⟩
class K30 (tab : Nat → Option FD) : Prop extends K27 tab where
  h30 : tab 30 = some f30__law_load
def b32_with_part : List S := [
  .ifs (.cmp .eq (.var 1) (.str (tx ""))) [.ret (.var 2)] [],
  .ifs (.cmp .eq (.ix (.var 1) (.int 0)) (.str (tx "l"))) [.ret (.bin .add (.sl (.var 0) .non (.int 3)) (.tup [(.call 32 [(.ix (.var 0) (.int 3)), (.sl (.var 1) (.int 1) .non), (.var 2)]), (.ix (.var 0) (.int 4))]))] [],
  .ret (.bin .add (.sl (.var 0) .non (.int 4)) (.tup [(.call 32 [(.ix (.var 0) (.int 4)), (.sl (.var 1) (.int 1) .non), (.var 2)])]))
  ]
def n32_with_part : List T := [(tx "mobile"), (tx "way"), (tx "part")]
def f32_with_part : FD := ⟨(tx "with_part"), 3, 3, b32_with_part⟩
class K32 (tab : Nat → Option FD) : Prop where
  h32 : tab 32 = some f32_with_part
def b38_reduced : List S := [
  .par 2 3 (.var 0) (.var 1),
  .whl (.cmp .ne (.var 3) (.int 0)) [.par 2 3 (.var 3) (.bin .mod (.var 2) (.var 3))],
  .ret (.tup [(.bin .fdiv (.var 0) (.var 2)), (.bin .fdiv (.var 1) (.var 2))])
  ]
def n38_reduced : List T := [(tx "up"), (tx "down"), (tx "one"), (tx "other")]
def f38_reduced : FD := ⟨(tx "reduced"), 2, 4, b38_reduced⟩
class K38 (tab : Nat → Option FD) : Prop where
  h38 : tab 38 = some f38_reduced
def b39_turned : List S := [
  .ex (.call 4 [(.var 0)]),
  .set 2 (.call 14 [(.var 0), (.var 1)]),
  .ret (.call 32 [(.var 0), (.var 1), (.tup [(.str (tx "rod")), (.ix (.var 2) (.int 2)), (.ix (.var 2) (.int 1)), (.ix (.var 2) (.int 4)), (.ix (.var 2) (.int 3))])])
  ]
def n39_turned : List T := [(tx "mobile"), (tx "way"), (tx "rod")]
def f39_turned : FD := ⟨(tx "turned"), 2, 3, b39_turned⟩
class K39 (tab : Nat → Option FD) : Prop extends K4 tab, K14 tab, K32 tab where
  h39 : tab 39 = some f39_turned
def b40_plain_part : List S := [
  .ifs (.cmp .eq (.ix (.var 0) (.int 0)) (.str (tx "weight"))) [.ret (.var 0)] [],
  .unp (.tp [(.nm 1), (.nm 2)]) (.call 38 [(.ix (.var 0) (.int 1)), (.ix (.var 0) (.int 2))]),
  .ret (.tup [(.str (tx "rod")), (.var 1), (.var 2), (.call 40 [(.ix (.var 0) (.int 3))]), (.call 40 [(.ix (.var 0) (.int 4))])])
  ]
def n40_plain_part : List T := [(tx "part"), (tx "left"), (tx "right")]
def f40_plain_part : FD := ⟨(tx "plain_part"), 1, 3, b40_plain_part⟩
class K40 (tab : Nat → Option FD) : Prop extends K38 tab where
  h40 : tab 40 = some f40_plain_part
def b41_plain : List S := [
  .ex (.call 4 [(.var 0)]),
  .ret (.call 40 [(.var 0)])
  ]
def n41_plain : List T := [(tx "mobile")]
def f41_plain : FD := ⟨(tx "plain"), 1, 1, b41_plain⟩
class K41 (tab : Nat → Option FD) : Prop extends K4 tab, K40 tab where
  h41 : tab 41 = some f41_plain
def b43_load : List S := [
  .ex (.call 4 [(.var 0)]),
  .ex (.call 8 [(.var 0), (.var 1)]),
  .ret (.call 9 [(.var 0), (.prim .dict [(.var 1)])])
  ]
def n43_load : List T := [(tx "mobile"), (tx "weights")]
def f43_load : FD := ⟨(tx "load"), 2, 2, b43_load⟩
class K43 (tab : Nat → Option FD) : Prop extends K4 tab, K8 tab, K9 tab where
  h43 : tab 43 = some f43_load
def b44_longer : List S := [
  .ex (.call 4 [(.var 0)]),
  .set 3 (.call 14 [(.var 0), (.var 1)]),
  .ifs (.not (.call 0 [(.var 2), (.int 1), (.gint (tx "ARM") 9)])) [.rse 4] [],
  .ifs (.cmp .gt (.bin .mul (.var 2) (.prim .max2 [(.ix (.var 3) (.int 1)), (.ix (.var 3) (.int 2))])) (.gint (tx "ARM") 9)) [.rse 6] [],
  .ret (.call 32 [(.var 0), (.var 1), (.tup [(.str (tx "rod")), (.bin .mul (.var 2) (.ix (.var 3) (.int 1))), (.bin .mul (.var 2) (.ix (.var 3) (.int 2))), (.ix (.var 3) (.int 3)), (.ix (.var 3) (.int 4))])])
  ]
def n44_longer : List T := [(tx "mobile"), (tx "way"), (tx "many"), (tx "rod")]
def f44_longer : FD := ⟨(tx "longer"), 3, 4, b44_longer⟩
class K44 (tab : Nat → Option FD) : Prop extends K4 tab, K14 tab, K32 tab, K0 tab where
  h44 : tab 44 = some f44_longer
def b47_armed : List S := [
  .ifs (.cmp .eq (.ix (.var 0) (.int 0)) (.str (tx "weight"))) [.ret (.var 0)] [],
  .unp (.tp [(.nm 2), (.nm 3)]) (.call 38 [(.call 9 [(.ix (.var 0) (.int 3)), (.var 1)]), (.call 9 [(.ix (.var 0) (.int 4)), (.var 1)])]),
  .ifs (.cmp .gt (.prim .max2 [(.var 3), (.var 2)]) (.gint (tx "ARM") 9)) [.rse 6] [],
  .ret (.tup [(.str (tx "rod")), (.var 3), (.var 2), (.call 47 [(.ix (.var 0) (.int 3)), (.var 1)]), (.call 47 [(.ix (.var 0) (.int 4)), (.var 1)])])
  ]
def n47_armed : List T := [(tx "part"), (tx "book"), (tx "right"), (tx "left")]
def f47_armed : FD := ⟨(tx "armed"), 2, 4, b47_armed⟩
class K47 (tab : Nat → Option FD) : Prop extends K38 tab, K9 tab where
  h47 : tab 47 = some f47_armed
def b48_arms_for : List S := [
  .ex (.call 4 [(.var 0)]),
  .ex (.call 8 [(.var 0), (.var 1)]),
  .ret (.call 47 [(.var 0), (.prim .dict [(.var 1)])])
  ]
def n48_arms_for : List T := [(tx "mobile"), (tx "weights")]
def f48_arms_for : FD := ⟨(tx "arms_for"), 2, 2, b48_arms_for⟩
class K48 (tab : Nat → Option FD) : Prop extends K4 tab, K8 tab, K47 tab where
  h48 : tab 48 = some f48_arms_for
def b49_arm_ways : List S := [
  .ifs (.cmp .eq (.ix (.var 0) (.int 0)) (.str (tx "weight"))) [.ret (.int 1)] [],
  .unp (.tp [(.nm 2), (.nm 3)]) (.call 38 [(.call 9 [(.ix (.var 0) (.int 3)), (.var 1)]), (.call 9 [(.ix (.var 0) (.int 4)), (.var 1)])]),
  .ret (.bin .mul (.bin .mul (.bin .fdiv (.gint (tx "ARM") 9) (.prim .max2 [(.var 3), (.var 2)])) (.call 49 [(.ix (.var 0) (.int 3)), (.var 1)])) (.call 49 [(.ix (.var 0) (.int 4)), (.var 1)]))
  ]
def n49_arm_ways : List T := [(tx "part"), (tx "book"), (tx "right"), (tx "left")]
def f49_arm_ways : FD := ⟨(tx "arm_ways"), 2, 4, b49_arm_ways⟩
class K49 (tab : Nat → Option FD) : Prop extends K38 tab, K9 tab where
  h49 : tab 49 = some f49_arm_ways
def b50_how_many_arms : List S := [
  .ex (.call 4 [(.var 0)]),
  .ex (.call 8 [(.var 0), (.var 1)]),
  .ret (.call 49 [(.var 0), (.prim .dict [(.var 1)])])
  ]
def n50_how_many_arms : List T := [(tx "mobile"), (tx "weights")]
def f50_how_many_arms : FD := ⟨(tx "how_many_arms"), 2, 2, b50_how_many_arms⟩
class K50 (tab : Nat → Option FD) : Prop extends K4 tab, K8 tab, K49 tab where
  h50 : tab 50 = some f50_how_many_arms
def b51_hung : List S := [
  .ex (.call 4 [(.var 0)]),
  .ex (.call 4 [(.var 1)]),
  .ex (.call 8 [(.var 0), (.var 2)]),
  .ex (.call 8 [(.var 1), (.var 2)]),
  .set 3 (.prim .dict [(.var 2)]),
  .unp (.tp [(.nm 5), (.nm 6)]) (.call 38 [(.call 9 [(.var 0), (.var 3)]), (.call 9 [(.var 1), (.var 3)])]),
  .ifs (.cmp .gt (.prim .max2 [(.var 6), (.var 5)]) (.gint (tx "ARM") 9)) [.rse 6] [],
  .set 4 (.tup [(.str (tx "rod")), (.var 6), (.var 5), (.var 0), (.var 1)]),
  .ifs (.not (.call 3 [(.var 4)])) [.rse 7] [],
  .ret (.var 4)
  ]
def n51_hung : List T := [(tx "one"), (tx "other"), (tx "weights"), (tx "book"), (tx "made"), (tx "right"), (tx "left")]
def f51_hung : FD := ⟨(tx "hung"), 3, 7, b51_hung⟩
class K51 (tab : Nat → Option FD) : Prop extends K4 tab, K8 tab, K38 tab, K9 tab, K3 tab where
  h51 : tab 51 = some f51_hung
def b56__law_still : List S := [
  .forr .e [(.call 26 [(.var 0), (.str (tx ""))])] (.tp [(.nm 2), (.nm 3)]) [.ifs (.cmp .ne (.bin .mul (.ix (.var 3) (.int 1)) (.call 30 [(.ix (.var 3) (.int 3)), (.var 1)])) (.bin .mul (.ix (.var 3) (.int 2)) (.call 30 [(.ix (.var 3) (.int 4)), (.var 1)]))) [.ret (.bl false)] []],
  .ret (.bl true)
  ]
def n56__law_still : List T := [(tx "_law_part"), (tx "_law_book"), (tx "_law_way"), (tx "_law_rod")]
def f56__law_still : FD := ⟨(tx "_law_still"), 2, 4, b56__law_still⟩
class K56 (tab : Nat → Option FD) : Prop extends K26 tab, K30 tab where
  h56 : tab 56 = some f56__law_still
def b60__law_pairs : List S := [
  .setO 2 (.lst []),
  .forr .rng2 [(.int 1), (.int 10)] (.nm 3) [.ext 2 (.lc .rng2 [(.int 1), (.int 10)] (.nm 4) [4] (.cmp .eq (.bin .mul (.var 3) (.var 0)) (.bin .mul (.var 4) (.var 1))) (.tup [(.var 3), (.var 4)]))],
  .frz 2,
  .ret (.var 2)
  ]
def n60__law_pairs : List T := [(tx "_law_left"), (tx "_law_right"), (tx "_law_made"), (tx "_law_one"), (tx "_law_other")]
def f60__law_pairs : FD := ⟨(tx "_law_pairs"), 2, 5, b60__law_pairs⟩
class K60 (tab : Nat → Option FD) : Prop where
  h60 : tab 60 = some f60__law_pairs
def b61__law_armed : List S := [
  .ifs (.cmp .eq (.ix (.var 0) (.int 0)) (.str (tx "weight"))) [.ret (.var 0)] [],
  .set 2 (.call 60 [(.call 30 [(.ix (.var 0) (.int 3)), (.var 1)]), (.call 30 [(.ix (.var 0) (.int 4)), (.var 1)])]),
  .par 3 4 (.call 61 [(.ix (.var 0) (.int 3)), (.var 1)]) (.call 61 [(.ix (.var 0) (.int 4)), (.var 1)]),
  .ret (.ite (.and (.cmp .ne (.var 2) (.lst [])) (.cmp .nin .non (.tup [(.var 3), (.var 4)]))) (.bin .add (.bin .add (.tup [(.str (tx "rod"))]) (.ix (.var 2) (.int 0))) (.tup [(.var 3), (.var 4)])) .non)
  ]
def n61__law_armed : List T := [(tx "_law_part"), (tx "_law_book"), (tx "_law_pairs_here"), (tx "_law_one"), (tx "_law_other")]
def f61__law_armed : FD := ⟨(tx "_law_armed"), 2, 5, b61__law_armed⟩
class K61 (tab : Nat → Option FD) : Prop extends K60 tab, K30 tab where
  h61 : tab 61 = some f61__law_armed
def b63_shares_of : List S := [
  .ifs (.cmp .eq (.ix (.var 0) (.int 0)) (.str (tx "weight"))) [.ret (.lst [(.var 1)])] [],
  .set 2 (.bin .add (.ix (.var 0) (.int 1)) (.ix (.var 0) (.int 2))),
  .set 3 (.call 38 [(.bin .mul (.ix (.var 1) (.int 0)) (.ix (.var 0) (.int 2))), (.bin .mul (.ix (.var 1) (.int 1)) (.var 2))]),
  .set 4 (.call 38 [(.bin .mul (.ix (.var 1) (.int 0)) (.ix (.var 0) (.int 1))), (.bin .mul (.ix (.var 1) (.int 1)) (.var 2))]),
  .ret (.bin .add (.call 63 [(.ix (.var 0) (.int 3)), (.var 3)]) (.call 63 [(.ix (.var 0) (.int 4)), (.var 4)]))
  ]
def n63_shares_of : List T := [(tx "mobile"), (tx "share"), (tx "whole"), (tx "left"), (tx "right")]
def f63_shares_of : FD := ⟨(tx "shares_of"), 2, 5, b63_shares_of⟩
class K63 (tab : Nat → Option FD) : Prop extends K38 tab where
  h63 : tab 63 = some f63_shares_of
def b64_rows_of : List S := [
  .set 1 (.call 5 [(.var 0), (.str (tx ""))]),
  .ret (.lc .zip [(.var 1), (.call 63 [(.var 0), (.tup [(.int 1), (.int 1)])])] (.tp [(.tp [(.nm 3), (.nm 4)]), (.nm 2)]) [2, 3, 4] (.bl true) (.tup [(.var 3), (.var 4), (.var 2)]))
  ]
def n64_rows_of : List T := [(tx "mobile"), (tx "some"), (tx "share"), (tx "way"), (tx "name")]
def f64_rows_of : FD := ⟨(tx "rows_of"), 1, 5, b64_rows_of⟩
class K64 (tab : Nat → Option FD) : Prop extends K5 tab, K63 tab where
  h64 : tab 64 = some f64_rows_of
def b65_bar_of : List S := [
  .setD 1 none,
  .forr .e [(.call 64 [(.var 0)])] (.tp [(.nm 2), (.nm 3), (.nm 4)]) [.ifs (.ocr .nin (.var 3) 1) [.put 1 (.var 3) (.tup [(.var 2), (.var 4)])] [.ifs (.cmp .ne (.ix (.osub 1 (.var 3)) (.int 1)) (.var 4)) [.ret (.tup [(.ix (.osub 1 (.var 3)) (.int 0)), (.var 2)])] []]],
  .ret .non
  ]
def n65_bar_of : List T := [(tx "mobile"), (tx "first"), (tx "way"), (tx "name"), (tx "share")]
def f65_bar_of : FD := ⟨(tx "bar_of"), 1, 5, b65_bar_of⟩
class K65 (tab : Nat → Option FD) : Prop extends K64 tab where
  h65 : tab 65 = some f65_bar_of
def b66_bar : List S := [
  .ex (.call 4 [(.var 0)]),
  .ret (.call 65 [(.var 0)])
  ]
def n66_bar : List T := [(tx "mobile")]
def f66_bar : FD := ⟨(tx "bar"), 1, 1, b66_bar⟩
class K66 (tab : Nat → Option FD) : Prop extends K4 tab, K65 tab where
  h66 : tab 66 = some f66_bar
def b67_book_of : List S := [
  .ret (.prim .dict [(.lc .e [(.call 64 [(.var 0)])] (.tp [(.nm 1), (.nm 2), (.nm 3)]) [1, 2, 3] (.bl true) (.tup [(.var 2), (.var 3)]))])
  ]
def n67_book_of : List T := [(tx "mobile"), (tx "way"), (tx "name"), (tx "share")]
def f67_book_of : FD := ⟨(tx "book_of"), 1, 4, b67_book_of⟩
class K67 (tab : Nat → Option FD) : Prop extends K64 tab where
  h67 : tab 67 = some f67_book_of
def b68_common : List S := [
  .set 1 (.int 1),
  .forr .e [(.var 0)] (.nm 2) [.par 3 4 (.var 1) (.var 2), .whl (.cmp .ne (.var 4) (.int 0)) [.par 3 4 (.var 4) (.bin .mod (.var 3) (.var 4))], .set 1 (.bin .fdiv (.bin .mul (.var 1) (.var 2)) (.var 3))],
  .ret (.var 1)
  ]
def n68_common : List T := [(tx "numbers"), (tx "made"), (tx "number"), (tx "one"), (tx "other")]
def f68_common : FD := ⟨(tx "common"), 1, 5, b68_common⟩
class K68 (tab : Nat → Option FD) : Prop where
  h68 : tab 68 = some f68_common
def b69_divisor : List S := [
  .set 1 (.int 0),
  .forr .e [(.var 0)] (.nm 2) [.par 3 4 (.var 1) (.var 2), .whl (.cmp .ne (.var 4) (.int 0)) [.par 3 4 (.var 4) (.bin .mod (.var 3) (.var 4))], .set 1 (.var 3)],
  .ret (.var 1)
  ]
def n69_divisor : List T := [(tx "numbers"), (tx "made"), (tx "number"), (tx "one"), (tx "other")]
def f69_divisor : FD := ⟨(tx "divisor"), 1, 5, b69_divisor⟩
class K69 (tab : Nat → Option FD) : Prop where
  h69 : tab 69 = some f69_divisor
def b70_whole_of : List S := [
  .set 1 (.call 68 [(.lc .e [(.var 0)] (.tp [(.nm 4), (.nm 5)]) [4, 5] (.bl true) (.ix (.var 5) (.int 1)))]),
  .set 2 (.lc .e [(.var 0)] (.tp [(.nm 4), (.nm 5)]) [4, 5] (.bl true) (.tup [(.var 4), (.bin .mul (.ix (.var 5) (.int 0)) (.bin .fdiv (.var 1) (.ix (.var 5) (.int 1))))])),
  .set 3 (.call 69 [(.lc .e [(.var 2)] (.tp [(.nm 4), (.nm 6)]) [4, 6] (.bl true) (.var 6))]),
  .ret (.prim .srt [(.lc .e [(.var 2)] (.tp [(.nm 4), (.nm 6)]) [4, 6] (.bl true) (.tup [(.var 4), (.bin .fdiv (.var 6) (.var 3))]))])
  ]
def n70_whole_of : List T := [(tx "rows"), (tx "down"), (tx "numbers"), (tx "most"), (tx "name"), (tx "share"), (tx "number")]
def f70_whole_of : FD := ⟨(tx "whole_of"), 1, 7, b70_whole_of⟩
class K70 (tab : Nat → Option FD) : Prop extends K68 tab, K69 tab where
  h70 : tab 70 = some f70_whole_of
def b71_least : List S := [
  .ex (.call 4 [(.var 0)]),
  .ifs (.nisn (.call 65 [(.var 0)])) [.rse 5] [],
  .set 1 (.call 67 [(.var 0)]),
  .ret (.prim .tupl [(.call 70 [(.lc .e [(.call 6 [(.var 0)])] (.nm 2) [2] (.bl true) (.tup [(.var 2), (.ix (.var 1) (.var 2))]))])])
  ]
def n71_least : List T := [(tx "mobile"), (tx "book"), (tx "name")]
def f71_least : FD := ⟨(tx "least"), 1, 3, b71_least⟩
class K71 (tab : Nat → Option FD) : Prop extends K4 tab, K67 tab, K65 tab, K70 tab, K6 tab where
  h71 : tab 71 = some f71_least
def b74_leasts : List S := [
  .ifs (.nisn (.call 65 [(.var 0)])) [.ret .non] [],
  .set 1 (.call 67 [(.var 0)]),
  .ret (.prim .dict [(.call 70 [(.lc .e [(.call 6 [(.var 0)])] (.nm 2) [2] (.bl true) (.tup [(.var 2), (.ix (.var 1) (.var 2))]))])])
  ]
def n74_leasts : List T := [(tx "mobile"), (tx "book"), (tx "name")]
def f74_leasts : FD := ⟨(tx "leasts"), 1, 3, b74_leasts⟩
class K74 (tab : Nat → Option FD) : Prop extends K67 tab, K65 tab, K70 tab, K6 tab where
  h74 : tab 74 = some f74_leasts
def b75_other_for : List S := [
  .set 4 (.lc .e [(.var 1)] (.nm 8) [8] (.cmp .ne (.var 8) (.var 3)) (.call 38 [(.ix (.var 2) (.var 8)), (.ix (.var 1) (.var 8))])),
  .ifs (.or (.cmp .eq (.var 4) (.lst [])) (.prim .any [(.lc .e [(.var 4)] (.nm 9) [9] (.bl true) (.cmp .ne (.var 9) (.ix (.var 4) (.int 0))))])) [.ret .non] [],
  .unp (.tp [(.nm 6), (.nm 7)]) (.ix (.var 4) (.int 0)),
  .ifs (.cmp .ne (.bin .mod (.bin .mul (.var 6) (.ix (.var 1) (.var 3))) (.var 7)) (.int 0)) [.ret .non] [],
  .set 5 (.bin .fdiv (.bin .mul (.var 6) (.ix (.var 1) (.var 3))) (.var 7)),
  .ret (.ite (.and (.cmp .le (.var 5) (.gint (tx "GREAT") 999999)) (.cmp .ne (.var 5) (.ix (.var 2) (.var 3)))) (.var 5) .non)
  ]
def n75_other_for : List T := [(tx "mobile"), (tx "book"), (tx "told"), (tx "name"), (tx "some"), (tx "number"), (tx "up"), (tx "down"), (tx "other"), (tx "one")]
def f75_other_for : FD := ⟨(tx "other_for"), 4, 10, b75_other_for⟩
class K75 (tab : Nat → Option FD) : Prop extends K38 tab where
  h75 : tab 75 = some f75_other_for
def b76_one_changed : List S := [
  .ex (.call 4 [(.var 0)]),
  .ex (.call 8 [(.var 0), (.var 1)]),
  .set 2 (.call 74 [(.var 0)]),
  .ifs (.isn (.var 2)) [.ret (.lst [])] [],
  .set 3 (.lc .e [(.call 6 [(.var 0)])] (.nm 4) [4] (.bl true) (.tup [(.var 4), (.call 75 [(.var 0), (.var 2), (.prim .dict [(.var 1)]), (.var 4)])])),
  .ret (.lc .e [(.var 3)] (.nm 5) [5] (.nisn (.ix (.var 5) (.int 1))) (.var 5))
  ]
def n76_one_changed : List T := [(tx "mobile"), (tx "weights"), (tx "book"), (tx "rows"), (tx "name"), (tx "row")]
def f76_one_changed : FD := ⟨(tx "one_changed"), 2, 6, b76_one_changed⟩
class K76 (tab : Nat → Option FD) : Prop extends K4 tab, K8 tab, K74 tab, K75 tab, K6 tab where
  h76 : tab 76 = some f76_one_changed
def b77__law_mobile : List S := [
  .ifs (.or (.cmp .eq (.var 3) (.int 0)) (.cmp .eq (.call 21 [(.var 0), (.var 1), (.int 4)]) (.int 0))) [.ret (.tup [(.str (tx "weight")), (.call 22 [(.var 0), (.var 1), (.var 2)])])] [],
  .set 4 (.call 22 [(.var 0), (.var 1), (.lst [(.int 2), (.int 3), (.int 4), (.int 9)])]),
  .par 6 7 (.bin .add (.int 1) (.call 21 [(.var 0), (.var 1), (.var 4)])) (.bin .add (.int 1) (.call 21 [(.var 0), (.var 1), (.var 4)])),
  .set 5 (.call 77 [(.var 0), (.var 1), (.var 2), (.bin .sub (.var 3) (.int 1))]),
  .ret (.tup [(.str (tx "rod")), (.var 6), (.var 7), (.var 5), (.call 77 [(.var 0), (.var 1), (.var 2), (.bin .sub (.var 3) (.int 1))])])
  ]
def n77__law_mobile : List T := [(tx "_law_script"), (tx "_law_town"), (tx "_law_names"), (tx "_law_deep"), (tx "_law_most"), (tx "_law_one"), (tx "_law_left"), (tx "_law_right")]
def f77__law_mobile : FD := ⟨(tx "_law_mobile"), 4, 8, b77__law_mobile⟩
class K77 (tab : Nat → Option FD) : Prop extends K22 tab, K21 tab where
  h77 : tab 77 = some f77__law_mobile
def b78__law_some : List S := [
  .set 3 (.call 77 [(.var 0), (.var 1), (.call 22 [(.var 0), (.var 1), (.lst [(.lst [(.str (tx "a"))]), (.lst [(.str (tx "a")), (.str (tx "b"))]), (.lst [(.str (tx "x")), (.str (tx "b")), (.str (tx "kk")), (.str (tx "c"))])])]), (.var 2)]),
  .ret (.ite (.cmp .eq (.call 21 [(.var 0), (.var 1), (.int 2)]) (.int 0)) (.var 3) (.calln 24 [(.var 3)]))
  ]
def n78__law_some : List T := [(tx "_law_script"), (tx "_law_town"), (tx "_law_deep"), (tx "_law_part")]
def f78__law_some : FD := ⟨(tx "_law_some"), 3, 4, b78__law_some⟩
class K78 (tab : Nat → Option FD) : Prop extends K77 tab, K22 tab, K24 tab, K21 tab where
  h78 : tab 78 = some f78__law_some
def b183_law : List S := [
  .setN 1 (.lst []),
  .set 2 (.call 21 [(.var 0), (.var 1), (.int 3)]),
  .set 3 (.bin .add (.int 1) (.call 21 [(.var 0), (.var 1), (.int 3)])),
  .set 4 (.call 25 [(.var 0), (.var 1), (.int 3)]),
  .set 5 (.call 28 [(.var 4)]),
  .set 6 (.call 29 [(.var 0), (.var 1), (.var 5)]),
  .set 7 (.and (.isn (.call 66 [(.var 4)])) (.cmp .lt (.prim .max1 [(.lc .e [(.call 71 [(.var 4)])] (.tp [(.nm 9), (.nm 12)]) [9, 12] (.bl true) (.var 12))]) (.int 300000))),
  .ifs (.and (.cmp .gt (.var 2) (.int 0)) (.var 7)) [.set 6 (.prim .tupl [(.lc .e [(.call 71 [(.var 4)])] (.tp [(.nm 9), (.nm 12)]) [9, 12] (.bl true) (.tup [(.var 9), (.bin .mul (.var 12) (.var 3))]))]), .set 10 (.call 21 [(.var 0), (.var 1), (.prim .len [(.var 5)])]), .set 11 (.tup [(.tup [(.ix (.var 5) (.var 10)), (.bin .add (.int 1) (.call 21 [(.var 0), (.var 1), (.int 20)]))])]), .set 6 (.bin .add (.bin .add (.sl (.var 6) .non (.var 10)) (.var 11)) (.sl (.var 6) (.bin .add (.var 10) (.int 1)) .non))] [],
  .set 8 (.call 76 [(.var 4), (.var 6)]),
  .ifs (.or (.cmp .ne (.var 8) (.prim .srt [(.var 8)])) (.and (.cmp .eq (.prim .len [(.var 5)]) (.int 1)) (.cmp .ne (.var 8) (.lst [])))) [.ret (.bl false)] [],
  .forr .e [(.var 8)] (.tp [(.nm 9), (.nm 12)]) [.setO 13 (.prim .dict [(.var 6)]), .put 13 (.var 9) (.var 12), .ifs (.or (.not (.prim (.isi .int) [(.var 12)])) (.not (.chn .le .le (.int 1) (.var 12) (.int 999999)))) [.ret (.bl false)] [], .ifs (.cmp .eq (.ix (.prim .dict [(.var 6)]) (.var 9)) (.var 12)) [.ret (.bl false)] [], .frz 13, .ifs (.not (.call 56 [(.var 4), (.var 13)])) [.ret (.bl false)] []],
  .forr .e [(.bin .mul (.var 5) (.prim .int1 [(.cmp .gt (.prim .len [(.var 5)]) (.int 1))]))] (.nm 9) [.forr .rng2 [(.int 1), (.int 61)] (.nm 12) [.setO 13 (.prim .dict [(.var 6)]), .set 14 (.osub 13 (.var 9)), .put 13 (.var 9) (.var 12), .frz 13, .set 15 (.and (.call 56 [(.var 4), (.var 13)]) (.cmp .ne (.var 12) (.var 14))), .ifs (.cmp .ne (.var 15) (.cmp .inn (.tup [(.var 9), (.var 12)]) (.var 8))) [.ret (.bl false)] []]],
  .ret (.bl true)
  ]
def n183_law : List T := [(tx "_law_script"), (tx "_law_town"), (tx "_law_way"), (tx "_law_often"), (tx "_law_mobile_here"), (tx "_law_names_here"), (tx "_law_weights_here"), (tx "_law_low"), (tx "_law_made"), (tx "_law_name"), (tx "_law_at"), (tx "_law_more"), (tx "_law_number"), (tx "_law_book"), (tx "_law_old"), (tx "_law_good")]
def f183_law : FD := ⟨(tx "law"), 1, 16, b183_law⟩
class K183 (tab : Nat → Option FD) : Prop extends K21 tab, K25 tab, K28 tab, K29 tab, K76 tab, K66 tab, K56 tab, K71 tab where
  h183 : tab 183 = some f183_law
end Hg
end
section
set_option Elab.async false
set_option linter.all false
set_option autoImplicit false
set_option maxRecDepth 100000
/-! P1: mobiles: what the program asks of them. -/
namespace Hg
variable {tab : Nat → Option FD}
@[simp] theorem isi_int (i : Int) : isiD .int (.int i) = some true := rfl
@[simp] theorem isb_int (i : Int) : isiD .bool (.int i) = some false := rfl
@[simp] theorem iss_str (x : T) : isiD .str (.str x) = some true := rfl
@[simp] theorem ist_tup (x : List D) : isiD .tup (.tup x) = some true := rfl
@[simp] theorem add_str (x y : T) (h : x.length + y.length ≤ 1000000) : binD .add (.str x) (.str y) = some (.str (x ++ y)) := by simp [binD, addD, h]
@[simp] theorem add_lst (x y : List D) (h : x.length + y.length ≤ 1000000) : binD .add (.lst x) (.lst y) = some (.lst (x ++ y)) := by simp [binD, addD, h]
theorem mul_int (i j : Int) (h : i.natAbs < 2 ^ 64 ∨ j.natAbs < 2 ^ 64) : binD .mul (.int i) (.int j) = some (.int (i * j)) := by simp only [binD, h, true_or, if_true]
/-- a mobile, plain -/
inductive Mob where
  | w (n : T)
  | rod (l r : Int) (a b : Mob)
def Mob.d : Mob → D
  | .w n => .tup [.str (tx "weight"), .str n]
  | .rod l r a b => .tup [.str (tx "rod"), .int l, .int r, a.d, b.d]
def Mob.dep : Mob → Nat
  | .w _ => 0
  | .rod _ _ a b => max a.dep b.dep + 1
@[simp] theorem mob_noCel (m : Mob) : noCel m.d = true := by
  induction m with
  | w n => rfl
  | rod l r a b iha ihb => simp [Mob.d, iha, ihb]
theorem is_whole_ev [K0 tab] (i lo hi : Int) (k : Nat) (c : Cells) : callF tab (k + 1) 0 [.int i, .int lo, .int hi] c = .ok (.bl (decide (lo ≤ i) && decide (i ≤ hi))) c := by
  rw [callF_at (K0.h0 (tab := tab)) rfl]
  simp [f0_is_whole, b0_is_whole, getV, primD]
  by_cases h : lo ≤ i <;> simp [h]
/-- what is_name looks at -/
def okNm (n : T) : Bool := decide (1 ≤ n.length) && (decide (n.length ≤ 3) && (stripT n (tx "abcdefghijklmnopqrstuvwxyz") == tx ""))
theorem is_name_ev [K1 tab] (n : T) (hl : n.length ≤ 1000000) (k : Nat) (c : Cells) : callF tab (k + 1) 1 [.str n] c = .ok (.bl (okNm n)) c := by
  rw [callF_at (K1.h1 (tab := tab)) rfl]
  unfold okNm
  by_cases h5 : 1 ≤ n.length
  · have h5' : (1 : Int) ≤ n.length := by omega
    by_cases h6 : n.length ≤ 3
    · have h6' : (n.length : Int) ≤ 3 := by omega
      simp [f1_is_name, b1_is_name, getV, primD, rcvOk, hl, h5, h6, h5', h6']
    · have h6' : ¬ (n.length : Int) ≤ 3 := by omega
      simp [f1_is_name, b1_is_name, getV, primD, rcvOk, hl, h5, h6, h5', h6']
  · have h5' : ¬ (1 : Int) ≤ n.length := by omega
    simp [f1_is_name, b1_is_name, getV, primD, rcvOk, hl, h5, h5']
/-- a mobile whose names and arms are right -/
def Mob.ok : Mob → Bool
  | .w n => okNm n
  | .rod l r a b => decide (1 ≤ l) && decide (l ≤ 9) && (decide (1 ≤ r) && decide (r ≤ 9)) && (a.ok && b.ok)
theorem okNm_len {n : T} (h : okNm n = true) : 1 ≤ n.length ∧ n.length ≤ 3 := by
  simp only [okNm, Bool.and_eq_true, decide_eq_true_eq] at h
  exact ⟨h.1, h.2.1⟩
theorem is_part_ev [K2 tab] (m : Mob) : ∀ (k d : Nat) (c : Cells), m.ok = true → m.dep + 1 < k → callF tab k 2 [m.d, .int d] c = .ok (.bl (decide (m.dep ≤ d))) c := by
  induction m with
  | w n =>
    intro k d c ho hk
    obtain ⟨k, rfl⟩ : ∃ j, k = j + 1 + 1 := ⟨k - 2, by omega⟩
    rw [callF_at (K2.h2 (tab := tab)) rfl]
    have ho' : okNm n = true := ho
    have := okNm_len ho
    have e := fun c => is_name_ev (tab := tab) n (by omega) k c
    simp [f2_is_part, b2_is_part, getV, primD, Mob.d, Mob.dep, ixD, ixP, e, ho']
  | rod l r a b iha ihb =>
    intro k d c ho hk
    obtain ⟨k, rfl⟩ : ∃ j, k = j + 1 + 1 := ⟨k - 2, by omega⟩
    simp only [Mob.ok, Bool.and_eq_true, decide_eq_true_eq] at ho
    simp only [Mob.dep] at hk
    rw [callF_at (K2.h2 (tab := tab)) rfl]
    have e1 := fun c => is_whole_ev (tab := tab) l 1 9 k c
    have e2 := fun c => is_whole_ev (tab := tab) r 1 9 k c
    cases d with
    | zero => simp [f2_is_part, b2_is_part, getV, primD, Mob.d, Mob.dep, ixD, ixP, e1, e2, ho.1]
    | succ d =>
      have e3 := fun c => iha (k + 1) d c ho.2.1 (by omega)
      have e4 := fun c => ihb (k + 1) d c ho.2.2 (by omega)
      have z : ((d : Int) + 1 == 0) = false := by rw [beq_eq_false_iff_ne]; omega
      have z2 : (d : Int) + 1 - 1 = d := by omega
      by_cases q : a.dep ≤ d
      · by_cases q2 : b.dep ≤ d
        · have : max a.dep b.dep + 1 ≤ d + 1 := by omega
          simp [f2_is_part, b2_is_part, getV, primD, Mob.d, Mob.dep, ixD, ixP, e1, e2, e3, e4, ho.1, z, z2, q, q2, this]
        · have : ¬ max a.dep b.dep + 1 ≤ d + 1 := by omega
          simp [f2_is_part, b2_is_part, getV, primD, Mob.d, Mob.dep, ixD, ixP, e1, e2, e3, e4, ho.1, z, z2, q, q2, this]
      · have : ¬ max a.dep b.dep + 1 ≤ d + 1 := by omega
        simp [f2_is_part, b2_is_part, getV, primD, Mob.d, Mob.dep, ixD, ixP, e1, e2, e3, e4, ho.1, z, z2, q, this]
theorem is_mobile_ev [K3 tab] (m : Mob) (k : Nat) (c : Cells) (ho : m.ok = true) (hk : m.dep + 2 < k) : callF tab k 3 [m.d] c = .ok (.bl (decide (m.dep ≤ 5))) c := by
  obtain ⟨k, rfl⟩ : ∃ j, k = j + 1 := ⟨k - 1, by omega⟩
  rw [callF_at (K3.h3 (tab := tab)) rfl]
  have e : ∀ c, callF tab k 2 [m.d, .int 5] c = .ok (.bl (decide (m.dep ≤ 5))) c := fun c => is_part_ev m k 5 c ho (by omega)
  simp [f3_is_mobile, b3_is_mobile, getV, e]
theorem need_mobile_ev [K4 tab] (m : Mob) (k : Nat) (c : Cells) (ho : m.ok = true) (hd : m.dep ≤ 5) (hk : 8 < k) : callF tab k 4 [m.d] c = .ok .non c := by
  obtain ⟨k, rfl⟩ : ∃ j, k = j + 1 := ⟨k - 1, by omega⟩
  rw [callF_at (K4.h4 (tab := tab)) rfl]
  have e := fun c => is_mobile_ev (tab := tab) m k c ho (by omega)
  simp [f4_need_mobile, b4_need_mobile, getV, e, cutC, hd]
theorem mob_not_non (m : Mob) : ∃ xs, m.d = .tup xs := by cases m <;> exact ⟨_, rfl⟩
mutual
theorem mob_plain : ∀ m : Mob, plainD m.d = true
  | .w n => rfl
  | .rod l r a b => by simp [Mob.d, plainD, plainDs, mob_plain a, mob_plain b]
end
theorem mob_depD : ∀ m : Mob, depD m.d ≤ m.dep + 1
  | .w n => by simp [Mob.d, depD, depDs, Mob.dep]
  | .rod l r a b => by
    have h1 := mob_depD a
    have h2 := mob_depD b
    simp only [Mob.d, depD, depDs, Mob.dep]
    omega
end Hg
end
section
set_option Elab.async false
set_option linter.all false
set_option autoImplicit false
set_option maxRecDepth 100000
/-! P2: leaves, names, weights. -/
namespace Hg
variable {tab : Nat → Option FD}
def Mob.lvs : Mob → T → List (T × T)
  | .w n, u => [(u, n)]
  | .rod _ _ a b, u => a.lvs (u ++ tx "l") ++ b.lvs (u ++ tx "r")
def Mob.nms : Mob → List T
  | .w n => [n]
  | .rod _ _ a b => a.nms ++ b.nms
theorem pow_dep {a b d : Nat} (h : a ≤ b) (hb : b ≤ d) : 2 ^ a ≤ 2 ^ d := Nat.pow_le_pow_right (by omega) (by omega)
theorem nms_len : ∀ (m : Mob), m.nms.length ≤ 2 ^ m.dep
  | .w n => by simp [Mob.nms, Mob.dep]
  | .rod l r a b => by
    have h1 := nms_len a
    have h2 := nms_len b
    have h3 : 2 ^ a.dep ≤ 2 ^ max a.dep b.dep := Nat.pow_le_pow_right (by omega) (by omega)
    have h4 : 2 ^ b.dep ≤ 2 ^ max a.dep b.dep := Nat.pow_le_pow_right (by omega) (by omega)
    simp only [Mob.nms, Mob.dep, List.length_append, Nat.pow_succ]
    omega
theorem lvs_nms : ∀ (m : Mob) (u : T), (m.lvs u).map (·.2) = m.nms
  | .w n, u => rfl
  | .rod l r a b, u => by simp [Mob.lvs, Mob.nms, lvs_nms a, lvs_nms b]
theorem lvs_len (m : Mob) (u : T) : (m.lvs u).length = m.nms.length := by rw [← lvs_nms m u, List.length_map]
theorem nms_ne : ∀ (m : Mob), m.nms ≠ []
  | .w n => by simp [Mob.nms]
  | .rod l r a b => by simp [Mob.nms, nms_ne a]
theorem nms_ok : ∀ (m : Mob), m.ok = true → ∀ x ∈ m.nms, okNm x = true
  | .w n, h, x, hx => by simp only [Mob.nms, List.mem_singleton] at hx; subst hx; exact h
  | .rod l r a b, h, x, hx => by
    simp only [Mob.ok, Bool.and_eq_true, decide_eq_true_eq] at h
    simp only [Mob.nms, List.mem_append] at hx
    rcases hx with hx | hx
    · exact nms_ok a h.2.1 x hx
    · exact nms_ok b h.2.2 x hx
theorem nms_len6 {m : Mob} (h : m.dep ≤ 6) : m.nms.length ≤ 64 := Nat.le_trans (nms_len m) (pow_dep h (Nat.le_refl 6))
theorem nms_len5 {m : Mob} (h : m.dep ≤ 5) : m.nms.length ≤ 32 := Nat.le_trans (nms_len m) (pow_dep h (Nat.le_refl 5))
def lvD (p : T × T) : D := .tup [.str p.1, .str p.2]
theorem tx0 : (tx "").length = 0 := by decide
theorem tl1 : (tx "l").length = 1 := by decide
theorem tr1 : (tx "r").length = 1 := by decide
theorem leaves_of_ev [K5 tab] (m : Mob) : ∀ (k : Nat) (u : T) (c : Cells), m.dep < k → m.dep ≤ 10 → u.length + m.dep ≤ 1000 → callF tab k 5 [m.d, .str u] c = .ok (.lst ((m.lvs u).map lvD)) c := by
  induction m with
  | w n =>
    intro k u c hk hd hu
    obtain ⟨k, rfl⟩ : ∃ j, k = j + 1 := ⟨k - 1, by omega⟩
    rw [callF_at (K5.h5 (tab := tab)) rfl]
    simp [f5_leaves_of, b5_leaves_of, getV, Mob.d, ixD, ixP, Mob.lvs, lvD]
  | rod l r a b iha ihb =>
    intro k u c hk hd hu
    obtain ⟨k, rfl⟩ : ∃ j, k = j + 1 := ⟨k - 1, by omega⟩
    simp only [Mob.dep] at hk hd hu
    have q1 := tl1
    have q2 := tr1
    have e1 := fun c => iha k (u ++ tx "l") c (by omega) (by omega) (by rw [List.length_append, q1]; omega)
    have e2 := fun c => ihb k (u ++ tx "r") c (by omega) (by omega) (by rw [List.length_append, q2]; omega)
    have l1 := nms_len a
    have l2 := nms_len b
    have p1 : 2 ^ a.dep ≤ 2 ^ 10 := Nat.pow_le_pow_right (by omega) (by omega)
    have p2 : 2 ^ b.dep ≤ 2 ^ 10 := Nat.pow_le_pow_right (by omega) (by omega)
    have s1 := add_str u (tx "l") (by omega)
    have s2 := add_str u (tx "r") (by omega)
    have s3 := add_lst ((a.lvs (u ++ tx "l")).map lvD) ((b.lvs (u ++ tx "r")).map lvD) (by rw [List.length_map, List.length_map, lvs_len, lvs_len]; omega)
    rw [callF_at (K5.h5 (tab := tab)) rfl]
    simp [f5_leaves_of, b5_leaves_of, getV, Mob.d, ixD, ixP, Mob.lvs, s1, s2, s3, e1, e2]
/-- the names, rising -/
def Mob.names (m : Mob) : List T := srtU ltT m.nms
theorem names_len {m : Mob} (h : m.dep ≤ 5) : m.names.length ≤ 32 := Nat.le_trans (srtU_len _) (nms_len5 h)
theorem names_mem {m : Mob} {x : T} : x ∈ m.names ↔ x ∈ m.nms := srtU_memT x _
theorem names_lt (m : Mob) : m.names.Pairwise (· < ·) := srtU_lt _
theorem names_of_ev [K6 tab] (m : Mob) (k : Nat) (c : Cells) (hk : 8 < k) (hd : m.dep ≤ 5) : callF tab k 6 [m.d] c = .ok (.lst (m.names.map .str)) c := by
  obtain ⟨k, rfl⟩ : ∃ j, k = j + 1 := ⟨k - 1, by omega⟩
  rw [callF_at (K6.h6 (tab := tab)) rfl]
  have hn := nms_len5 hd
  have e1 := fun c => leaves_of_ev (tab := tab) m k (tx "") c (by omega) (by omega) (by rw [tx0]; omega)
  have e2 : ∀ c, lcW (callF tab k) (.tp [.nm 1, .nm 2]) (.bl true) (.var 2) [.val m.d, .emp, .emp] ((m.lvs (tx "")).map lvD) c = .ok (m.nms.map .str) c := fun c => by
    have := lcL_map (tg := .tp [.nm 1, .nm 2]) (tt := evE (callF tab k) (.bl true)) (te := evE (callF tab k) (.var 2)) (env := [.val m.d, .emp, .emp]) (g := lvD) (f := fun p => .str p.2) (m.lvs (tx "")) [] c (fun x hx => ⟨_, rfl, fun c => by simp, fun c => by simp [getV]⟩) (by rw [lvs_len]; simp; omega)
    unfold lcW
    rw [this, ← lvs_nms m (tx "")]
    simp
  simp [f6_names_of, b6_names_of, getV, e1, wipeE, e2, ssetD_map (show m.nms.length < 64 by omega), Mob.names]
/-! ### weights -/
abbrev Ws := List (T × Int)
def rowD (p : T × Int) : D := .tup [.str p.1, .int p.2]
def Ws.d (ws : Ws) : D := .tup (ws.map rowD)
structure Ws.ok (ws : Ws) : Prop where
  lt : (ws.map (·.1)).Pairwise (· < ·)
  nm : ∀ p ∈ ws, okNm p.1 = true
  nu : ∀ p ∈ ws, 1 ≤ p.2 ∧ p.2 ≤ 999999
  len : ws.length ≤ 1000
theorem zipT_le : ∀ (xs ys : List D), (zipT xs ys).length ≤ xs.length
  | [], _ => by simp [zipT]
  | _ :: _, [] => by simp [zipT]
  | x :: xs, y :: ys => by have := zipT_le xs ys; simp [zipT]; omega
theorem zipT_map {α : Type} (f : α → D) : ∀ (xs ys : List α), zipT (xs.map f) (ys.map f) = (xs.zip ys).map fun p => .pr [f p.1, f p.2]
  | [], _ => by simp [zipT]
  | _ :: _, [] => by simp [zipT]
  | x :: xs, y :: ys => by simp [zipT, zipT_map f xs ys]
theorem rise_zip : ∀ (ws : Ws), (ws.map (·.1)).Pairwise (· < ·) → ∀ p ∈ ws.zip ws.tail, p.1.1 < p.2.1
  | [], _, p, h => by simp at h
  | [x], _, p, h => by simp at h
  | x :: y :: r, hw, p, h => by
    simp only [List.tail_cons, List.zip_cons_cons, List.mem_cons] at h
    rcases h with rfl | h
    · simp at hw; exact hw.1.1
    · exact rise_zip (y :: r) (by simp only [List.map_cons, List.pairwise_cons] at hw ⊢; exact hw.2) p (by simpa using h)
theorem forW_ok {α : Type} {cf : Nat → List D → M D} {wf : Nat} {tg : Tg} {b : List S} {g : α → D} {I : List α → Env → Cells → Prop} {R : Env → Cells → Prop}
    (step : ∀ x r env c, I (x :: r) env c → ∃ env1 env2 c2, bindT tg (g x) env = some env1 ∧ evSs cf wf b env1 c = .ok (.nx env2) c2 ∧ I r env2 c2) (last : ∀ env c, I [] env c → R env c) :
    ∀ (xs : List α) (env : Env) (c : Cells), I xs env c → ∃ env2 c2, forW cf wf tg b (xs.map g) env c = .ok (.nx env2) c2 ∧ R env2 c2
  | [], env, c, h => ⟨env, c, rfl, last env c h⟩
  | x :: xs, env, c, h => by
    obtain ⟨env1, env2, c2, h1, h2, h3⟩ := step x xs env c h
    obtain ⟨env3, c3, h4, h5⟩ := forW_ok step last xs env2 c2 h3
    refine ⟨env3, c3, ?_, h5⟩
    unfold forW at h4 ⊢
    simp only [List.map_cons, forL, h1]
    simp [h2, h4]
theorem are_weights_ev [K7 tab] (ws : Ws) (hw : ws.ok) (k : Nat) (c : Cells) (hk : 2 < k) : callF tab k 7 [ws.d] c = .ok (.bl true) c := by
  obtain ⟨k, rfl⟩ : ∃ j, k = j + 1 + 1 := ⟨k - 2, by omega⟩
  rw [callF_at (K7.h7 (tab := tab)) rfl]
  have l1 := hw.len
  have hd : ws.d = .tup (ws.map rowD) := rfl
  obtain ⟨env2, c2, h1, ⟨v, rfl⟩, rfl⟩ := forW_ok (cf := callF tab (k + 1)) (wf := wFuel) (tg := .nm 1) (g := rowD) (b := [.ifs (.or (.not (.prim (.isi .tup) [(.var 1)])) (.or (.cmp .ne (.prim .len [(.var 1)]) (.int 2)) (.or (.not (.call 1 [(.ix (.var 1) (.int 0))])) (.not (.call 0 [(.ix (.var 1) (.int 1)), (.int 1), (.gint (tx "GREAT") 999999)]))))) [.ret (.bl false)] []])
    (I := fun r env c' => (∀ p ∈ r, p ∈ ws) ∧ (∃ v, env = [.val ws.d, v, .emp, .emp]) ∧ c' = c) (R := fun env c' => (∃ v, env = [.val ws.d, v, .emp, .emp]) ∧ c' = c)
    (fun p r env c' ⟨hm, ⟨v, he⟩, hc⟩ => by
      subst he hc
      have hp := hm p List.mem_cons_self
      have hn := hw.nm p hp
      have := okNm_len hn
      have e1 := fun c => is_name_ev (tab := tab) p.1 (by omega) k c
      have e2 := fun c => is_whole_ev (tab := tab) p.2 1 999999 k c
      refine ⟨[.val ws.d, .val (rowD p), .emp, .emp], [.val ws.d, .val (rowD p), .emp, .emp], c', rfl, ?_, fun q hq => hm q (List.mem_cons_of_mem _ hq), ⟨_, rfl⟩, rfl⟩
      simp [getV, rowD, ixD, ixP, e1, e2, hn, hw.nu p hp]) (fun env c h => ⟨h.2.1, h.2.2⟩) ws [.val ws.d, .emp, .emp, .emp] c ⟨fun p hp => hp, ⟨_, rfl⟩, rfl⟩
  have e3 : ∀ v c, lcW (callF tab (k + 1)) (.tp [.nm 2, .nm 3]) (.bl true) (.cmp .lt (.ix (.var 2) (.int 0)) (.ix (.var 3) (.int 0))) [.val ws.d, v, .emp, .emp] (zipT (ws.map rowD) (ws.map rowD).tail) c = .ok ((ws.zip ws.tail).map fun _ => .bl true) c := fun v c => by
    rw [← List.map_tail, zipT_map]
    unfold lcW
    rw [lcL_map (f := fun _ => .bl true) (ws.zip ws.tail) [] c (fun p hp => ⟨[.val ws.d, v, .val (rowD p.1), .val (rowD p.2)], rfl, fun c => by simp, fun c => ?_⟩)]
    · simp
    · simp; omega
    · have := rise_zip ws hw.lt p hp
      simp [getV, rowD, ixD, ixP, this]
  have e4 : slD (.tup (ws.map rowD)) (.int 1) .non = some (.tup (ws.map rowD).tail) := by
    have : min 1 ws.length = 1 ∨ ws.length = 0 := by omega
    simp only [slD, sBnd, List.length_map]
    rcases this with h | h
    · have : List.take (ws.length - 1) (List.map rowD ws).tail = (List.map rowD ws).tail := List.take_of_length_le (by simp)
      simp [h, cutL, this]
    · have : ws = [] := List.length_eq_zero_iff.mp h
      subst this
      simp [cutL]
  rw [hd] at h1 e3 ⊢
  simp [f7_are_weights, b7_are_weights, getV, h1, e4, wipeE, e3, allBl_true]
/-! ### the book -/
theorem pairsD_rows : ∀ (ws : Ws), pairsD (ws.map rowD) = some (ws.map fun p => (p.1, .int p.2))
  | [] => rfl
  | p :: ws => by simp [pairsD, rowD, pairsD_rows ws]
def Ws.bk (ws : Ws) : List (T × D) := ws.map fun p => (p.1, .int p.2)
theorem Ws.ok.nodup {ws : Ws} (h : ws.ok) : (ws.bk.map (·.1)).Nodup := by
  have : ws.bk.map (·.1) = ws.map (·.1) := by simp [Ws.bk]
  rw [this]
  exact rising_nodup h.lt
theorem dict_rows {ws : Ws} (h : ws.ok) : dictD (ws.map fun p => (p.1, .int p.2)) = ws.bk := dictD_nodup h.nodup
/-- the weight of a name -/
def Ws.of (ws : Ws) (x : T) : Int := match ws.find? (fun p => decide (p.1 = x)) with
  | some p => p.2
  | none => 0
theorem of_bk : ∀ (ws : Ws) (x : T), x ∈ ws.map (·.1) → lkD x ws.bk = some (.int (ws.of x))
  | [], x, h => by cases h
  | p :: ws, x, h => by
    show (if p.1 = x then _ else lkD x (Ws.bk ws)) = _
    by_cases e : p.1 = x
    · simp [e, Ws.of]
    · have hx : x ∈ ws.map (·.1) := by
        simp only [List.map_cons, List.mem_cons] at h
        rcases h with h | h
        · exact absurd h.symm e
        · exact h
      have := of_bk ws x hx
      simp [e, Ws.of] at this ⊢
      exact this
/-- all names are told -/
def Ws.has (ws : Ws) (m : Mob) : Prop := ∀ x ∈ m.nms, x ∈ ws.map (·.1)
theorem need_weights_ev [K8 tab] (m : Mob) (ws : Ws) (hw : ws.ok) (hh : ws.has m) (hd : m.dep ≤ 5) (k : Nat) (c : Cells) (hk : 9 < k) : callF tab k 8 [m.d, ws.d] c = .ok .non c := by
  obtain ⟨k, rfl⟩ : ∃ j, k = j + 1 := ⟨k - 1, by omega⟩
  rw [callF_at (K8.h8 (tab := tab)) rfl]
  have e1 := fun c => are_weights_ev (tab := tab) ws hw k c (by omega)
  have e2 := fun c => names_of_ev (tab := tab) m k c (by omega) hd
  have e3 : ∀ c, lcW (callF tab k) (.nm 2) (.bl true) (.cmp .nin (.var 2) (.prim .dict [(.var 1)])) [.val m.d, .val ws.d, .emp] (m.names.map .str) c = .ok (m.names.map fun _ => .bl false) c := fun c => by
    unfold lcW
    rw [lcL_map (f := fun _ => .bl false) m.names [] c (fun x hx => ⟨[.val m.d, .val ws.d, .val (.str x)], rfl, fun c => by simp, fun c => ?_⟩)]
    · simp
    · have := names_len hd; simp; omega
    · have h1 := of_bk ws x (hh x (names_mem.mp hx))
      have h2 : inD (.str x) (.dct ws.bk) = some true := by simp [inD, h1]
      simp [getV, Ws.d, pairsD_rows, dict_rows hw, cmpD, h2]
  simp [f8_need_weights, b8_need_weights, getV, e1, e2, wipeE, e3, allBl_false]
/-! ### what hangs -/
def Mob.load (f : T → Int) : Mob → Int
  | .w n => f n
  | .rod _ _ a b => a.load f + b.load f
theorem load_sum (f : T → Int) : ∀ m : Mob, m.load f = (m.nms.map f).sum
  | .w n => by simp [Mob.load, Mob.nms]
  | .rod l r a b => by simp [Mob.load, Mob.nms, load_sum f a, load_sum f b]
theorem load_of_ev [K9 tab] (kvs : List (T × D)) (f : T → Int) (m : Mob) : ∀ (k : Nat) (c : Cells), m.dep < k → (∀ x ∈ m.nms, lkD x kvs = some (.int (f x))) → callF tab k 9 [m.d, .dct kvs] c = .ok (.int (m.load f)) c := by
  induction m with
  | w n =>
    intro k c hk h
    obtain ⟨k, rfl⟩ : ∃ j, k = j + 1 := ⟨k - 1, by omega⟩
    rw [callF_at (K9.h9 (tab := tab)) rfl]
    have hl := h n (by simp [Mob.nms])
    simp [f9_load_of, b9_load_of, getV, Mob.d, ixD, ixP, hl, Mob.load]
  | rod l r a b iha ihb =>
    intro k c hk h
    obtain ⟨k, rfl⟩ : ∃ j, k = j + 1 := ⟨k - 1, by omega⟩
    simp only [Mob.dep] at hk
    have ha := fun c => iha k c (by omega) fun x hx => h x (by simp [Mob.nms, hx])
    have hb := fun c => ihb k c (by omega) fun x hx => h x (by simp [Mob.nms, hx])
    rw [callF_at (K9.h9 (tab := tab)) rfl]
    simp [f9_load_of, b9_load_of, getV, Mob.d, ixD, ixP, ha, hb, Mob.load]
end Hg
end
section
set_option Elab.async false
set_option linter.all false
set_option autoImplicit false
set_option maxRecDepth 100000
/-! L2: strip: what is left of a text. -/
namespace Hg
theorem takeWhile_all {α : Type} {p : α → Bool} : ∀ {l : List α}, (l.takeWhile p).length = l.length ↔ ∀ x ∈ l, p x = true
  | [] => by simp
  | x :: l => by
    cases h : p x with
    | true => simp [List.takeWhile_cons, h, takeWhile_all (p := p) (l := l)]
    | false => simp [List.takeWhile_cons, h]
theorem takeWhile_le {α : Type} {p : α → Bool} : ∀ {l : List α}, (l.takeWhile p).length ≤ l.length
  | [] => by simp
  | x :: l => by
    cases h : p x with
    | true => have := takeWhile_le (p := p) (l := l); simp [List.takeWhile_cons, h, this]
    | false => simp [List.takeWhile_cons, h]
theorem drop_takeWhile {α : Type} {p : α → Bool} : ∀ {l : List α}, (∃ x ∈ l, p x = false) → ∃ x ∈ l.drop (l.takeWhile p).length, p x = false
  | [], h => by simp at h
  | x :: l, h => by
    cases q : p x with
    | true =>
      have h2 : ∃ x ∈ l, p x = false := by
        obtain ⟨y, hy, e⟩ := h
        rcases List.mem_cons.mp hy with rfl | hy
        · rw [q] at e; cases e
        · exact ⟨y, hy, e⟩
      simpa [List.takeWhile_cons, q] using drop_takeWhile h2
    | false => exact ⟨x, by simp [List.takeWhile_cons, q], q⟩
theorem stripT_eq (x cs : T) : stripT x cs = (let lo := (x.takeWhile (cs.toArray.contains ·)).length
    let hi := x.length - ((x.drop lo).reverse.takeWhile (cs.toArray.contains ·)).length
    if lo = 0 ∧ hi = x.length then x else (x.take hi).drop lo) := by
  unfold stripT PySem.Txt.stripChars PySem.Txt.stripBy PySem.stripSame PySem.stripped PySem.stripLo PySem.stripHi PySem.Builtin.Str.strSub PySem.Str.length
  simp only [if_true, List.size_toArray, Bool.and_eq_true, beq_iff_eq]
  split
  · rfl
  · simp only [List.drop_take]
    simp only [List.extract_toArray, List.extract_eq_drop_take]
theorem stripT_nil {x cs : T} : stripT x cs = [] ↔ ∀ c ∈ x, c ∈ cs := by
  rw [stripT_eq]
  dsimp only
  constructor
  · intro h
    apply Classical.byContradiction
    intro hn
    have hb : ∃ c ∈ x, cs.toArray.contains c = false := by
      obtain ⟨c, hc⟩ := Classical.not_forall.mp hn
      obtain ⟨h1, h2⟩ := Classical.not_imp.mp hc
      exact ⟨c, h1, by simp [h2]⟩
    have hd := drop_takeWhile hb
    generalize (x.takeWhile (cs.toArray.contains ·)).length = lo at h hd
    obtain ⟨y, hy, e⟩ := hd
    have hr : ((x.drop lo).reverse.takeWhile (cs.toArray.contains ·)).length < (x.drop lo).length := by
      have h1 := takeWhile_le (p := (cs.toArray.contains ·)) (l := (x.drop lo).reverse)
      rw [List.length_reverse] at h1
      rcases Nat.lt_or_eq_of_le h1 with h1 | h1
      · exact h1
      · rw [← List.length_reverse (as := x.drop lo), takeWhile_all] at h1
        have := h1 y (List.mem_reverse.mpr hy)
        rw [e] at this; cases this
    split at h
    · subst h; simp at hy
    · have := congrArg List.length h
      simp only [List.length_drop, List.length_take, List.length_nil] at this hr
      omega
  · intro h
    have h1 : (x.takeWhile (cs.toArray.contains ·)).length = x.length := takeWhile_all.mpr fun c hc => by simp [h c hc]
    rw [h1]
    split
    · rename_i q; exact List.length_eq_zero_iff.mp q.1
    · apply List.length_eq_zero_iff.mp
      simp only [List.length_drop, List.length_take]
      omega
theorem stripT_nilB (x cs : T) : (stripT x cs == tx "") = decide (∀ c ∈ x, c ∈ cs) := by
  have e : tx "" = [] := by decide
  rw [e, Bool.eq_iff_iff, beq_iff_eq, decide_eq_true_eq]
  exact stripT_nil
end Hg
end
section
set_option Elab.async false
set_option linter.all false
set_option autoImplicit false
set_option maxRecDepth 100000
/-! P3: ways, rods, pulls, tips. -/
namespace Hg
variable {tab : Nat → Option FD}
/-- a text of l and r -/
def isWay (u : T) : Bool := u.all fun c => decide (c ∈ tx "lr")
/-- what hangs at a way -/
def Mob.at : Mob → T → Option Mob
  | m, [] => some m
  | .w _, _ :: _ => none
  | .rod _ _ a b, c :: u => if c = 114 then b.at u else a.at u
theorem txr : tx "r" = [114] := by decide
theorem txl : tx "l" = [108] := by decide
theorem txlr : tx "lr" = [108, 114] := by decide
def bPart : List S := [.ifs (.cmp .eq (.ix (.var 2) (.int 0)) (.str (tx "weight"))) [.rse 3] [], .set 2 (.ix (.var 2) (.bin .add (.int 3) (.prim .int1 [(.cmp .eq (.var 3) (.str (tx "r")))])))]
theorem part_loop (cf : Nat → List D → M D) (wf : Nat) (md ud : Slot) : ∀ (u : T) (here : Mob) (v : Slot) (c : Cells),
    (∀ p, here.at u = some p → ∃ v', forW cf wf (.nm 3) bPart (u.map fun x => .str [x]) [md, ud, .val here.d, v] c = .ok (.nx [md, ud, .val p.d, v']) c) ∧
    (here.at u = none → forW cf wf (.nm 3) bPart (u.map fun x => .str [x]) [md, ud, .val here.d, v] c = .exc 3 c)
  | [], here, v, c => by
    refine ⟨fun p h => ?_, fun h => ?_⟩
    · cases here <;> · simp only [Mob.at, Option.some.injEq] at h; subst h; exact ⟨v, rfl⟩
    · cases here <;> · simp only [Mob.at, reduceCtorEq] at h
  | x :: u, .w n, v, c => by
    refine ⟨fun p h => by simp only [Mob.at, reduceCtorEq] at h, fun _ => ?_⟩
    unfold forW bPart
    simp [forL, bindT, getV, Mob.d, ixD, ixP]
  | x :: u, .rod l r a b, v, c => by
    have step : ∀ c, evSs cf wf bPart [md, ud, .val (Mob.rod l r a b).d, .val (.str [x])] c = .ok (.nx [md, ud, .val (if x = 114 then b.d else a.d), .val (.str [x])]) c := fun c => by
      by_cases e : x = 114
      · subst e; simp [bPart, getV, Mob.d, ixD, ixP, txr]
      · simp [bPart, getV, Mob.d, ixD, ixP, txr, e]
    have go : forW cf wf (.nm 3) bPart ((x :: u).map fun x => .str [x]) [md, ud, .val (Mob.rod l r a b).d, v] c = forW cf wf (.nm 3) bPart (u.map fun x => .str [x]) [md, ud, .val (if x = 114 then b.d else a.d), .val (.str [x])] c := by
      unfold forW
      simp only [List.map_cons, forL, bindT, List.set_cons_succ, List.set_cons_zero]
      simp [step]
    rw [go]
    by_cases e : x = 114
    · simp only [Mob.at, e, if_true]
      exact part_loop cf wf md ud u b _ c
    · simp only [Mob.at, e, if_false]
      exact part_loop cf wf md ud u a _ c
theorem isWay_iff {u : T} : isWay u = true ↔ ∀ c ∈ u, c ∈ tx "lr" := by simp [isWay]
theorem part_at_ev [K13 tab] (m p : Mob) (u : T) (hl : u.length ≤ 1000000) (hw : isWay u = true) (hp : m.at u = some p) (k : Nat) (c : Cells) (hk : 0 < k) : callF tab k 13 [m.d, .str u] c = .ok p.d c := by
  obtain ⟨k, rfl⟩ : ∃ j, k = j + 1 := ⟨k - 1, by omega⟩
  rw [callF_at (K13.h13 (tab := tab)) rfl]
  have h1 : (stripT u (tx "lr") == tx "") = true := by rw [stripT_nilB, decide_eq_true_eq]; exact isWay_iff.mp hw
  obtain ⟨v', h2⟩ := (part_loop (callF tab k) wFuel (.val m.d) (.val (.str u)) u m .emp c).1 p hp
  have h3 : b13_part_at = [.set 2 (.var 0), .ifs (.or (.not (.prim (.isi .str) [(.var 1)])) (.cmp .ne (.mth .strip (.var 1) [(.str (tx "lr"))]) (.str (tx "")))) [.rse 3] [], .forr .e [(.var 1)] (.nm 3) bPart, .ret (.var 2)] := rfl
  simp [f13_part_at, h3, getV, hl, h1, h2]
theorem part_at_none [K13 tab] (m : Mob) (u : T) (hl : u.length ≤ 1000000) (hw : isWay u = false ∨ m.at u = none) (k : Nat) (c : Cells) (hk : 0 < k) : callF tab k 13 [m.d, .str u] c = .exc 3 c := by
  obtain ⟨k, rfl⟩ : ∃ j, k = j + 1 := ⟨k - 1, by omega⟩
  rw [callF_at (K13.h13 (tab := tab)) rfl]
  have h3 : b13_part_at = [.set 2 (.var 0), .ifs (.or (.not (.prim (.isi .str) [(.var 1)])) (.cmp .ne (.mth .strip (.var 1) [(.str (tx "lr"))]) (.str (tx "")))) [.rse 3] [], .forr .e [(.var 1)] (.nm 3) bPart, .ret (.var 2)] := rfl
  by_cases q : isWay u = true
  · have h1 : (stripT u (tx "lr") == tx "") = true := by rw [stripT_nilB, decide_eq_true_eq]; exact isWay_iff.mp q
    have h2 := (part_loop (callF tab k) wFuel (.val m.d) (.val (.str u)) u m .emp c).2 (hw.resolve_left (by rw [q]; simp))
    simp [f13_part_at, h3, getV, hl, h1, h2]
  · have h1 : (stripT u (tx "lr") == tx "") = false := by
      rw [stripT_nilB, decide_eq_false_iff_not]
      exact fun h => q (isWay_iff.mpr h)
    simp [f13_part_at, h3, getV, hl, h1]
/-- the rods with their ways, the upper ones first -/
def Mob.rods : Mob → T → List (T × Mob)
  | .w _, _ => []
  | .rod l r a b, u => (u, .rod l r a b) :: (a.rods (u ++ tx "l") ++ b.rods (u ++ tx "r"))
theorem isWay_app {u v : T} : isWay (u ++ v) = (isWay u && isWay v) := by simp [isWay]
theorem rods_at : ∀ (m : Mob) (u : T) (p : T × Mob), p ∈ m.rods u → ∃ v, p.1 = u ++ v ∧ isWay v = true ∧ v.length ≤ m.dep ∧ m.at v = some p.2 ∧ (∃ l r a b, p.2 = .rod l r a b) ∧ p.2.dep ≤ m.dep
  | .w _, _, _, h => by cases h
  | .rod l r a b, u, p, h => by
    simp only [Mob.rods, List.mem_cons, List.mem_append] at h
    rcases h with rfl | h | h
    · exact ⟨[], by simp, rfl, by simp, rfl, ⟨l, r, a, b, rfl⟩, Nat.le_refl _⟩
    · obtain ⟨v, h1, h2, h3, h4, h5, h6⟩ := rods_at a _ p h
      refine ⟨tx "l" ++ v, by rw [h1, List.append_assoc], by rw [isWay_app, h2]; decide, ?_, ?_, h5, ?_⟩
      · simp only [List.length_append, tl1, Mob.dep]; omega
      · rw [txl]; exact h4
      · simp only [Mob.dep]; omega
    · obtain ⟨v, h1, h2, h3, h4, h5, h6⟩ := rods_at b _ p h
      refine ⟨tx "r" ++ v, by rw [h1, List.append_assoc], by rw [isWay_app, h2]; decide, ?_, ?_, h5, ?_⟩
      · simp only [List.length_append, tr1, Mob.dep]; omega
      · rw [txr]; exact h4
      · simp only [Mob.dep]; omega
theorem at_ok : ∀ {m p : Mob} {u : T}, m.ok = true → m.at u = some p → p.ok = true
  | m, p, [], h, e => by cases m <;> · simp only [Mob.at, Option.some.injEq] at e; subst e; exact h
  | .w _, p, c :: u, h, e => by simp only [Mob.at, reduceCtorEq] at e
  | .rod l r a b, p, c :: u, h, e => by
    simp only [Mob.ok, Bool.and_eq_true] at h
    simp only [Mob.at] at e
    split at e
    · exact at_ok h.2.2 e
    · exact at_ok h.2.1 e
theorem at_dep : ∀ {m p : Mob} {u : T}, m.at u = some p → p.dep + u.length ≤ m.dep
  | m, p, [], e => by cases m <;> · simp only [Mob.at, Option.some.injEq] at e; subst e; simp
  | .w _, p, c :: u, e => by simp only [Mob.at, reduceCtorEq] at e
  | .rod l r a b, p, c :: u, e => by
    simp only [Mob.at] at e
    simp only [Mob.dep, List.length_cons]
    split at e
    · have := at_dep e; omega
    · have := at_dep e; omega
theorem at_nms : ∀ {m p : Mob} {u : T}, m.at u = some p → ∀ x ∈ p.nms, x ∈ m.nms
  | m, p, [], e => by cases m <;> · simp only [Mob.at, Option.some.injEq] at e; subst e; exact fun x h => h
  | .w _, p, c :: u, e => by simp only [Mob.at, reduceCtorEq] at e
  | .rod l r a b, p, c :: u, e => fun x hx => by
    simp only [Mob.at] at e
    simp only [Mob.nms, List.mem_append]
    split at e
    · exact .inr (at_nms e x hx)
    · exact .inl (at_nms e x hx)
theorem rods_len : ∀ (m : Mob) (u : T), (m.rods u).length + 1 = m.nms.length
  | .w _, _ => rfl
  | .rod l r a b, u => by
    have h1 := rods_len a (u ++ tx "l")
    have h2 := rods_len b (u ++ tx "r")
    simp only [Mob.rods, Mob.nms, List.length_cons, List.length_append]
    omega
theorem rod_at_ev [K14 tab] (m : Mob) (l r : Int) (a b : Mob) (u : T) (hl : u.length ≤ 1000000) (hw : isWay u = true) (hp : m.at u = some (.rod l r a b)) (k : Nat) (c : Cells) (hk : 1 < k) : callF tab k 14 [m.d, .str u] c = .ok (Mob.rod l r a b).d c := by
  obtain ⟨k, rfl⟩ : ∃ j, k = j + 1 := ⟨k - 1, by omega⟩
  rw [callF_at (K14.h14 (tab := tab)) rfl]
  have e1 := fun c => part_at_ev (tab := tab) m _ u hl hw hp k c (by omega)
  simp [f14_rod_at, b14_rod_at, getV, e1]
  simp [Mob.d, ixD, ixP]
theorem rod_at_none [K14 tab] (m : Mob) (u : T) (hl : u.length ≤ 1000000) (hp : isWay u = false ∨ m.at u = none ∨ ∃ n, m.at u = some (.w n)) (k : Nat) (c : Cells) (hk : 1 < k) : callF tab k 14 [m.d, .str u] c = .exc 3 c := by
  obtain ⟨k, rfl⟩ : ∃ j, k = j + 1 := ⟨k - 1, by omega⟩
  rw [callF_at (K14.h14 (tab := tab)) rfl]
  by_cases q : isWay u = false ∨ m.at u = none
  · have e1 := fun c => part_at_none (tab := tab) m u hl q k c (by omega)
    simp [f14_rod_at, b14_rod_at, getV, e1]
  · simp only [not_or] at q
    obtain ⟨n, hn⟩ : ∃ n, m.at u = some (.w n) := by
      rcases hp with h | h | h
      · exact absurd h q.1
      · exact absurd h q.2
      · exact h
    have e1 := fun c => part_at_ev (tab := tab) m _ u hl (by simpa using q.1) hn k c (by omega)
    simp [f14_rod_at, b14_rod_at, getV, e1]
    simp [Mob.d, ixD, ixP]
/-! ### pulls -/
/-- what the left arm comes to, and the right one -/
def Mob.lf (f : T → Int) : Mob → Int
  | .w _ => 0
  | .rod l _ a _ => l * a.load f
def Mob.rt (f : T → Int) : Mob → Int
  | .w _ => 0
  | .rod _ r _ b => r * b.load f
theorem arms_of {l r : Int} {a b : Mob} (h : (Mob.rod l r a b).ok = true) : (1 ≤ l ∧ l ≤ 9) ∧ (1 ≤ r ∧ r ≤ 9) ∧ a.ok = true ∧ b.ok = true := by
  simp only [Mob.ok, Bool.and_eq_true, decide_eq_true_eq] at h
  exact ⟨h.1.1, h.1.2, h.2.1, h.2.2⟩
theorem small9 {l : Int} (h : 1 ≤ l ∧ l ≤ 9) : l.natAbs < 2 ^ 64 := by
  have : l.natAbs ≤ 9 := by omega
  have h2 : 9 < 2 ^ 64 := by decide
  omega
theorem pull_of_ev [K15 tab] (kvs : List (T × D)) (f : T → Int) (l r : Int) (a b : Mob) (ho : (Mob.rod l r a b).ok = true) (hf : ∀ x ∈ (Mob.rod l r a b).nms, lkD x kvs = some (.int (f x))) (k : Nat) (c : Cells) (hk : (Mob.rod l r a b).dep < k) : callF tab k 15 [(Mob.rod l r a b).d, .dct kvs] c = .ok (.tup [.int ((Mob.rod l r a b).lf f), .int ((Mob.rod l r a b).rt f)]) c := by
  obtain ⟨k, rfl⟩ : ∃ j, k = j + 1 := ⟨k - 1, by omega⟩
  rw [callF_at (K15.h15 (tab := tab)) rfl]
  simp only [Mob.dep] at hk
  have h1 := arms_of ho
  have e1 := fun c => load_of_ev (tab := tab) kvs f a k c (by omega) fun x hx => hf x (by simp [Mob.nms, hx])
  have e2 := fun c => load_of_ev (tab := tab) kvs f b k c (by omega) fun x hx => hf x (by simp [Mob.nms, hx])
  have m1 := mul_int l (a.load f) (.inl (small9 h1.1))
  have m2 := mul_int r (b.load f) (.inl (small9 h1.2.1))
  simp [f15_pull_of, b15_pull_of, getV, Mob.d, ixD, ixP, e1, e2, m1, m2, Mob.lf, Mob.rt]
theorem pull_ev [K16 tab] (m : Mob) (ws : Ws) (ho : m.ok = true) (hd : m.dep ≤ 5) (hw : ws.ok) (hh : ws.has m) (l r : Int) (a b : Mob) (u : T) (hu : isWay u = true) (hp : m.at u = some (.rod l r a b)) (k : Nat) (c : Cells) (hk : 10 < k) : callF tab k 16 [m.d, ws.d, .str u] c = .ok (.tup [.int ((Mob.rod l r a b).lf ws.of), .int ((Mob.rod l r a b).rt ws.of)]) c := by
  obtain ⟨k, rfl⟩ : ∃ j, k = j + 1 := ⟨k - 1, by omega⟩
  rw [callF_at (K16.h16 (tab := tab)) rfl]
  have d1 := at_dep hp
  have e1 := fun c => need_mobile_ev (tab := tab) m k c ho hd (by omega)
  have e2 := fun c => need_weights_ev (tab := tab) m ws hw hh hd k c (by omega)
  have e3 := fun c => rod_at_ev (tab := tab) m l r a b u (by omega) hu hp k c (by omega)
  have e4 := fun c => pull_of_ev (tab := tab) ws.bk ws.of l r a b (at_ok ho hp) (fun x hx => of_bk ws x (hh x (at_nms hp x hx))) k c (by omega)
  have e5 : primD .dict [ws.d] = some (.dct ws.bk) := by simp [Ws.d, pairsD_rows, dict_rows hw]
  simp [f16_pull, b16_pull, getV, e1, e2, e3, e4, e5]
/-! ### tips -/
def tipD (f : T → Int) (p : T × Mob) : List D := if p.2.lf f = p.2.rt f then [] else [.tup [.str p.1, .str (if p.2.rt f < p.2.lf f then tx "left" else tx "right")]]
theorem tips_len (f : T → Int) : ∀ (ps : List (T × Mob)), (ps.flatMap (tipD f)).length ≤ ps.length
  | [] => by simp
  | p :: ps => by
    have := tips_len f ps
    have h : (tipD f p).length ≤ 1 := by unfold tipD; split <;> simp
    rw [List.flatMap_cons, List.length_append, List.length_cons]
    omega
theorem nms_len10 {m : Mob} (h : m.dep ≤ 10) : m.nms.length ≤ 1024 := Nat.le_trans (nms_len m) (pow_dep h (Nat.le_refl 10))
theorem tips_of_ev [K10 tab] (kvs : List (T × D)) (f : T → Int) (m : Mob) : ∀ (k : Nat) (u : T) (c : Cells), m.ok = true → m.dep < k → m.dep ≤ 10 → u.length + m.dep ≤ 1000 → (∀ x ∈ m.nms, lkD x kvs = some (.int (f x))) → callF tab k 10 [m.d, .dct kvs, .str u] c = .ok (.lst ((m.rods u).flatMap (tipD f))) c := by
  induction m with
  | w n =>
    intro k u c ho hk hd hu h
    obtain ⟨k, rfl⟩ : ∃ j, k = j + 1 := ⟨k - 1, by omega⟩
    rw [callF_at (K10.h10 (tab := tab)) rfl]
    simp [f10_tips_of, b10_tips_of, getV, Mob.d, ixD, ixP, Mob.rods]
  | rod l r a b iha ihb =>
    intro k u c ho hk hd hu h
    obtain ⟨k, rfl⟩ : ∃ j, k = j + 1 := ⟨k - 1, by omega⟩
    simp only [Mob.dep] at hk hd hu
    have h1 := arms_of ho
    have ha : ∀ x ∈ a.nms, lkD x kvs = some (.int (f x)) := fun x hx => h x (by simp [Mob.nms, hx])
    have hb : ∀ x ∈ b.nms, lkD x kvs = some (.int (f x)) := fun x hx => h x (by simp [Mob.nms, hx])
    have e1 := fun c => load_of_ev (tab := tab) kvs f a k c (by omega) ha
    have e2 := fun c => load_of_ev (tab := tab) kvs f b k c (by omega) hb
    have m1 := mul_int l (a.load f) (.inl (small9 h1.1))
    have m2 := mul_int r (b.load f) (.inl (small9 h1.2.1))
    have q1 := tl1
    have q2 := tr1
    have e3 := fun c => iha k (u ++ tx "l") c h1.2.2.1 (by omega) (by omega) (by rw [List.length_append, q1]; omega) ha
    have e4 := fun c => ihb k (u ++ tx "r") c h1.2.2.2 (by omega) (by omega) (by rw [List.length_append, q2]; omega) hb
    have s1 := add_str u (tx "l") (by omega)
    have s2 := add_str u (tx "r") (by omega)
    have l1 := rods_len a (u ++ tx "l")
    have l2 := rods_len b (u ++ tx "r")
    have n1 := nms_len10 (m := a) (by omega)
    have n2 := nms_len10 (m := b) (by omega)
    have t1 := tips_len f (a.rods (u ++ tx "l"))
    have t2 := tips_len f (b.rods (u ++ tx "r"))
    have s3 : ∀ xs : List D, xs.length ≤ 1 → binD .add (.lst xs) (.lst ((a.rods (u ++ tx "l")).flatMap (tipD f))) = some (.lst (xs ++ (a.rods (u ++ tx "l")).flatMap (tipD f))) := fun xs hx => add_lst _ _ (by omega)
    have s4 : ∀ xs : List D, xs.length ≤ 1 → binD .add (.lst (xs ++ (a.rods (u ++ tx "l")).flatMap (tipD f))) (.lst ((b.rods (u ++ tx "r")).flatMap (tipD f))) = some (.lst (xs ++ (a.rods (u ++ tx "l")).flatMap (tipD f) ++ (b.rods (u ++ tx "r")).flatMap (tipD f))) := fun xs hx => add_lst _ _ (by rw [List.length_append]; omega)
    rw [callF_at (K10.h10 (tab := tab)) rfl]
    by_cases e : l * a.load f = r * b.load f
    · have s3 := s3 [] (by simp)
      have s4 := s4 [] (by simp)
      simp only [List.nil_append] at s3 s4
      simp [f10_tips_of, b10_tips_of, getV, getO, Mob.d, ixD, ixP, Mob.rods, e1, e2, m1, m2, e, s1, s2, e3, e4, s3, s4, tipD, Mob.lf, Mob.rt]
    · have s3 := fun d => s3 [d] (by simp)
      have s4 := fun d => s4 [d] (by simp)
      have e' : (l * a.load f == r * b.load f) = false := by simp [e]
      by_cases g : r * b.load f < l * a.load f
      · simp [f10_tips_of, b10_tips_of, getV, getO, Mob.d, ixD, ixP, Mob.rods, e1, e2, m1, m2, e, e', g, s1, s2, e3, e4]
        simp only [List.cons_append, List.nil_append, List.append_assoc] at s3 s4
        simp [s3, s4, tipD, Mob.lf, Mob.rt, e, g]
      · simp [f10_tips_of, b10_tips_of, getV, getO, Mob.d, ixD, ixP, Mob.rods, e1, e2, m1, m2, e, e', g, s1, s2, e3, e4]
        simp only [List.cons_append, List.nil_append, List.append_assoc] at s3 s4
        simp [s3, s4, tipD, Mob.lf, Mob.rt, e, g]
theorem tips_ev [K11 tab] (m : Mob) (ws : Ws) (ho : m.ok = true) (hd : m.dep ≤ 5) (hw : ws.ok) (hh : ws.has m) (k : Nat) (c : Cells) (hk : 10 < k) : callF tab k 11 [m.d, ws.d] c = .ok (.lst ((m.rods (tx "")).flatMap (tipD ws.of))) c := by
  obtain ⟨k, rfl⟩ : ∃ j, k = j + 1 := ⟨k - 1, by omega⟩
  rw [callF_at (K11.h11 (tab := tab)) rfl]
  have e1 := fun c => need_mobile_ev (tab := tab) m k c ho hd (by omega)
  have e2 := fun c => need_weights_ev (tab := tab) m ws hw hh hd k c (by omega)
  have e3 := fun c => tips_of_ev (tab := tab) ws.bk ws.of m k (tx "") c ho (by omega) (by omega) (by rw [tx0]; omega) (fun x hx => of_bk ws x (hh x hx))
  have e5 : primD .dict [ws.d] = some (.dct ws.bk) := by simp [Ws.d, pairsD_rows, dict_rows hw]
  simp [f11_tips, b11_tips, getV, e1, e2, e3, e5]
@[simp] theorem eqO_lst_nil (xs : List D) (h : plainDs xs = true) : cmpD .eq (.lst xs) (.lst []) = some xs.isEmpty := by
  cases xs with
  | nil => rfl
  | cons x xs => simp only [plainDs, Bool.and_eq_true] at h; simp [cmpD, eqO, plainD, h, plainDs, depD, depDs, eqD, eqDs]
theorem plain_tips (f : T → Int) : ∀ (ps : List (T × Mob)), plainDs (ps.flatMap (tipD f)) = true
  | [] => rfl
  | p :: ps => by
    have := plain_tips f ps
    rw [List.flatMap_cons]
    unfold tipD at this ⊢
    split
    · exact this
    · simp only [List.cons_append, List.nil_append, plainDs, plainD, Bool.and_true, Bool.true_and]; exact this
def still (f : T → Int) (m : Mob) : Bool := (m.rods (tx "")).all fun p => decide (p.2.lf f = p.2.rt f)
theorem tips_empty (f : T → Int) : ∀ (ps : List (T × Mob)), (ps.flatMap (tipD f)).isEmpty = ps.all fun p => decide (p.2.lf f = p.2.rt f)
  | [] => rfl
  | p :: ps => by
    have := tips_empty f ps
    rw [List.flatMap_cons, List.all_cons, ← this]
    unfold tipD
    by_cases h : p.2.lf f = p.2.rt f <;> simp [h]
theorem is_still_ev [K12 tab] (m : Mob) (ws : Ws) (ho : m.ok = true) (hd : m.dep ≤ 5) (hw : ws.ok) (hh : ws.has m) (k : Nat) (c : Cells) (hk : 11 < k) : callF tab k 12 [m.d, ws.d] c = .ok (.bl (still ws.of m)) c := by
  obtain ⟨k, rfl⟩ : ∃ j, k = j + 1 := ⟨k - 1, by omega⟩
  rw [callF_at (K12.h12 (tab := tab)) rfl]
  have e1 := fun c => tips_ev (tab := tab) m ws ho hd hw hh k c (by omega)
  have e2 := eqO_lst_nil _ (plain_tips ws.of (m.rods (tx "")))
  simp only [f12_is_still, b12_is_still, getV, evSs_cons, evS_ret, evE_cmp, evE_call, evEs_cons, evEs_nil, evE_var, evE_lst, ap_bind, ap_pure]
  simp [e1, e2]
  rw [tips_empty]
  simp [still]
/-! ### the worst -/
def absI (a : Int) : Int := if a < 0 then -a else a
def Mob.dif (f : T → Int) (m : Mob) : Int := absI (m.lf f - m.rt f)
def pulD (f : T → Int) (p : T × Mob) : D := .tup [.str p.1, .int (p.2.dif f)]
theorem pulls_ev [K17 tab] (kvs : List (T × D)) (f : T → Int) (m : Mob) : ∀ (k : Nat) (u : T) (c : Cells), m.ok = true → m.dep + 1 < k → m.dep ≤ 10 → u.length + m.dep ≤ 1000 → (∀ x ∈ m.nms, lkD x kvs = some (.int (f x))) → callF tab k 17 [m.d, .dct kvs, .str u] c = .ok (.lst ((m.rods u).map (pulD f))) c := by
  induction m with
  | w n =>
    intro k u c ho hk hd hu h
    obtain ⟨k, rfl⟩ : ∃ j, k = j + 1 := ⟨k - 1, by omega⟩
    rw [callF_at (K17.h17 (tab := tab)) rfl]
    simp [f17_pulls, b17_pulls, getV, Mob.d, ixD, ixP, Mob.rods]
  | rod l r a b iha ihb =>
    intro k u c ho hk hd hu h
    obtain ⟨k, rfl⟩ : ∃ j, k = j + 1 := ⟨k - 1, by omega⟩
    have e1 := fun c => pull_of_ev (tab := tab) kvs f l r a b ho h k c (by omega)
    simp only [Mob.dep] at hk hd hu
    have h1 := arms_of ho
    have ha : ∀ x ∈ a.nms, lkD x kvs = some (.int (f x)) := fun x hx => h x (by simp [Mob.nms, hx])
    have hb : ∀ x ∈ b.nms, lkD x kvs = some (.int (f x)) := fun x hx => h x (by simp [Mob.nms, hx])
    have q1 := tl1
    have q2 := tr1
    have e3 := fun c => iha k (u ++ tx "l") c h1.2.2.1 (by omega) (by omega) (by rw [List.length_append, q1]; omega) ha
    have e4 := fun c => ihb k (u ++ tx "r") c h1.2.2.2 (by omega) (by omega) (by rw [List.length_append, q2]; omega) hb
    have s1 := add_str u (tx "l") (by omega)
    have s2 := add_str u (tx "r") (by omega)
    have l1 := rods_len a (u ++ tx "l")
    have l2 := rods_len b (u ++ tx "r")
    have n1 := nms_len10 (m := a) (by omega)
    have n2 := nms_len10 (m := b) (by omega)
    have s3 : ∀ x : D, binD .add (.lst [x]) (.lst ((a.rods (u ++ tx "l")).map (pulD f))) = some (.lst (x :: (a.rods (u ++ tx "l")).map (pulD f))) := fun x => add_lst _ _ (by simp; omega)
    have s4 : ∀ x : D, binD .add (.lst (x :: (a.rods (u ++ tx "l")).map (pulD f))) (.lst ((b.rods (u ++ tx "r")).map (pulD f))) = some (.lst (x :: ((a.rods (u ++ tx "l")).map (pulD f) ++ (b.rods (u ++ tx "r")).map (pulD f)))) := fun x => add_lst _ _ (by simp; omega)
    have i1 : ixD (Mob.rod l r a b).d (.int 0) = some (.str (tx "rod")) := rfl
    have i3 : ixD (Mob.rod l r a b).d (.int 3) = some a.d := rfl
    have i4 : ixD (Mob.rod l r a b).d (.int 4) = some b.d := rfl
    rw [callF_at (K17.h17 (tab := tab)) rfl]
    simp [f17_pulls, b17_pulls, getV, i1, i3, i4, e1, s1, s2, e3, e4, s3, s4, Mob.rods, pulD, Mob.dif, absI]
def rowsMax (f : T → Int) (ps : List (T × Mob)) : Int := (ps.map fun p => p.2.dif f).foldl max 0
/-- the way to the worst one -/
def wstD (f : T → Int) (ps : List (T × Mob)) : D := if 0 < rowsMax f ps then (match ps.filter (fun p => decide (p.2.dif f = rowsMax f ps)) with
  | [] => .non
  | p :: _ => .str p.1) else .non
theorem foldl_max_mem : ∀ (xs : List Int) (a : Int), xs.foldl max a = a ∨ xs.foldl max a ∈ xs
  | [], a => .inl rfl
  | x :: xs, a => by
    rw [List.foldl_cons]
    rcases foldl_max_mem xs (max a x) with h | h
    · rw [h]
      rcases Int.le_total a x with q | q
      · rw [Int.max_eq_right q]; exact .inr List.mem_cons_self
      · rw [Int.max_eq_left q]; exact .inl rfl
    · exact .inr (List.mem_cons_of_mem _ h)
theorem foldl_max_ge : ∀ (xs : List Int) (a : Int), a ≤ xs.foldl max a ∧ ∀ x ∈ xs, x ≤ xs.foldl max a
  | [], a => ⟨Int.le_refl a, fun x h => by cases h⟩
  | y :: xs, a => by
    rw [List.foldl_cons]
    obtain ⟨h1, h2⟩ := foldl_max_ge xs (max a y)
    refine ⟨Int.le_trans (Int.le_max_left a y) h1, fun x hx => ?_⟩
    rcases List.mem_cons.mp hx with rfl | hx
    · exact Int.le_trans (Int.le_max_right a x) h1
    · exact h2 x hx
theorem worst_ev [K18 tab] (m : Mob) (ws : Ws) (ho : m.ok = true) (hd : m.dep ≤ 5) (hw : ws.ok) (hh : ws.has m) (k : Nat) (c : Cells) (hk : 11 < k) : callF tab k 18 [m.d, ws.d] c = .ok (wstD ws.of (m.rods (tx ""))) c := by
  obtain ⟨k, rfl⟩ : ∃ j, k = j + 1 := ⟨k - 1, by omega⟩
  rw [callF_at (K18.h18 (tab := tab)) rfl]
  have e1 := fun c => need_mobile_ev (tab := tab) m k c ho hd (by omega)
  have e2 := fun c => need_weights_ev (tab := tab) m ws hw hh hd k c (by omega)
  have e3 := fun c => pulls_ev (tab := tab) ws.bk ws.of m k (tx "") c ho (by omega) (by omega) (by rw [tx0]; omega) (fun x hx => of_bk ws x (hh x hx))
  have e5 : primD .dict [ws.d] = some (.dct ws.bk) := by simp [Ws.d, pairsD_rows, dict_rows hw]
  have hl : (m.rods (tx "")).length ≤ 32 := by have := rods_len m (tx ""); have := nms_len5 hd; omega
  generalize hr : m.rods (tx "") = ps at e3 hl ⊢
  let f := ws.of
  have c1 : ∀ c, lcW (callF tab k) (.tp [.nm 5, .nm 6]) (.bl true) (.var 6) [.val m.d, .val ws.d, .val (.lst (ps.map (pulD f))), .emp, .emp, .emp, .emp] (ps.map (pulD f)) c = .ok (ps.map fun p => .int (p.2.dif f)) c := fun c => by
    unfold lcW
    rw [lcL_map (f := fun p => .int (p.2.dif f)) ps [] c (fun p hp => ⟨[.val m.d, .val ws.d, .val (.lst (ps.map (pulD f))), .emp, .emp, .val (.str p.1), .val (.int (p.2.dif f))], rfl, fun c => by simp, fun c => by simp [getV]⟩)]
    · simp
    · simp; omega
  have c2 : ∀ M c, lcW (callF tab k) (.tp [.nm 5, .nm 6]) (.cmp .eq (.var 6) (.var 3)) (.var 5) [.val m.d, .val ws.d, .val (.lst (ps.map (pulD f))), .val (.int M), .emp, .emp, .emp] (ps.map (pulD f)) c = .ok ((ps.filter fun p => decide (p.2.dif f = M)).map fun p => .str p.1) c := fun M c => by
    unfold lcW
    rw [lcL_filter (f := fun p => .str p.1) (p := fun p => decide (p.2.dif f = M)) ps [] c (fun p hp => ⟨[.val m.d, .val ws.d, .val (.lst (ps.map (pulD f))), .val (.int M), .emp, .val (.str p.1), .val (.int (p.2.dif f))], rfl, fun c => by simp [getV]; rfl, fun c _ => by simp [getV]⟩)]
    · simp
    · simp; omega
  have s1 : binD .add (.lst [.int 0]) (.lst (ps.map fun p => .int (p.2.dif f))) = some (.lst (.int 0 :: ps.map fun p => .int (p.2.dif f))) := by
    rw [add_lst _ _ (by simp; omega)]
    simp
  have s2 : allInt (.int 0 :: ps.map fun p => .int (p.2.dif f)) = some (0 :: ps.map fun p => p.2.dif f) := by
    simp only [allInt, allInt_mapI]
    rfl
  have s3 : maxI (0 :: ps.map fun p => p.2.dif f) = some (rowsMax f ps) := rfl
  by_cases g : 0 < rowsMax f ps
  · have hm : (rowsMax f ps) ∈ ps.map fun p => p.2.dif f := by
      rcases foldl_max_mem (ps.map fun p => p.2.dif f) 0 with h | h
      · exact absurd (show rowsMax f ps = 0 from h) (by omega)
      · exact h
    obtain ⟨q, hq, eq⟩ := List.mem_map.mp hm
    cases hf : ps.filter (fun p => decide (p.2.dif f = rowsMax f ps)) with
    | nil =>
      have : q ∈ ps.filter (fun p => decide (p.2.dif f = rowsMax f ps)) := List.mem_filter.mpr ⟨hq, by simp [eq]⟩
      rw [hf] at this; cases this
    | cons p r =>
      have c2 := c2 (rowsMax f ps)
      rw [hf] at c2
      simp only [f] at s1 s2 s3 c1 c2 g hf
      simp [f18_worst, b18_worst, getV, e1, e2, e3, e5, wipeE, c1, s1, s2, s3, c2, g, ixD, ixP, wstD, hf]
  · have c2 := c2 (rowsMax f ps)
    simp only [f] at s1 s2 s3 c1 c2 g
    simp [f18_worst, b18_worst, getV, e1, e2, e3, e5, wipeE, c1, s1, s2, s3, c2, g, wstD]
end Hg
end
section
set_option Elab.async false
set_option linter.all false
set_option autoImplicit false
set_option maxRecDepth 100000
/-! G1: what the laws draw. -/
namespace Hg
variable {tab : Nat → Option FD}
/-- the town: so many noughts -/
def tw (n : Nat) : D := .lst (List.replicate n (.int 0))
theorem tw_len (n : Nat) : lenD (tw n) = some (.int n) := by simp [tw]
theorem tw_app (n : Nat) : D.lst (List.replicate n (.int 0) ++ [.int 0]) = tw (n + 1) := by
  unfold tw
  rw [List.replicate_succ']
theorem cell_at_ev [K19 tab] (ns : List Int) (j : Nat) (k : Nat) (hk : 0 < k) : ∃ v : Int, ∀ c, callF tab k 19 [.scr ns, .int j] c = .ok (.int v) c := by
  obtain ⟨k, rfl⟩ : ∃ i, k = i + 1 := ⟨k - 1, by omega⟩
  by_cases h : j < ns.length
  · refine ⟨ns[j], fun c => ?_⟩
    rw [callF_at (K19.h19 (tab := tab)) rfl]
    have h' : (j : Int) < ns.length := by omega
    have e : ixD (.scr ns) (.int j) = some (.int ns[j]) := by
      simp [ixD, ixP, h', h]
    simp [f19__law_cell_at, b19__law_cell_at, getV, h', e]
  · have h' : ¬ (j : Int) < ns.length := by omega
    cases ns with
    | nil =>
      refine ⟨0, fun c => ?_⟩
      rw [callF_at (K19.h19 (tab := tab)) rfl]
      have q : ¬ (j : Int) < 0 := by omega
      have e1 : cmpD .eq (.scr []) (.lst []) = some true := rfl
      simp [f19__law_cell_at, b19__law_cell_at, getV, q, e1]
    | cons x xs =>
      have e1 : cmpD .eq (.scr (x :: xs)) (.lst []) = some false := rfl
      have hlt : j % (x :: xs).length < (x :: xs).length := Nat.mod_lt _ (by simp)
      have e2 : binD .mod (.int j) (.int ((x :: xs).length : Nat)) = some (.int ((j % (x :: xs).length : Nat) : Int)) := by
        have : (0 : Int) < (((x :: xs).length : Nat) : Int) := by simp only [List.length_cons]; omega
        simp only [binD, this, if_true]
        rfl
      have e3 : ixD (.scr (x :: xs)) (.int ((j % (x :: xs).length : Nat) : Int)) = some (.int (x :: xs)[j % (x :: xs).length]) := by
        have h2 : ((j % (x :: xs).length : Nat) : Int) < ((x :: xs).length : Nat) := by omega
        have h3 : (0 : Int) ≤ ((j % (x :: xs).length : Nat) : Int) := by omega
        simp only [ixD, ixP, h2, h3, if_true, Int.toNat_natCast, Option.bind_some, List.getElem?_eq_getElem hlt, Option.map_some]
      have m1 := mul_int (x :: xs)[j % (x :: xs).length] 31 (.inr (by decide))
      generalize (x :: xs)[j % (x :: xs).length] = v at e3 m1
      generalize j % (x :: xs).length = i at e2 e3
      refine ⟨v * 31 + j, fun c => ?_⟩
      rw [callF_at (K19.h19 (tab := tab)) rfl]
      generalize hs : (x :: xs) = ns at h' e1 e2 e3
      simp [f19__law_cell_at, b19__law_cell_at, getV, h', e1, e2, e3, m1]
theorem mod_int (i j : Int) (h : 0 < j) : binD .mod (.int i) (.int j) = some (.int (i % j)) := by simp [binD, h]
theorem fdiv_int (i j : Int) (h : 0 < j) (h2 : j.natAbs < 2 ^ 8000) : binD .fdiv (.int i) (.int j) = some (.int (i / j)) := by simp only [binD, h, h2, and_self, if_true]
theorem mixed_ev [K20 tab] (ns : List Int) (j : Nat) (many : Int) (hm : 0 < many) (k : Nat) (hk : 1 < k) : ∃ v : Int, 0 ≤ v ∧ v < many ∧ ∀ c, callF tab k 20 [.scr ns, .int j, .int many] c = .ok (.int v) c := by
  obtain ⟨k, rfl⟩ : ∃ i, k = i + 1 := ⟨k - 1, by omega⟩
  obtain ⟨w, e1⟩ := cell_at_ev (tab := tab) ns j k (by omega)
  have m1 := mul_int w 1103515245 (.inr (by decide))
  have m2 := mul_int 7919 j (.inl (by decide))
  have m3 := mod_int (w * 1103515245 + 7919 * j + 12345) 2147483647 (by decide)
  have b1 : 0 ≤ (w * 1103515245 + 7919 * j + 12345) % 2147483647 := Int.emod_nonneg _ (by decide)
  have b2 : (w * 1103515245 + 7919 * j + 12345) % 2147483647 < 2147483647 := Int.emod_lt_of_pos _ (by decide)
  generalize (w * 1103515245 + 7919 * j + 12345) % 2147483647 = d at m3 b1 b2
  have p1 : binD .pow (.int d) (.int 5) = some (.int (d ^ 5)) := by
    have : d.natAbs < 2 ^ 64 := by
      have : d.natAbs < 2147483647 := by omega
      have q : 2147483647 < 2 ^ 64 := by decide
      omega
    have z : (0 : Int) ≤ 5 ∧ (5 : Int) ≤ 1000000 ∧ d.natAbs < 2 ^ 64 := ⟨by decide, by decide, this⟩
    have e : binD .pow (.int d) (.int 5) = if (0 : Int) ≤ 5 ∧ (5 : Int) ≤ 1000000 ∧ d.natAbs < 2 ^ 64 then some (.int (d ^ (5 : Int).toNat)) else none := rfl
    rw [e, if_pos z]
    rfl
  have m4 := mod_int (d ^ 5) 2147483647 (by decide)
  have m5 := mod_int (d ^ 5 % 2147483647) 999983 (by decide)
  have m6 := mod_int (d ^ 5 % 2147483647 % 999983) many hm
  refine ⟨d ^ 5 % 2147483647 % 999983 % many, Int.emod_nonneg _ (by omega), Int.emod_lt_of_pos _ hm, fun c => ?_⟩
  rw [callF_at (K20.h20 (tab := tab)) rfl]
  simp [f20__law_mixed, b20__law_mixed, getV, e1, m1, m2, m3, p1, m4, m5, m6]
theorem draw_ev [K21 tab] (ns : List Int) (n : Nat) (many : Int) (hm : 0 < many) (k : Nat) (r : Cells) (hk : 2 < k) (hn : n < 999999) : ∃ v : Int, 0 ≤ v ∧ v < many ∧ callF tab k 21 [.scr ns, .cel 0, .int many] (tw n :: r) = .ok (.int v) (tw (n + 1) :: r) := by
  obtain ⟨k, rfl⟩ : ∃ i, k = i + 1 := ⟨k - 1, by omega⟩
  obtain ⟨v, h1, h2, e1⟩ := mixed_ev (tab := tab) ns (n + 1) many hm k (by omega)
  refine ⟨v, h1, h2, ?_⟩
  rw [callF_at (K21.h21 (tab := tab)) rfl]
  have hn' : n < 1000000 := by omega
  have e2 : tw n = .lst (List.replicate n (.int 0)) := rfl
  have e3 : noCel (.int 0) = true := rfl
  have e4 : ((n + 1 : Nat) : Int) = (n : Int) + 1 := by omega
  rw [e4] at e1
  rw [e2]
  simp [f21__law_draw, b21__law_draw, getV, hn', e3, tw_app, tw_len, e1]
/-- one of a row -/
theorem pick_ev [K22 tab] (ns : List Int) (n : Nat) (xs : List D) (hx : xs ≠ []) (k : Nat) (r : Cells) (hk : 3 < k) (hn : n < 999999) : ∃ x ∈ xs, callF tab k 22 [.scr ns, .cel 0, .lst xs] (tw n :: r) = .ok x (tw (n + 1) :: r) := by
  obtain ⟨k, rfl⟩ : ∃ i, k = i + 1 := ⟨k - 1, by omega⟩
  have hl : 0 < xs.length := List.length_pos_iff.mpr hx
  obtain ⟨v, h1, h2, e1⟩ := draw_ev (tab := tab) ns n xs.length (by omega) k r (by omega) hn
  have hv : v.toNat < xs.length := by omega
  refine ⟨xs[v.toNat], List.getElem_mem _, ?_⟩
  rw [callF_at (K22.h22 (tab := tab)) rfl]
  have e2 : ixD (.lst xs) (.int v) = some xs[v.toNat] := by
    simp [ixD, ixP, h1, h2, hv]
  simp [f22__law_pick, b22__law_pick, getV, e1, e2]
/-- a mobile of names from a row, so deep at most -/
structure Drawn (nm : List T) (d : Nat) (m : Mob) : Prop where
  ok : m.ok = true
  dep : m.dep ≤ d
  nms : ∀ x ∈ m.nms, x ∈ nm
theorem mobile_ev [K23 tab] (ns : List Int) (nm : List T) (h0 : nm ≠ []) (hok : ∀ x ∈ nm, okNm x = true) (r : Cells) : ∀ (d n k : Nat), d + 4 < k → d ≤ 6 → n + 5 * 2 ^ d < 999999 →
    ∃ m n', Drawn nm d m ∧ n' + 4 ≤ n + 5 * 2 ^ d ∧ callF tab k 23 [.scr ns, .cel 0, .lst (nm.map .str), .int d] (tw n :: r) = .ok m.d (tw n' :: r)
  | 0, n, k, hk, hd, hn => by
    obtain ⟨k, rfl⟩ : ∃ i, k = i + 1 := ⟨k - 1, by omega⟩
    obtain ⟨x, hx, e1⟩ := pick_ev (tab := tab) ns n (nm.map .str) (by simpa using h0) k r (by omega) (by omega)
    obtain ⟨y, hy, rfl⟩ := List.mem_map.mp hx
    refine ⟨.w y, n + 1, ⟨hok y hy, Nat.le_refl 0, fun z hz => by simp only [Mob.nms, List.mem_singleton] at hz; subst hz; exact hy⟩, by omega, ?_⟩
    rw [callF_at (K23.h23 (tab := tab)) rfl]
    simp [f23__law_mobile, b23__law_mobile, getV, e1, Mob.d]
  | d + 1, n, k, hk, hd, hn => by
    obtain ⟨k, rfl⟩ : ∃ i, k = i + 1 := ⟨k - 1, by omega⟩
    have p2 : 1 ≤ 2 ^ d := Nat.one_le_two_pow
    rw [Nat.pow_succ] at hn ⊢
    obtain ⟨v0, h01, h02, e0⟩ := draw_ev (tab := tab) ns n 4 (by decide) k r (by omega) (by omega)
    by_cases z : v0 = 0
    · subst z
      obtain ⟨x, hx, e1⟩ := pick_ev (tab := tab) ns (n + 1) (nm.map .str) (by simpa using h0) k r (by omega) (by omega)
      obtain ⟨y, hy, rfl⟩ := List.mem_map.mp hx
      refine ⟨.w y, n + 1 + 1, ⟨hok y hy, Nat.zero_le _, fun z hz => by simp only [Mob.nms, List.mem_singleton] at hz; subst hz; exact hy⟩, by omega, ?_⟩
      rw [callF_at (K23.h23 (tab := tab)) rfl]
      have zz : ((d : Int) + 1 == 0) = false := by rw [beq_eq_false_iff_ne]; omega
      simp [f23__law_mobile, b23__law_mobile, getV, zz, e0, e1, Mob.d]
    · obtain ⟨x, hx, e1⟩ := pick_ev (tab := tab) ns (n + 1) ([2, 3, 4, 9].map .int) (by simp) k r (by omega) (by omega)
      obtain ⟨y, hy, rfl⟩ := List.mem_map.mp hx
      have hy' : 2 ≤ y ∧ y ≤ 9 := by
        simp only [List.mem_cons, List.not_mem_nil, or_false] at hy
        omega
      obtain ⟨v1, h11, h12, e2⟩ := draw_ev (tab := tab) ns (n + 1 + 1) y (by omega) k r (by omega) (by omega)
      obtain ⟨v2, h21, h22, e3⟩ := draw_ev (tab := tab) ns (n + 1 + 1 + 1) y (by omega) k r (by omega) (by omega)
      obtain ⟨a, n1, ha, hn1, e4⟩ := mobile_ev ns nm h0 hok r d (n + 1 + 1 + 1 + 1) k (by omega) (by omega) (by omega)
      obtain ⟨b, n2, hb, hn2, e5⟩ := mobile_ev ns nm h0 hok r d n1 k (by omega) (by omega) (by omega)
      refine ⟨.rod (1 + v1) (1 + v2) a b, n2, ⟨?_, ?_, ?_⟩, by omega, ?_⟩
      · have q1 : (1 : Int) ≤ 1 + v1 := by omega
        have q2 : 1 + v1 ≤ 9 := by omega
        have q3 : (1 : Int) ≤ 1 + v2 := by omega
        have q4 : 1 + v2 ≤ 9 := by omega
        simp [Mob.ok, q1, q2, q3, q4, ha.ok, hb.ok]
      · have := ha.dep; have := hb.dep
        simp only [Mob.dep]; omega
      · intro z hz
        simp only [Mob.nms, List.mem_append] at hz
        exact hz.elim (ha.nms z) (hb.nms z)
      · rw [callF_at (K23.h23 (tab := tab)) rfl]
        have zz : ((d : Int) + 1 == 0) = false := by rw [beq_eq_false_iff_ne]; omega
        have zv : (v0 == 0) = false := by rw [beq_eq_false_iff_ne]; exact z
        have z2 : (d : Int) + 1 - 1 = d := by omega
        simp at e1
        simp [f23__law_mobile, b23__law_mobile, getV, zz, zv, z2, e0, e1, e2, e3, e4, e5, Mob.d]
/-- each weight gets a name of its own -/
theorem fresh_ev [K24 tab] (t : D) (m : Mob) : ∀ (n k : Nat), m.ok = true → m.dep < k → n + m.nms.length < 999999 → ∃ m' : Mob, m'.ok = true ∧ m'.dep = m.dep ∧ callF tab k 24 [m.d, .cel 1] [t, tw n] = .ok m'.d [t, tw (n + m.nms.length)] := by
  induction m with
  | w x =>
    intro n k ho hk hn
    obtain ⟨k, rfl⟩ : ∃ i, k = i + 1 := ⟨k - 1, by omega⟩
    simp only [Mob.nms, List.length_singleton] at hn ⊢
    have hlt : (n + 1) * 7 % 26 < 26 := Nat.mod_lt _ (by decide)
    have hn' : n < 1000000 := by omega
    have e2 : tw n = .lst (List.replicate n (.int 0)) := rfl
    have e3 : noCel (.int 0) = true := rfl
    have m1 := mul_int ((n : Int) + 1) 7 (.inr (by decide))
    have m2 := mod_int (((n : Int) + 1) * 7) 26 (by decide)
    have key : ∀ i : Nat, i < 26 → ∃ y : T, okNm y = true ∧ ixD (.str (tx "abcdefghijklmnopqrstuvwxyz")) (.int i) = some (.str y) := by
      intro i hi
      have h26 : (tx "abcdefghijklmnopqrstuvwxyz").length = 26 := by decide
      refine ⟨[(tx "abcdefghijklmnopqrstuvwxyz")[i]'(by omega)], ?_, ?_⟩
      · have : ∀ c ∈ [(tx "abcdefghijklmnopqrstuvwxyz")[i]'(by omega)], c ∈ tx "abcdefghijklmnopqrstuvwxyz" := by
          intro c hc
          rw [List.mem_singleton] at hc
          rw [hc]
          exact List.getElem_mem _
        unfold okNm
        rw [stripT_nilB, decide_eq_true this]
        rfl
      · have h1 : (i : Int) < ((tx "abcdefghijklmnopqrstuvwxyz").length : Nat) := by omega
        have h2 : (0 : Int) ≤ (i : Int) := by omega
        have h3 : (tx "abcdefghijklmnopqrstuvwxyz").length ≤ 1000000 := by omega
        simp only [ixD, ixP, h1, h2, h3, if_true, Int.toNat_natCast, Option.bind_some]
        rw [List.getElem?_eq_getElem (by omega)]
        rfl
    obtain ⟨y, hy, e4⟩ := key _ hlt
    have ec : (((n + 1) * 7 % 26 : Nat) : Int) = ((n : Int) + 1) * 7 % 26 := by omega
    rw [ec] at e4
    refine ⟨.w y, hy, rfl, ?_⟩
    rw [callF_at (K24.h24 (tab := tab)) rfl]
    rw [e2]
    have i0 : ixD (Mob.w x).d (.int 0) = some (.str (tx "weight")) := rfl
    simp [f24__law_fresh, b24__law_fresh, getV, i0, hn', e3, tw_app, tw_len, m1, m2, e4]
    rfl
  | rod l r a b iha ihb =>
    intro n k ho hk hn
    obtain ⟨k, rfl⟩ : ∃ i, k = i + 1 := ⟨k - 1, by omega⟩
    simp only [Mob.dep] at hk
    simp only [Mob.nms, List.length_append] at hn
    have h1 := arms_of ho
    obtain ⟨a', oa, da, ea⟩ := iha n k h1.2.2.1 (by omega) (by omega)
    obtain ⟨b', ob, db, eb⟩ := ihb (n + a.nms.length) k h1.2.2.2 (by omega) (by omega)
    refine ⟨.rod l r a' b', ?_, by simp only [Mob.dep, da, db], ?_⟩
    · simp [Mob.ok, h1, oa, ob]
    · have i0 : ixD (Mob.rod l r a b).d (.int 0) = some (.str (tx "rod")) := rfl
      have i3 : ixD (Mob.rod l r a b).d (.int 3) = some a.d := rfl
      have i4 : ixD (Mob.rod l r a b).d (.int 4) = some b.d := rfl
      have s1 : slD (Mob.rod l r a b).d .non (.int 3) = some (.tup [.str (tx "rod"), .int l, .int r]) := by simp [slD, sBnd, Mob.d, cutL]
      have a1 : binD .add (.tup [.str (tx "rod"), .int l, .int r]) (.tup [a'.d, b'.d]) = some (Mob.rod l r a' b').d := rfl
      have e : n + a.nms.length + b.nms.length = n + (Mob.rod l r a b).nms.length := by simp only [Mob.nms, List.length_append]; omega
      rw [e] at eb
      rw [callF_at (K24.h24 (tab := tab)) rfl]
      simp [f24__law_fresh, b24__law_fresh, getV, i0, i3, i4, s1, a1, ea, eb]
/-- a mobile as the laws draw it -/
theorem some_ev [K25 tab] (ns : List Int) (d n k : Nat) (hd : d ≤ 5) (hk : d + 5 < k) (hn : n ≤ 100000) : ∃ (m : Mob) (n' : Nat), m.ok = true ∧ m.dep ≤ d ∧ n' ≤ n + 200 ∧ callF tab k 25 [.scr ns, .cel 0, .int d] [tw n] = .ok m.d [tw n'] := by
  obtain ⟨k, rfl⟩ : ∃ i, k = i + 1 := ⟨k - 1, by omega⟩
  have p5 : 2 ^ d ≤ 2 ^ 5 := Nat.pow_le_pow_right (by omega) hd
  have p5' : 2 ^ 5 = 32 := by decide
  let nms : List (List T) := [[tx "a"], [tx "a", tx "b"], [tx "x", tx "b", tx "kk", tx "c"]]
  obtain ⟨x, hx, e1⟩ := pick_ev (tab := tab) ns n (nms.map fun x => .lst (x.map .str)) (by simp [nms]) k [] (by omega) (by omega)
  obtain ⟨nm, hnm, rfl⟩ := List.mem_map.mp hx
  have ok0 : ∀ y ∈ nms, y ≠ [] ∧ ∀ z ∈ y, okNm z = true := by decide +kernel
  obtain ⟨m, n1, hm, hn1, e2⟩ := mobile_ev (tab := tab) ns nm (ok0 nm hnm).1 (ok0 nm hnm).2 [] d (n + 1) k (by omega) (by omega) (by omega)
  obtain ⟨v, h1, h2, e3⟩ := draw_ev (tab := tab) ns n1 2 (by decide) k [] (by omega) (by omega)
  have hd' := hm.dep
  have hl := nms_len5 (m := m) (by omega)
  obtain ⟨m', ok', dep', e4⟩ := fresh_ev (tab := tab) (tw (n1 + 1)) m 0 k hm.ok (by omega) (by omega)
  have t0 : tw 0 = .lst [] := rfl
  have z := by simpa [nms] using e1
  by_cases q : v = 0
  · subst q
    refine ⟨m, n1 + 1, hm.ok, hm.dep, by omega, ?_⟩
    rw [callF_at (K25.h25 (tab := tab)) rfl]
    simp [f25__law_some, b25__law_some, getV, z, e2, e3]
  · refine ⟨m', n1 + 1, ok', by omega, by omega, ?_⟩
    have qv : (v == 0) = false := by rw [beq_eq_false_iff_ne]; exact q
    rw [t0] at e4
    rw [callF_at (K25.h25 (tab := tab)) rfl]
    simp [f25__law_some, b25__law_some, getV, z, e2, e3, qv, outN, e4]
def rodD (p : T × Mob) : D := .tup [.str p.1, p.2.d]
theorem lrods_ev [K26 tab] (m : Mob) : ∀ (k : Nat) (u : T) (c : Cells), m.dep < k → m.dep ≤ 10 → u.length + m.dep ≤ 1000 → callF tab k 26 [m.d, .str u] c = .ok (.lst ((m.rods u).map rodD)) c := by
  induction m with
  | w n =>
    intro k u c hk hd hu
    obtain ⟨k, rfl⟩ : ∃ j, k = j + 1 := ⟨k - 1, by omega⟩
    have i0 : ixD (Mob.w n).d (.int 0) = some (.str (tx "weight")) := rfl
    rw [callF_at (K26.h26 (tab := tab)) rfl]
    simp [f26__law_rods, b26__law_rods, getV, i0, Mob.rods]
  | rod l r a b iha ihb =>
    intro k u c hk hd hu
    obtain ⟨k, rfl⟩ : ∃ j, k = j + 1 := ⟨k - 1, by omega⟩
    simp only [Mob.dep] at hk hd hu
    have q1 := tl1
    have q2 := tr1
    have e1 := fun c => iha k (u ++ tx "l") c (by omega) (by omega) (by rw [List.length_append, q1]; omega)
    have e2 := fun c => ihb k (u ++ tx "r") c (by omega) (by omega) (by rw [List.length_append, q2]; omega)
    have l1 := rods_len a (u ++ tx "l")
    have l2 := rods_len b (u ++ tx "r")
    have n1 := nms_len10 (m := a) (by omega)
    have n2 := nms_len10 (m := b) (by omega)
    have s1 := add_str u (tx "l") (by omega)
    have s2 := add_str u (tx "r") (by omega)
    have s3 : ∀ x : D, binD .add (.lst [x]) (.lst ((a.rods (u ++ tx "l")).map rodD)) = some (.lst (x :: (a.rods (u ++ tx "l")).map rodD)) := fun x => add_lst _ _ (by simp; omega)
    have s4 : ∀ x : D, binD .add (.lst (x :: (a.rods (u ++ tx "l")).map rodD)) (.lst ((b.rods (u ++ tx "r")).map rodD)) = some (.lst (x :: ((a.rods (u ++ tx "l")).map rodD ++ (b.rods (u ++ tx "r")).map rodD))) := fun x => add_lst _ _ (by simp; omega)
    have i0 : ixD (Mob.rod l r a b).d (.int 0) = some (.str (tx "rod")) := rfl
    have i3 : ixD (Mob.rod l r a b).d (.int 3) = some a.d := rfl
    have i4 : ixD (Mob.rod l r a b).d (.int 4) = some b.d := rfl
    rw [callF_at (K26.h26 (tab := tab)) rfl]
    simp [f26__law_rods, b26__law_rods, getV, i0, i3, i4, s1, s2, e1, e2, s3, s4, Mob.rods, rodD]
theorem lleaves_ev [K27 tab] (m : Mob) : ∀ (k : Nat) (c : Cells), m.dep < k → m.dep ≤ 10 → callF tab k 27 [m.d] c = .ok (.lst (m.nms.map .str)) c := by
  induction m with
  | w n =>
    intro k c hk hd
    obtain ⟨k, rfl⟩ : ∃ j, k = j + 1 := ⟨k - 1, by omega⟩
    have i0 : ixD (Mob.w n).d (.int 0) = some (.str (tx "weight")) := rfl
    have i1 : ixD (Mob.w n).d (.int 1) = some (.str n) := rfl
    rw [callF_at (K27.h27 (tab := tab)) rfl]
    simp [f27__law_leaves, b27__law_leaves, getV, i0, i1, Mob.nms]
  | rod l r a b iha ihb =>
    intro k c hk hd
    obtain ⟨k, rfl⟩ : ∃ j, k = j + 1 := ⟨k - 1, by omega⟩
    simp only [Mob.dep] at hk hd
    have e1 := fun c => iha k c (by omega) (by omega)
    have e2 := fun c => ihb k c (by omega) (by omega)
    have n1 := nms_len10 (m := a) (by omega)
    have n2 := nms_len10 (m := b) (by omega)
    have s3 := add_lst (a.nms.map .str) (b.nms.map .str) (by simp; omega)
    have i0 : ixD (Mob.rod l r a b).d (.int 0) = some (.str (tx "rod")) := rfl
    have i3 : ixD (Mob.rod l r a b).d (.int 3) = some a.d := rfl
    have i4 : ixD (Mob.rod l r a b).d (.int 4) = some b.d := rfl
    rw [callF_at (K27.h27 (tab := tab)) rfl]
    simp [f27__law_leaves, b27__law_leaves, getV, i0, i3, i4, e1, e2, s3, Mob.nms]
theorem lnames_ev [K28 tab] (m : Mob) (k : Nat) (c : Cells) (hk : 7 < k) (hd : m.dep ≤ 5) : callF tab k 28 [m.d] c = .ok (.lst (m.names.map .str)) c := by
  obtain ⟨k, rfl⟩ : ∃ j, k = j + 1 := ⟨k - 1, by omega⟩
  have hn := nms_len5 hd
  have e1 := fun c => lleaves_ev (tab := tab) m k c (by omega) (by omega)
  rw [callF_at (K28.h28 (tab := tab)) rfl]
  simp [f28__law_names, b28__law_names, getV, e1, ssetD_map (show m.nms.length < 64 by omega), Mob.names]
theorem lload_ev [K30 tab] (kvs : List (T × D)) (f : T → Int) (m : Mob) (k : Nat) (c : Cells) (hd : m.dep ≤ 10) (hk : m.dep + 1 < k) (h : ∀ x ∈ m.nms, lkD x kvs = some (.int (f x))) : callF tab k 30 [m.d, .dct kvs] c = .ok (.int (m.load f)) c := by
  obtain ⟨k, rfl⟩ : ∃ j, k = j + 1 := ⟨k - 1, by omega⟩
  have e1 := fun c => lleaves_ev (tab := tab) m k c (by omega) (by omega)
  have hn := nms_len10 hd
  have e2 : ∀ c, lcW (callF tab k) (.nm 2) (.bl true) (.ix (.var 1) (.var 2)) [.val m.d, .val (.dct kvs), .emp] (m.nms.map .str) c = .ok (m.nms.map fun x => .int (f x)) c := fun c => by
    unfold lcW
    rw [lcL_map (f := fun x => .int (f x)) m.nms [] c (fun x hx => ⟨[.val m.d, .val (.dct kvs), .val (.str x)], rfl, fun c => by simp, fun c => by simp [getV, h x hx]⟩)]
    · simp
    · simp; omega
  rw [callF_at (K30.h30 (tab := tab)) rfl]
  simp [f30__law_load, b30__law_load, getV, e1, wipeE, e2, allInt_mapI]
  rw [load_sum]
/-! ### a comprehension that draws -/
theorem lcL_draw {tg : Tg} {tt te : Env → M D} {env : Env} {r : Cells} (P : Nat → Prop) (g : T → Int → D) {Rg : Int → Prop} : ∀ (xs : List T) (acc : List D) (n : Nat),
    (∀ x ∈ xs, ∀ n, P n → ∃ env', bindT tg (.str x) env = some env' ∧ (∀ c, tt env' c = .ok (.bl true) c) ∧ ∃ v : Int, Rg v ∧ te env' (tw n :: r) = .ok (g x v) (tw (n + 1) :: r)) → (∀ i, i ≤ xs.length → P (n + i)) → acc.length + xs.length ≤ 1000000 →
    ∃ vs : List Int, vs.length = xs.length ∧ (∀ v ∈ vs, Rg v) ∧ lcL tg tt te env (xs.map .str) acc (tw n :: r) = .ok (acc ++ (xs.zip vs).map fun p => g p.1 p.2) (tw (n + xs.length) :: r)
  | [], acc, n, _, _, _ => ⟨[], rfl, by simp, by simp [lcL]⟩
  | x :: xs, acc, n, h, hp, hl => by
    obtain ⟨env', h1, h2, v, hv, h3⟩ := h x List.mem_cons_self n (hp 0 (by simp))
    simp only [List.length_cons] at hl hp
    obtain ⟨vs, l1, l2, e⟩ := lcL_draw (tg := tg) (tt := tt) (te := te) (env := env) P g xs (acc ++ [g x v]) (n + 1) (fun y hy => h y (List.mem_cons_of_mem _ hy)) (fun i hi => by
      have := hp (i + 1) (by omega)
      rwa [show n + (i + 1) = n + 1 + i by omega] at this) (by simp; omega)
    refine ⟨v :: vs, by simp [l1], fun w hw => ?_, ?_⟩
    · rcases List.mem_cons.mp hw with rfl | hw
      · exact hv
      · exact l2 w hw
    · have hlt : acc.length < 1000000 := by omega
      rw [List.map_cons, lcL_at h1]
      simp [h2, h3, hlt, e, Nat.add_comm, Nat.add_left_comm]
theorem zip_fst {α β : Type} : ∀ {xs : List α} {ys : List β}, ys.length = xs.length → (xs.zip ys).map (·.1) = xs
  | [], _, _ => by simp
  | x :: xs, [], h => by simp at h
  | x :: xs, y :: ys, h => by simp [zip_fst (xs := xs) (ys := ys) (by simpa using h)]
theorem lweights_ev [K29 tab] (ns : List Int) (nm : List T) (h1 : nm.Pairwise (· < ·)) (h2 : ∀ x ∈ nm, okNm x = true) (hl : nm.length ≤ 1000) (n k : Nat) (r : Cells) (hk : 4 < k) (hn : n ≤ 900000) : ∃ ws : Ws, ws.ok ∧ ws.map (·.1) = nm ∧ (∀ p ∈ ws, p.2 ≤ 12) ∧ callF tab k 29 [.scr ns, .cel 0, .lst (nm.map .str)] (tw n :: r) = .ok ws.d (tw (n + 1 + nm.length) :: r) := by
  obtain ⟨k, rfl⟩ : ∃ i, k = i + 1 := ⟨k - 1, by omega⟩
  obtain ⟨x, hx, e1⟩ := pick_ev (tab := tab) ns n ([1, 2, 4, 12].map .int) (by simp) k r (by omega) (by omega)
  obtain ⟨y, hy, rfl⟩ := List.mem_map.mp hx
  have hy' : 1 ≤ y ∧ y ≤ 12 := by
    simp only [List.mem_cons, List.not_mem_nil, or_false] at hy
    omega
  have e2 := lcL_draw (tg := .nm 4) (tt := evE (callF tab k) (.bl true)) (te := evE (callF tab k) (.tup [(.var 4), (.bin .add (.int 1) (.call 21 [(.var 0), (.var 1), (.var 3)]))])) (env := [.val (.scr ns), .val (.cel 0), .val (.lst (nm.map .str)), .val (.int y), .emp]) (r := r) (fun n => n < 999999) (fun x v => .tup [.str x, .int (1 + v)]) (Rg := fun v => 0 ≤ v ∧ v < y) nm [] (n + 1)
    (fun x hx n hn => by
      obtain ⟨v, v1, v2, e⟩ := draw_ev (tab := tab) ns n y (by omega) k r (by omega) hn
      exact ⟨_, rfl, fun c => by simp, v, ⟨v1, v2⟩, by simp [getV, e]⟩) (fun i hi => by omega) (by simp; omega)
  obtain ⟨vs, l1, l2, e2⟩ := e2
  have key : ∀ p ∈ (nm.zip vs).map (fun p => (p.1, 1 + p.2)), p.1 ∈ nm ∧ 1 ≤ p.2 ∧ p.2 ≤ 12 := fun p hp => by
    obtain ⟨q, hq, rfl⟩ := List.mem_map.mp hp
    have q1 := List.of_mem_zip hq
    have := l2 q.2 q1.2
    exact ⟨q1.1, by dsimp only; omega, by dsimp only; omega⟩
  have fs : ((nm.zip vs).map (fun p => (p.1, 1 + p.2))).map (·.1) = nm := by
    rw [List.map_map]
    exact zip_fst l1
  refine ⟨(nm.zip vs).map fun p => (p.1, 1 + p.2), ⟨by rw [fs]; exact h1, fun p hp => h2 _ (key p hp).1, fun p hp => by have := (key p hp).2; omega, ?_⟩, fs, fun p hp => (key p hp).2.2, ?_⟩
  · have := congrArg List.length fs
    rw [List.length_map] at this
    omega
  · rw [callF_at (K29.h29 (tab := tab)) rfl]
    have z := by simpa using e1
    have e3 : lcW (callF tab k) (.nm 4) (.bl true) (.tup [(.var 4), (.bin .add (.int 1) (.call 21 [(.var 0), (.var 1), (.var 3)]))]) [.val (.scr ns), .val (.cel 0), .val (.lst (nm.map .str)), .val (.int y), .emp] (nm.map .str) (tw (n + 1) :: r) = .ok ((nm.zip vs).map fun p => .tup [.str p.1, .int (1 + p.2)]) (tw (n + 1 + nm.length) :: r) := by
      unfold lcW
      rw [e2]
      simp
    simp [f29__law_weights, b29__law_weights, getV, z, wipeE, e3, Ws.d, rowD, Function.comp_def]
end Hg
end
section
set_option Elab.async false
set_option linter.all false
set_option autoImplicit false
set_option maxRecDepth 100000
/-! P4: deeds: with_part, turned, longer, reduced, plain, load, hung; arms. -/
namespace Hg
variable {tab : Nat → Option FD}
/-- something else at a way -/
def Mob.put : Mob → T → Mob → Mob
  | _, [], p => p
  | .w n, _ :: _, _ => .w n
  | .rod l r a b, c :: u, p => if c = 114 then .rod l r a (b.put u p) else .rod l r (a.put u p) b
theorem sl_rod3 (l r : Int) (a b : Mob) : slD (Mob.rod l r a b).d .non (.int 3) = some (.tup [.str (tx "rod"), .int l, .int r]) := by simp [slD, sBnd, Mob.d, cutL]
theorem sl_rod4 (l r : Int) (a b : Mob) : slD (Mob.rod l r a b).d .non (.int 4) = some (.tup [.str (tx "rod"), .int l, .int r, a.d]) := by simp [slD, sBnd, Mob.d, cutL]
theorem sl_str1 (x : Nat) (u : T) (h : u.length < 1000000) : slD (.str (x :: u)) (.int 1) .non = some (.str u) := by
  have h1 : (x :: u).length ≤ 1000000 := by simp only [List.length_cons]; omega
  have h2 : min 1 (x :: u).length = 1 := by simp only [List.length_cons]; omega
  simp only [slD, h1, if_true, sBnd]
  simp [cutL]
theorem ix_str0 (x : Nat) (u : T) (h : u.length < 1000000) : ixD (.str (x :: u)) (.int 0) = some (.str [x]) := by
  have h1 : (x :: u).length ≤ 1000000 := by simp only [List.length_cons]; omega
  simp only [ixD, h1, if_true]
  simp [ixP]
theorem i_rod0 (l r : Int) (a b : Mob) : ixD (Mob.rod l r a b).d (.int 0) = some (.str (tx "rod")) := rfl
theorem i_rod1 (l r : Int) (a b : Mob) : ixD (Mob.rod l r a b).d (.int 1) = some (.int l) := rfl
theorem i_rod2 (l r : Int) (a b : Mob) : ixD (Mob.rod l r a b).d (.int 2) = some (.int r) := rfl
theorem i_rod3 (l r : Int) (a b : Mob) : ixD (Mob.rod l r a b).d (.int 3) = some a.d := rfl
theorem i_rod4 (l r : Int) (a b : Mob) : ixD (Mob.rod l r a b).d (.int 4) = some b.d := rfl
theorem i_w0 (n : T) : ixD (Mob.w n).d (.int 0) = some (.str (tx "weight")) := rfl
theorem i_w1 (n : T) : ixD (Mob.w n).d (.int 1) = some (.str n) := rfl
theorem with_part_ev [K32 tab] : ∀ (u : T) (m q p : Mob) (k : Nat) (c : Cells), isWay u = true → m.at u = some q → u.length < k → u.length < 1000 → callF tab k 32 [m.d, .str u, p.d] c = .ok (m.put u p).d c
  | [], m, q, p, k, c, hw, ha, hk, hl => by
    obtain ⟨k, rfl⟩ : ∃ i, k = i + 1 := ⟨k - 1, by omega⟩
    rw [callF_at (K32.h32 (tab := tab)) rfl]
    have e : (([] : T) == tx "") = true := by decide
    have e2 : m.put [] p = p := by cases m <;> rfl
    rw [e2]
    simp [f32_with_part, b32_with_part, getV, e]
  | x :: u, .w n, q, p, k, c, hw, ha, hk, hl => by simp only [Mob.at, reduceCtorEq] at ha
  | x :: u, .rod l r a b, q, p, k, c, hw, ha, hk, hl => by
    obtain ⟨k, rfl⟩ : ∃ i, k = i + 1 := ⟨k - 1, by omega⟩
    simp only [List.length_cons] at hk hl
    have e : ((x :: u) == tx "") = false := by
      have : tx "" = [] := by decide
      rw [this]; rfl
    have hw2 : isWay u = true := by
      simp only [isWay, List.all_cons, Bool.and_eq_true] at hw ⊢
      exact hw.2
    have hx : x = 108 ∨ x = 114 := by
      have := isWay_iff.mp hw x List.mem_cons_self
      rw [txlr] at this
      simpa using this
    simp only [Mob.at] at ha
    have s1 := sl_str1 x u (by omega)
    have s0 := ix_str0 x u (by omega)
    rw [callF_at (K32.h32 (tab := tab)) rfl]
    by_cases h : x = 114
    · subst h
      rw [if_pos rfl] at ha
      have ih := fun c => with_part_ev u b q p k c hw2 ha (by omega) (by omega)
      have nl : (([114] : T) == tx "l") = false := by decide
      have a1 : binD .add (.tup [.str (tx "rod"), .int l, .int r, a.d]) (.tup [(b.put u p).d]) = some (Mob.rod l r a (b.put u p)).d := rfl
      have e2 : (Mob.rod l r a b).put (114 :: u) p = Mob.rod l r a (b.put u p) := rfl
      simp [f32_with_part, b32_with_part, getV, e, s0, nl, sl_rod4, i_rod4, s1, ih, a1, e2]
    · have h8 : x = 108 := by omega
      subst h8
      rw [if_neg h] at ha
      have ih := fun c => with_part_ev u a q p k c hw2 ha (by omega) (by omega)
      have nl : (([108] : T) == tx "l") = true := by decide
      have a1 : binD .add (.tup [.str (tx "rod"), .int l, .int r]) (.tup [(a.put u p).d, b.d]) = some (Mob.rod l r (a.put u p) b).d := rfl
      have e2 : (Mob.rod l r a b).put (108 :: u) p = Mob.rod l r (a.put u p) b := rfl
      simp [f32_with_part, b32_with_part, getV, e, s0, nl, sl_rod3, i_rod3, i_rod4, s1, ih, a1, e2]
theorem put_ok : ∀ (u : T) (m p : Mob), m.ok = true → p.ok = true → (m.put u p).ok = true
  | [], m, p, hm, hp => by cases m <;> exact hp
  | x :: u, .w n, p, hm, hp => hm
  | x :: u, .rod l r a b, p, hm, hp => by
    have h := arms_of hm
    simp only [Mob.put]
    split
    · simp [Mob.ok, h, put_ok u b p h.2.2.2 hp]
    · simp [Mob.ok, h, put_ok u a p h.2.2.1 hp]
theorem put_dep : ∀ (u : T) (m q p : Mob), m.at u = some q → p.dep ≤ q.dep → (m.put u p).dep ≤ m.dep
  | [], m, q, p, h, hd => by cases m <;> · simp only [Mob.at, Option.some.injEq] at h; subst h; exact hd
  | x :: u, .w n, q, p, h, hd => Nat.le_refl _
  | x :: u, .rod l r a b, q, p, h, hd => by
    simp only [Mob.at] at h
    simp only [Mob.put]
    split <;> rename_i e
    · rw [if_pos e] at h
      have := put_dep u b q p h hd
      simp only [Mob.dep]; omega
    · rw [if_neg e] at h
      have := put_dep u a q p h hd
      simp only [Mob.dep]; omega
theorem put_at : ∀ (u : T) (m q p : Mob), m.at u = some q → (m.put u p).at u = some p
  | [], m, q, p, h => by cases m <;> cases p <;> rfl
  | x :: u, .w n, q, p, h => by simp only [Mob.at, reduceCtorEq] at h
  | x :: u, .rod l r a b, q, p, h => by
    simp only [Mob.at] at h
    simp only [Mob.put]
    split <;> rename_i e
    · rw [if_pos e] at h
      simp only [Mob.at, e, if_true]
      exact put_at u b q p h
    · rw [if_neg e] at h
      simp only [Mob.at, e, if_false]
      exact put_at u a q p h
/-- names stay, if those of the part do -/
theorem put_nms : ∀ (u : T) (m q p : Mob), m.at u = some q → (∀ x ∈ p.nms, x ∈ q.nms) → ∀ x ∈ (m.put u p).nms, x ∈ m.nms
  | [], m, q, p, h, hp => by cases m <;> · simp only [Mob.at, Option.some.injEq] at h; subst h; exact hp
  | y :: u, .w n, q, p, h, hp => fun x hx => hx
  | y :: u, .rod l r a b, q, p, h, hp => fun x hx => by
    simp only [Mob.at] at h
    simp only [Mob.put] at hx
    simp only [Mob.nms, List.mem_append]
    split at hx <;> rename_i e <;> simp only [Mob.nms, List.mem_append] at hx
    · rw [if_pos e] at h
      exact hx.imp id (put_nms u b q p h hp x)
    · rw [if_neg e] at h
      exact hx.imp (put_nms u a q p h hp x) id
theorem turned_ev [K39 tab] (m : Mob) (ho : m.ok = true) (hd : m.dep ≤ 5) (l r : Int) (a b : Mob) (u : T) (hu : isWay u = true) (hp : m.at u = some (.rod l r a b)) (k : Nat) (c : Cells) (hk : 9 < k) : callF tab k 39 [m.d, .str u] c = .ok (m.put u (.rod r l b a)).d c := by
  obtain ⟨k, rfl⟩ : ∃ j, k = j + 1 := ⟨k - 1, by omega⟩
  rw [callF_at (K39.h39 (tab := tab)) rfl]
  have d1 := at_dep hp
  have e1 := fun c => need_mobile_ev (tab := tab) m k c ho hd (by omega)
  have e3 := fun c => rod_at_ev (tab := tab) m l r a b u (by omega) hu hp k c (by omega)
  have e4 := fun c => with_part_ev (tab := tab) u m _ (.rod r l b a) k c hu hp (by omega) (by omega)
  have e5 : (Mob.rod r l b a).d = .tup [.str (tx "rod"), .int r, .int l, b.d, a.d] := rfl
  rw [e5] at e4
  simp [f39_turned, b39_turned, getV, e1, e3, i_rod1, i_rod2, i_rod3, i_rod4, e4]
/-! ### the least numbers of a fraction -/
theorem euclid (cf : Nat → List D → M D) (wf : Nat) (s0 s1 : Slot) : ∀ (n : Nat) (a b : Nat) (c : Cells), b < n → whlW cf wf (.cmp .ne (.var 3) (.int 0)) [.par 2 3 (.var 3) (.bin .mod (.var 2) (.var 3))] n [s0, s1, .val (.int a), .val (.int b)] c = .ok (.nx [s0, s1, .val (.int (Nat.gcd a b)), .val (.int 0)]) c
  | 0, a, b, c, h => by omega
  | n + 1, a, b, c, h => by
    unfold whlW
    by_cases hb : b = 0
    · subst hb
      simp [whlL, getV]
    · have h0 : ((b : Int) == 0) = false := by rw [beq_eq_false_iff_ne]; omega
      have m1 : binD .mod (.int a) (.int b) = some (.int (a % b : Nat)) := by
        rw [mod_int _ _ (by omega)]; rfl
      have ih := euclid cf wf s0 s1 n b (a % b) c (by have := Nat.mod_lt a (Nat.pos_of_ne_zero hb); omega)
      unfold whlW at ih
      have g : Nat.gcd b (a % b) = Nat.gcd a b := by
        rw [Nat.gcd_comm, ← Nat.gcd_rec, Nat.gcd_comm]
      rw [g] at ih
      have m2 : ((a % b : Nat) : Int) = (a : Int) % (b : Int) := rfl
      rw [m2] at ih m1
      simp [whlL, getV, h0, m1, ih]
/-- a fraction in its least numbers -/
def red1 (a b : Nat) : Nat := a / Nat.gcd a b
def red2 (a b : Nat) : Nat := b / Nat.gcd a b
theorem reduced_ev [K38 tab] (a b : Nat) (hb : 0 < b) (hb2 : b < 2 ^ 8000) (k : Nat) (c : Cells) (hk : 0 < k) : callF tab k 38 [.int a, .int b] c = .ok (.tup [.int (red1 a b), .int (red2 a b)]) c := by
  obtain ⟨k, rfl⟩ : ∃ j, k = j + 1 := ⟨k - 1, by omega⟩
  rw [callF_at (K38.h38 (tab := tab)) rfl]
  have e1 := fun c => euclid (callF tab k) wFuel (.val (.int a)) (.val (.int b)) wFuel a b c hb2
  have gp : 0 < Nat.gcd a b := Nat.gcd_pos_of_pos_right _ hb
  have gl : Nat.gcd a b ≤ b := Nat.gcd_le_right _ hb
  have f1 : binD .fdiv (.int a) (.int (Nat.gcd a b)) = some (.int (red1 a b)) := by
    rw [fdiv_int _ _ (by omega) (by rw [Int.natAbs_natCast]; exact Nat.lt_of_le_of_lt gl hb2)]
    rfl
  have f2 : binD .fdiv (.int b) (.int (Nat.gcd a b)) = some (.int (red2 a b)) := by
    rw [fdiv_int _ _ (by omega) (by rw [Int.natAbs_natCast]; exact Nat.lt_of_le_of_lt gl hb2)]
    rfl
  simp [f38_reduced, b38_reduced, getV, e1, f1, f2]
theorem red1_mul (a b : Nat) : red1 a b * Nat.gcd a b = a := Nat.div_mul_cancel (Nat.gcd_dvd_left a b)
theorem red2_mul (a b : Nat) : red2 a b * Nat.gcd a b = b := Nat.div_mul_cancel (Nat.gcd_dvd_right a b)
theorem red_cross (a b : Nat) : red1 a b * b = red2 a b * a := by
  have h1 := red1_mul a b
  have h2 := red2_mul a b
  calc red1 a b * b = red1 a b * (red2 a b * Nat.gcd a b) := by rw [h2]
    _ = red2 a b * (red1 a b * Nat.gcd a b) := by rw [Nat.mul_left_comm]
    _ = red2 a b * a := by rw [h1]
theorem red1_pos {a b : Nat} (h : 0 < a) : 0 < red1 a b := Nat.div_pos (Nat.gcd_le_left _ h) (Nat.gcd_pos_of_pos_left _ h)
theorem red2_pos {a b : Nat} (h : 0 < b) : 0 < red2 a b := Nat.div_pos (Nat.gcd_le_right _ h) (Nat.gcd_pos_of_pos_right _ h)
theorem red1_le (a b : Nat) : red1 a b ≤ a := Nat.div_le_self _ _
theorem red2_le (a b : Nat) : red2 a b ≤ b := Nat.div_le_self _ _
/-! ### plain -/
def Mob.pln : Mob → Mob
  | .w n => .w n
  | .rod l r a b => .rod (red1 l.toNat r.toNat) (red2 l.toNat r.toNat) a.pln b.pln
theorem pln_ok : ∀ {m : Mob}, m.ok = true → m.pln.ok = true
  | .w n, h => h
  | .rod l r a b, h => by
    have ha := arms_of h
    have h1 := red1_le l.toNat r.toNat
    have h2 := red2_le l.toNat r.toNat
    have h3 := red1_pos (a := l.toNat) (b := r.toNat) (by omega)
    have h4 := red2_pos (a := l.toNat) (b := r.toNat) (by omega)
    have q1 : (1 : Int) ≤ red1 l.toNat r.toNat := by omega
    have q2 : (red1 l.toNat r.toNat : Int) ≤ 9 := by omega
    have q3 : (1 : Int) ≤ red2 l.toNat r.toNat := by omega
    have q4 : (red2 l.toNat r.toNat : Int) ≤ 9 := by omega
    simp [Mob.pln, Mob.ok, q1, q2, q3, q4, pln_ok ha.2.2.1, pln_ok ha.2.2.2]
theorem pln_dep : ∀ (m : Mob), m.pln.dep = m.dep
  | .w n => rfl
  | .rod l r a b => by simp [Mob.pln, Mob.dep, pln_dep a, pln_dep b]
theorem pln_nms : ∀ (m : Mob), m.pln.nms = m.nms
  | .w n => rfl
  | .rod l r a b => by simp [Mob.pln, Mob.nms, pln_nms a, pln_nms b]
theorem pln_load (f : T → Int) : ∀ (m : Mob), m.pln.load f = m.load f
  | .w n => rfl
  | .rod l r a b => by simp [Mob.pln, Mob.load, pln_load f a, pln_load f b]
theorem pln_at : ∀ (u : T) (m : Mob), m.pln.at u = (m.at u).map Mob.pln
  | [], m => by cases m <;> rfl
  | x :: u, .w n => rfl
  | x :: u, .rod l r a b => by
    simp only [Mob.pln, Mob.at]
    split
    · exact pln_at u b
    · exact pln_at u a
theorem plain_part_ev [K40 tab] (m : Mob) : ∀ (k : Nat) (c : Cells), m.ok = true → m.dep + 1 < k → callF tab k 40 [m.d] c = .ok m.pln.d c := by
  induction m with
  | w n =>
    intro k c ho hk
    obtain ⟨k, rfl⟩ : ∃ j, k = j + 1 := ⟨k - 1, by omega⟩
    rw [callF_at (K40.h40 (tab := tab)) rfl]
    simp [f40_plain_part, b40_plain_part, getV, i_w0, Mob.pln]
  | rod l r a b iha ihb =>
    intro k c ho hk
    obtain ⟨k, rfl⟩ : ∃ j, k = j + 1 := ⟨k - 1, by omega⟩
    simp only [Mob.dep] at hk
    have ha := arms_of ho
    have p9 : 9 < 2 ^ 8000 := Nat.lt_of_lt_of_le (show 9 < 2 ^ 4 by decide) (Nat.pow_le_pow_right (by decide) (by decide))
    have e1 := fun c => reduced_ev (tab := tab) l.toNat r.toNat (by omega) (by omega) k c (by omega)
    have t1 : ((l.toNat : Nat) : Int) = l := by omega
    have t2 : ((r.toNat : Nat) : Int) = r := by omega
    rw [t1, t2] at e1
    have e2 := fun c => iha k c ha.2.2.1 (by omega)
    have e3 := fun c => ihb k c ha.2.2.2 (by omega)
    have e4 : (Mob.rod l r a b).pln.d = .tup [.str (tx "rod"), .int (red1 l.toNat r.toNat), .int (red2 l.toNat r.toNat), a.pln.d, b.pln.d] := rfl
    rw [callF_at (K40.h40 (tab := tab)) rfl]
    simp [f40_plain_part, b40_plain_part, getV, i_rod0, i_rod1, i_rod2, i_rod3, i_rod4, e1, e2, e3, e4]
theorem plain_ev [K41 tab] (m : Mob) (ho : m.ok = true) (hd : m.dep ≤ 5) (k : Nat) (c : Cells) (hk : 9 < k) : callF tab k 41 [m.d] c = .ok m.pln.d c := by
  obtain ⟨k, rfl⟩ : ∃ j, k = j + 1 := ⟨k - 1, by omega⟩
  rw [callF_at (K41.h41 (tab := tab)) rfl]
  have e1 := fun c => need_mobile_ev (tab := tab) m k c ho hd (by omega)
  have e2 := fun c => plain_part_ev (tab := tab) m k c ho (by omega)
  simp [f41_plain, b41_plain, getV, e1, e2]
theorem load_ev [K43 tab] (m : Mob) (ws : Ws) (ho : m.ok = true) (hd : m.dep ≤ 5) (hw : ws.ok) (hh : ws.has m) (k : Nat) (c : Cells) (hk : 10 < k) : callF tab k 43 [m.d, ws.d] c = .ok (.int (m.load ws.of)) c := by
  obtain ⟨k, rfl⟩ : ∃ j, k = j + 1 := ⟨k - 1, by omega⟩
  rw [callF_at (K43.h43 (tab := tab)) rfl]
  have e1 := fun c => need_mobile_ev (tab := tab) m k c ho hd (by omega)
  have e2 := fun c => need_weights_ev (tab := tab) m ws hw hh hd k c (by omega)
  have e3 := fun c => load_of_ev (tab := tab) ws.bk ws.of m k c (by omega) (fun x hx => of_bk ws x (hh x hx))
  have e5 : primD .dict [ws.d] = some (.dct ws.bk) := by simp [Ws.d, pairsD_rows, dict_rows hw]
  simp [f43_load, b43_load, getV, e1, e2, e3, e5]
end Hg
end
section
set_option Elab.async false
set_option linter.all false
set_option autoImplicit false
set_option maxRecDepth 100000
/-! P6: fractions, shares. -/
namespace Hg
variable {tab : Nat → Option FD}
/-- a fraction, told -/
def frD (q : Rat) : D := .tup [.int q.num, .int q.den]
theorem red_mk (a b : Nat) (hb : 0 < b) : ((red1 a b : Nat) : Int) = (mkRat a b).num ∧ red2 a b = (mkRat a b).den := by
  have h : b ≠ 0 := by omega
  rw [Rat.num_mkRat, Rat.den_mkRat, if_neg h, if_neg h]
  unfold red1 red2
  rw [Int.natAbs_natCast, Nat.gcd_comm b a]
  exact ⟨rfl, rfl⟩
theorem reduced_fr [K38 tab] (a b : Nat) (hb : 0 < b) (hb2 : b < 2 ^ 8000) (k : Nat) (c : Cells) (hk : 0 < k) : callF tab k 38 [.int a, .int b] c = .ok (frD (mkRat a b)) c := by
  rw [reduced_ev a b hb hb2 k c hk]
  obtain ⟨h1, h2⟩ := red_mk a b hb
  rw [h1, h2]
  rfl
theorem rat_eq (s : Rat) : s = (s.num : Rat) / (s.den : Rat) := by rw [← Rat.mkRat_eq_div, Rat.mkRat_self]
theorem den_le (a : Int) (b : Nat) (hb : 0 < b) : (mkRat a b).den ≤ b := by
  rw [Rat.den_mkRat, if_neg (by omega)]
  exact Nat.div_le_self _ _
theorem fr_ne (a b : Rat) : cmpD .ne (frD a) (frD b) = some (!decide (a = b)) := by
  have h : eqO (frD a) (frD b) = some (decide (a = b)) := by
    rw [eqO_plain rfl rfl (by simp [frD, depD, depDs])]
    simp only [frD, eqD, eqDs, Bool.and_true]
    congr 1
    rw [Bool.eq_iff_iff, Bool.and_eq_true, beq_iff_eq, beq_iff_eq, decide_eq_true_eq]
    exact ⟨fun ⟨h1, h2⟩ => Rat.ext h1 (by omega), fun h => by rw [h]; exact ⟨rfl, rfl⟩⟩
  simp [cmpD, h]
theorem fr_eq (a b : Rat) : cmpD .eq (frD a) (frD b) = some (decide (a = b)) := by
  have := fr_ne a b
  simp only [cmpD, Option.map_eq_some_iff] at this ⊢
  obtain ⟨x, h1, h2⟩ := this
  rw [h1]
  cases x <;> simp_all
theorem fr_0 (q : Rat) : ixD (frD q) (.int 0) = some (.int q.num) := rfl
theorem fr_1 (q : Rat) : ixD (frD q) (.int 1) = some (.int q.den) := rfl
theorem fr_plain (q : Rat) : plainD (frD q) = true := rfl
/-! ### shares -/
def shL (s : Rat) (l r : Int) : Rat := s * r / (l + r)
def shR (s : Rat) (l r : Int) : Rat := s * l / (l + r)
/-- the shares, as the leaves stand -/
def Mob.shq : Mob → Rat → List Rat
  | .w _, s => [s]
  | .rod l r a b, s => a.shq (shL s l r) ++ b.shq (shR s l r)
theorem shq_len : ∀ (m : Mob) (s : Rat), (m.shq s).length = m.nms.length
  | .w _, _ => rfl
  | .rod l r a b, s => by simp [Mob.shq, Mob.nms, shq_len a, shq_len b]
theorem sh_mk (s : Rat) (x l r : Int) (hl : 0 < l) (hr : 0 < r) : mkRat (s.num * x) (s.den * (l + r).toNat) = s * x / (l + r) := by
  rw [Rat.mkRat_eq_div]
  have hs := rat_eq s
  have hd : (s.den : Rat) ≠ 0 := fun e => s.den_nz (Rat.natCast_inj.mp (show ((s.den : Nat) : Rat) = ((0 : Nat) : Rat) from e))
  have e : (((l + r).toNat : Nat) : Rat) = (l : Rat) + r := by
    rw [← Rat.intCast_natCast, show (((l + r).toNat : Nat) : Int) = l + r by omega, Rat.intCast_add]
  have hp : (l : Rat) + r ≠ 0 := by
    rw [← Rat.intCast_add]
    exact fun e => absurd (Rat.intCast_inj.mp (show ((l + r : Int) : Rat) = ((0 : Int) : Rat) from e)) (by omega)
  rw [Rat.natCast_mul, e, Rat.intCast_mul]
  generalize (s.num : Rat) = u at *
  generalize (s.den : Rat) = v at *
  generalize (x : Rat) = x' at *
  generalize (l : Rat) + (r : Rat) = w at *
  subst hs
  grind
theorem sh_pos {s : Rat} (h : 0 < s) {x l r : Int} (hx : 0 < x) (hl : 0 < l) (hr : 0 < r) : 0 < s * x / (l + r) := by
  rw [Rat.div_def]
  refine Rat.mul_pos (Rat.mul_pos h (Rat.intCast_pos.mpr hx)) (Rat.inv_pos.mpr ?_)
  rw [← Rat.intCast_add]
  exact Rat.intCast_pos.mpr (by omega)
theorem num_pos {s : Rat} (h : 0 < s) : 0 < s.num := by
  have h1 := Rat.num_nonneg.mpr (Rat.le_of_lt h)
  have h2 : s.num ≠ 0 := fun e => by
    have : s = 0 := Rat.num_eq_zero.mp e
    subst this
    exact absurd h (Rat.lt_irrefl)
  omega
theorem lt64 {n : Nat} (h : n < 18446744073709551616) : n < 2 ^ 64 := by
  have p : (2 : Nat) ^ 64 = 18446744073709551616 := by decide
  rw [p]; exact h
theorem shares_of_ev [K63 tab] (m : Mob) : ∀ (s : Rat) (k : Nat) (c : Cells), m.ok = true → 0 < s → s.den * 18 ^ m.dep < 2 ^ 1000 → m.dep + 1 < k → m.dep ≤ 10 → callF tab k 63 [m.d, frD s] c = .ok (.lst ((m.shq s).map frD)) c := by
  induction m with
  | w n =>
    intro s k c ho hs hd hk _
    obtain ⟨k, rfl⟩ : ∃ j, k = j + 1 := ⟨k - 1, by omega⟩
    rw [callF_at (K63.h63 (tab := tab)) rfl]
    simp [f63_shares_of, b63_shares_of, getV, i_w0, Mob.shq]
  | rod l r a b iha ihb =>
    intro s k c ho hs hd hk h10
    obtain ⟨k, rfl⟩ : ∃ j, k = j + 1 := ⟨k - 1, by omega⟩
    simp only [Mob.dep] at hd hk h10
    have ha := arms_of ho
    have np := num_pos hs
    have dp := s.den_pos
    have m0 := mul_int s.num r (.inr (small9 ha.2.1))
    have m1 := mul_int s.num l (.inr (small9 ha.1))
    have m2 := mul_int (s.den : Int) (l + r) (.inr (lt64 (by omega)))
    have p18 : 1 ≤ 18 ^ a.dep := Nat.pow_pos (by decide)
    have p18b : 1 ≤ 18 ^ b.dep := Nat.pow_pos (by decide)
    have pm : 18 ^ (max a.dep b.dep + 1) = 18 ^ max a.dep b.dep * 18 := Nat.pow_succ ..
    have pa : 18 ^ a.dep ≤ 18 ^ max a.dep b.dep := Nat.pow_le_pow_right (by decide) (Nat.le_max_left _ _)
    have pb : 18 ^ b.dep ≤ 18 ^ max a.dep b.dep := Nat.pow_le_pow_right (by decide) (Nat.le_max_right _ _)
    rw [pm] at hd
    have big : (2 : Nat) ^ 1000 ≤ 2 ^ 8000 := Nat.pow_le_pow_right (by decide) (by decide)
    have w18 : (l + r).toNat ≤ 18 := by omega
    have dd : s.den * (l + r).toNat ≤ s.den * 18 := Nat.mul_le_mul_left _ w18
    have q0 : s.den * 18 * 18 ^ a.dep ≤ s.den * (18 ^ max a.dep b.dep * 18) := by
      rw [Nat.mul_assoc, Nat.mul_comm 18]
      exact Nat.mul_le_mul_left _ (Nat.mul_le_mul_right _ pa)
    have q1 : s.den * 18 * 18 ^ b.dep ≤ s.den * (18 ^ max a.dep b.dep * 18) := by
      rw [Nat.mul_assoc, Nat.mul_comm 18]
      exact Nat.mul_le_mul_left _ (Nat.mul_le_mul_right _ pb)
    have q2 : s.den * 18 ≤ s.den * 18 * 18 ^ a.dep := Nat.le_mul_of_pos_right _ p18
    have dpos : 0 < s.den * (l + r).toNat := Nat.mul_pos dp (by omega)
    have eL := fun c => reduced_fr (tab := tab) (s.num * r).toNat (s.den * (l + r).toNat) dpos (by omega) k c (by omega)
    have eR := fun c => reduced_fr (tab := tab) (s.num * l).toNat (s.den * (l + r).toNat) dpos (by omega) k c (by omega)
    have t0 : 0 < s.num * r := Int.mul_pos np (by omega)
    have t1 : 0 < s.num * l := Int.mul_pos np (by omega)
    have t2 : (((s.num * r).toNat : Nat) : Int) = s.num * r := by omega
    have t3 : (((s.num * l).toNat : Nat) : Int) = s.num * l := by omega
    have t4 : ((s.den * (l + r).toNat : Nat) : Int) = (s.den : Int) * (l + r) := by
      rw [Int.natCast_mul, show (((l + r).toNat : Nat) : Int) = l + r by omega]
    rw [t2, t4, sh_mk s r l r (by omega) (by omega)] at eL
    rw [t3, t4, sh_mk s l l r (by omega) (by omega)] at eR
    have sL := sh_pos hs (x := r) (l := l) (r := r) (by omega) (by omega) (by omega)
    have sR := sh_pos hs (x := l) (l := l) (r := r) (by omega) (by omega) (by omega)
    have dL : (s * r / (l + r)).den ≤ s.den * 18 := by
      rw [← sh_mk s r l r (by omega) (by omega)]
      exact Nat.le_trans (den_le _ _ dpos) dd
    have dR : (s * l / (l + r)).den ≤ s.den * 18 := by
      rw [← sh_mk s l l r (by omega) (by omega)]
      exact Nat.le_trans (den_le _ _ dpos) dd
    have e1 := fun c => iha (s * r / (l + r)) k c ha.2.2.1 sL (Nat.lt_of_le_of_lt (Nat.mul_le_mul_right _ dL) (by omega)) (by omega) (by omega)
    have e2 := fun c => ihb (s * l / (l + r)) k c ha.2.2.2 sR (Nat.lt_of_le_of_lt (Nat.mul_le_mul_right _ dR) (by omega)) (by omega) (by omega)
    have n1 := nms_len10 (m := a) (by omega)
    have n2 := nms_len10 (m := b) (by omega)
    have s3 := add_lst ((a.shq (s * r / (l + r))).map frD) ((b.shq (s * l / (l + r))).map frD) (by rw [List.length_map, List.length_map, shq_len, shq_len]; omega)
    rw [callF_at (K63.h63 (tab := tab)) rfl]
    simp [f63_shares_of, b63_shares_of, getV, i_rod0, i_rod1, i_rod2, i_rod3, i_rod4, fr_0, fr_1, m0, m1, m2, eL, eR, e1, e2, s3, Mob.shq, shL, shR]
/-! ### rows -/
abbrev Row := T × T × Rat
def Mob.rw : Mob → T → Rat → List Row
  | .w n, u, s => [(u, n, s)]
  | .rod l r a b, u, s => a.rw (u ++ tx "l") (shL s l r) ++ b.rw (u ++ tx "r") (shR s l r)
def rwD (p : Row) : D := .tup [.str p.1, .str p.2.1, frD p.2.2]
theorem rw_lvs : ∀ (m : Mob) (u : T) (s : Rat), (m.rw u s).map (fun p => (p.1, p.2.1)) = m.lvs u
  | .w _, _, _ => rfl
  | .rod l r a b, u, s => by simp [Mob.rw, Mob.lvs, rw_lvs a, rw_lvs b]
theorem rw_shq : ∀ (m : Mob) (u : T) (s : Rat), (m.rw u s).map (fun p => p.2.2) = m.shq s
  | .w _, _, _ => rfl
  | .rod l r a b, u, s => by simp [Mob.rw, Mob.shq, rw_shq a, rw_shq b]
theorem rw_len (m : Mob) (u : T) (s : Rat) : (m.rw u s).length = m.nms.length := by
  have := congrArg List.length (rw_shq m u s)
  rw [List.length_map, shq_len] at this
  exact this
theorem rw_nms (m : Mob) (u : T) (s : Rat) : (m.rw u s).map (fun p => p.2.1) = m.nms := by
  rw [← lvs_nms m u, ← rw_lvs m u s, List.map_map]
  rfl
theorem zipT_rw {α : Type} (f g : α → D) : ∀ (xs : List α), zipT (xs.map f) (xs.map g) = xs.map fun p => .pr [f p, g p]
  | [] => rfl
  | x :: xs => by simp [zipT, zipT_rw f g xs]
theorem one_den : (1 : Rat).den = 1 := rfl
theorem pow18 {d : Nat} (h : d ≤ 6) : 18 ^ d < 2 ^ 1000 := by
  have h1 : 18 ^ d ≤ 18 ^ 6 := Nat.pow_le_pow_right (by decide) h
  have h2 : 18 ^ 6 ≤ 2 ^ 30 := by decide
  have h3 : 2 ^ 30 < 2 ^ 1000 := Nat.pow_lt_pow_right (by decide) (by decide)
  omega
theorem rows_of_ev [K64 tab] (m : Mob) (ho : m.ok = true) (hd : m.dep ≤ 6) (k : Nat) (c : Cells) (hk : 9 < k) : callF tab k 64 [m.d] c = .ok (.lst ((m.rw (tx "") 1).map rwD)) c := by
  obtain ⟨k, rfl⟩ : ∃ j, k = j + 1 := ⟨k - 1, by omega⟩
  have e1 := fun c => leaves_of_ev (tab := tab) m k (tx "") c (by omega) (by omega) (by rw [tx0]; omega)
  have e2 := fun c => shares_of_ev (tab := tab) m 1 k c ho (by decide) (by rw [one_den, Nat.one_mul]; exact pow18 hd) (by omega) (by omega)
  have z1 : frD 1 = .tup [.int 1, .int 1] := rfl
  rw [z1] at e2
  have e3 : (m.lvs (tx "")).map lvD = (m.rw (tx "") 1).map fun p => .tup [.str p.1, .str p.2.1] := by
    rw [← rw_lvs m (tx "") 1, List.map_map]
    rfl
  have e4 : (m.shq 1).map frD = (m.rw (tx "") 1).map fun p => frD p.2.2 := by
    rw [← rw_shq m (tx "") 1, List.map_map]
    rfl
  rw [e3] at e1
  rw [e4] at e2
  have hl := rw_len m (tx "") 1
  have hn := nms_len10 (m := m) (by omega)
  generalize m.rw (tx "") 1 = rows at *
  have e5 : ∀ v1 c, lcW (callF tab k) (.tp [.tp [.nm 3, .nm 4], .nm 2]) (.bl true) (.tup [.var 3, .var 4, .var 2]) [.val m.d, v1, .emp, .emp, .emp] (rows.map fun p => .pr [.tup [.str p.1, .str p.2.1], frD p.2.2]) c = .ok (rows.map rwD) c := fun v1 c => by
    unfold lcW
    rw [lcL_map (f := rwD) rows [] c (fun p hp => ⟨[.val m.d, v1, .val (frD p.2.2), .val (.str p.1), .val (.str p.2.1)], rfl, fun c => by simp, fun c => by simp [getV, rwD]⟩)]
    · simp
    · simp; omega
  rw [callF_at (K64.h64 (tab := tab)) rfl]
  simp [f64_rows_of, b64_rows_of, getV, e1, e2, zipT_rw, wipeE, e5]
end Hg
end
section
set_option Elab.async false
set_option linter.all false
set_option autoImplicit false
set_option maxRecDepth 100000
/-! P7: what bars a mobile; its least weights. -/
namespace Hg
variable {tab : Nat → Option FD}
@[simp] theorem cmp_nin_dct (k : T) (kvs : List (T × D)) : cmpD .nin (.str k) (.dct kvs) = some (!(lkD k kvs).isSome) := rfl
@[simp] theorem cmp_inn_dct (k : T) (kvs : List (T × D)) : cmpD .inn (.str k) (.dct kvs) = some (lkD k kvs).isSome := rfl
/-- the first leaf of a name -/
def firstOf (seen : List Row) (n : T) : Option Row := seen.find? fun q => decide (q.2.1 = n)
/-- the ways to the first two leaves that bar it -/
def barF : List Row → List Row → Option (T × T)
  | _, [] => none
  | seen, p :: r => match firstOf seen p.2.1 with
    | none => barF (seen ++ [p]) r
    | some q => if q.2.2 = p.2.2 then barF seen r else some (q.1, p.1)
def Mob.bar (m : Mob) : Option (T × T) := barF [] (m.rw (tx "") 1)
def sdD (seen : List Row) : List (T × D) := seen.map fun q => (q.2.1, .tup [.str q.1, frD q.2.2])
theorem lk_sd (n : T) : ∀ (seen : List Row), lkD n (sdD seen) = (firstOf seen n).map fun q => .tup [.str q.1, frD q.2.2]
  | [] => rfl
  | q :: r => by
    have ih := lk_sd n r
    by_cases e : q.2.1 = n
    · simp [sdD, lkD, firstOf, e]
    · simp [sdD, lkD, firstOf, e] at ih ⊢
      exact ih
theorem first_none {seen : List Row} {n : T} (h : firstOf seen n = none) : n ∉ (sdD seen).map (·.1) := by
  simp only [firstOf, List.find?_eq_none, decide_eq_true_eq] at h
  simp only [sdD, List.map_map, List.mem_map, not_exists, not_and]
  exact fun q hq e => h q hq e
def barD (o : Option (T × T)) : D := match o with
  | none => .non
  | some x => .tup [.str x.1, .str x.2]
def bBar : List S := [.ifs (.ocr .nin (.var 3) 1) [.put 1 (.var 3) (.tup [(.var 2), (.var 4)])] [.ifs (.cmp .ne (.ix (.osub 1 (.var 3)) (.int 1)) (.var 4)) [.ret (.tup [(.ix (.osub 1 (.var 3)) (.int 0)), (.var 2)])] []]]
theorem bar_loop (cf : Nat → List D → M D) (wf : Nat) (md : Slot) : ∀ (rows seen : List Row) (v2 v3 v4 : Slot) (c : Cells), seen.length + rows.length < 1000000 →
    (barF seen rows = none → ∃ env', forW cf wf (.tp [.nm 2, .nm 3, .nm 4]) bBar (rows.map rwD) [md, .own (.dct (sdD seen)), v2, v3, v4] c = .ok (.nx env') c) ∧
    (∀ x, barF seen rows = some x → forW cf wf (.tp [.nm 2, .nm 3, .nm 4]) bBar (rows.map rwD) [md, .own (.dct (sdD seen)), v2, v3, v4] c = .ok (.rt (.tup [.str x.1, .str x.2])) c)
  | [], seen, v2, v3, v4, c, _ => ⟨fun _ => ⟨_, rfl⟩, fun x h => by cases h⟩
  | p :: rows, seen, v2, v3, v4, c, hl => by
    simp only [List.length_cons] at hl
    have go : ∀ env2, evSs cf wf bBar [md, .own (.dct (sdD seen)), .val (.str p.1), .val (.str p.2.1), .val (frD p.2.2)] c = .ok (.nx env2) c → forW cf wf (.tp [.nm 2, .nm 3, .nm 4]) bBar ((p :: rows).map rwD) [md, .own (.dct (sdD seen)), v2, v3, v4] c = forW cf wf (.tp [.nm 2, .nm 3, .nm 4]) bBar (rows.map rwD) env2 c := fun env2 h => by
      unfold forW
      simp only [List.map_cons, forL, rwD, bindT_tup, bindTs_cons, bindT_nm, Option.bind_some, bindTs_nil, List.set_cons_succ, List.set_cons_zero]
      simp [h]
    have lk := lk_sd p.2.1 seen
    cases e : firstOf seen p.2.1 with
    | none =>
      rw [e] at lk
      have hp : putD p.2.1 (.tup [.str p.1, frD p.2.2]) (sdD seen) = sdD (seen ++ [p]) := by
        rw [putD_new (first_none e)]
        simp [sdD]
      have hlen : (sdD seen).length < 1000000 := by simp only [sdD, List.length_map]; omega
      have st : evSs cf wf bBar [md, .own (.dct (sdD seen)), .val (.str p.1), .val (.str p.2.1), .val (frD p.2.2)] c = .ok (.nx [md, .own (.dct (sdD (seen ++ [p]))), .val (.str p.1), .val (.str p.2.1), .val (frD p.2.2)]) c := by
        simp [bBar, getO, getV, lk, hlen, hp]
      rw [go _ st]
      have ih := bar_loop cf wf md rows (seen ++ [p]) (.val (.str p.1)) (.val (.str p.2.1)) (.val (frD p.2.2)) c (by simp; omega)
      have eb : barF seen (p :: rows) = barF (seen ++ [p]) rows := by
        show (match firstOf seen p.2.1 with | none => _ | some q => _) = _
        rw [e]
      rw [eb]
      exact ih
    | some q =>
      rw [e] at lk
      have ne := fr_ne q.2.2 p.2.2
      by_cases hs : q.2.2 = p.2.2
      · rw [hs] at ne
        have st : evSs cf wf bBar [md, .own (.dct (sdD seen)), .val (.str p.1), .val (.str p.2.1), .val (frD p.2.2)] c = .ok (.nx [md, .own (.dct (sdD seen)), .val (.str p.1), .val (.str p.2.1), .val (frD p.2.2)]) c := by
          simp [bBar, getO, getV, lk, ixD, ixP, hs, ne]
        rw [go _ st]
        have ih := bar_loop cf wf md rows seen (.val (.str p.1)) (.val (.str p.2.1)) (.val (frD p.2.2)) c (by omega)
        have eb : barF seen (p :: rows) = barF seen rows := by
          show (match firstOf seen p.2.1 with | none => _ | some q => _) = _
          rw [e]
          exact if_pos hs
        rw [eb]
        exact ih
      · have eb : barF seen (p :: rows) = some (q.1, p.1) := by
          show (match firstOf seen p.2.1 with | none => _ | some q => _) = _
          rw [e]
          exact if_neg hs
        have hs' : decide (q.2.2 = p.2.2) = false := decide_eq_false hs
        rw [hs'] at ne
        rw [eb]
        refine ⟨fun h => (by cases h), fun x h => ?_⟩
        cases h
        unfold forW
        simp only [List.map_cons, forL, rwD, bindT_tup, bindTs_cons, bindT_nm, Option.bind_some, bindTs_nil, List.set_cons_succ, List.set_cons_zero]
        simp [bBar, getO, getV, lk, ixD, ixP, ne]
theorem bar_of_ev [K65 tab] (m : Mob) (ho : m.ok = true) (hd : m.dep ≤ 6) (k : Nat) (c : Cells) (hk : 10 < k) : callF tab k 65 [m.d] c = .ok (barD m.bar) c := by
  obtain ⟨k, rfl⟩ : ∃ j, k = j + 1 := ⟨k - 1, by omega⟩
  have e1 := fun c => rows_of_ev (tab := tab) m ho hd k c (by omega)
  have hl := rw_len m (tx "") 1
  have hn := nms_len10 (m := m) (by omega)
  obtain ⟨h1, h2⟩ := bar_loop (callF tab k) wFuel (.val m.d) (m.rw (tx "") 1) [] .emp .emp .emp c (by simp; omega)
  have hb : b65_bar_of = [
  .setD 1 none,
  .forr .e [(.call 64 [(.var 0)])] (.tp [(.nm 2), (.nm 3), (.nm 4)]) bBar,
  .ret .non
  ] := rfl
  have s0 : sdD [] = [] := rfl
  rw [s0] at h1 h2
  rw [callF_at (K65.h65 (tab := tab)) rfl]
  simp only [f65_bar_of, hb]
  unfold Mob.bar
  cases e : barF [] (m.rw (tx "") 1) with
  | none =>
    obtain ⟨env', h⟩ := h1 e
    simp [getV, e1, h, barD]
  | some x =>
    have h := h2 x e
    simp [getV, e1, h, barD]
theorem bar_ev [K66 tab] (m : Mob) (ho : m.ok = true) (hd : m.dep ≤ 5) (k : Nat) (c : Cells) (hk : 11 < k) : callF tab k 66 [m.d] c = .ok (barD m.bar) c := by
  obtain ⟨k, rfl⟩ : ∃ j, k = j + 1 := ⟨k - 1, by omega⟩
  have e1 := fun c => need_mobile_ev (tab := tab) m k c ho hd (by omega)
  have e2 := fun c => bar_of_ev (tab := tab) m ho (by omega) k c (by omega)
  rw [callF_at (K66.h66 (tab := tab)) rfl]
  simp [f66_bar, b66_bar, getV, e1, e2]
/-- one share for each name -/
def Cons (rows : List Row) : Prop := ∀ p ∈ rows, ∀ q ∈ rows, p.2.1 = q.2.1 → p.2.2 = q.2.2
theorem first_some {seen : List Row} {n : T} {q : Row} (h : firstOf seen n = some q) : q ∈ seen ∧ q.2.1 = n := by
  have h1 := List.mem_of_find?_eq_some h
  have h2 := List.find?_some h
  exact ⟨h1, of_decide_eq_true h2⟩
theorem barF_cons : ∀ (rows seen : List Row), Cons seen → (barF seen rows = none ↔ Cons (seen ++ rows))
  | [], seen, hc => by simp [barF, hc]
  | p :: rows, seen, hc => by
    show (match firstOf seen p.2.1 with | none => barF (seen ++ [p]) rows | some q => if q.2.2 = p.2.2 then barF seen rows else some (q.1, p.1)) = none ↔ _
    cases e : firstOf seen p.2.1 with
    | none =>
      dsimp only
      have hno : ∀ q ∈ seen, q.2.1 ≠ p.2.1 := fun q hq h => by
        simp only [firstOf, List.find?_eq_none, decide_eq_true_eq] at e
        exact e q hq h
      have hc2 : Cons (seen ++ [p]) := fun a ha b hb hab => by
        rcases List.mem_append.mp ha with h1 | h1 <;> rcases List.mem_append.mp hb with h2 | h2
        · exact hc a h1 b h2 hab
        · rw [List.mem_singleton] at h2; rw [h2] at hab; exact absurd hab (hno a h1)
        · rw [List.mem_singleton] at h1; rw [h1] at hab; exact absurd hab.symm (hno b h2)
        · rw [List.mem_singleton] at h1 h2; rw [h1, h2]
      rw [barF_cons rows (seen ++ [p]) hc2]
      simp
    | some q =>
      dsimp only
      obtain ⟨h1, h2⟩ := first_some e
      by_cases hs : q.2.2 = p.2.2
      · rw [if_pos hs, barF_cons rows seen hc]
        constructor
        · intro h a ha b hb hab
          have swap : ∀ x ∈ seen ++ p :: rows, ∃ y ∈ seen ++ rows, y.2.1 = x.2.1 ∧ y.2.2 = x.2.2 := fun x hx => by
            simp only [List.mem_append, List.mem_cons] at hx
            rcases hx with hx | rfl | hx
            · exact ⟨x, List.mem_append_left _ hx, rfl, rfl⟩
            · exact ⟨q, List.mem_append_left _ h1, h2, hs⟩
            · exact ⟨x, List.mem_append_right _ hx, rfl, rfl⟩
          obtain ⟨y, hy, y1, y2⟩ := swap a ha
          obtain ⟨z, hz, z1, z2⟩ := swap b hb
          rw [← y2, ← z2]
          exact h y hy z hz (by rw [y1, z1, hab])
        · intro h a ha b hb
          have up : ∀ x ∈ seen ++ rows, x ∈ seen ++ p :: rows := fun x hx => by
            simp only [List.mem_append, List.mem_cons] at hx ⊢
            exact hx.imp id .inr
          exact h a (up a ha) b (up b hb)
      · rw [if_neg hs]
        simp only [reduceCtorEq, false_iff]
        exact fun h => hs (h q (by simp [h1]) p (by simp) h2)
theorem bar_none {m : Mob} : m.bar = none ↔ Cons (m.rw (tx "") 1) := by
  have := barF_cons (m.rw (tx "") 1) [] (fun a ha => by cases ha)
  simpa [Mob.bar] using this
end Hg
end
section
set_option Elab.async false
set_option linter.all false
set_option autoImplicit false
set_option maxRecDepth 100000
/-! P5: longer; arms by weights; hung. -/
namespace Hg
variable {tab : Nat → Option FD}
theorem longer_ev [K44 tab] (m : Mob) (ho : m.ok = true) (hd : m.dep ≤ 5) (l r : Int) (a b : Mob) (u : T) (hu : isWay u = true) (hp : m.at u = some (.rod l r a b)) (q : Int) (hq : 1 ≤ q ∧ q ≤ 9) (k : Nat) (c : Cells) (hk : 9 < k) : callF tab k 44 [m.d, .str u, .int q] c = if q * max l r ≤ 9 then .ok (m.put u (.rod (q * l) (q * r) a b)).d c else .exc 6 c := by
  obtain ⟨k, rfl⟩ : ∃ j, k = j + 1 + 1 := ⟨k - 2, by omega⟩
  rw [callF_at (K44.h44 (tab := tab)) rfl]
  have d1 := at_dep hp
  have ar := arms_of (at_ok ho hp)
  have e1 := fun c => need_mobile_ev (tab := tab) m (k + 1) c ho hd (by omega)
  have e2 := fun c => is_whole_ev (tab := tab) q 1 9 k c
  have e3 := fun c => rod_at_ev (tab := tab) m l r a b u (by omega) hu hp (k + 1) c (by omega)
  have e4 := fun c => with_part_ev (tab := tab) u m _ (.rod (q * l) (q * r) a b) (k + 1) c hu hp (by omega) (by omega)
  have e5 : (Mob.rod (q * l) (q * r) a b).d = .tup [.str (tx "rod"), .int (q * l), .int (q * r), a.d, b.d] := rfl
  rw [e5] at e4
  have m0 := mul_int q (max l r) (.inl (small9 hq))
  have m1 := mul_int q l (.inl (small9 hq))
  have m2 := mul_int q r (.inl (small9 hq))
  by_cases h : q * max l r ≤ 9
  · have h' : ¬ 9 < q * max l r := by omega
    rw [if_pos h]
    simp [f44_longer, b44_longer, getV, e1, e2, hq, e3, i_rod1, i_rod2, i_rod3, i_rod4, m0, m1, m2, h', e4]
  · have h' : 9 < q * max l r := by omega
    rw [if_neg h]
    simp [f44_longer, b44_longer, getV, e1, e2, hq, e3, i_rod1, i_rod2, i_rod3, i_rod4, m0, m1, m2, h', e4]
/-! ### weights' bounds -/
theorem load_bound {f : T → Int} {B : Int} (m : Mob) (h : ∀ x ∈ m.nms, 1 ≤ f x ∧ f x ≤ B) : 1 ≤ m.load f ∧ m.load f ≤ m.nms.length * B := by
  induction m with
  | w n => have := h n (by simp [Mob.nms]); simp [Mob.load, Mob.nms]; omega
  | rod l r a b iha ihb =>
    have h1 := iha fun x hx => h x (by simp [Mob.nms, hx])
    have h2 := ihb fun x hx => h x (by simp [Mob.nms, hx])
    simp only [Mob.load, Mob.nms, List.length_append, Int.natCast_add, Int.add_mul]
    omega
theorem of_mem : ∀ (ws : Ws) (x : T), x ∈ ws.map (·.1) → ∃ p ∈ ws, p.1 = x ∧ ws.of x = p.2
  | [], x, h => by cases h
  | p :: ws, x, h => by
    by_cases e : p.1 = x
    · exact ⟨p, List.mem_cons_self, e, by simp [Ws.of, e]⟩
    · have hx : x ∈ ws.map (·.1) := by
        simp only [List.map_cons, List.mem_cons] at h
        rcases h with h | h
        · exact absurd h.symm e
        · exact h
      obtain ⟨q, h1, h2, h3⟩ := of_mem ws x hx
      refine ⟨q, List.mem_cons_of_mem _ h1, h2, ?_⟩
      rw [← h3]
      simp [Ws.of, e]
theorem of_bound {ws : Ws} {m : Mob} (hw : ws.ok) (hh : ws.has m) : ∀ x ∈ m.nms, 1 ≤ ws.of x ∧ ws.of x ≤ 999999 := fun x hx => by
  obtain ⟨p, h1, _, h3⟩ := of_mem ws x (hh x hx)
  rw [h3]
  exact hw.nu p h1
theorem load_pos {ws : Ws} {m : Mob} (hw : ws.ok) (hh : ws.has m) : 1 ≤ m.load ws.of := (load_bound m (of_bound hw hh)).1
theorem load_lt {f : T → Int} {m : Mob} (h : ∀ x ∈ m.nms, 1 ≤ f x ∧ f x ≤ 999999) (hd : m.dep ≤ 10) : m.load f < 2 ^ 40 := by
  have h1 := (load_bound m h).2
  have h2 := nms_len10 hd
  have h3 : (m.nms.length : Int) * 999999 ≤ 1024 * 999999 := by omega
  have h4 : (1024 : Int) * 999999 < 2 ^ 40 := by decide
  omega
/-! ### arms -/
def redL (f : T → Int) (a b : Mob) : Nat := red2 (a.load f).toNat (b.load f).toNat
def redR (f : T → Int) (a b : Mob) : Nat := red1 (a.load f).toNat (b.load f).toNat
/-- the mobile with the shortest arms by which it is still -/
def armM (f : T → Int) : Mob → Option Mob
  | .w n => some (.w n)
  | .rod _ _ a b => if max (redL f a b) (redR f a b) ≤ 9 then (do let x ← armM f a; let y ← armM f b; some (.rod (redL f a b) (redR f a b) x y)) else none
theorem reduced_load [K38 tab] (f : T → Int) (a b : Mob) (ha : ∀ x ∈ a.nms, 1 ≤ f x ∧ f x ≤ 999999) (hb : ∀ x ∈ b.nms, 1 ≤ f x ∧ f x ≤ 999999) (hd : b.dep ≤ 10) (k : Nat) (c : Cells) (hk : 0 < k) : callF tab k 38 [.int (a.load f), .int (b.load f)] c = .ok (.tup [.int (redR f a b), .int (redL f a b)]) c := by
  have h1 := load_bound a ha
  have h2 := load_bound b hb
  have h3 := load_lt hb hd
  have p : 2 ^ 40 ≤ 2 ^ 8000 := Nat.pow_le_pow_right (by decide) (by decide)
  have p4 : ((2 : Int) ^ 40) = ((2 ^ 40 : Nat) : Int) := by decide
  have e := reduced_ev (tab := tab) (a.load f).toNat (b.load f).toNat (by omega) (by omega) k c hk
  have t1 : (((a.load f).toNat : Nat) : Int) = a.load f := by omega
  have t2 : (((b.load f).toNat : Nat) : Int) = b.load f := by omega
  rw [t1, t2] at e
  exact e
theorem armed_ev [K47 tab] (kvs : List (T × D)) (f : T → Int) (m : Mob) : ∀ (k : Nat) (c : Cells), m.dep + 1 < k → m.dep ≤ 10 → (∀ x ∈ m.nms, lkD x kvs = some (.int (f x))) → (∀ x ∈ m.nms, 1 ≤ f x ∧ f x ≤ 999999) → callF tab k 47 [m.d, .dct kvs] c = match armM f m with | some q => .ok q.d c | none => .exc 6 c := by
  induction m with
  | w n =>
    intro k c hk hd h hf
    obtain ⟨k, rfl⟩ : ∃ j, k = j + 1 := ⟨k - 1, by omega⟩
    rw [callF_at (K47.h47 (tab := tab)) rfl]
    simp [f47_armed, b47_armed, getV, i_w0, armM]
  | rod l r a b iha ihb =>
    intro k c hk hd h hf
    obtain ⟨k, rfl⟩ : ∃ j, k = j + 1 := ⟨k - 1, by omega⟩
    simp only [Mob.dep] at hk hd
    have ha : ∀ x ∈ a.nms, lkD x kvs = some (.int (f x)) := fun x hx => h x (by simp [Mob.nms, hx])
    have hb : ∀ x ∈ b.nms, lkD x kvs = some (.int (f x)) := fun x hx => h x (by simp [Mob.nms, hx])
    have fa : ∀ x ∈ a.nms, 1 ≤ f x ∧ f x ≤ 999999 := fun x hx => hf x (by simp [Mob.nms, hx])
    have fb : ∀ x ∈ b.nms, 1 ≤ f x ∧ f x ≤ 999999 := fun x hx => hf x (by simp [Mob.nms, hx])
    have e1 := fun c => load_of_ev (tab := tab) kvs f a k c (by omega) ha
    have e2 := fun c => load_of_ev (tab := tab) kvs f b k c (by omega) hb
    have e3 := fun c => reduced_load (tab := tab) f a b fa fb (by omega) k c (by omega)
    have e4 := fun c => iha k c (by omega) (by omega) ha fa
    have e5 := fun c => ihb k c (by omega) (by omega) hb fb
    have dd : ∀ x y : Mob, (Mob.rod (redL f a b) (redR f a b) x y).d = .tup [.str (tx "rod"), .int (redL f a b), .int (redR f a b), x.d, y.d] := fun _ _ => rfl
    rw [callF_at (K47.h47 (tab := tab)) rfl]
    unfold armM
    by_cases g : max (redL f a b) (redR f a b) ≤ 9
    · rw [if_pos g]
      have g1 : ¬ (9 : Int) < ((redL f a b : Nat) : Int) := by omega
      have g2 : ¬ (9 : Int) < ((redR f a b : Nat) : Int) := by omega
      generalize hX : ((redL f a b : Nat) : Int) = X at *
      generalize hY : ((redR f a b : Nat) : Int) = Y at *
      have g3 : ¬ (9 : Int) < max X Y := by omega
      cases qa : armM f a with
      | none =>
        rw [qa] at e4
        simp [f47_armed, b47_armed, getV, i_rod0, i_rod3, i_rod4, e1, e2, e3, g3, e4]
      | some x =>
        rw [qa] at e4
        cases qb : armM f b with
        | none =>
          rw [qb] at e5
          simp [f47_armed, b47_armed, getV, i_rod0, i_rod3, i_rod4, e1, e2, e3, g3, e4, e5]
        | some y =>
          rw [qb] at e5
          simp [f47_armed, b47_armed, getV, i_rod0, i_rod3, i_rod4, e1, e2, e3, g3, e4, e5, dd]
    · rw [if_neg g]
      have g1 : (9 : Int) < ((redL f a b : Nat) : Int) ∨ (9 : Int) < ((redR f a b : Nat) : Int) := by omega
      generalize ((redL f a b : Nat) : Int) = X at *
      generalize ((redR f a b : Nat) : Int) = Y at *
      have g3 : (9 : Int) < max X Y := by omega
      simp [f47_armed, b47_armed, getV, i_rod0, i_rod3, i_rod4, e1, e2, e3, g3]
theorem arms_for_ev [K48 tab] (m : Mob) (ws : Ws) (ho : m.ok = true) (hd : m.dep ≤ 5) (hw : ws.ok) (hh : ws.has m) (k : Nat) (c : Cells) (hk : 10 < k) : callF tab k 48 [m.d, ws.d] c = match armM ws.of m with | some q => .ok q.d c | none => .exc 6 c := by
  obtain ⟨k, rfl⟩ : ∃ j, k = j + 1 := ⟨k - 1, by omega⟩
  rw [callF_at (K48.h48 (tab := tab)) rfl]
  have e1 := fun c => need_mobile_ev (tab := tab) m k c ho hd (by omega)
  have e2 := fun c => need_weights_ev (tab := tab) m ws hw hh hd k c (by omega)
  have e3 := fun c => armed_ev (tab := tab) ws.bk ws.of m k c (by omega) (by omega) (fun x hx => of_bk ws x (hh x hx)) (of_bound hw hh)
  have e5 : primD .dict [ws.d] = some (.dct ws.bk) := by simp [Ws.d, pairsD_rows, dict_rows hw]
  cases q : armM ws.of m with
  | none => rw [q] at e3; simp [f48_arms_for, b48_arms_for, getV, e1, e2, e3, e5]
  | some x => rw [q] at e3; simp [f48_arms_for, b48_arms_for, getV, e1, e2, e3, e5]
/-- in how many ways -/
def armN (f : T → Int) : Mob → Nat
  | .w _ => 1
  | .rod _ _ a b => 9 / max (redL f a b) (redR f a b) * armN f a * armN f b
theorem armN_le (f : T → Int) : ∀ (m : Mob), armN f m ≤ 9 ^ (m.nms.length - 1)
  | .w _ => by simp [armN, Mob.nms]
  | .rod _ _ a b => by
    have h1 := armN_le f a
    have h2 := armN_le f b
    have n1 : 0 < a.nms.length := List.length_pos_iff.mpr (nms_ne a)
    have n2 : 0 < b.nms.length := List.length_pos_iff.mpr (nms_ne b)
    have h3 : 9 / max (redL f a b) (redR f a b) ≤ 9 := Nat.div_le_self _ _
    have h4 : (a.nms ++ b.nms).length - 1 = 1 + (a.nms.length - 1) + (b.nms.length - 1) := by simp only [List.length_append]; omega
    simp only [armN, Mob.nms]
    rw [h4, Nat.pow_add, Nat.pow_add, Nat.pow_one]
    exact Nat.mul_le_mul (Nat.mul_le_mul h3 h1) h2
theorem mul_big (i j : Nat) (hi : i < bigI) (hj : j < bigI) : binD .mul (.int i) (.int j) = some (.int ((i * j : Nat) : Int)) := by
  have h : ((i : Int).natAbs < 2 ^ 64 ∨ (j : Int).natAbs < 2 ^ 64) ∨ ((i : Int).natAbs < bigI ∧ (j : Int).natAbs < bigI) := .inr ⟨by rw [Int.natAbs_natCast]; exact hi, by rw [Int.natAbs_natCast]; exact hj⟩
  have e : binD .mul (.int i) (.int j) = if ((i : Int).natAbs < 2 ^ 64 ∨ (j : Int).natAbs < 2 ^ 64) ∨ ((i : Int).natAbs < bigI ∧ (j : Int).natAbs < bigI) then some (.int ((i : Int) * (j : Int))) else none := rfl
  rw [e, if_pos h]
  rfl
theorem nine_big {n : Nat} (h : n ≤ 10000) : 9 ^ n < bigI := by
  have h1 : 9 ^ n ≤ 9 ^ 10000 := Nat.pow_le_pow_right (by decide) h
  have h2 : 9 ^ 10000 ≤ 16 ^ 10000 := Nat.pow_le_pow_left (by decide) _
  have h3 : 16 ^ 10000 = 2 ^ (4 * 10000) := by rw [Nat.pow_mul]
  have h4 : 2 ^ (4 * 10000) < 2 ^ 200000 := Nat.pow_lt_pow_right (by decide) (by decide)
  unfold bigI
  omega
theorem arm_ways_ev [K49 tab] (kvs : List (T × D)) (f : T → Int) (m : Mob) : ∀ (k : Nat) (c : Cells), m.dep + 1 < k → m.dep ≤ 10 → (∀ x ∈ m.nms, lkD x kvs = some (.int (f x))) → (∀ x ∈ m.nms, 1 ≤ f x ∧ f x ≤ 999999) → callF tab k 49 [m.d, .dct kvs] c = .ok (.int (armN f m)) c := by
  induction m with
  | w n =>
    intro k c hk hd h hf
    obtain ⟨k, rfl⟩ : ∃ j, k = j + 1 := ⟨k - 1, by omega⟩
    rw [callF_at (K49.h49 (tab := tab)) rfl]
    simp [f49_arm_ways, b49_arm_ways, getV, i_w0, armN]
  | rod l r a b iha ihb =>
    intro k c hk hd h hf
    obtain ⟨k, rfl⟩ : ∃ j, k = j + 1 := ⟨k - 1, by omega⟩
    simp only [Mob.dep] at hk hd
    have ha : ∀ x ∈ a.nms, lkD x kvs = some (.int (f x)) := fun x hx => h x (by simp [Mob.nms, hx])
    have hb : ∀ x ∈ b.nms, lkD x kvs = some (.int (f x)) := fun x hx => h x (by simp [Mob.nms, hx])
    have fa : ∀ x ∈ a.nms, 1 ≤ f x ∧ f x ≤ 999999 := fun x hx => hf x (by simp [Mob.nms, hx])
    have fb : ∀ x ∈ b.nms, 1 ≤ f x ∧ f x ≤ 999999 := fun x hx => hf x (by simp [Mob.nms, hx])
    have e1 := fun c => load_of_ev (tab := tab) kvs f a k c (by omega) ha
    have e2 := fun c => load_of_ev (tab := tab) kvs f b k c (by omega) hb
    have e3 := fun c => reduced_load (tab := tab) f a b fa fb (by omega) k c (by omega)
    have e4 := fun c => iha k c (by omega) (by omega) ha fa
    have e5 := fun c => ihb k c (by omega) (by omega) hb fb
    have b1 := load_bound a fa
    have b2 := load_bound b fb
    have b3 := load_lt fb (by omega : b.dep ≤ 10)
    have b4 := load_lt fa (by omega : a.dep ≤ 10)
    have p4 : ((2 : Int) ^ 40) = ((2 ^ 40 : Nat) : Int) := by decide
    have q1 : 0 < redL f a b := red2_pos (by omega)
    have q2 : redL f a b ≤ (b.load f).toNat := red2_le _ _
    have q3 : redR f a b ≤ (a.load f).toNat := red1_le _ _
    have p : 2 ^ 40 ≤ 2 ^ 8000 := Nat.pow_le_pow_right (by decide) (by decide)
    have mx : max ((redL f a b : Nat) : Int) ((redR f a b : Nat) : Int) = ((max (redL f a b) (redR f a b) : Nat) : Int) := by omega
    have f1 : binD .fdiv (.int 9) (.int (max (redL f a b) (redR f a b) : Nat)) = some (.int ((9 / max (redL f a b) (redR f a b) : Nat) : Int)) := by
      rw [fdiv_int _ _ (by omega) (by rw [Int.natAbs_natCast]; omega)]
      rfl
    have n1 := nms_len10 (m := a) (by omega)
    have n2 := nms_len10 (m := b) (by omega)
    have w1 := armN_le f a
    have w2 := armN_le f b
    have g1 : 9 / max (redL f a b) (redR f a b) ≤ 9 := Nat.div_le_self _ _
    have big9 := nine_big (n := 1) (by decide)
    have bigA := nine_big (n := a.nms.length - 1) (by omega)
    have bigB := nine_big (n := b.nms.length - 1) (by omega)
    have bigC := nine_big (n := 1 + (a.nms.length - 1)) (by omega)
    have m1 := mul_big (9 / max (redL f a b) (redR f a b)) (armN f a) (by omega) (by omega)
    have lt2 : 9 / max (redL f a b) (redR f a b) * armN f a ≤ 9 ^ (1 + (a.nms.length - 1)) := by
      rw [Nat.pow_add, Nat.pow_one]
      exact Nat.mul_le_mul g1 w1
    have m2 := mul_big (9 / max (redL f a b) (redR f a b) * armN f a) (armN f b) (by omega) (by omega)
    generalize hM : max (redL f a b) (redR f a b) = M at *
    have eN : armN f (.rod l r a b) = 9 / M * armN f a * armN f b := by simp only [armN, hM]
    rw [eN]
    rw [callF_at (K49.h49 (tab := tab)) rfl]
    have n9 : ((9 : Nat) : Int) = 9 := rfl
    simp only [Int.natCast_mul, Int.natCast_ediv, n9] at f1 m1 m2 ⊢
    simp [f49_arm_ways, b49_arm_ways, getV, i_rod0, i_rod3, i_rod4, e1, e2, e3, mx, f1, e4, m1, e5, m2]
theorem how_many_arms_ev [K50 tab] (m : Mob) (ws : Ws) (ho : m.ok = true) (hd : m.dep ≤ 5) (hw : ws.ok) (hh : ws.has m) (k : Nat) (c : Cells) (hk : 10 < k) : callF tab k 50 [m.d, ws.d] c = .ok (.int (armN ws.of m)) c := by
  obtain ⟨k, rfl⟩ : ∃ j, k = j + 1 := ⟨k - 1, by omega⟩
  rw [callF_at (K50.h50 (tab := tab)) rfl]
  have e1 := fun c => need_mobile_ev (tab := tab) m k c ho hd (by omega)
  have e2 := fun c => need_weights_ev (tab := tab) m ws hw hh hd k c (by omega)
  have e3 := fun c => arm_ways_ev (tab := tab) ws.bk ws.of m k c (by omega) (by omega) (fun x hx => of_bk ws x (hh x hx)) (of_bound hw hh)
  have e5 : primD .dict [ws.d] = some (.dct ws.bk) := by simp [Ws.d, pairsD_rows, dict_rows hw]
  simp [f50_how_many_arms, b50_how_many_arms, getV, e1, e2, e3, e5]
theorem hung_ev [K51 tab] (a b : Mob) (ws : Ws) (ha : a.ok = true) (hb : b.ok = true) (da : a.dep ≤ 5) (db : b.dep ≤ 5) (hw : ws.ok) (hh : ws.has a) (hh2 : ws.has b) (k : Nat) (c : Cells) (hk : 10 < k) : callF tab k 51 [a.d, b.d, ws.d] c =
    if max (redL ws.of a b) (redR ws.of a b) ≤ 9 then (if max a.dep b.dep + 1 ≤ 5 then .ok (Mob.rod (redL ws.of a b) (redR ws.of a b) a b).d c else .exc 7 c) else .exc 6 c := by
  obtain ⟨k, rfl⟩ : ∃ j, k = j + 1 := ⟨k - 1, by omega⟩
  rw [callF_at (K51.h51 (tab := tab)) rfl]
  have e1 := fun c => need_mobile_ev (tab := tab) a k c ha da (by omega)
  have e1' := fun c => need_mobile_ev (tab := tab) b k c hb db (by omega)
  have e2 := fun c => need_weights_ev (tab := tab) a ws hw hh da k c (by omega)
  have e2' := fun c => need_weights_ev (tab := tab) b ws hw hh2 db k c (by omega)
  have fa := of_bound hw hh
  have fb := of_bound hw hh2
  have e3 := fun c => load_of_ev (tab := tab) ws.bk ws.of a k c (by omega) (fun x hx => of_bk ws x (hh x hx))
  have e4 := fun c => load_of_ev (tab := tab) ws.bk ws.of b k c (by omega) (fun x hx => of_bk ws x (hh2 x hx))
  have e5 : primD .dict [ws.d] = some (.dct ws.bk) := by simp [Ws.d, pairsD_rows, dict_rows hw]
  have e6 := fun c => reduced_load (tab := tab) ws.of a b fa fb (by omega) k c (by omega)
  have b1 := load_bound a fa
  have b2 := load_bound b fb
  have q1 : 0 < redL ws.of a b := red2_pos (by omega)
  have q2 : 0 < redR ws.of a b := red1_pos (by omega)
  by_cases g : max (redL ws.of a b) (redR ws.of a b) ≤ 9
  · have ok : (Mob.rod (redL ws.of a b) (redR ws.of a b) a b).ok = true := by
      have w1 : (1 : Int) ≤ redL ws.of a b := by omega
      have w2 : (redL ws.of a b : Int) ≤ 9 := by omega
      have w3 : (1 : Int) ≤ redR ws.of a b := by omega
      have w4 : (redR ws.of a b : Int) ≤ 9 := by omega
      simp [Mob.ok, w1, w2, w3, w4, ha, hb]
    have e8 := fun c => is_mobile_ev (tab := tab) (.rod (redL ws.of a b) (redR ws.of a b) a b) k c ok (by simp only [Mob.dep]; omega)
    have e9 : (Mob.rod (redL ws.of a b) (redR ws.of a b) a b).d = .tup [.str (tx "rod"), .int (redL ws.of a b), .int (redR ws.of a b), a.d, b.d] := rfl
    have e10 : (Mob.rod (redL ws.of a b) (redR ws.of a b) a b).dep = max a.dep b.dep + 1 := rfl
    rw [if_pos g, e9]
    rw [e9, e10] at e8
    have g1 : ¬ (9 : Int) < ((redL ws.of a b : Nat) : Int) := by omega
    have g2 : ¬ (9 : Int) < ((redR ws.of a b : Nat) : Int) := by omega
    generalize ((redL ws.of a b : Nat) : Int) = X at *
    generalize ((redR ws.of a b : Nat) : Int) = Y at *
    have g3 : ¬ (9 : Int) < max X Y := by omega
    by_cases h5 : max a.dep b.dep + 1 ≤ 5
    · rw [if_pos h5]
      simp only [h5, decide_true] at e8
      simp [f51_hung, b51_hung, getV, e1, e1', e2, e2', e3, e4, e5, e6, g3, e8]
    · rw [if_neg h5]
      simp only [h5, decide_false] at e8
      simp [f51_hung, b51_hung, getV, e1, e1', e2, e2', e3, e4, e5, e6, g3, e8]
  · rw [if_neg g]
    have g1 : (9 : Int) < ((redL ws.of a b : Nat) : Int) ∨ (9 : Int) < ((redR ws.of a b : Nat) : Int) := by omega
    generalize ((redL ws.of a b : Nat) : Int) = X at *
    generalize ((redR ws.of a b : Nat) : Int) = Y at *
    have g3 : (9 : Int) < max X Y := by omega
    simp [f51_hung, b51_hung, getV, e1, e1', e2, e2', e3, e4, e5, e6, g3]
end Hg
end
section
set_option Elab.async false
set_option linter.all false
set_option autoImplicit false
set_option maxRecDepth 100000
/-! P8: the least whole numbers; book_of, whole_of, least. -/
namespace Hg
variable {tab : Nat → Option FD}
def lcmL (ns : List Nat) : Nat := ns.foldl Nat.lcm 1
def gcdL (ns : List Nat) : Nat := ns.foldl Nat.gcd 0
theorem foldl_lcm_dvd : ∀ (ns : List Nat) (a : Nat), a ∣ ns.foldl Nat.lcm a ∧ ∀ n ∈ ns, n ∣ ns.foldl Nat.lcm a
  | [], a => ⟨Nat.dvd_refl _, by simp⟩
  | x :: ns, a => by
    obtain ⟨h1, h2⟩ := foldl_lcm_dvd ns (Nat.lcm a x)
    refine ⟨Nat.dvd_trans (Nat.dvd_lcm_left a x) h1, fun n hn => ?_⟩
    rcases List.mem_cons.mp hn with rfl | hn
    · exact Nat.dvd_trans (Nat.dvd_lcm_right a n) h1
    · exact h2 n hn
theorem foldl_lcm_pos : ∀ (ns : List Nat) (a : Nat), 0 < a → (∀ n ∈ ns, 0 < n) → 0 < ns.foldl Nat.lcm a
  | [], a, h, _ => h
  | x :: ns, a, h, hn => foldl_lcm_pos ns _ (Nat.lcm_pos h (hn x List.mem_cons_self)) fun n h => hn n (List.mem_cons_of_mem _ h)
theorem foldl_lcm_le {B : Nat} : ∀ (ns : List Nat) (a : Nat), (∀ n ∈ ns, n ≤ 2 ^ B) → ns.foldl Nat.lcm a ≤ a * 2 ^ (B * ns.length)
  | [], a, _ => by simp
  | x :: ns, a, h => by
    have ih := foldl_lcm_le ns (Nat.lcm a x) fun n hn => h n (List.mem_cons_of_mem _ hn)
    have h1 : Nat.lcm a x ≤ a * 2 ^ B := Nat.le_trans (Nat.div_le_self _ _) (Nat.mul_le_mul_left _ (h x List.mem_cons_self))
    have h2 : a * 2 ^ B * 2 ^ (B * ns.length) = a * 2 ^ (B * (ns.length + 1)) := by
      rw [Nat.mul_assoc, ← Nat.pow_add, Nat.mul_succ, Nat.add_comm]
    rw [List.foldl_cons, List.length_cons, ← h2]
    exact Nat.le_trans ih (Nat.mul_le_mul_right _ h1)
theorem foldl_gcd_dvd : ∀ (ns : List Nat) (a : Nat), ns.foldl Nat.gcd a ∣ a ∧ ∀ n ∈ ns, ns.foldl Nat.gcd a ∣ n
  | [], a => ⟨Nat.dvd_refl _, by simp⟩
  | x :: ns, a => by
    obtain ⟨h1, h2⟩ := foldl_gcd_dvd ns (Nat.gcd a x)
    refine ⟨Nat.dvd_trans h1 (Nat.gcd_dvd_left a x), fun n hn => ?_⟩
    rcases List.mem_cons.mp hn with rfl | hn
    · exact Nat.dvd_trans h1 (Nat.gcd_dvd_right a n)
    · exact h2 n hn
theorem foldl_gcd_great {d : Nat} : ∀ (ns : List Nat) (a : Nat), d ∣ a → (∀ n ∈ ns, d ∣ n) → d ∣ ns.foldl Nat.gcd a
  | [], a, h, _ => h
  | x :: ns, a, h, hn => foldl_gcd_great ns _ (Nat.dvd_gcd h (hn x List.mem_cons_self)) fun n h => hn n (List.mem_cons_of_mem _ h)
theorem gcdL_dvd {ns : List Nat} : ∀ n ∈ ns, gcdL ns ∣ n := (foldl_gcd_dvd ns 0).2
theorem gcdL_great {ns : List Nat} {d : Nat} (h : ∀ n ∈ ns, d ∣ n) : d ∣ gcdL ns := foldl_gcd_great ns 0 (Nat.dvd_zero d) h
theorem gcdL_pos {ns : List Nat} {n : Nat} (hn : n ∈ ns) (h : 0 < n) : 0 < gcdL ns := Nat.pos_of_dvd_of_pos (gcdL_dvd n hn) h
theorem gcdL_div {ns : List Nat} {n : Nat} (hn : n ∈ ns) (h : 0 < n) : gcdL (ns.map (· / gcdL ns)) = 1 := by
  have gp := gcdL_pos hn h
  have key : gcdL (ns.map (· / gcdL ns)) * gcdL ns ∣ gcdL ns := gcdL_great fun m hm => by
    obtain ⟨x, hx⟩ := gcdL_dvd (ns := ns.map (· / gcdL ns)) (m / gcdL ns) (List.mem_map.mpr ⟨m, hm, rfl⟩)
    obtain ⟨y, hy⟩ := gcdL_dvd m hm
    have e : m / gcdL ns = y := by rw [hy]; exact Nat.mul_div_cancel_left _ gp
    rw [e] at hx
    refine ⟨x, ?_⟩
    rw [hy, hx, Nat.mul_comm (gcdL ns), Nat.mul_assoc, Nat.mul_assoc, Nat.mul_comm x]
  obtain ⟨z, hz⟩ := key
  have : gcdL (ns.map (· / gcdL ns)) * z = 1 := by
    have h2 : gcdL ns * (gcdL (ns.map (· / gcdL ns)) * z) = gcdL ns * 1 := by
      rw [Nat.mul_one, ← Nat.mul_assoc, Nat.mul_comm (gcdL ns)]
      exact hz.symm
    exact Nat.eq_of_mul_eq_mul_left gp h2
  exact Nat.eq_one_of_mul_eq_one_right this
/-! ### the loops -/
theorem euclid34 (cf : Nat → List D → M D) (wf : Nat) (s0 s1 s2 : Slot) : ∀ (n : Nat) (a b : Nat) (c : Cells), b < n → whlW cf wf (.cmp .ne (.var 4) (.int 0)) [.par 3 4 (.var 4) (.bin .mod (.var 3) (.var 4))] n [s0, s1, s2, .val (.int a), .val (.int b)] c = .ok (.nx [s0, s1, s2, .val (.int (Nat.gcd a b)), .val (.int 0)]) c
  | 0, a, b, c, h => by omega
  | n + 1, a, b, c, h => by
    unfold whlW
    by_cases hb : b = 0
    · subst hb
      simp [whlL, getV]
    · have h0 : ((b : Int) == 0) = false := by rw [beq_eq_false_iff_ne]; omega
      have m1 : binD .mod (.int a) (.int b) = some (.int (a % b : Nat)) := by
        rw [mod_int _ _ (by omega)]; rfl
      have ih := euclid34 cf wf s0 s1 s2 n b (a % b) c (by have := Nat.mod_lt a (Nat.pos_of_ne_zero hb); omega)
      unfold whlW at ih
      have g : Nat.gcd b (a % b) = Nat.gcd a b := by
        rw [Nat.gcd_comm, ← Nat.gcd_rec, Nat.gcd_comm]
      rw [g] at ih
      have m2 : ((a % b : Nat) : Int) = (a : Int) % (b : Int) := rfl
      rw [m2] at ih m1
      simp [whlL, getV, h0, m1, ih]
def iD (n : Nat) : D := .int n
def bCom : List S := [.par 3 4 (.var 1) (.var 2), .whl (.cmp .ne (.var 4) (.int 0)) [.par 3 4 (.var 4) (.bin .mod (.var 3) (.var 4))], .set 1 (.bin .fdiv (.bin .mul (.var 1) (.var 2)) (.var 3))]
def bDiv : List S := [.par 3 4 (.var 1) (.var 2), .whl (.cmp .ne (.var 4) (.int 0)) [.par 3 4 (.var 4) (.bin .mod (.var 3) (.var 4))], .set 1 (.var 3)]
theorem com_loop (cf : Nat → List D → M D) (nd : Slot) : ∀ (ns : List Nat) (a : Nat) (v2 v3 v4 : Slot) (c : Cells), (∀ n ∈ ns, 0 < n ∧ n < 2 ^ 8000 ∧ n < bigI) → (ns.foldl Nat.lcm a < bigI) → a < bigI → 0 < a →
    ∃ w2 w3 w4, forW cf wFuel (.nm 2) bCom (ns.map iD) [nd, .val (.int a), v2, v3, v4] c = .ok (.nx [nd, .val (.int ((ns.foldl Nat.lcm a : Nat) : Int)), w2, w3, w4]) c
  | [], a, v2, v3, v4, c, _, _, _, _ => ⟨v2, v3, v4, rfl⟩
  | x :: ns, a, v2, v3, v4, c, h, hl, ha, hp => by
    have hx := h x List.mem_cons_self
    have e1 := fun c => euclid34 cf wFuel nd (.val (.int a)) (.val (.int x)) wFuel a x c hx.2.1
    have gp : 0 < Nat.gcd a x := Nat.gcd_pos_of_pos_right _ hx.1
    have gl : Nat.gcd a x ≤ x := Nat.gcd_le_right _ hx.1
    have m1 := mul_big a x ha hx.2.2
    have f1 : binD .fdiv (.int ((a * x : Nat) : Int)) (.int (Nat.gcd a x)) = some (.int (Nat.lcm a x)) := by
      rw [fdiv_int _ _ (by omega) (by rw [Int.natAbs_natCast]; exact Nat.lt_of_le_of_lt gl hx.2.1)]
      rfl
    rw [List.foldl_cons] at hl ⊢
    have lp := Nat.lcm_pos hp hx.1
    have ll : Nat.lcm a x < bigI := by
      have := (foldl_lcm_dvd ns (Nat.lcm a x)).1
      have := Nat.le_of_dvd (foldl_lcm_pos ns _ lp fun n hn => (h n (List.mem_cons_of_mem _ hn)).1) this
      omega
    obtain ⟨w2, w3, w4, ih⟩ := com_loop cf nd ns (Nat.lcm a x) (.val (.int x)) (.val (.int (Nat.gcd a x))) (.val (.int 0)) c (fun n hn => h n (List.mem_cons_of_mem _ hn)) hl ll lp
    refine ⟨w2, w3, w4, ?_⟩
    unfold forW at ih ⊢
    rw [List.map_cons]
    simp only [forL, iD, bindT_nm, List.set_cons_succ, List.set_cons_zero]
    have st : evSs cf wFuel bCom [nd, .val (.int a), .val (.int x), v3, v4] c = .ok (.nx [nd, .val (.int (Nat.lcm a x)), .val (.int x), .val (.int (Nat.gcd a x)), .val (.int 0)]) c := by
      rw [Int.natCast_mul] at m1 f1
      simp [bCom, getV, e1, m1, f1]
    simp only [ap_bind, st]
    exact ih
theorem common_ev [K68 tab] (ns : List Nat) (h : ∀ n ∈ ns, 0 < n ∧ n ≤ 2 ^ 200) (hl : ns.length ≤ 40) (k : Nat) (c : Cells) (hk : 0 < k) : callF tab k 68 [.lst (ns.map iD)] c = .ok (.int (lcmL ns)) c := by
  obtain ⟨k, rfl⟩ : ∃ j, k = j + 1 := ⟨k - 1, by omega⟩
  have b1 : 2 ^ 200 < 2 ^ 8000 := Nat.pow_lt_pow_right (by decide) (by decide)
  have b2 : 2 ^ 200 < bigI := Nat.pow_lt_pow_right (by decide) (by decide)
  have b3 : 2 ^ (200 * ns.length) < bigI := Nat.pow_lt_pow_right (by decide) (by omega)
  have b4 : 2 ^ (200 * ns.length) < bigI := b3
  have lb : lcmL ns < bigI := by
    have := foldl_lcm_le (B := 200) ns 1 fun n hn => (h n hn).2
    rw [Nat.one_mul] at this
    exact Nat.lt_of_le_of_lt this b3
  have p1 : 1 < bigI := Nat.lt_of_le_of_lt (show 1 ≤ 2 ^ 200 from Nat.one_le_two_pow) b2
  obtain ⟨w2, w3, w4, e⟩ := com_loop (callF tab k) (.val (.lst (ns.map iD))) ns 1 .emp .emp .emp c (fun n hn => ⟨(h n hn).1, by have := (h n hn).2; omega, by have := (h n hn).2; omega⟩) lb p1 (by decide)
  have hb : b68_common = [
  .set 1 (.int 1),
  .forr .e [(.var 0)] (.nm 2) bCom,
  .ret (.var 1)
  ] := rfl
  have e : forW (callF tab k) wFuel (.nm 2) bCom (ns.map iD) [.val (.lst (ns.map iD)), .val (.int 1), .emp, .emp, .emp] c = .ok (.nx [.val (.lst (ns.map iD)), .val (.int (lcmL ns)), w2, w3, w4]) c := e
  rw [callF_at (K68.h68 (tab := tab)) rfl]
  simp only [f68_common, hb]
  simp [getV, e]
theorem div_loop (cf : Nat → List D → M D) (nd : Slot) : ∀ (ns : List Nat) (a : Nat) (v2 v3 v4 : Slot) (c : Cells), (∀ n ∈ ns, n < 2 ^ 8000) →
    ∃ w2 w3 w4, forW cf wFuel (.nm 2) bDiv (ns.map iD) [nd, .val (.int a), v2, v3, v4] c = .ok (.nx [nd, .val (.int ((ns.foldl Nat.gcd a : Nat) : Int)), w2, w3, w4]) c
  | [], a, v2, v3, v4, c, _ => ⟨v2, v3, v4, rfl⟩
  | x :: ns, a, v2, v3, v4, c, h => by
    have e1 := fun c => euclid34 cf wFuel nd (.val (.int a)) (.val (.int x)) wFuel a x c (h x List.mem_cons_self)
    obtain ⟨w2, w3, w4, ih⟩ := div_loop cf nd ns (Nat.gcd a x) (.val (.int x)) (.val (.int (Nat.gcd a x))) (.val (.int 0)) c (fun n hn => h n (List.mem_cons_of_mem _ hn))
    refine ⟨w2, w3, w4, ?_⟩
    unfold forW at ih ⊢
    rw [List.map_cons]
    simp only [forL, iD, bindT_nm, List.set_cons_succ, List.set_cons_zero]
    have st : evSs cf wFuel bDiv [nd, .val (.int a), .val (.int x), v3, v4] c = .ok (.nx [nd, .val (.int (Nat.gcd a x)), .val (.int x), .val (.int (Nat.gcd a x)), .val (.int 0)]) c := by
      simp [bDiv, getV, e1]
    simp only [ap_bind, st]
    exact ih
theorem divisor_ev [K69 tab] (ns : List Nat) (h : ∀ n ∈ ns, n < 2 ^ 8000) (k : Nat) (c : Cells) (hk : 0 < k) : callF tab k 69 [.lst (ns.map iD)] c = .ok (.int (gcdL ns)) c := by
  obtain ⟨k, rfl⟩ : ∃ j, k = j + 1 := ⟨k - 1, by omega⟩
  obtain ⟨w2, w3, w4, e⟩ := div_loop (callF tab k) (.val (.lst (ns.map iD))) ns 0 .emp .emp .emp c h
  have hb : b69_divisor = [
  .set 1 (.int 0),
  .forr .e [(.var 0)] (.nm 2) bDiv,
  .ret (.var 1)
  ] := rfl
  have e : forW (callF tab k) wFuel (.nm 2) bDiv (ns.map iD) [.val (.lst (ns.map iD)), .val (.int 0), .emp, .emp, .emp] c = .ok (.nx [.val (.lst (ns.map iD)), .val (.int (gcdL ns)), w2, w3, w4]) c := e
  rw [callF_at (K69.h69 (tab := tab)) rfl]
  simp only [f69_divisor, hb]
  simp [getV, e]
end Hg
end
section
set_option Elab.async false
set_option linter.all false
set_option autoImplicit false
set_option maxRecDepth 100000
/-! P9: book_of, whole_of, least. -/
namespace Hg
variable {tab : Nat → Option FD}
theorem lkD_app (k : T) : ∀ (xs ys : List (T × D)), lkD k (xs ++ ys) = match lkD k xs with | some d => some d | none => lkD k ys
  | [], ys => rfl
  | (x, d) :: r, ys => by
    have ih := lkD_app k r ys
    by_cases e : x = k
    · simp [lkD, e]
    · simp [lkD, e, ih]
theorem lkD_map_ne {k k' : T} (d : D) (h : k ≠ k') : ∀ (kvs : List (T × D)), lkD k (kvs.map fun p => if p.1 = k' then (p.1, d) else p) = lkD k kvs
  | [] => rfl
  | (x, e) :: r => by
    have ih := lkD_map_ne d h r
    by_cases q : x = k'
    · subst q
      have : ¬ x = k := fun z => h z.symm
      simp only [List.map_cons, if_true, lkD, this, if_false]
      exact ih
    · simp only [List.map_cons, if_neg q, lkD]
      split
      · rfl
      · exact ih
theorem lkD_map_eq {k : T} (d : D) : ∀ (kvs : List (T × D)), (kvs.any fun p => decide (p.1 = k)) = true → lkD k (kvs.map fun p => if p.1 = k then (p.1, d) else p) = some d
  | [], h => by simp at h
  | (x, e) :: r, h => by
    by_cases q : x = k
    · simp [lkD, q]
    · simp only [List.any_cons, q, decide_false, Bool.false_or] at h
      simp only [List.map_cons, if_neg q, lkD]
      exact lkD_map_eq d r h
/-- what stands at a key once something is put -/
theorem lkD_putD (k k' : T) (d : D) (kvs : List (T × D)) : lkD k (putD k' d kvs) = if k = k' then some d else lkD k kvs := by
  unfold putD
  split
  · rename_i h
    by_cases e : k = k'
    · subst e
      rw [if_pos rfl]
      exact lkD_map_eq d kvs h
    · rw [if_neg e]
      exact lkD_map_ne d e kvs
  · rename_i h
    rw [lkD_app]
    have hno : k' ∉ kvs.map (·.1) := fun hm => by
      obtain ⟨p, hp, e⟩ := List.mem_map.mp hm
      exact h (List.any_eq_true.mpr ⟨p, hp, by simp [e]⟩)
    by_cases e : k = k'
    · subst e
      rw [if_pos rfl, lkD_none hno]
      simp [lkD]
    · rw [if_neg e]
      have : ¬ k' = k := fun z => e z.symm
      cases lkD k kvs <;> simp [lkD, this]
theorem dict_lk_go {n : T} {d : D} : ∀ (ps acc : List (T × D)), (∀ p ∈ ps, p.1 = n → p.2 = d) → (lkD n acc = some d ∨ ∃ p ∈ ps, p.1 = n) → lkD n (ps.foldl (fun a p => putD p.1 p.2 a) acc) = some d
  | [], acc, _, h => by
    rcases h with h | ⟨p, hp, _⟩
    · exact h
    · cases hp
  | p :: ps, acc, hc, h => by
    rw [List.foldl_cons]
    refine dict_lk_go ps _ (fun q hq => hc q (List.mem_cons_of_mem _ hq)) ?_
    rw [lkD_putD]
    by_cases e : n = p.1
    · rw [if_pos e]
      exact .inl (congrArg some (hc p List.mem_cons_self e.symm))
    · rw [if_neg e]
      rcases h with h | ⟨q, hq, e2⟩
      · exact .inl h
      · rcases List.mem_cons.mp hq with rfl | hq
        · exact absurd e2.symm e
        · exact .inr ⟨q, hq, e2⟩
theorem dict_lk {n : T} {d : D} {ps : List (T × D)} (hc : ∀ p ∈ ps, p.1 = n → p.2 = d) (h : ∃ p ∈ ps, p.1 = n) : lkD n (dictD ps) = some d := dict_lk_go ps [] hc (.inr h)
theorem dict_no_go {n : T} : ∀ (ps acc : List (T × D)), (∀ p ∈ ps, p.1 ≠ n) → lkD n (ps.foldl (fun a p => putD p.1 p.2 a) acc) = lkD n acc
  | [], acc, _ => rfl
  | p :: ps, acc, h => by
    rw [List.foldl_cons, dict_no_go ps _ fun q hq => h q (List.mem_cons_of_mem _ hq), lkD_putD, if_neg (fun e => h p List.mem_cons_self e.symm)]
/-! ### the share of a name -/
def Mob.rows1 (m : Mob) : List Row := m.rw (tx "") 1
def Mob.sh (m : Mob) (n : T) : Rat := match firstOf m.rows1 n with
  | some q => q.2.2
  | none => 0
theorem sh_of {m : Mob} (hb : m.bar = none) {p : Row} (hp : p ∈ m.rows1) : m.sh p.2.1 = p.2.2 := by
  unfold Mob.sh
  cases e : firstOf m.rows1 p.2.1 with
  | none =>
    exfalso
    simp only [firstOf, List.find?_eq_none, decide_eq_true_eq] at e
    exact e p hp rfl
  | some q =>
    obtain ⟨h1, h2⟩ := first_some e
    exact bar_none.mp hb q h1 p hp h2
theorem row_of {m : Mob} {n : T} (h : n ∈ m.nms) : ∃ p ∈ m.rows1, p.2.1 = n := by
  rw [← rw_nms m (tx "") 1] at h
  obtain ⟨p, hp, e⟩ := List.mem_map.mp h
  exact ⟨p, hp, e⟩
def Mob.bkD (m : Mob) : List (T × D) := dictD (m.rows1.map fun p => (p.2.1, frD p.2.2))
theorem bk_lk {m : Mob} (hb : m.bar = none) {n : T} (h : n ∈ m.nms) : lkD n m.bkD = some (frD (m.sh n)) := by
  obtain ⟨p, hp, e⟩ := row_of h
  refine dict_lk (fun q hq e2 => ?_) ⟨(p.2.1, frD p.2.2), List.mem_map.mpr ⟨p, hp, rfl⟩, e⟩
  obtain ⟨r, hr, rfl⟩ := List.mem_map.mp hq
  have e2 : r.2.1 = n := e2
  show frD r.2.2 = _
  rw [← sh_of hb hr, e2]
theorem bk_no {m : Mob} {n : T} (h : n ∉ m.nms) : lkD n m.bkD = none := by
  unfold Mob.bkD dictD
  rw [dict_no_go]
  · rfl
  · intro q hq e
    obtain ⟨r, hr, rfl⟩ := List.mem_map.mp hq
    refine h ?_
    rw [← rw_nms m (tx "") 1]
    exact List.mem_map.mpr ⟨r, hr, e⟩
theorem pairsD_rw : ∀ (rows : List Row), pairsD (rows.map fun p => .tup [.str p.2.1, frD p.2.2]) = some (rows.map fun p => (p.2.1, frD p.2.2))
  | [] => rfl
  | p :: r => by simp [pairsD, pairsD_rw r]
theorem book_of_ev [K67 tab] (m : Mob) (ho : m.ok = true) (hd : m.dep ≤ 6) (k : Nat) (c : Cells) (hk : 10 < k) : callF tab k 67 [m.d] c = .ok (.dct m.bkD) c := by
  obtain ⟨k, rfl⟩ : ∃ j, k = j + 1 := ⟨k - 1, by omega⟩
  have e1 := fun c => rows_of_ev (tab := tab) m ho hd k c (by omega)
  have hl := rw_len m (tx "") 1
  have hn := nms_len10 (m := m) (by omega)
  have e2 : ∀ c, lcW (callF tab k) (.tp [.nm 1, .nm 2, .nm 3]) (.bl true) (.tup [.var 2, .var 3]) [.val m.d, .emp, .emp, .emp] ((m.rw (tx "") 1).map rwD) c = .ok ((m.rw (tx "") 1).map fun p => .tup [.str p.2.1, frD p.2.2]) c := fun c => by
    unfold lcW
    rw [lcL_map (f := fun p => .tup [.str p.2.1, frD p.2.2]) (m.rw (tx "") 1) [] c (fun p hp => ⟨[.val m.d, .val (.str p.1), .val (.str p.2.1), .val (frD p.2.2)], rfl, fun c => by simp, fun c => by simp [getV]⟩)]
    · simp
    · simp; omega
  rw [callF_at (K67.h67 (tab := tab)) rfl]
  simp [f67_book_of, b67_book_of, getV, e1, wipeE, e2, pairsD_rw, Mob.bkD, Mob.rows1]
/-! ### the least whole numbers -/
abbrev FRs := List (T × Rat)
def fqD (p : T × Rat) : D := .tup [.str p.1, frD p.2]
def dwn (rows : FRs) : Nat := lcmL (rows.map fun p => p.2.den)
/-- each as a whole number, not yet the least -/
def whN (rows : FRs) (q : Rat) : Nat := q.num.toNat * (dwn rows / q.den)
def whM (rows : FRs) : Nat := gcdL (rows.map fun p => whN rows p.2)
/-- the least whole number of a fraction among these -/
def whW (rows : FRs) (q : Rat) : Nat := whN rows q / whM rows
structure FRs.ok (rows : FRs) : Prop where
  len : rows.length ≤ 32
  pos : ∀ p ∈ rows, 0 < p.2
  num : ∀ p ∈ rows, p.2.num ≤ ((2 ^ 200 : Nat) : Int)
  den : ∀ p ∈ rows, p.2.den ≤ 2 ^ 200
theorem dwn_dvd {rows : FRs} : ∀ p ∈ rows, p.2.den ∣ dwn rows := fun p hp => (foldl_lcm_dvd _ 1).2 _ (List.mem_map.mpr ⟨p, hp, rfl⟩)
theorem dwn_pos {rows : FRs} : 0 < dwn rows := foldl_lcm_pos _ 1 (by decide) fun n hn => by
  obtain ⟨p, _, rfl⟩ := List.mem_map.mp hn
  exact p.2.den_pos
theorem dwn_le {rows : FRs} (h : rows.ok) : dwn rows ≤ 2 ^ 6400 := by
  have h1 := foldl_lcm_le (B := 200) (rows.map fun p => p.2.den) 1 fun n hn => by
    obtain ⟨p, hp, rfl⟩ := List.mem_map.mp hn
    exact h.den p hp
  rw [Nat.one_mul, List.length_map] at h1
  have := h.len
  exact Nat.le_trans h1 (Nat.pow_le_pow_right (by decide) (by omega))
theorem whN_pos {rows : FRs} (h : rows.ok) {p : T × Rat} (hp : p ∈ rows) : 0 < whN rows p.2 := by
  have h1 := num_pos (h.pos p hp)
  exact Nat.mul_pos (by omega) (Nat.div_pos (Nat.le_of_dvd dwn_pos (dwn_dvd p hp)) p.2.den_pos)
theorem whN_le {rows : FRs} (h : rows.ok) {p : T × Rat} (hp : p ∈ rows) : whN rows p.2 ≤ 2 ^ 6600 := by
  have h1 := h.num p hp
  have h2 : dwn rows / p.2.den ≤ 2 ^ 6400 := Nat.le_trans (Nat.div_le_self _ _) (dwn_le h)
  have h3 : 2 ^ 200 * 2 ^ 6400 = 2 ^ 6600 := by rw [← Nat.pow_add]
  rw [← h3]
  exact Nat.mul_le_mul (by omega) h2
theorem whM_pos {rows : FRs} (h : rows.ok) (h0 : rows ≠ []) : 0 < whM rows := by
  obtain ⟨p, hp⟩ := List.exists_mem_of_ne_nil rows h0
  exact gcdL_pos (List.mem_map.mpr ⟨p, hp, rfl⟩) (whN_pos h hp)
theorem whM_dvd {rows : FRs} {p : T × Rat} (hp : p ∈ rows) : whM rows ∣ whN rows p.2 := gcdL_dvd _ (List.mem_map.mpr ⟨p, hp, rfl⟩)
theorem whW_pos {rows : FRs} (h : rows.ok) {p : T × Rat} (hp : p ∈ rows) : 0 < whW rows p.2 :=
  Nat.div_pos (Nat.le_of_dvd (whN_pos h hp) (whM_dvd hp)) (whM_pos h (List.ne_nil_of_mem hp))
theorem natR_ne {n : Nat} (h : 0 < n) : (n : Rat) ≠ 0 := fun e => absurd (Rat.natCast_inj.mp (show (n : Rat) = ((0 : Nat) : Rat) from e)) (by omega)
theorem natR_pos {n : Nat} (h : 0 < n) : (0 : Rat) < n := Rat.natCast_pos.mpr h
theorem div_natR {a b : Nat} (h : b ∣ a) (hb : 0 < b) : ((a / b : Nat) : Rat) = (a : Rat) / b := by
  obtain ⟨c, rfl⟩ := h
  rw [Nat.mul_div_cancel_left _ hb, Rat.natCast_mul]
  have := natR_ne hb
  grind
/-- all are so many times the fractions -/
theorem whW_spec {rows : FRs} (h : rows.ok) {p : T × Rat} (hp : p ∈ rows) : ((whW rows p.2 : Nat) : Rat) = p.2 * ((dwn rows : Rat) / (whM rows : Rat)) := by
  have mp := whM_pos h (List.ne_nil_of_mem hp)
  unfold whW
  rw [div_natR (whM_dvd hp) mp]
  unfold whN
  rw [Rat.natCast_mul, div_natR (dwn_dvd p hp) p.2.den_pos]
  have h1 := num_pos (h.pos p hp)
  have e1 : ((p.2.num.toNat : Nat) : Rat) = (p.2.num : Rat) := by
    rw [← Rat.intCast_natCast]
    congr 1
    omega
  have e2 := rat_eq p.2
  have n1 := natR_ne p.2.den_pos
  have n2 := natR_ne mp
  rw [e1]
  generalize ((dwn rows : Nat) : Rat) = u at *
  generalize ((whM rows : Nat) : Rat) = v at *
  generalize (p.2.num : Rat) = x at *
  generalize ((p.2.den : Nat) : Rat) = y at *
  rw [e2]
  grind
theorem whW_gcd {rows : FRs} (h : rows.ok) (h0 : rows ≠ []) : gcdL (rows.map fun p => whW rows p.2) = 1 := by
  obtain ⟨p, hp⟩ := List.exists_mem_of_ne_nil rows h0
  have := gcdL_div (ns := rows.map fun p => whN rows p.2) (n := whN rows p.2) (List.mem_map.mpr ⟨p, hp, rfl⟩) (whN_pos h hp)
  rw [List.map_map] at this
  exact this
theorem alike_rows (xs ys : Ws) : ∀ a ∈ xs.map rowD, ∀ b ∈ ys.map rowD, alikeD a b = true := fun a ha b hb => by
  obtain ⟨p, _, rfl⟩ := List.mem_map.mp ha
  obtain ⟨q, _, rfl⟩ := List.mem_map.mp hb
  rfl
theorem plain_rows : ∀ (xs : Ws), plainDs (xs.map rowD) = true
  | [] => rfl
  | x :: xs => by simp [plainDs, plainD, rowD, plain_rows xs]
theorem dep_rows : ∀ (xs : Ws), depDs (xs.map rowD) ≤ 1
  | [] => by simp [depDs]
  | x :: xs => by
    have := dep_rows xs
    simp only [List.map_cons, depDs, depD, rowD]
    omega
theorem sortOk_rows (xs : Ws) (h : xs.length ≤ 1000000) : sortOk (xs.map rowD) = true := by
  have h2 := dep_rows xs
  unfold sortOk
  simp only [Bool.and_eq_true, decide_eq_true_eq, List.length_map, Bool.or_eq_true]
  refine ⟨⟨⟨⟨h, plain_rows xs⟩, by omega⟩, ?_⟩, .inl ?_⟩
  · exact List.all_eq_true.mpr fun a ha => List.all_eq_true.mpr fun b hb => alike_rows xs xs a ha b hb
  · refine List.all_eq_true.mpr fun a ha => ?_
    obtain ⟨p, _, rfl⟩ := List.mem_map.mp ha
    rfl
/-- rows in rising order -/
def leW (p q : T × Int) : Bool := leD (rowD p) (rowD q)
def Ws.srt (ws : Ws) : Ws := ws.mergeSort leW
theorem srtD_rows (xs : Ws) (h : xs.length ≤ 1000000) : srtD (xs.map rowD) = some (.lst (xs.srt.map rowD)) := by
  unfold srtD Ws.srt
  rw [if_pos (sortOk_rows xs h), List.map_mergeSort (r := leW) (s := leD) (f := rowD) fun a _ b _ => rfl]
theorem leW_lt {p q : T × Int} (h : p.1 < q.1) : leW p q = true := by
  have h2 : ¬ q.1 = p.1 := fun e => by rw [e] at h; exact T.lt_irrefl _ h
  have h3 : ¬ q.1 < p.1 := fun e => T.lt_irrefl _ (T.lt_trans h e)
  simp [leW, leD, rowD, ltD, ltDs, eqD, h2, h3]
theorem srt_rising {ws : Ws} (h : (ws.map (·.1)).Pairwise (· < ·)) : ws.srt = ws := by
  unfold Ws.srt
  refine List.mergeSort_of_pairwise ?_
  rw [List.pairwise_map] at h
  exact h.imp fun q => leW_lt q
theorem whole_of_ev [K70 tab] (rows : FRs) (h : rows.ok) (h0 : rows ≠ []) (k : Nat) (c : Cells) (hk : 1 < k) : callF tab k 70 [.lst (rows.map fqD)] c = .ok (.lst ((Ws.srt (rows.map fun p => (p.1, (whW rows p.2 : Int)))).map rowD)) c := by
  obtain ⟨k, rfl⟩ : ∃ j, k = j + 1 := ⟨k - 1, by omega⟩
  have hl := h.len
  have b0 : 2 ^ 200 < 2 ^ 8000 := Nat.pow_lt_pow_right (by decide) (by decide)
  have b1 : 2 ^ 6600 < 2 ^ 8000 := Nat.pow_lt_pow_right (by decide) (by decide)
  have b2 : 2 ^ 6400 < bigI := Nat.pow_lt_pow_right (by decide) (by decide)
  have b3 : 2 ^ 200 < bigI := Nat.pow_lt_pow_right (by decide) (by decide)
  have e1 := fun c => common_ev (tab := tab) (rows.map fun p => p.2.den) (fun n hn => by
    obtain ⟨p, hp, rfl⟩ := List.mem_map.mp hn
    exact ⟨p.2.den_pos, h.den p hp⟩) (by rw [List.length_map]; omega) k c (by omega)
  have e2 := fun c => divisor_ev (tab := tab) (rows.map fun p => whN rows p.2) (fun n hn => by
    obtain ⟨p, hp, rfl⟩ := List.mem_map.mp hn
    have := whN_le h hp
    omega) k c (by omega)
  rw [List.map_map] at e1 e2
  have l1 : ∀ c, lcW (callF tab k) (.tp [.nm 4, .nm 5]) (.bl true) (.ix (.var 5) (.int 1)) [.val (.lst (rows.map fqD)), .emp, .emp, .emp, .emp, .emp, .emp] (rows.map fqD) c = .ok (rows.map (iD ∘ fun p => p.2.den)) c := fun c => by
    unfold lcW
    rw [lcL_map (f := iD ∘ fun p => p.2.den) rows [] c (fun p hp => ⟨[.val (.lst (rows.map fqD)), .emp, .emp, .emp, .val (.str p.1), .val (frD p.2), .emp], rfl, fun c => by simp, fun c => by simp [getV, fr_1, iD]⟩)]
    · simp
    · simp; omega
  have l2 : ∀ v2 v3 c, lcW (callF tab k) (.tp [.nm 4, .nm 5]) (.bl true) (.tup [.var 4, .bin .mul (.ix (.var 5) (.int 0)) (.bin .fdiv (.var 1) (.ix (.var 5) (.int 1)))]) [.val (.lst (rows.map fqD)), .val (.int (dwn rows)), v2, v3, .emp, .emp, .emp] (rows.map fqD) c = .ok (rows.map fun p => .tup [.str p.1, .int (whN rows p.2)]) c := fun v2 v3 c => by
    unfold lcW
    rw [lcL_map (f := fun p => .tup [.str p.1, .int (whN rows p.2)]) rows [] c (fun p hp => ⟨[.val (.lst (rows.map fqD)), .val (.int (dwn rows)), v2, v3, .val (.str p.1), .val (frD p.2), .emp], rfl, fun c => by simp, fun c => ?_⟩)]
    · simp
    · simp; omega
    · have hn := num_pos (h.pos p hp)
      have hm := h.num p hp
      have f1 : binD .fdiv (.int (dwn rows)) (.int p.2.den) = some (.int ((dwn rows / p.2.den : Nat) : Int)) := by
        have := p.2.den_pos
        have := h.den p hp
        rw [fdiv_int _ _ (by omega) (by rw [Int.natAbs_natCast]; omega)]
        rfl
      have m1 := mul_big p.2.num.toNat (dwn rows / p.2.den) (by omega) (by have := Nat.div_le_self (dwn rows) p.2.den; have := dwn_le h; omega)
      have t1 : ((p.2.num.toNat : Nat) : Int) = p.2.num := by omega
      rw [t1] at m1
      rw [Int.natCast_ediv] at f1 m1
      simp [getV, fr_0, fr_1, f1, m1, whN, Int.natCast_ediv]
  have l3 : ∀ v1 v3 c, lcW (callF tab k) (.tp [.nm 4, .nm 6]) (.bl true) (.var 6) [.val (.lst (rows.map fqD)), v1, .val (.lst (rows.map fun p => .tup [.str p.1, .int (whN rows p.2)])), v3, .emp, .emp, .emp] (rows.map fun p => .tup [.str p.1, .int (whN rows p.2)]) c = .ok (rows.map (iD ∘ fun p => whN rows p.2)) c := fun v1 v3 c => by
    unfold lcW
    rw [lcL_map (f := iD ∘ fun p => whN rows p.2) rows [] c (fun p hp => ⟨[.val (.lst (rows.map fqD)), v1, .val (.lst (rows.map fun p => .tup [.str p.1, .int (whN rows p.2)])), v3, .val (.str p.1), .emp, .val (.int (whN rows p.2))], rfl, fun c => by simp, fun c => by simp [getV, iD]⟩)]
    · simp
    · simp; omega
  have l4 : ∀ v1 c, lcW (callF tab k) (.tp [.nm 4, .nm 6]) (.bl true) (.tup [.var 4, .bin .fdiv (.var 6) (.var 3)]) [.val (.lst (rows.map fqD)), v1, .val (.lst (rows.map fun p => .tup [.str p.1, .int (whN rows p.2)])), .val (.int (whM rows)), .emp, .emp, .emp] (rows.map fun p => .tup [.str p.1, .int (whN rows p.2)]) c = .ok ((rows.map fun p => (p.1, (whW rows p.2 : Int))).map rowD) c := fun v1 c => by
    unfold lcW
    rw [lcL_map (f := fun p => rowD (p.1, (whW rows p.2 : Int))) rows [] c (fun p hp => ⟨[.val (.lst (rows.map fqD)), v1, .val (.lst (rows.map fun p => .tup [.str p.1, .int (whN rows p.2)])), .val (.int (whM rows)), .val (.str p.1), .emp, .val (.int (whN rows p.2))], rfl, fun c => by simp, fun c => ?_⟩)]
    · simp
    · simp; omega
    · have mp := whM_pos h h0
      have ml := Nat.le_of_dvd (whN_pos h hp) (whM_dvd hp)
      have ml2 := whN_le h hp
      have f1 : binD .fdiv (.int (whN rows p.2)) (.int (whM rows)) = some (.int ((whN rows p.2 / whM rows : Nat) : Int)) := by
        rw [fdiv_int _ _ (by omega) (by rw [Int.natAbs_natCast]; omega)]
        rfl
      rw [Int.natCast_ediv] at f1
      simp [getV, f1, rowD, whW, Int.natCast_ediv]
  have s1 := srtD_rows (rows.map fun p => (p.1, (whW rows p.2 : Int))) (by rw [List.length_map]; omega)
  have d1 : lcmL (rows.map fun p => p.2.den) = dwn rows := rfl
  have d2 : gcdL (rows.map fun p => whN rows p.2) = whM rows := rfl
  rw [d1] at e1
  rw [d2] at e2
  rw [List.map_map (f := fun p : T × Rat => (p.1, (whW rows p.2 : Int)))] at s1
  rw [callF_at (K70.h70 (tab := tab)) rfl]
  simp [f70_whole_of, b70_whole_of, getV, wipeE, l1, e1, l2, l3, e2, l4, s1]
end Hg
end
section
set_option Elab.async false
set_option linter.all false
set_option autoImplicit false
set_option maxRecDepth 100000
/-! P10: least; when a mobile hangs still. -/
namespace Hg
variable {tab : Nat → Option FD}
theorem num_le (a : Int) (b : Nat) (ha : 0 ≤ a) (hb : 0 < b) : (mkRat a b).num ≤ a := by
  rw [Rat.num_mkRat, if_neg (by omega)]
  exact Int.ediv_le_self _ ha
theorem rw_bound : ∀ (m : Mob) (u : T) (s : Rat), m.ok = true → 0 < s → ∀ p ∈ m.rw u s, 0 < p.2.2 ∧ p.2.2.num ≤ s.num * ((9 ^ m.dep : Nat) : Int) ∧ p.2.2.den ≤ s.den * 18 ^ m.dep
  | .w n, u, s, _, hs, p, hp => by
    simp only [Mob.rw, List.mem_singleton] at hp
    subst hp
    exact ⟨hs, by simp [Mob.dep], by simp [Mob.dep]⟩
  | .rod l r a b, u, s, ho, hs, p, hp => by
    have ha := arms_of ho
    have np := num_pos hs
    have dp := s.den_pos
    have dpos : 0 < s.den * (l + r).toNat := Nat.mul_pos dp (by omega)
    have dd : s.den * (l + r).toNat ≤ s.den * 18 := Nat.mul_le_mul_left _ (by omega)
    have key : ∀ (x : Int), 1 ≤ x → x ≤ 9 → ∀ (d : Nat), d ≤ max a.dep b.dep → ∀ q : Row, (q.2.2.num ≤ (s * x / (l + r)).num * ((9 ^ d : Nat) : Int) ∧ q.2.2.den ≤ (s * x / (l + r)).den * 18 ^ d) → q.2.2.num ≤ s.num * ((9 ^ (max a.dep b.dep + 1) : Nat) : Int) ∧ q.2.2.den ≤ s.den * 18 ^ (max a.dep b.dep + 1) := fun x hx hx9 d hd q ⟨q1, q2⟩ => by
      rw [← sh_mk s x l r (by omega) (by omega)] at q1 q2
      have g1 : (mkRat (s.num * x) (s.den * (l + r).toNat)).num ≤ s.num * 9 := Int.le_trans (num_le _ _ (Int.mul_nonneg (by omega) (by omega)) dpos) (Int.mul_le_mul_of_nonneg_left hx9 (by omega))
      have g2 := Nat.le_trans (den_le (s.num * x) _ dpos) dd
      have p9 : (9 : Nat) ^ d ≤ 9 ^ max a.dep b.dep := Nat.pow_le_pow_right (by decide) hd
      have p18 : (18 : Nat) ^ d ≤ 18 ^ max a.dep b.dep := Nat.pow_le_pow_right (by decide) hd
      refine ⟨?_, ?_⟩
      · refine Int.le_trans q1 ?_
        have e : s.num * ((9 ^ (max a.dep b.dep + 1) : Nat) : Int) = s.num * 9 * ((9 ^ max a.dep b.dep : Nat) : Int) := by
          rw [Nat.pow_succ, Int.natCast_mul, Int.mul_assoc]
          congr 1
          rw [Int.mul_comm]
          rfl
        rw [e]
        exact Int.le_trans (Int.mul_le_mul_of_nonneg_right g1 (Int.natCast_nonneg _)) (Int.mul_le_mul_of_nonneg_left (Int.ofNat_le.mpr p9) (by omega))
      · refine Nat.le_trans q2 ?_
        rw [Nat.pow_succ, Nat.mul_comm (18 ^ max a.dep b.dep), ← Nat.mul_assoc]
        exact Nat.mul_le_mul g2 p18
    simp only [Mob.rw, List.mem_append] at hp
    rcases hp with hp | hp
    · have sL := sh_pos hs (x := r) (l := l) (r := r) (by omega) (by omega) (by omega)
      obtain ⟨h1, h2⟩ := rw_bound a _ _ ha.2.2.1 sL p hp
      exact ⟨h1, key r (by omega) (by omega) a.dep (Nat.le_max_left _ _) p h2⟩
    · have sR := sh_pos hs (x := l) (l := l) (r := r) (by omega) (by omega) (by omega)
      obtain ⟨h1, h2⟩ := rw_bound b _ _ ha.2.2.2 sR p hp
      exact ⟨h1, key l (by omega) (by omega) b.dep (Nat.le_max_right _ _) p h2⟩
def Mob.fr (m : Mob) : FRs := m.names.map fun n => (n, m.sh n)
theorem names_ne (m : Mob) : m.names ≠ [] := fun e => by
  obtain ⟨x, hx⟩ := List.exists_mem_of_ne_nil _ (nms_ne m)
  have := names_mem.mpr hx
  rw [e] at this
  cases this
theorem sh_row {m : Mob} (hb : m.bar = none) {n : T} (hn : n ∈ m.nms) : ∃ p ∈ m.rows1, p.2.1 = n ∧ m.sh n = p.2.2 := by
  obtain ⟨p, hp, e⟩ := row_of hn
  exact ⟨p, hp, e, by rw [← e]; exact sh_of hb hp⟩
theorem fr_ok {m : Mob} (ho : m.ok = true) (hd : m.dep ≤ 5) (hb : m.bar = none) : m.fr.ok := by
  have p1 : (9 : Nat) ^ m.dep ≤ 9 ^ 5 := Nat.pow_le_pow_right (by decide) hd
  have p2 : (18 : Nat) ^ m.dep ≤ 18 ^ 5 := Nat.pow_le_pow_right (by decide) hd
  have p3 : (18 : Nat) ^ 5 ≤ 2 ^ 30 := by decide
  have p4 : (9 : Nat) ^ 5 ≤ 2 ^ 30 := by decide
  have p5 : (2 : Nat) ^ 30 ≤ 2 ^ 200 := Nat.pow_le_pow_right (by decide) (by decide)
  have o1 : (1 : Rat).num = 1 := rfl
  have o2 : (1 : Rat).den = 1 := rfl
  have key : ∀ p ∈ m.fr, 0 < p.2 ∧ p.2.num ≤ ((2 ^ 200 : Nat) : Int) ∧ p.2.den ≤ 2 ^ 200 := fun p hp => by
    obtain ⟨n, hn, rfl⟩ := List.mem_map.mp hp
    obtain ⟨q, hq, _, e⟩ := sh_row hb (names_mem.mp hn)
    obtain ⟨h1, h2, h3⟩ := rw_bound m (tx "") 1 ho (by decide) q hq
    rw [o1, Int.one_mul] at h2
    rw [o2, Nat.one_mul] at h3
    dsimp only
    rw [e]
    exact ⟨h1, by omega, by omega⟩
  exact ⟨by rw [Mob.fr, List.length_map]; exact names_len hd, fun p hp => (key p hp).1, fun p hp => (key p hp).2.1, fun p hp => (key p hp).2.2⟩
theorem fr_ne0 (m : Mob) : m.fr ≠ [] := by simp [Mob.fr, names_ne]
/-- the least whole weights -/
def Mob.lst (m : Mob) : Ws := m.fr.map fun p => (p.1, (whW m.fr p.2 : Int))
theorem lst_names (m : Mob) : m.lst.map (·.1) = m.names := by simp [Mob.lst, Mob.fr, Function.comp_def]
theorem lst_rising (m : Mob) : (m.lst.map (·.1)).Pairwise (· < ·) := by rw [lst_names]; exact names_lt m
theorem whole_fr [K70 tab] (m : Mob) (ho : m.ok = true) (hd : m.dep ≤ 5) (hb : m.bar = none) (k : Nat) (c : Cells) (hk : 1 < k) : callF tab k 70 [.lst (m.fr.map fqD)] c = .ok (.lst (m.lst.map rowD)) c := by
  rw [whole_of_ev m.fr (fr_ok ho hd hb) (fr_ne0 m) k c hk]
  have := srt_rising (lst_rising m)
  unfold Mob.lst at this
  rw [this]
  rfl
theorem least_ev [K71 tab] (m : Mob) (ho : m.ok = true) (hd : m.dep ≤ 5) (k : Nat) (c : Cells) (hk : 12 < k) : callF tab k 71 [m.d] c = (if m.bar = none then .ok m.lst.d c else .exc 5 c) := by
  obtain ⟨k, rfl⟩ : ∃ j, k = j + 1 := ⟨k - 1, by omega⟩
  have e1 := fun c => need_mobile_ev (tab := tab) m k c ho hd (by omega)
  have e2 := fun c => bar_of_ev (tab := tab) m ho (by omega) k c (by omega)
  rw [callF_at (K71.h71 (tab := tab)) rfl]
  cases hb : m.bar with
  | some x =>
    rw [hb] at e2
    simp [f71_least, b71_least, getV, e1, e2, barD]
  | none =>
    rw [hb] at e2
    have e3 := fun c => book_of_ev (tab := tab) m ho (by omega) k c (by omega)
    have e4 := fun c => names_of_ev (tab := tab) m k c (by omega) hd
    have e5 := fun c => whole_fr (tab := tab) m ho hd hb k c (by omega)
    have e6 : ∀ c, lcW (callF tab k) (.nm 2) (.bl true) (.tup [.var 2, .ix (.var 1) (.var 2)]) [.val m.d, .val (.dct m.bkD), .emp] (m.names.map .str) c = .ok (m.fr.map fqD) c := fun c => by
      unfold lcW
      rw [lcL_map (f := fun n => fqD (n, m.sh n)) m.names [] c (fun n hn => ⟨[.val m.d, .val (.dct m.bkD), .val (.str n)], rfl, fun c => by simp, fun c => by simp [getV, bk_lk hb (names_mem.mp hn), fqD]⟩)]
      · simp [Mob.fr, Function.comp_def]
      · have := names_len hd; simp; omega
    simp [f71_least, b71_least, getV, e1, e2, barD, e3, e4, wipeE, e6, e5, Ws.d]
theorem bk_rows (ws : Ws) : (ws.map fun p => (p.1, D.int p.2)) = ws.bk := rfl
theorem leasts_ev [K74 tab] (m : Mob) (ho : m.ok = true) (hd : m.dep ≤ 5) (k : Nat) (c : Cells) (hk : 12 < k) : callF tab k 74 [m.d] c = .ok (if m.bar = none then .dct m.lst.bk else .non) c := by
  obtain ⟨k, rfl⟩ : ∃ j, k = j + 1 := ⟨k - 1, by omega⟩
  have e2 := fun c => bar_of_ev (tab := tab) m ho (by omega) k c (by omega)
  rw [callF_at (K74.h74 (tab := tab)) rfl]
  cases hb : m.bar with
  | some x =>
    rw [hb] at e2
    simp [f74_leasts, b74_leasts, getV, e2, barD]
  | none =>
    rw [hb] at e2
    have e3 := fun c => book_of_ev (tab := tab) m ho (by omega) k c (by omega)
    have e4 := fun c => names_of_ev (tab := tab) m k c (by omega) hd
    have e5 := fun c => whole_fr (tab := tab) m ho hd hb k c (by omega)
    have e6 : ∀ c, lcW (callF tab k) (.nm 2) (.bl true) (.tup [.var 2, .ix (.var 1) (.var 2)]) [.val m.d, .val (.dct m.bkD), .emp] (m.names.map .str) c = .ok (m.fr.map fqD) c := fun c => by
      unfold lcW
      rw [lcL_map (f := fun n => fqD (n, m.sh n)) m.names [] c (fun n hn => ⟨[.val m.d, .val (.dct m.bkD), .val (.str n)], rfl, fun c => by simp, fun c => by simp [getV, bk_lk hb (names_mem.mp hn), fqD]⟩)]
      · simp [Mob.fr, Function.comp_def]
      · have := names_len hd; simp; omega
    have dn : dictD (m.lst.map fun p => (p.1, .int p.2)) = m.lst.bk := by
      refine dictD_nodup ?_
      have : (m.lst.map fun p => (p.1, D.int p.2)).map (·.1) = m.lst.map (·.1) := by simp
      rw [this]
      exact rising_nodup (lst_rising m)
    simp [f74_leasts, b74_leasts, getV, e2, barD, e3, e4, wipeE, e6, e5, pairsD_rows, dn]
/-! ### what the least weights are -/
theorem lst_mem {m : Mob} {n : T} (hn : n ∈ m.nms) : (n, (whW m.fr (m.sh n) : Int)) ∈ m.lst :=
  List.mem_map.mpr ⟨(n, m.sh n), List.mem_map.mpr ⟨n, names_mem.mpr hn, rfl⟩, rfl⟩
theorem of_rising : ∀ {ws : Ws} {n : T} {v : Int}, (ws.map (·.1)).Pairwise (· < ·) → (n, v) ∈ ws → ws.of n = v
  | p :: ws, n, v, h, hm => by
    simp only [List.map_cons, List.pairwise_cons] at h
    rcases List.mem_cons.mp hm with rfl | hm
    · simp [Ws.of]
    · have h1 := h.1 n (List.mem_map.mpr ⟨_, hm, rfl⟩)
      have h2 : ¬ p.1 = n := fun e => by rw [e] at h1; exact T.lt_irrefl _ h1
      have ih := of_rising h.2 hm
      simp [Ws.of, h2] at ih ⊢
      exact ih
theorem lst_of {m : Mob} {n : T} (hn : n ∈ m.nms) : m.lst.of n = (whW m.fr (m.sh n) : Int) := of_rising (lst_rising m) (lst_mem hn)
theorem fr_mem {m : Mob} {n : T} (hn : n ∈ m.nms) : (n, m.sh n) ∈ m.fr := List.mem_map.mpr ⟨n, names_mem.mpr hn, rfl⟩
theorem lst_pos {m : Mob} (ho : m.ok = true) (hd : m.dep ≤ 5) (hb : m.bar = none) {n : T} (hn : n ∈ m.nms) : 1 ≤ m.lst.of n := by
  rw [lst_of hn]
  have : 0 < whW m.fr (m.sh n) := whW_pos (fr_ok ho hd hb) (fr_mem hn)
  omega
/-- how many times the shares -/
def Mob.lc (m : Mob) : Rat := (dwn m.fr : Rat) / (whM m.fr : Rat)
theorem lc_pos {m : Mob} (ho : m.ok = true) (hd : m.dep ≤ 5) (hb : m.bar = none) : 0 < m.lc := by
  unfold Mob.lc
  rw [Rat.div_def]
  exact Rat.mul_pos (natR_pos dwn_pos) (Rat.inv_pos.mpr (natR_pos (whM_pos (fr_ok ho hd hb) (fr_ne0 m))))
theorem lst_spec {m : Mob} (ho : m.ok = true) (hd : m.dep ≤ 5) (hb : m.bar = none) {n : T} (hn : n ∈ m.nms) : ((m.lst.of n : Int) : Rat) = m.sh n * m.lc := by
  rw [lst_of hn, Rat.intCast_natCast]
  exact whW_spec (fr_ok ho hd hb) (fr_mem hn)
theorem lst_one {m : Mob} (ho : m.ok = true) (hd : m.dep ≤ 5) (hb : m.bar = none) {g : Nat} (h : ∀ n ∈ m.nms, (g : Int) ∣ m.lst.of n) : g = 1 := by
  have h1 := whW_gcd (fr_ok ho hd hb) (fr_ne0 m)
  have : g ∣ gcdL (m.fr.map fun p => whW m.fr p.2) := gcdL_great fun x hx => by
    obtain ⟨p, hp, rfl⟩ := List.mem_map.mp hx
    obtain ⟨n, hn, rfl⟩ := List.mem_map.mp hp
    have := h n (names_mem.mp hn)
    rw [lst_of (names_mem.mp hn)] at this
    exact Int.natCast_dvd_natCast.mp this
  rw [h1] at this
  exact Nat.dvd_one.mp this
/-! ### when it hangs still -/
def sumR (f : Row → Rat) : List Row → Rat
  | [] => 0
  | p :: r => f p + sumR f r
theorem sumR_app (f : Row → Rat) : ∀ (xs ys : List Row), sumR f (xs ++ ys) = sumR f xs + sumR f ys
  | [], ys => by simp only [List.nil_append, sumR]; grind
  | x :: xs, ys => by
    have := sumR_app f xs ys
    simp only [List.cons_append, sumR, this]
    grind
theorem sumR_mul {f g : Row → Rat} {a b : Rat} : ∀ (xs : List Row), (∀ p ∈ xs, f p * a = g p * b) → sumR f xs * a = sumR g xs * b
  | [], _ => by simp only [sumR]; grind
  | x :: xs, h => by
    have h1 := h x List.mem_cons_self
    have h2 := sumR_mul xs fun p hp => h p (List.mem_cons_of_mem _ hp)
    simp only [sumR]
    grind
theorem sum_load (f : T → Int) : ∀ (m : Mob) (u : T) (s : Rat), sumR (fun p => (f p.2.1 : Rat)) (m.rw u s) = (m.load f : Rat)
  | .w n, u, s => by simp only [Mob.rw, sumR, Mob.load]; grind
  | .rod l r a b, u, s => by
    simp only [Mob.rw, Mob.load]
    rw [sumR_app, sum_load f a, sum_load f b, Rat.intCast_add]
theorem armR {l r : Int} (hl : 1 ≤ l) (hr : 1 ≤ r) : (0 : Rat) < l ∧ (0 : Rat) < r ∧ (l : Rat) + r ≠ 0 := by
  refine ⟨Rat.intCast_pos.mpr (by omega), Rat.intCast_pos.mpr (by omega), ?_⟩
  rw [← Rat.intCast_add]
  exact fun e => absurd (Rat.intCast_inj.mp (show ((l + r : Int) : Rat) = ((0 : Int) : Rat) from e)) (by omega)
theorem sum_share : ∀ (m : Mob) (u : T) (s : Rat), m.ok = true → sumR (fun p => p.2.2) (m.rw u s) = s
  | .w n, u, s, _ => by simp only [Mob.rw, sumR]; grind
  | .rod l r a b, u, s, ho => by
    have ha := arms_of ho
    obtain ⟨h1, h2, h3⟩ := armR (l := l) (r := r) ha.1.1 ha.2.1.1
    simp only [Mob.rw]
    rw [sumR_app, sum_share a _ _ ha.2.2.1, sum_share b _ _ ha.2.2.2]
    unfold shL shR
    grind
/-- all rods are still, just if each leaf has its share of the load -/
theorem still_rw (f : T → Int) : ∀ (m : Mob) (u v : T) (s : Rat), m.ok = true → s ≠ 0 → ((∀ q ∈ m.rods v, q.2.lf f = q.2.rt f) ↔ ∀ p ∈ m.rw u s, (f p.2.1 : Rat) * s = p.2.2 * (m.load f : Rat))
  | .w n, u, v, s, _, _ => by
    simp only [Mob.rods, Mob.rw, Mob.load, List.mem_singleton, List.not_mem_nil, false_implies, implies_true, true_iff]
    rintro p rfl
    exact Rat.mul_comm _ _
  | .rod l r a b, u, v, s, ho, hs => by
    have ha := arms_of ho
    obtain ⟨h1, h2, h3⟩ := armR (l := l) (r := r) ha.1.1 ha.2.1.1
    have nl : shL s l r ≠ 0 := by unfold shL; grind
    have nr : shR s l r ≠ 0 := by unfold shR; grind
    have iha := still_rw f a (u ++ tx "l") (v ++ tx "l") (shL s l r) ha.2.2.1 nl
    have ihb := still_rw f b (u ++ tx "r") (v ++ tx "r") (shR s l r) ha.2.2.2 nr
    have hL : ((Mob.rod l r a b).load f : Rat) = (a.load f : Rat) + (b.load f : Rat) := by
      show (((a.load f + b.load f : Int)) : Rat) = _
      exact Rat.intCast_add _ _
    have hroot : ((Mob.rod l r a b).lf f = (Mob.rod l r a b).rt f) ↔ (l : Rat) * (a.load f : Rat) = (r : Rat) * (b.load f : Rat) := by
      show l * a.load f = r * b.load f ↔ _
      rw [← Rat.intCast_mul, ← Rat.intCast_mul, Rat.intCast_inj]
    simp only [Mob.rods, Mob.rw, List.mem_cons, List.mem_append]
    rw [hL]
    constructor
    · intro h p hp
      have hr := hroot.mp (h _ (.inl rfl))
      rcases hp with hp | hp
      · have := iha.mp (fun q hq => h q (.inr (.inl hq))) p hp
        unfold shL at this
        grind
      · have := ihb.mp (fun q hq => h q (.inr (.inr hq))) p hp
        unfold shR at this
        grind
    · intro h
      have sa := sumR_mul (f := fun p : Row => (f p.2.1 : Rat)) (g := fun p => p.2.2) (a.rw (u ++ tx "l") (shL s l r)) fun p hp => h p (.inl hp)
      have sb := sumR_mul (f := fun p : Row => (f p.2.1 : Rat)) (g := fun p => p.2.2) (b.rw (u ++ tx "r") (shR s l r)) fun p hp => h p (.inr hp)
      rw [sum_load, sum_share _ _ _ ha.2.2.1] at sa
      rw [sum_load, sum_share _ _ _ ha.2.2.2] at sb
      rintro q (rfl | hq | hq)
      · refine hroot.mpr ?_
        unfold shL at sa
        unfold shR at sb
        grind
      · refine iha.mpr (fun p hp => ?_) q hq
        have := h p (.inl hp)
        unfold shL at sa ⊢
        grind
      · refine ihb.mpr (fun p hp => ?_) q hq
        have := h p (.inr hp)
        unfold shR at sb ⊢
        grind
theorem still_iff {f : T → Int} {m : Mob} (ho : m.ok = true) : still f m = true ↔ ∀ p ∈ m.rows1, (f p.2.1 : Rat) = p.2.2 * (m.load f : Rat) := by
  have h := still_rw f m (tx "") (tx "") 1 ho (by decide)
  unfold still
  simp only [List.all_eq_true, decide_eq_true_eq]
  rw [h]
  simp only [Rat.mul_one]
  rfl
/-- weights that are so many times the shares -/
theorem still_of {f : T → Int} {m : Mob} (ho : m.ok = true) {c : Rat} (h : ∀ p ∈ m.rows1, (f p.2.1 : Rat) = p.2.2 * c) : still f m = true := by
  refine (still_iff ho).mpr fun p hp => ?_
  have s1 := sumR_mul (f := fun p : Row => (f p.2.1 : Rat)) (g := fun p => p.2.2) (a := 1) (b := c) m.rows1 fun p hp => by rw [h p hp]; grind
  unfold Mob.rows1 at s1
  rw [sum_load, sum_share _ _ _ ho, Rat.mul_one, Rat.one_mul] at s1
  rw [h p hp, s1]
theorem still_lst {m : Mob} (ho : m.ok = true) (hd : m.dep ≤ 5) (hb : m.bar = none) : still m.lst.of m = true := by
  refine still_of ho (c := m.lc) fun p hp => ?_
  have hn : p.2.1 ∈ m.nms := by
    rw [← rw_nms m (tx "") 1]
    exact List.mem_map.mpr ⟨p, hp, rfl⟩
  rw [lst_spec ho hd hb hn, sh_of hb hp]
/-- what hangs still by some weights is not barred -/
theorem bar_of_still {f : T → Int} {m : Mob} (ho : m.ok = true) (hp : 1 ≤ m.load f) (h : still f m = true) : m.bar = none := by
  have h1 := (still_iff ho).mp h
  have h2 : (0 : Rat) < (m.load f : Rat) := Rat.intCast_pos.mpr (by omega)
  refine bar_none.mpr fun p hp q hq e => ?_
  have e1 := h1 p hp
  have e2 := h1 q hq
  rw [e, e2] at e1
  have h3 : (m.load f : Rat) ≠ 0 := fun z => by rw [z] at h2; exact absurd h2 Rat.lt_irrefl
  clear h1 h2 e2 h
  generalize (m.load f : Rat) = x at *
  generalize p.2.2 = y at *
  generalize q.2.2 = z at *
  grind
end Hg
end
section
set_option Elab.async false
set_option linter.all false
set_option autoImplicit false
set_option maxRecDepth 100000
/-! P11: arms and stillness. -/
namespace Hg
variable {tab : Nat → Option FD}
@[simp] theorem isnD_mob (m : Mob) : isnD m.d = false := by cases m <;> rfl
@[simp] theorem isnD_barD (o : Option (T × T)) : isnD (barD o) = o.isNone := by cases o <;> rfl
theorem mob_ne_self (m : Mob) (h : m.dep ≤ 60) : cmpD .ne m.d m.d = some false := cmp_ne_self (mob_plain m) (by have := mob_depD m; omega)
theorem mob_eq_self (m : Mob) (h : m.dep ≤ 60) : cmpD .eq m.d m.d = some true := cmp_eq_self (mob_plain m) (by have := mob_depD m; omega)
theorem red_swap (a b : Nat) : red1 a b = red2 b a := by unfold red1 red2; rw [Nat.gcd_comm]
/-- of like fractions the least numbers are the same -/
theorem red_like {a b x y : Nat} (hb : 0 < b) (hy : 0 < y) (h : a * y = x * b) : red1 a b = red1 x y ∧ red2 a b = red2 x y := by
  have e : mkRat (a : Int) b = mkRat (x : Int) y := by
    rw [Rat.mkRat_eq_div, Rat.mkRat_eq_div, Rat.intCast_natCast, Rat.intCast_natCast]
    have h2 : (a : Rat) * y = (x : Rat) * b := by rw [← Rat.natCast_mul, ← Rat.natCast_mul, h]
    have n1 := natR_ne hb
    have n2 := natR_ne hy
    generalize (a : Rat) = a' at *
    generalize (b : Rat) = b' at *
    generalize (x : Rat) = x' at *
    generalize (y : Rat) = y' at *
    grind
  obtain ⟨h1, h2⟩ := red_mk a b hb
  obtain ⟨h3, h4⟩ := red_mk x y hy
  rw [e] at h1 h2
  exact ⟨by omega, by omega⟩
theorem red_coprime {a b : Nat} (ha : 0 < a) : Nat.gcd (red1 a b) (red2 a b) = 1 := Nat.gcd_div_gcd_div_gcd_of_pos_left ha
theorem red_id {a b : Nat} (h : Nat.gcd a b = 1) : red1 a b = a ∧ red2 a b = b := by
  unfold red1 red2
  rw [h, Nat.div_one, Nat.div_one]
  exact ⟨rfl, rfl⟩
theorem rods_all {m : Mob} {f : T → Int} {u : T} (h : ∀ q ∈ m.rods u, q.2.lf f = q.2.rt f) : True := trivial
/-- by weights by which it hangs still a mobile has its own arms, made plain -/
theorem arm_still (f : T → Int) : ∀ (m : Mob) (v : T), m.ok = true → (∀ x ∈ m.nms, 1 ≤ f x) → (∀ q ∈ m.rods v, q.2.lf f = q.2.rt f) → armM f m = some m.pln ∧ 0 < armN f m
  | .w n, _, _, _, _ => ⟨rfl, by simp [armN]⟩
  | .rod l r a b, v, ho, hf, h => by
    have ha := arms_of ho
    have fa : ∀ x ∈ a.nms, 1 ≤ f x := fun x hx => hf x (by simp [Mob.nms, hx])
    have fb : ∀ x ∈ b.nms, 1 ≤ f x := fun x hx => hf x (by simp [Mob.nms, hx])
    obtain ⟨a1, a2⟩ := arm_still f a _ ha.2.2.1 fa fun q hq => h q (by simp only [Mob.rods, List.mem_cons, List.mem_append]; exact .inr (.inl hq))
    obtain ⟨b1, b2⟩ := arm_still f b _ ha.2.2.2 fb fun q hq => h q (by simp only [Mob.rods, List.mem_cons, List.mem_append]; exact .inr (.inr hq))
    have hr : l * a.load f = r * b.load f := h (v, .rod l r a b) (by simp [Mob.rods])
    have la := load_ge a fa
    have lb := load_ge b fb
    have e1 : (b.load f).toNat * r.toNat = l.toNat * (a.load f).toNat := by
      have : (((b.load f).toNat * r.toNat : Nat) : Int) = ((l.toNat * (a.load f).toNat : Nat) : Int) := by
        rw [Int.natCast_mul, Int.natCast_mul]
        rw [show (((b.load f).toNat : Nat) : Int) = b.load f by omega, show ((r.toNat : Nat) : Int) = r by omega, show ((l.toNat : Nat) : Int) = l by omega, show (((a.load f).toNat : Nat) : Int) = a.load f by omega]
        rw [Int.mul_comm (b.load f), hr]
      exact Int.ofNat.inj this
    obtain ⟨g1, g2⟩ := red_like (a := (b.load f).toNat) (b := (a.load f).toNat) (x := l.toNat) (y := r.toNat) (by omega) (by omega) e1
    have eL : redL f a b = red1 l.toNat r.toNat := by unfold redL; rw [← red_swap]; exact g1
    have eR : redR f a b = red2 l.toNat r.toNat := by unfold redR; rw [red_swap]; exact g2
    have m1 := red1_le l.toNat r.toNat
    have m2 := red2_le l.toNat r.toNat
    have hm : max (redL f a b) (redR f a b) ≤ 9 := by rw [eL, eR]; omega
    have p1 : 0 < max (redL f a b) (redR f a b) := by
      have := red1_pos (a := l.toNat) (b := r.toNat) (by omega)
      rw [eL]; omega
    refine ⟨?_, ?_⟩
    · simp only [armM]
      rw [if_pos hm, a1, b1, eL, eR]
      rfl
    · simp only [armN]
      exact Nat.mul_pos (Nat.mul_pos (Nat.div_pos hm p1) a2) b2
where load_ge {f : T → Int} : ∀ (m : Mob), (∀ x ∈ m.nms, 1 ≤ f x) → 1 ≤ m.load f
  | .w n, h => h n (by simp [Mob.nms])
  | .rod l r a b, h => by
    have h1 := load_ge a fun x hx => h x (by simp [Mob.nms, hx])
    have h2 := load_ge b fun x hx => h x (by simp [Mob.nms, hx])
    simp only [Mob.load]
    omega
theorem load_one {f : T → Int} (m : Mob) (h : ∀ x ∈ m.nms, 1 ≤ f x) : 1 ≤ m.load f := arm_still.load_ge m h
/-- armed, it has all it had -/
theorem armM_nms (f : T → Int) : ∀ (m q : Mob), armM f m = some q → q.nms = m.nms
  | .w n, q, h => by simp only [armM, Option.some.injEq] at h; subst h; rfl
  | .rod l r a b, q, h => by
    simp only [armM] at h
    split at h
    · simp only [Option.bind_eq_bind, Option.bind_eq_some_iff, Option.some.injEq] at h
      obtain ⟨x, h1, y, h2, rfl⟩ := h
      simp only [Mob.nms, armM_nms f a x h1, armM_nms f b y h2]
    · cases h
theorem load_nms (f : T → Int) {m q : Mob} (h : q.nms = m.nms) : q.load f = m.load f := by rw [load_sum, load_sum, h]
theorem armM_dp (f : T → Int) : ∀ (m q : Mob), armM f m = some q → q.dep = m.dep
  | .w n, q, h => by simp only [armM, Option.some.injEq] at h; subst h; rfl
  | .rod l r a b, q, h => by
    simp only [armM] at h
    split at h
    · simp only [Option.bind_eq_bind, Option.bind_eq_some_iff, Option.some.injEq] at h
      obtain ⟨x, h1, y, h2, rfl⟩ := h
      simp only [Mob.dep, armM_dp f a x h1, armM_dp f b y h2]
    · cases h
theorem armM_good (f : T → Int) : ∀ (m q : Mob) (v : T), m.ok = true → (∀ x ∈ m.nms, 1 ≤ f x) → armM f m = some q → q.ok = true ∧ q.pln = q ∧ ∀ p ∈ q.rods v, p.2.lf f = p.2.rt f
  | .w n, q, v, ho, _, h => by
    simp only [armM, Option.some.injEq] at h
    subst h
    exact ⟨ho, rfl, by simp [Mob.rods]⟩
  | .rod l r a b, q, v, ho, hf, h => by
    have ha := arms_of ho
    have fa : ∀ x ∈ a.nms, 1 ≤ f x := fun x hx => hf x (by simp [Mob.nms, hx])
    have fb : ∀ x ∈ b.nms, 1 ≤ f x := fun x hx => hf x (by simp [Mob.nms, hx])
    have la := load_one a fa
    have lb := load_one b fb
    simp only [armM] at h
    split at h
    · rename_i hm
      simp only [Option.bind_eq_bind, Option.bind_eq_some_iff, Option.some.injEq] at h
      obtain ⟨x, h1, y, h2, rfl⟩ := h
      obtain ⟨x1, x2, x3⟩ := armM_good f a x (v ++ tx "l") ha.2.2.1 fa h1
      obtain ⟨y1, y2, y3⟩ := armM_good f b y (v ++ tx "r") ha.2.2.2 fb h2
      have pL : 0 < redL f a b := red2_pos (by omega)
      have pR : 0 < redR f a b := red1_pos (by omega)
      have co : Nat.gcd (redL f a b) (redR f a b) = 1 := by
        rw [Nat.gcd_comm]
        exact red_coprime (by omega)
      obtain ⟨i1, i2⟩ := red_id co
      refine ⟨?_, ?_, ?_⟩
      · have w1 : (1 : Int) ≤ redL f a b := by omega
        have w2 : (redL f a b : Int) ≤ 9 := by omega
        have w3 : (1 : Int) ≤ redR f a b := by omega
        have w4 : (redR f a b : Int) ≤ 9 := by omega
        simp [Mob.ok, w1, w2, w3, w4, x1, y1]
      · simp only [Mob.pln, Int.toNat_natCast, i1, i2, x2, y2]
      · intro p hp
        simp only [Mob.rods, List.mem_cons, List.mem_append] at hp
        rcases hp with rfl | hp | hp
        · show (redL f a b : Int) * x.load f = (redR f a b : Int) * y.load f
          rw [load_nms f (armM_nms f a x h1), load_nms f (armM_nms f b y h2)]
          have := red_cross (a.load f).toNat (b.load f).toNat
          have e : (((redR f a b) * (b.load f).toNat : Nat) : Int) = (((redL f a b) * (a.load f).toNat : Nat) : Int) := congrArg Int.ofNat this
          rw [Int.natCast_mul, Int.natCast_mul, show (((b.load f).toNat : Nat) : Int) = b.load f by omega, show (((a.load f).toNat : Nat) : Int) = a.load f by omega] at e
          exact e.symm
        · exact x3 p hp
        · exact y3 p hp
    · cases h
theorem armN_none (f : T → Int) : ∀ (m : Mob), armM f m = none → armN f m = 0
  | .w n, h => by simp [armM] at h
  | .rod l r a b, h => by
    simp only [armM] at h
    simp only [armN]
    split at h
    · cases ea : armM f a with
      | none => rw [armN_none f a ea]; simp
      | some x =>
        cases eb : armM f b with
        | none => rw [armN_none f b eb]; simp
        | some y => rw [ea, eb] at h; simp at h
    · rw [Nat.div_eq_of_lt (by omega)]; simp
theorem lst_okW {m : Mob} (ho : m.ok = true) (hd : m.dep ≤ 5) (hb : m.bar = none) (h : ∀ p ∈ m.lst, p.2 ≤ 999999) : m.lst.ok := by
  refine ⟨lst_rising m, fun p hp => ?_, fun p hp => ⟨?_, h p hp⟩, ?_⟩
  · have : p.1 ∈ m.names := by
      rw [← lst_names m]
      exact List.mem_map.mpr ⟨p, hp, rfl⟩
    exact nms_ok m ho _ (names_mem.mp this)
  · have hn : p.1 ∈ m.nms := by
      have : p.1 ∈ m.names := by
        rw [← lst_names m]
        exact List.mem_map.mpr ⟨p, hp, rfl⟩
      exact names_mem.mp this
    have := lst_pos ho hd hb hn
    rw [of_rising (lst_rising m) (show (p.1, p.2) ∈ m.lst from hp)] at this
    exact this
  · have := names_len hd
    have e := congrArg List.length (lst_names m)
    rw [List.length_map] at e
    omega
theorem lst_has (m : Mob) : m.lst.has m := fun x hx => by rw [lst_names]; exact names_mem.mpr hx
theorem lst_ne (m : Mob) : m.lst ≠ [] := fun e => by
  have := lst_names m
  rw [e] at this
  exact names_ne m this.symm
/-- the greatest of the numbers -/
def Ws.max (ws : Ws) : Int := match ws with
  | [] => 0
  | p :: r => (r.map (·.2)).foldl Max.max p.2
theorem max_ws {ws : Ws} (h : ws ≠ []) : (allInt (ws.map fun p => .int p.2)).bind maxI = some ws.max := by
  cases ws with
  | nil => exact absurd rfl h
  | cons p r =>
    rw [allInt_mapI]
    rfl
theorem max_ge {ws : Ws} : ∀ p ∈ ws, p.2 ≤ ws.max := fun p hp => by
  cases ws with
  | nil => cases hp
  | cons q r =>
    obtain ⟨h1, h2⟩ := foldl_max_ge (r.map (·.2)) q.2
    rcases List.mem_cons.mp hp with rfl | hp
    · exact h1
    · exact h2 p.2 (List.mem_map.mpr ⟨p, hp, rfl⟩)
end Hg
end
section
set_option Elab.async false
set_option linter.all false
set_option autoImplicit false
set_option maxRecDepth 100000
/-! P12: one weight changed. -/
namespace Hg
variable {tab : Nat → Option FD}
/-- a told weight by the least one -/
def qOf (m : Mob) (f : T → Int) (n : T) : Rat := mkRat (f n) (m.lst.of n).toNat
/-- the weight of a name by which it hangs still, all others as told -/
def otherF (m : Mob) (f : T → Int) (n : T) : Option Int := match m.names.filter fun x => !decide (x = n) with
  | [] => none
  | a :: r => if (r.all fun x => decide (qOf m f x = qOf m f a)) = true ∧ (qOf m f a).num * m.lst.of n % (qOf m f a).den = 0 ∧ (qOf m f a).num * m.lst.of n / (qOf m f a).den ≤ 999999 ∧ (qOf m f a).num * m.lst.of n / (qOf m f a).den ≠ f n
    then some ((qOf m f a).num * m.lst.of n / (qOf m f a).den) else none
def oI : Option Int → D
  | some v => .int v
  | none => .non
@[simp] theorem isnD_oI (o : Option Int) : isnD (oI o) = o.isNone := by cases o <;> rfl
theorem lst_len {m : Mob} (hd : m.dep ≤ 5) : m.lst.length ≤ 32 := by
  have := names_len hd
  have e := congrArg List.length (lst_names m)
  rw [List.length_map] at e
  omega
/-- the greatest that a least weight can be -/
theorem lst_big {m : Mob} (ho : m.ok = true) (hd : m.dep ≤ 5) (hb : m.bar = none) {n : T} (hn : n ∈ m.nms) : (m.lst.of n).toNat < 2 ^ 8000 ∧ (m.lst.of n).toNat < bigI := by
  have e := lst_of hn
  have h1 : whW m.fr (m.sh n) ≤ 2 ^ 6600 := Nat.le_trans (Nat.div_le_self _ _) (whN_le (fr_ok ho hd hb) (fr_mem hn))
  have b1 : 2 ^ 6600 < 2 ^ 8000 := Nat.pow_lt_pow_right (by decide) (by decide)
  have b2 : 2 ^ 6600 < bigI := Nat.pow_lt_pow_right (by decide) (by decide)
  rw [e, Int.toNat_natCast]
  omega
theorem q_pos {m : Mob} (ho : m.ok = true) (hd : m.dep ≤ 5) (hb : m.bar = none) {f : T → Int} {n : T} (hn : n ∈ m.nms) (hf : 1 ≤ f n) : 0 < qOf m f n := by
  have h1 := lst_pos ho hd hb hn
  unfold qOf
  rw [Rat.mkRat_eq_div, Rat.div_def]
  exact Rat.mul_pos (Rat.intCast_pos.mpr (by omega)) (Rat.inv_pos.mpr (natR_pos (by omega)))
theorem frs_eq : ∀ (xs ys : List Rat), cmpD .eq (.lst (xs.map frD)) (.lst []) = some xs.isEmpty := fun xs ys => by
  cases xs with
  | nil => rfl
  | cons x xs =>
    have hp : plainDs ((x :: xs).map frD) = true := by
      have : ∀ l : List Rat, plainDs (l.map frD) = true := fun l => by
        induction l with
        | nil => rfl
        | cons a l ih => simp [plainDs, fr_plain, ih]
      exact this _
    rw [eqO_lst_nil _ hp]
    rfl
theorem other_for_ev [K75 tab] (m : Mob) (ho : m.ok = true) (hd : m.dep ≤ 5) (hb : m.bar = none) (x0 : D) (kvs : List (T × D)) (f : T → Int) (hk : ∀ n ∈ m.nms, lkD n kvs = some (.int (f n))) (hf : ∀ n ∈ m.nms, 1 ≤ f n ∧ f n ≤ 999999) (n : T) (hn : n ∈ m.nms) (k : Nat) (c : Cells) (hk2 : 1 < k) :
    callF tab k 75 [x0, .dct m.lst.bk, .dct kvs, .str n] c = .ok (oI (otherF m f n)) c := by
  obtain ⟨k, rfl⟩ : ∃ j, k = j + 1 := ⟨k - 1, by omega⟩
  have keys : m.lst.bk.map (fun p => D.str p.1) = m.names.map .str := by
    rw [← lst_names m]
    simp [Ws.bk]
  have bkl : ∀ x ∈ m.nms, lkD x m.lst.bk = some (.int (m.lst.of x)) := fun x hx => of_bk m.lst x (lst_has m x hx)
  have red : ∀ x ∈ m.nms, ∀ c, callF tab k 38 [.int (f x), .int (m.lst.of x)] c = .ok (frD (qOf m f x)) c := fun x hx c => by
    have h1 := lst_pos ho hd hb hx
    have h2 := lst_big ho hd hb hx
    have h3 := hf x hx
    have e := reduced_fr (tab := tab) (f x).toNat (m.lst.of x).toNat (by omega) h2.1 k c (by omega)
    rw [show (((f x).toNat : Nat) : Int) = f x by omega, show (((m.lst.of x).toNat : Nat) : Int) = m.lst.of x by omega] at e
    exact e
  have nl := names_len hd
  have c1 : ∀ v4 v5 v6 v7 c, lcW (callF tab k) (.nm 8) (.cmp .ne (.var 8) (.var 3)) (.call 38 [(.ix (.var 2) (.var 8)), (.ix (.var 1) (.var 8))]) [.val x0, .val (.dct m.lst.bk), .val (.dct kvs), .val (.str n), v4, v5, v6, v7, .emp, .emp] (m.names.map .str) c = .ok (((m.names.filter fun x => !decide (x = n)).map (qOf m f)).map frD) c := fun v4 v5 v6 v7 c => by
    unfold lcW
    rw [lcL_filter (f := fun x => frD (qOf m f x)) (p := fun x => !decide (x = n)) m.names [] c (fun x hx => ⟨[.val x0, .val (.dct m.lst.bk), .val (.dct kvs), .val (.str n), v4, v5, v6, v7, .val (.str x), .emp], rfl, fun c => by simp [getV]; rw [Bool.eq_iff_iff]; simp, fun c _ => ?_⟩)]
    · simp
    · simp; omega
    · simp [getV, hk x (names_mem.mp hx), bkl x (names_mem.mp hx), red x (names_mem.mp hx)]
  unfold otherF
  cases hfil : m.names.filter fun x => !decide (x = n) with
  | nil =>
    rw [hfil] at c1
    have z0 : cmpD .eq (.lst []) (.lst []) = some true := rfl
    rw [callF_at (K75.h75 (tab := tab)) rfl]
    simp [f75_other_for, b75_other_for, getV, keys, wipeE, c1, z0, oI]
  | cons a r =>
    rw [hfil] at c1
    have mem : ∀ x ∈ a :: r, x ∈ m.nms := fun x hx => by
      have : x ∈ m.names.filter fun x => !decide (x = n) := by rw [hfil]; exact hx
      exact names_mem.mp (List.mem_filter.mp this).1
    have ha := mem a List.mem_cons_self
    have len : r.length ≤ 31 := by
      have := congrArg List.length hfil
      have := List.length_filter_le (fun x => !decide (x = n)) m.names
      simp only [List.length_cons] at *
      omega
    have z1 := frs_eq ((a :: r).map (qOf m f)) []
    have c2 : ∀ v5 v6 v7 v8 c, lcW (callF tab k) (.nm 9) (.bl true) (.cmp .ne (.var 9) (.ix (.var 4) (.int 0))) [.val x0, .val (.dct m.lst.bk), .val (.dct kvs), .val (.str n), .val (.lst (((a :: r).map (qOf m f)).map frD)), v5, v6, v7, v8, .emp] (((a :: r).map (qOf m f)).map frD) c = .ok ((a :: r).map fun x => .bl (!decide (qOf m f x = qOf m f a))) c := fun v5 v6 v7 v8 c => by
      unfold lcW
      rw [List.map_map (g := frD)]
      rw [lcL_map (g := frD ∘ qOf m f) (f := fun x => .bl (!decide (qOf m f x = qOf m f a))) (a :: r) [] c (fun x hx => ⟨[.val x0, .val (.dct m.lst.bk), .val (.dct kvs), .val (.str n), .val (.lst ((a :: r).map (frD ∘ qOf m f))), v5, v6, v7, v8, .val (frD (qOf m f x))], rfl, fun c => by simp, fun c => ?_⟩)]
      · simp
      · simp; omega
      · have i0 : ixD (.lst ((a :: r).map (frD ∘ qOf m f))) (.int 0) = some (frD (qOf m f a)) := by
          simp [ixD, ixP]
        simp only [List.map_cons, Function.comp_apply] at i0 ⊢
        simp [getV, i0, fr_ne]
    have b1 : allBl ((a :: r).map fun x => .bl (!decide (qOf m f x = qOf m f a))) = some ((a :: r).map fun x => !decide (qOf m f x = qOf m f a)) := by
      have : ((a :: r).map fun x => D.bl (!decide (qOf m f x = qOf m f a))) = ((a :: r).map fun x => !decide (qOf m f x = qOf m f a)).map D.bl := by rw [List.map_map]; rfl
      rw [this, allBl_map]
    have i0 : ixD (.lst (((a :: r).map (qOf m f)).map frD)) (.int 0) = some (.tup [.int (qOf m f a).num, .int (qOf m f a).den]) := by
      simp [ixD, ixP, frD]
    have any1 : (((a :: r).map fun x => !decide (qOf m f x = qOf m f a)).any id) = !(r.all fun x => decide (qOf m f x = qOf m f a)) := by
      simp [List.any_map, List.not_all_eq_any_not, Function.comp_def]
    have np := num_pos (q_pos ho hd hb ha (hf a ha).1)
    have nl1 : (qOf m f a).num ≤ f a := num_le _ _ (by have := hf a ha; omega) (by have := lst_pos ho hd hb ha; omega)
    have dl1 : (qOf m f a).den ≤ (m.lst.of a).toNat := den_le _ _ (by have := lst_pos ho hd hb ha; omega)
    have dp := (qOf m f a).den_pos
    have fa := hf a ha
    have m1 := mul_int (qOf m f a).num (m.lst.of n) (.inl (lt64 (by omega)))
    have m2 := mod_int ((qOf m f a).num * m.lst.of n) (qOf m f a).den (by omega)
    have m3 := fdiv_int ((qOf m f a).num * m.lst.of n) (qOf m f a).den (by omega) (by rw [Int.natAbs_natCast]; exact Nat.lt_of_le_of_lt dl1 (lst_big ho hd hb ha).1)
    have hemp : ((a :: r).map (qOf m f)).isEmpty = false := rfl
    rw [hemp] at z1
    have hq := hk n hn
    have hl := bkl n hn
    rw [callF_at (K75.h75 (tab := tab)) rfl]
    dsimp only
    generalize hX : (qOf m f a).num * m.lst.of n = X at *
    generalize hY : ((qOf m f a).den : Int) = Y at *
    generalize (((a :: r).map (qOf m f)).map frD) = L at *
    generalize ((a :: r).map fun x => D.bl (!decide (qOf m f x = qOf m f a))) = BL at *
    generalize ((a :: r).map fun x => !decide (qOf m f x = qOf m f a)) = BB at *
    by_cases h1 : (r.all fun x => decide (qOf m f x = qOf m f a)) = true
    · rw [h1] at any1
      by_cases h2 : X % Y = 0
      · by_cases h3 : X / Y ≤ 999999
        · by_cases h4 : X / Y = f n
          · rw [if_neg (by intro h; exact h.2.2.2 h4)]
            simp [f75_other_for, b75_other_for, getV, keys, wipeE, c1, z1, c2, b1, any1, i0, hq, hl, m1, m2, m3, h2, h3, h4, oI]
          · rw [if_pos ⟨h1, h2, h3, h4⟩]
            simp [f75_other_for, b75_other_for, getV, keys, wipeE, c1, z1, c2, b1, any1, i0, hq, hl, m1, m2, m3, h2, h3, h4, oI]
        · rw [if_neg (by intro h; exact h3 h.2.2.1)]
          simp [f75_other_for, b75_other_for, getV, keys, wipeE, c1, z1, c2, b1, any1, i0, hq, hl, m1, m2, m3, h2, h3, oI]
      · rw [if_neg (by intro h; exact h2 h.2.1)]
        simp [f75_other_for, b75_other_for, getV, keys, wipeE, c1, z1, c2, b1, any1, i0, hq, hl, m1, m2, m3, h2, oI]
    · rw [if_neg (by intro h; exact h1 h.1)]
      rw [Bool.not_eq_true] at h1
      rw [h1] at any1
      simp [f75_other_for, b75_other_for, getV, keys, wipeE, c1, z1, c2, b1, any1, oI]
end Hg
end
section
set_option Elab.async false
set_option linter.all false
set_option autoImplicit false
set_option maxRecDepth 100000
/-! P13: one_changed, and what it means. -/
namespace Hg
variable {tab : Nat → Option FD}
/-- all weights of one name by which it hangs still, where just this is changed -/
def oneC (m : Mob) (f : T → Int) : Ws := m.names.filterMap fun n => (otherF m f n).map fun v => (n, v)
theorem oneC_rows (h : T → Option Int) : ∀ (l : List T), ((l.filter fun n => (h n).isSome).map fun n => D.tup [.str n, oI (h n)]) = (l.filterMap fun n => (h n).map fun v => (n, v)).map rowD
  | [] => rfl
  | n :: l => by
    have ih := oneC_rows h l
    cases e : h n with
    | none => simp [e, ih]
    | some v =>
      have z : oI (some v) = .int v := rfl
      simp [e, ih, rowD, z]
theorem one_changed_ev [K76 tab] (m : Mob) (ws : Ws) (ho : m.ok = true) (hd : m.dep ≤ 5) (hw : ws.ok) (hh : ws.has m) (k : Nat) (c : Cells) (hk : 13 < k) : callF tab k 76 [m.d, ws.d] c = .ok (.lst ((if m.bar = none then oneC m ws.of else []).map rowD)) c := by
  obtain ⟨k, rfl⟩ : ∃ j, k = j + 1 := ⟨k - 1, by omega⟩
  have e1 := fun c => need_mobile_ev (tab := tab) m k c ho hd (by omega)
  have e2 := fun c => need_weights_ev (tab := tab) m ws hw hh hd k c (by omega)
  have e3 := fun c => leasts_ev (tab := tab) m ho hd k c (by omega)
  have e4 := fun c => names_of_ev (tab := tab) m k c (by omega) hd
  have e5 : primD .dict [ws.d] = some (.dct ws.bk) := by simp [Ws.d, pairsD_rows, dict_rows hw]
  have nl := names_len hd
  rw [callF_at (K76.h76 (tab := tab)) rfl]
  by_cases hb : m.bar = none
  · rw [if_pos hb]
    simp only [hb, if_true] at e3
    have e6 := fun n (hn : n ∈ m.nms) c => other_for_ev (tab := tab) m ho hd hb m.d ws.bk ws.of (fun x hx => of_bk ws x (hh x hx)) (of_bound hw hh) n hn k c (by omega)
    have c1 : ∀ v3 c, lcW (callF tab k) (.nm 4) (.bl true) (.tup [.var 4, .call 75 [.var 0, .var 2, .prim .dict [.var 1], .var 4]]) [.val m.d, .val ws.d, .val (.dct m.lst.bk), v3, .emp, .emp] (m.names.map .str) c = .ok (m.names.map fun n => .tup [.str n, oI (otherF m ws.of n)]) c := fun v3 c => by
      unfold lcW
      rw [lcL_map (f := fun n => .tup [.str n, oI (otherF m ws.of n)]) m.names [] c (fun n hn => ⟨[.val m.d, .val ws.d, .val (.dct m.lst.bk), v3, .val (.str n), .emp], rfl, fun c => by simp, fun c => by simp [getV, e5, e6 n (names_mem.mp hn)]⟩)]
      · simp
      · simp; omega
    have c2 : ∀ v3 c, lcW (callF tab k) (.nm 5) (.nisn (.ix (.var 5) (.int 1))) (.var 5) [.val m.d, .val ws.d, .val (.dct m.lst.bk), v3, .emp, .emp] (m.names.map fun n => .tup [.str n, oI (otherF m ws.of n)]) c = .ok ((oneC m ws.of).map rowD) c := fun v3 c => by
      unfold lcW
      rw [lcL_filter (f := fun n => .tup [.str n, oI (otherF m ws.of n)]) (p := fun n => (otherF m ws.of n).isSome) m.names [] c (fun n hn => ⟨[.val m.d, .val ws.d, .val (.dct m.lst.bk), v3, .emp, .val (.tup [.str n, oI (otherF m ws.of n)])], rfl, fun c => by cases otherF m ws.of n <;> simp [getV, ixD, ixP, oI], fun c _ => by simp [getV]⟩)]
      · rw [List.nil_append, oneC_rows]; rfl
      · simp; omega
    simp [f76_one_changed, b76_one_changed, getV, e1, e2, e3, e4, wipeE, c1, c2]
  · rw [if_neg hb]
    simp only [hb, if_false] at e3
    simp [f76_one_changed, b76_one_changed, getV, e1, e2, e3]
theorem q_eq {m : Mob} (ho : m.ok = true) (hd : m.dep ≤ 5) (hb : m.bar = none) {f : T → Int} {n : T} (hn : n ∈ m.nms) : (f n : Rat) = qOf m f n * (m.lst.of n : Rat) := by
  have h1 := lst_pos ho hd hb hn
  unfold qOf
  rw [Rat.mkRat_eq_div]
  have e : (((m.lst.of n).toNat : Nat) : Rat) = (m.lst.of n : Rat) := by
    rw [← Rat.intCast_natCast]
    congr 1
    omega
  have nz : (m.lst.of n : Rat) ≠ 0 := fun z => absurd (Rat.intCast_inj.mp (show ((m.lst.of n : Int) : Rat) = ((0 : Int) : Rat) from z)) (by omega)
  rw [e]
  generalize (m.lst.of n : Rat) = x at *
  grind
theorem intR_ne {i : Int} (h : i ≠ 0) : (i : Rat) ≠ 0 := fun z => h (Rat.intCast_inj.mp (show ((i : Int) : Rat) = ((0 : Int) : Rat) from z))
/-- a fraction times a whole number, whole -/
theorem frac_int {q : Rat} {L v : Int} : (q.num * L % q.den = 0 ∧ q.num * L / q.den = v) ↔ (v : Rat) = q * L := by
  have dp := q.den_pos
  have dz : ((q.den : Nat) : Rat) ≠ 0 := natR_ne dp
  have hq := rat_eq q
  have cast : (v : Rat) = q * L ↔ v * q.den = q.num * L := by
    have e1 : ((v * (q.den : Int) : Int) : Rat) = (v : Rat) * ((q.den : Nat) : Rat) := by rw [Rat.intCast_mul, Rat.intCast_natCast]
    have e2 : ((q.num * L : Int) : Rat) = (q.num : Rat) * (L : Rat) := Rat.intCast_mul _ _
    rw [← Rat.intCast_inj, e1, e2]
    generalize ((q.den : Nat) : Rat) = d at *
    generalize (q.num : Rat) = u at *
    generalize (L : Rat) = l at *
    generalize (v : Rat) = w at *
    constructor
    · intro h; rw [h, hq]; grind
    · intro h; rw [hq]; grind
  rw [cast]
  constructor
  · rintro ⟨h1, h2⟩
    rw [← h2]
    exact Int.ediv_mul_cancel (Int.dvd_of_emod_eq_zero h1)
  · intro h
    rw [← h]
    exact ⟨Int.mul_emod_left _ _, Int.mul_ediv_cancel _ (by omega)⟩
theorem other_some {m : Mob} (ho : m.ok = true) (hd : m.dep ≤ 5) (hb : m.bar = none) {f : T → Int} {n : T} (hn : n ∈ m.nms) {v : Int} :
    otherF m f n = some v ↔ (∃ x ∈ m.nms, x ≠ n) ∧ v ≤ 999999 ∧ v ≠ f n ∧ ∃ c : Rat, (∀ x ∈ m.nms, x ≠ n → (f x : Rat) = c * (m.lst.of x : Rat)) ∧ (v : Rat) = c * (m.lst.of n : Rat) := by
  unfold otherF
  cases hfil : m.names.filter fun x => !decide (x = n) with
  | nil =>
    simp only [reduceCtorEq, false_iff, not_and]
    rintro ⟨x, hx, hne⟩
    have : x ∈ m.names.filter fun x => !decide (x = n) := List.mem_filter.mpr ⟨names_mem.mpr hx, by simp [hne]⟩
    rw [hfil] at this
    cases this
  | cons a r =>
    have mem : ∀ x, x ∈ a :: r ↔ x ∈ m.nms ∧ x ≠ n := fun x => by
      rw [← hfil, List.mem_filter, names_mem]
      simp
    have ha := (mem a).mp List.mem_cons_self
    have fi := fun v => frac_int (q := qOf m f a) (L := m.lst.of n) (v := v)
    dsimp only
    constructor
    · intro h
      split at h
      · rename_i hc
        obtain ⟨h1, h2, h3, h4⟩ := hc
        cases h
        refine ⟨⟨a, ha⟩, h3, h4, qOf m f a, fun x hx hne => ?_, (fi _).mp ⟨h2, rfl⟩⟩
        have hxm := (mem x).mpr ⟨hx, hne⟩
        have e : qOf m f x = qOf m f a := by
          rcases List.mem_cons.mp hxm with rfl | hxm
          · rfl
          · exact of_decide_eq_true (List.all_eq_true.mp h1 x hxm)
        rw [← e]
        exact q_eq ho hd hb hx
      · cases h
    · rintro ⟨_, h3, h4, c, hc, hv⟩
      have qc : ∀ x ∈ a :: r, qOf m f x = c := fun x hx => by
        obtain ⟨x1, x2⟩ := (mem x).mp hx
        have e1 := q_eq ho hd hb (f := f) x1
        rw [hc x x1 x2] at e1
        have nz := intR_ne (i := m.lst.of x) (by have := lst_pos ho hd hb x1; omega)
        generalize (m.lst.of x : Rat) = y at *
        grind
      have qa := qc a List.mem_cons_self
      rw [← qa] at hv
      obtain ⟨g1, g2⟩ := (fi v).mpr hv
      rw [if_pos ⟨List.all_eq_true.mpr fun x hx => decide_eq_true (by rw [qa]; exact qc x (List.mem_cons_of_mem _ hx)), g1, by rw [g2]; exact h3, by rw [g2]; exact h4⟩, g2]
theorem oneC_mem {m : Mob} {f : T → Int} {p : T × Int} : p ∈ oneC m f ↔ p.1 ∈ m.nms ∧ otherF m f p.1 = some p.2 := by
  unfold oneC
  rw [List.mem_filterMap]
  constructor
  · rintro ⟨n, hn, h⟩
    obtain ⟨v, h1, rfl⟩ := Option.map_eq_some_iff.mp h
    exact ⟨names_mem.mp hn, h1⟩
  · rintro ⟨h1, h2⟩
    exact ⟨p.1, names_mem.mpr h1, by rw [h2]; rfl⟩
/-- it hangs still just by so many times the least weights -/
theorem still_lc {m : Mob} (ho : m.ok = true) (hd : m.dep ≤ 5) (hb : m.bar = none) {f : T → Int} : still f m = true ↔ ∃ c : Rat, ∀ n ∈ m.nms, (f n : Rat) = c * (m.lst.of n : Rat) := by
  have lp := lc_pos ho hd hb
  have lz : m.lc ≠ 0 := fun z => by rw [z] at lp; exact absurd lp Rat.lt_irrefl
  constructor
  · intro h
    refine ⟨(m.load f : Rat) / m.lc, fun n hn => ?_⟩
    obtain ⟨p, hp, e1, e2⟩ := sh_row hb hn
    have h1 := (still_iff ho).mp h p hp
    rw [e1, ← e2] at h1
    rw [h1, lst_spec ho hd hb hn]
    generalize m.lc = x at *
    grind
  · rintro ⟨c, hc⟩
    refine still_of ho (c := c * m.lc) fun p hp => ?_
    have hn : p.2.1 ∈ m.nms := by
      rw [← rw_nms m (tx "") 1]
      exact List.mem_map.mpr ⟨p, hp, rfl⟩
    rw [hc _ hn, lst_spec ho hd hb hn, sh_of hb hp]
    grind
end Hg
end
section
set_option Elab.async false
set_option linter.all false
set_option autoImplicit false
set_option maxRecDepth 100000
/-! P14: rows of weights: scaled, one changed; slices. -/
namespace Hg
variable {tab : Nat → Option FD}
theorem sl_take (xs : List D) (a : Int) (h : 0 ≤ a) : slD (.tup xs) .non (.int a) = some (.tup (xs.take a.toNat)) := by
  have h1 : ¬ a < 0 := by omega
  simp only [slD, sBnd, h1, if_false]
  simp [cutL]
theorem sl_drop (xs : List D) (a : Int) (h : 0 ≤ a) : slD (.tup xs) (.int a) .non = some (.tup (xs.drop a.toNat)) := by
  have h1 : ¬ a < 0 := by omega
  simp only [slD, sBnd, h1, if_false]
  have : cutL xs (min a.toNat xs.length) xs.length = xs.drop a.toNat := by
    unfold cutL
    rcases Nat.le_total a.toNat xs.length with q | q
    · rw [Nat.min_eq_left q, List.take_of_length_le (by simp)]
    · rw [Nat.min_eq_right q, List.drop_eq_nil_of_le (Nat.le_refl _), List.drop_eq_nil_of_le q]
      simp
  rw [← this]
  rfl
theorem sl_takeL (xs : List D) (a : Int) (h : 0 ≤ a) : slD (.lst xs) .non (.int a) = some (.lst (xs.take a.toNat)) := by
  have h1 : ¬ a < 0 := by omega
  simp only [slD, sBnd, h1, if_false]
  simp [cutL]
theorem add_tup (xs ys : List D) (h : xs.length + ys.length < 1000000) : binD .add (.tup xs) (.tup ys) = some (.tup (xs ++ ys)) := by
  cases xs with
  | nil => rfl
  | cons x xs =>
    simp only [List.length_cons] at h
    have : xs.length + ys.length < 1000000 := by omega
    simp [binD, addD, this]
theorem ix_lst {xs : List D} {a : Int} (h0 : 0 ≤ a) {d : D} (h : xs[a.toNat]? = some d) : ixD (.lst xs) (.int a) = some d := by
  obtain ⟨hl, e⟩ := List.getElem?_eq_some_iff.mp h
  have h1 : a < (xs.length : Int) := by omega
  simp [ixD, ixP, h0, h1, hl, e]
theorem ix_tup {xs : List D} {a : Int} (h0 : 0 ≤ a) {d : D} (h : xs[a.toNat]? = some d) : ixD (.tup xs) (.int a) = some d := by
  obtain ⟨hl, e⟩ := List.getElem?_eq_some_iff.mp h
  have h1 : a < (xs.length : Int) := by omega
  simp [ixD, ixP, h0, h1, hl, e]
/-- each so many times -/
def Ws.times (ws : Ws) (o : Int) : Ws := ws.map fun p => (p.1, p.2 * o)
theorem times_names (ws : Ws) (o : Int) : (ws.times o).map (·.1) = ws.map (·.1) := by simp [Ws.times, Function.comp_def]
theorem times_of {ws : Ws} (hr : (ws.map (·.1)).Pairwise (· < ·)) {n : T} (hn : n ∈ ws.map (·.1)) (o : Int) : (ws.times o).of n = ws.of n * o := by
  obtain ⟨p, hp, e⟩ := List.mem_map.mp hn
  have h1 : ws.of n = p.2 := of_rising hr (by rw [← e]; exact hp)
  refine of_rising (by rw [times_names]; exact hr) ?_
  rw [h1]
  exact List.mem_map.mpr ⟨p, hp, by rw [← e]⟩
/-- one exchanged -/
def Ws.one (ws : Ws) (j : Nat) (y : Int) : Ws := ws.take j ++ (((ws.map (·.1)).getD j [], y) :: ws.drop (j + 1))
theorem split_at {α : Type} {l : List α} {j : Nat} {x : α} (h : l[j]? = some x) : l = l.take j ++ x :: l.drop (j + 1) := by
  obtain ⟨hl, e⟩ := List.getElem?_eq_some_iff.mp h
  rw [← e, ← List.drop_eq_getElem_cons hl, List.take_append_drop]
theorem one_names {ws : Ws} {j : Nat} {p : T × Int} (h : ws[j]? = some p) (y : Int) : (ws.one j y).map (·.1) = ws.map (·.1) := by
  have e : (ws.map (·.1)).getD j [] = p.1 := by
    rw [List.getD_eq_getElem?_getD, List.getElem?_map, h]
    rfl
  unfold Ws.one
  rw [e]
  conv => rhs; rw [split_at h]
  simp
theorem one_of {ws : Ws} (hr : (ws.map (·.1)).Pairwise (· < ·)) {j : Nat} {p : T × Int} (h : ws[j]? = some p) (y : Int) {n : T} (hn : n ∈ ws.map (·.1)) : (ws.one j y).of n = if n = p.1 then y else ws.of n := by
  have e : (ws.map (·.1)).getD j [] = p.1 := by
    rw [List.getD_eq_getElem?_getD, List.getElem?_map, h]
    rfl
  have hr2 : ((ws.one j y).map (·.1)).Pairwise (· < ·) := by rw [one_names h]; exact hr
  split
  · rename_i q
    refine of_rising hr2 ?_
    rw [q]
    unfold Ws.one
    rw [e]
    simp
  · rename_i q
    obtain ⟨z, hz, ez⟩ := List.mem_map.mp hn
    have h1 : ws.of n = z.2 := of_rising hr (by rw [← ez]; exact hz)
    rw [h1]
    refine of_rising hr2 ?_
    unfold Ws.one
    rw [split_at h] at hz
    rcases List.mem_append.mp hz with hz | hz
    · exact List.mem_append_left _ (by rw [← ez]; exact hz)
    · rcases List.mem_cons.mp hz with rfl | hz
      · exact absurd ez.symm q
      · exact List.mem_append_right _ (List.mem_cons_of_mem _ (by rw [← ez]; exact hz))
theorem one_mem {ws : Ws} {j : Nat} {y : Int} {q : T × Int} (h : q ∈ ws.one j y) : q ∈ ws ∨ q.2 = y := by
  unfold Ws.one at h
  rcases List.mem_append.mp h with h | h
  · exact .inl (List.mem_of_mem_take h)
  · rcases List.mem_cons.mp h with rfl | h
    · exact .inr rfl
    · exact .inl (List.mem_of_mem_drop h)
theorem Ws.ok.one {ws : Ws} (h : ws.ok) {j : Nat} {p : T × Int} (hp : ws[j]? = some p) {y : Int} (hy : 1 ≤ y ∧ y ≤ 999999) : (ws.one j y).ok := by
  have nm := one_names hp y
  refine ⟨by rw [nm]; exact h.lt, fun q hq => ?_, fun q hq => ?_, ?_⟩
  · have : q.1 ∈ ws.map (·.1) := by rw [← nm]; exact List.mem_map.mpr ⟨q, hq, rfl⟩
    obtain ⟨z, hz, e⟩ := List.mem_map.mp this
    rw [← e]
    exact h.nm z hz
  · rcases one_mem hq with hq | hq
    · exact h.nu q hq
    · rw [hq]; exact hy
  · have := congrArg List.length nm
    simp only [List.length_map] at this
    have := h.len
    omega
theorem Ws.has_of {ws vs : Ws} {m : Mob} (h : ws.has m) (e : vs.map (·.1) = ws.map (·.1)) : vs.has m := fun x hx => by rw [e]; exact h x hx
theorem cmp_eq_def (a b : D) : cmpD .eq a b = eqO a b := rfl
theorem cmp_ne_def (a b : D) : cmpD .ne a b = (eqO a b).map (!·) := rfl
theorem cmp_inn_def (a b : D) : cmpD .inn a b = inD a b := by cases a <;> cases b <;> rfl
theorem cmp_nin_def (a b : D) : cmpD .nin a b = (inD a b).map (!·) := by cases a <;> cases b <;> rfl
theorem eqD_rows : ∀ (xs ys : Ws), eqDs (xs.map rowD) (ys.map rowD) = decide (xs = ys)
  | [], [] => rfl
  | [], _ :: _ => rfl
  | _ :: _, [] => rfl
  | x :: xs, y :: ys => by
    have ih := eqD_rows xs ys
    simp only [List.map_cons, eqDs, rowD, eqD, Bool.and_true, ih]
    rw [Bool.eq_iff_iff]
    simp only [Bool.and_eq_true, beq_iff_eq, decide_eq_true_eq, List.cons.injEq]
    constructor
    · rintro ⟨⟨h1, h2⟩, h3⟩
      exact ⟨Prod.ext h1 h2, h3⟩
    · rintro ⟨rfl, h⟩
      exact ⟨⟨rfl, rfl⟩, h⟩
theorem eq_rows (xs ys : Ws) : cmpD .eq (.lst (xs.map rowD)) (.lst (ys.map rowD)) = some (decide (xs = ys)) := by
  rw [cmp_eq_def]
  have h1 := dep_rows xs
  rw [eqO_plain (by simp only [plainD]; exact plain_rows xs) (by simp only [plainD]; exact plain_rows ys) (by simp only [depD]; omega)]
  simp only [eqD, eqD_rows]
theorem ne_rows (xs ys : Ws) : cmpD .ne (.lst (xs.map rowD)) (.lst (ys.map rowD)) = some (!decide (xs = ys)) := by
  have h := eq_rows xs ys
  rw [cmp_eq_def] at h
  rw [cmp_ne_def, h]
  rfl
theorem eq_tups (xs ys : Ws) : cmpD .eq xs.d ys.d = some (decide (xs = ys)) := by
  rw [cmp_eq_def]
  have h1 := dep_rows xs
  unfold Ws.d
  rw [eqO_plain (by simp only [plainD]; exact plain_rows xs) (by simp only [plainD]; exact plain_rows ys) (by simp only [depD]; omega)]
  simp only [eqD, eqD_rows]
theorem eqD_row (p q : T × Int) : eqD (rowD q) (rowD p) = decide (q = p) := by
  have := eqD_rows [q] [p]
  simp only [List.map_cons, List.map_nil, eqDs, Bool.and_true, List.cons.injEq, and_true] at this
  exact this
theorem any_rows (p : T × Int) : ∀ (xs : Ws), ((xs.map rowD).any fun y => eqD y (rowD p)) = decide (p ∈ xs)
  | [] => rfl
  | x :: xs => by
    have ih := any_rows p xs
    rw [List.map_cons, List.any_cons, ih, eqD_row, Bool.eq_iff_iff]
    simp only [Bool.or_eq_true, decide_eq_true_eq, List.mem_cons]
    exact or_congr_left ⟨fun h => h.symm, fun h => h.symm⟩
theorem in_rows (p : T × Int) (xs : Ws) : cmpD .inn (rowD p) (.lst (xs.map rowD)) = some (decide (p ∈ xs)) := by
  have h1 := dep_rows xs
  have h2 : plainDs (xs.map rowD) = true := plain_rows xs
  have h3 : plainD (rowD p) = true := rfl
  have h4 : min (depD (rowD p)) (depDs (xs.map rowD)) ≤ 64 := by omega
  rw [cmp_inn_def]
  have : inD (rowD p) (.lst (xs.map rowD)) = inL (rowD p) (xs.map rowD) := rfl
  rw [this]
  unfold inL
  simp only [h2, h3, h4, decide_true, Bool.and_self, if_true, any_rows]
theorem nin_rows (p : T × Int) (xs : Ws) : cmpD .nin (rowD p) (.lst (xs.map rowD)) = some (!decide (p ∈ xs)) := by
  have h := in_rows p xs
  rw [cmp_inn_def] at h
  rw [cmp_nin_def, h]
  rfl
end Hg
end
section
set_option Elab.async false
set_option linter.all false
set_option autoImplicit false
set_option maxRecDepth 100000
/-! G1b: the same drawn by the other defs. -/
namespace Hg
variable {tab : Nat → Option FD}
theorem mobile77_ev [K77 tab] (ns : List Int) (nm : List T) (h0 : nm ≠ []) (hok : ∀ x ∈ nm, okNm x = true) (r : Cells) : ∀ (d n k : Nat), d + 4 < k → d ≤ 6 → n + 5 * 2 ^ d < 999999 →
    ∃ m n', Drawn nm d m ∧ n' + 4 ≤ n + 5 * 2 ^ d ∧ callF tab k 77 [.scr ns, .cel 0, .lst (nm.map .str), .int d] (tw n :: r) = .ok m.d (tw n' :: r)
  | 0, n, k, hk, hd, hn => by
    obtain ⟨k, rfl⟩ : ∃ i, k = i + 1 := ⟨k - 1, by omega⟩
    obtain ⟨x, hx, e1⟩ := pick_ev (tab := tab) ns n (nm.map .str) (by simpa using h0) k r (by omega) (by omega)
    obtain ⟨y, hy, rfl⟩ := List.mem_map.mp hx
    refine ⟨.w y, n + 1, ⟨hok y hy, Nat.le_refl 0, fun z hz => by simp only [Mob.nms, List.mem_singleton] at hz; subst hz; exact hy⟩, by omega, ?_⟩
    rw [callF_at (K77.h77 (tab := tab)) rfl]
    simp [f77__law_mobile, b77__law_mobile, getV, e1, Mob.d]
  | d + 1, n, k, hk, hd, hn => by
    obtain ⟨k, rfl⟩ : ∃ i, k = i + 1 := ⟨k - 1, by omega⟩
    have p2 : 1 ≤ 2 ^ d := Nat.one_le_two_pow
    rw [Nat.pow_succ] at hn ⊢
    obtain ⟨v0, h01, h02, e0⟩ := draw_ev (tab := tab) ns n 4 (by decide) k r (by omega) (by omega)
    by_cases z : v0 = 0
    · subst z
      obtain ⟨x, hx, e1⟩ := pick_ev (tab := tab) ns (n + 1) (nm.map .str) (by simpa using h0) k r (by omega) (by omega)
      obtain ⟨y, hy, rfl⟩ := List.mem_map.mp hx
      refine ⟨.w y, n + 1 + 1, ⟨hok y hy, Nat.zero_le _, fun z hz => by simp only [Mob.nms, List.mem_singleton] at hz; subst hz; exact hy⟩, by omega, ?_⟩
      rw [callF_at (K77.h77 (tab := tab)) rfl]
      have zz : ((d : Int) + 1 == 0) = false := by rw [beq_eq_false_iff_ne]; omega
      simp [f77__law_mobile, b77__law_mobile, getV, zz, e0, e1, Mob.d]
    · obtain ⟨x, hx, e1⟩ := pick_ev (tab := tab) ns (n + 1) ([2, 3, 4, 9].map .int) (by simp) k r (by omega) (by omega)
      obtain ⟨y, hy, rfl⟩ := List.mem_map.mp hx
      have hy' : 2 ≤ y ∧ y ≤ 9 := by
        simp only [List.mem_cons, List.not_mem_nil, or_false] at hy
        omega
      obtain ⟨v1, h11, h12, e2⟩ := draw_ev (tab := tab) ns (n + 1 + 1) y (by omega) k r (by omega) (by omega)
      obtain ⟨v2, h21, h22, e3⟩ := draw_ev (tab := tab) ns (n + 1 + 1 + 1) y (by omega) k r (by omega) (by omega)
      obtain ⟨a, n1, ha, hn1, e4⟩ := mobile77_ev ns nm h0 hok r d (n + 1 + 1 + 1 + 1) k (by omega) (by omega) (by omega)
      obtain ⟨b, n2, hb, hn2, e5⟩ := mobile77_ev ns nm h0 hok r d n1 k (by omega) (by omega) (by omega)
      refine ⟨.rod (1 + v1) (1 + v2) a b, n2, ⟨?_, ?_, ?_⟩, by omega, ?_⟩
      · have q1 : (1 : Int) ≤ 1 + v1 := by omega
        have q2 : 1 + v1 ≤ 9 := by omega
        have q3 : (1 : Int) ≤ 1 + v2 := by omega
        have q4 : 1 + v2 ≤ 9 := by omega
        simp [Mob.ok, q1, q2, q3, q4, ha.ok, hb.ok]
      · have := ha.dep; have := hb.dep
        simp only [Mob.dep]; omega
      · intro z hz
        simp only [Mob.nms, List.mem_append] at hz
        exact hz.elim (ha.nms z) (hb.nms z)
      · rw [callF_at (K77.h77 (tab := tab)) rfl]
        have zz : ((d : Int) + 1 == 0) = false := by rw [beq_eq_false_iff_ne]; omega
        have zv : (v0 == 0) = false := by rw [beq_eq_false_iff_ne]; exact z
        have z2 : (d : Int) + 1 - 1 = d := by omega
        simp at e1
        simp [f77__law_mobile, b77__law_mobile, getV, zz, zv, z2, e0, e1, e2, e3, e4, e5, Mob.d]
theorem some78_ev [K78 tab] (ns : List Int) (d n k : Nat) (hd : d ≤ 5) (hk : d + 5 < k) (hn : n ≤ 100000) : ∃ (m : Mob) (n' : Nat), m.ok = true ∧ m.dep ≤ d ∧ n' ≤ n + 200 ∧ callF tab k 78 [.scr ns, .cel 0, .int d] [tw n] = .ok m.d [tw n'] := by
  obtain ⟨k, rfl⟩ : ∃ i, k = i + 1 := ⟨k - 1, by omega⟩
  have p5 : 2 ^ d ≤ 2 ^ 5 := Nat.pow_le_pow_right (by omega) hd
  have p5' : 2 ^ 5 = 32 := by decide
  let nms : List (List T) := [[tx "a"], [tx "a", tx "b"], [tx "x", tx "b", tx "kk", tx "c"]]
  obtain ⟨x, hx, e1⟩ := pick_ev (tab := tab) ns n (nms.map fun x => .lst (x.map .str)) (by simp [nms]) k [] (by omega) (by omega)
  obtain ⟨nm, hnm, rfl⟩ := List.mem_map.mp hx
  have ok0 : ∀ y ∈ nms, y ≠ [] ∧ ∀ z ∈ y, okNm z = true := by decide +kernel
  obtain ⟨m, n1, hm, hn1, e2⟩ := mobile77_ev (tab := tab) ns nm (ok0 nm hnm).1 (ok0 nm hnm).2 [] d (n + 1) k (by omega) (by omega) (by omega)
  obtain ⟨v, h1, h2, e3⟩ := draw_ev (tab := tab) ns n1 2 (by decide) k [] (by omega) (by omega)
  have hd' := hm.dep
  have hl := nms_len5 (m := m) (by omega)
  obtain ⟨m', ok', dep', e4⟩ := fresh_ev (tab := tab) (tw (n1 + 1)) m 0 k hm.ok (by omega) (by omega)
  have t0 : tw 0 = .lst [] := rfl
  have z := by simpa [nms] using e1
  by_cases q : v = 0
  · subst q
    refine ⟨m, n1 + 1, hm.ok, hm.dep, by omega, ?_⟩
    rw [callF_at (K78.h78 (tab := tab)) rfl]
    simp [f78__law_some, b78__law_some, getV, z, e2, e3]
  · refine ⟨m', n1 + 1, ok', by omega, by omega, ?_⟩
    have qv : (v == 0) = false := by rw [beq_eq_false_iff_ne]; exact q
    rw [t0] at e4
    rw [callF_at (K78.h78 (tab := tab)) rfl]
    simp [f78__law_some, b78__law_some, getV, z, e2, e3, qv, outN, e4]
end Hg
end
section
set_option Elab.async false
set_option linter.all false
set_option autoImplicit false
set_option maxRecDepth 100000
/-! P15: walks that gather and walks that ask all; arms in pairs; a rod's arms told anew. -/
namespace Hg
variable {tab : Nat → Option FD}
/-! ### walks -/
theorem forL_go {α : Type} {tg : Tg} {b : Env → M Fl} {g : α → D} {c : Cells} (I : List α → Env → Prop) : ∀ (xs done : List α) (env : Env), I done env → (∀ (pre : List α) (x : α) (post : List α), xs = pre ++ x :: post → ∀ env, I (done ++ pre) env → ∃ env1 env2, bindT tg (g x) env = some env1 ∧ b env1 c = .ok (.nx env2) c ∧ I (done ++ pre ++ [x]) env2) → ∃ env', forL tg b (xs.map g) env c = .ok (.nx env') c ∧ I (done ++ xs) env'
  | [], done, env, h, _ => ⟨env, rfl, by rwa [List.append_nil]⟩
  | x :: xs, done, env, h, hs => by
    obtain ⟨env1, env2, h1, h2, h3⟩ := hs [] x xs rfl env (by rwa [List.append_nil])
    rw [List.append_nil] at h3
    obtain ⟨env', h4, h5⟩ := forL_go (tg := tg) (b := b) (g := g) (c := c) I xs (done ++ [x]) env2 h3 fun pre y post e env hi => by
      have := hs (x :: pre) y post (by rw [e]; rfl) env (by simpa using hi)
      simpa using this
    refine ⟨env', ?_, by simpa using h5⟩
    rw [List.map_cons]
    simp only [forL, h1]
    simp [h2, h4]
/-- a walk that gathers: what holds after each item of it -/
theorem forL_acc {α : Type} {tg : Tg} {b : Env → M Fl} {g : α → D} {c : Cells} (I : List α → Env → Prop) (xs : List α) (env : Env) (h : I [] env) (hs : ∀ (pre : List α) (x : α) (post : List α), xs = pre ++ x :: post → ∀ env, I pre env → ∃ env1 env2, bindT tg (g x) env = some env1 ∧ b env1 c = .ok (.nx env2) c ∧ I (pre ++ [x]) env2) : ∃ env', forL tg b (xs.map g) env c = .ok (.nx env') c ∧ I xs env' :=
  forL_go I xs [] env h hs
theorem forL_ask {α : Type} {tg : Tg} {b : Env → M Fl} {g : α → D} {c : Cells} {p : α → Bool} {r : D} (I : Env → Prop) : ∀ (xs : List α) (env : Env), I env → (∀ x ∈ xs, ∀ (env : Env), I env → ∃ env1, bindT tg (g x) env = some env1 ∧ (p x = true → ∃ env2, b env1 c = .ok (.nx env2) c ∧ I env2) ∧ (p x = false → b env1 c = .ok (.rt r) c)) → (xs.all p = true → ∃ env', forL tg b (xs.map g) env c = .ok (.nx env') c ∧ I env') ∧ (xs.all p = false → forL tg b (xs.map g) env c = .ok (.rt r) c)
  | [], env, h, _ => ⟨fun _ => ⟨env, rfl, h⟩, fun h => by cases h⟩
  | x :: xs, env, h, hs => by
    obtain ⟨env1, h1, h2, h3⟩ := hs x List.mem_cons_self env h
    rw [List.map_cons]
    simp only [forL, h1]
    cases q : p x with
    | true =>
      obtain ⟨env2, h4, h5⟩ := h2 q
      have := forL_ask (tg := tg) (b := b) (g := g) (c := c) (p := p) (r := r) I xs env2 h5 fun y hy => hs y (List.mem_cons_of_mem _ hy)
      simpa [h4, q] using this
    | false => simp [h3 q, q]
/-! ### one to nine -/
def nine : List Int := [1, 2, 3, 4, 5, 6, 7, 8, 9]
theorem src_nine : srcD .rng2 [.int 1, .int 10] = some (nine.map .int) := rfl
theorem mem_nine {i : Int} : i ∈ nine ↔ 1 ≤ i ∧ i ≤ 9 := by
  simp only [nine, List.mem_cons, List.not_mem_nil, or_false]
  omega
def prAt (a b i : Int) : List (Int × Int) := (nine.filter fun j => decide (i * a = j * b)).map fun j => (i, j)
def prF (a b : Int) : List (Int × Int) := nine.flatMap (prAt a b)
def prD (p : Int × Int) : D := .tup [.int p.1, .int p.2]
theorem prAt_len (a b i : Int) : (prAt a b i).length ≤ 9 := by
  unfold prAt
  rw [List.length_map]
  exact Nat.le_trans (List.length_filter_le _ _) (by decide)
theorem prOn_len (a b : Int) : ∀ xs : List Int, (xs.flatMap (prAt a b)).length ≤ 9 * xs.length
  | [] => by simp
  | x :: xs => by
    have h1 := prOn_len a b xs
    have h2 := prAt_len a b x
    rw [List.flatMap_cons, List.length_append, List.length_cons]
    omega
/-- all arms by which a rod is still -/
theorem lpairs_ev [K60 tab] (a b : Int) (k : Nat) (c : Cells) (hk : 0 < k) (ha : a.natAbs < 2 ^ 64) (hb : b.natAbs < 2 ^ 64) : callF tab k 60 [.int a, .int b] c = .ok (.lst ((prF a b).map prD)) c := by
  obtain ⟨k, rfl⟩ : ∃ j, k = j + 1 := ⟨k - 1, by omega⟩
  rw [callF_at (K60.h60 (tab := tab)) rfl]
  have turn : ∀ (i : Int) (v2 v4 : Slot) (c : Cells), lcW (callF tab k) (.nm 4) (.cmp .eq (.bin .mul (.var 3) (.var 0)) (.bin .mul (.var 4) (.var 1))) (.tup [(.var 3), (.var 4)]) [.val (.int a), .val (.int b), v2, .val (.int i), v4] (nine.map .int) c = .ok ((prAt a b i).map prD) c := fun i v2 v4 c => by
    unfold lcW
    rw [lcL_filter (p := fun j => decide (i * a = j * b)) (f := fun j => prD (i, j)) nine [] c (fun j hj => ⟨[.val (.int a), .val (.int b), v2, .val (.int i), .val (.int j)], rfl, fun c => by
      simp [getV, mul_int i a (.inr ha), mul_int j b (.inr hb)]
      rfl, fun c _ => by simp [getV, prD]⟩) (by simp [nine])]
    simp [prAt, Function.comp_def]
  obtain ⟨env', e1, v3, v4, e2⟩ := forL_acc (tg := .nm 3) (b := evSs (callF tab k) wFuel [.ext 2 (.lc .rng2 [(.int 1), (.int 10)] (.nm 4) [4] (.cmp .eq (.bin .mul (.var 3) (.var 0)) (.bin .mul (.var 4) (.var 1))) (.tup [(.var 3), (.var 4)]))]) (g := D.int) (c := c) (fun done env => ∃ v3 v4, env = [.val (.int a), .val (.int b), .own (.lst ((done.flatMap (prAt a b)).map prD)), v3, v4]) nine _ ⟨.emp, .emp, rfl⟩ fun done x post e env ⟨v3, v4, h1⟩ => by
    have l1 := prOn_len a b done
    have l2 := prAt_len a b x
    have l4 := congrArg List.length e
    have l5 : nine.length = 9 := rfl
    rw [l5, List.length_append, List.length_cons] at l4
    have l3 : (done.flatMap (prAt a b)).length + (prAt a b x).length < 1000000 := by omega
    have l6 : done.flatMap (prAt a b) ++ prAt a b x = (done ++ [x]).flatMap (prAt a b) := by simp
    refine ⟨[.val (.int a), .val (.int b), .own (.lst ((done.flatMap (prAt a b)).map prD)), .val (.int x), v4], [.val (.int a), .val (.int b), .own (.lst (((done ++ [x]).flatMap (prAt a b)).map prD)), .val (.int x), v4], ?_, ?_, .val (.int x), v4, rfl⟩
    · rw [h1]; rfl
    · rw [← l6]
      generalize done.flatMap (prAt a b) = p at *
      simp [src_nine, wipeE, turn, getO, l3]
  rw [e2] at e1
  simp only [List.flatMap_nil, List.map_nil] at e1
  simp [f60__law_pairs, b60__law_pairs, getV, src_nine, forW, e1, getO, prF]
/-! ### so many ways, the least first -/
theorem prF_cut {a b : Nat} (ha : 0 < a) (hb : 0 < b) : prF a b = prF (red1 a b) (red2 a b) := by
  have h1 := red1_mul a b
  have h2 := red2_mul a b
  have hg : 0 < Nat.gcd a b := Nat.gcd_pos_of_pos_left _ ha
  unfold prF prAt
  congr 1
  funext i
  congr 1
  apply List.filter_congr
  intro j _
  congr 1
  have e1 : (a : Int) = (red1 a b : Int) * (Nat.gcd a b : Int) := by exact_mod_cast h1.symm
  have e2 : (b : Int) = (red2 a b : Int) * (Nat.gcd a b : Int) := by exact_mod_cast h2.symm
  apply propext
  conv => lhs; rw [e1, e2, ← Int.mul_assoc, ← Int.mul_assoc]
  exact ⟨fun h => Int.eq_of_mul_eq_mul_right (by omega) h, fun h => by rw [h]⟩
theorem pr_small : ∀ x ∈ List.range 10, ∀ y ∈ List.range 10, 0 < x → 0 < y → Nat.gcd x y = 1 → (prF (x : Int) (y : Int)).length = 9 / max y x ∧ (prF (x : Int) (y : Int)).head? = some ((y : Int), (x : Int)) := by decide +kernel
theorem prF_some {a b : Nat} (ha : 0 < a) (hb : 0 < b) (h : max (red2 a b) (red1 a b) ≤ 9) : (prF a b).length = 9 / max (red2 a b) (red1 a b) ∧ (prF a b).head? = some ((red2 a b : Int), (red1 a b : Int)) := by
  rw [prF_cut ha hb]
  exact pr_small _ (List.mem_range.mpr (by omega)) _ (List.mem_range.mpr (by omega)) (red1_pos ha) (red2_pos hb) (red_coprime ha)
theorem prF_none {a b : Nat} (ha : 0 < a) (hb : 0 < b) (h : ¬ max (red2 a b) (red1 a b) ≤ 9) : prF a b = [] := by
  rw [List.eq_nil_iff_forall_not_mem]
  intro p hp
  unfold prF at hp
  obtain ⟨i, hi, hp⟩ := List.mem_flatMap.mp hp
  unfold prAt at hp
  obtain ⟨j, hj, rfl⟩ := List.mem_map.mp hp
  rw [List.mem_filter, decide_eq_true_eq] at hj
  obtain ⟨hj, e⟩ := hj
  have i1 := mem_nine.mp hi
  have j1 := mem_nine.mp hj
  have hx : i.toNat * a = j.toNat * b := by
    have e1 : (i.toNat : Int) = i := by omega
    have e2 : (j.toNat : Int) = j := by omega
    have : ((i.toNat * a : Nat) : Int) = ((j.toNat * b : Nat) : Int) := by rw [Int.natCast_mul, Int.natCast_mul, e1, e2]; exact e
    exact_mod_cast this
  obtain ⟨e1, e2⟩ := red_like hb (show 0 < i.toNat by omega) (show a * i.toNat = j.toNat * b by rw [Nat.mul_comm]; exact hx)
  have l1 := red1_le j.toNat i.toNat
  have l2 := red2_le j.toNat i.toNat
  omega
theorem arm_pos (f : T → Int) : ∀ (m q : Mob), (∀ x ∈ m.nms, 1 ≤ f x) → armM f m = some q → 0 < armN f m
  | .w _, _, _, _ => Nat.zero_lt_one
  | .rod l r a b, q, hf, h => by
    have fa : ∀ x ∈ a.nms, 1 ≤ f x := fun x hx => hf x (by simp [Mob.nms, hx])
    have fb : ∀ x ∈ b.nms, 1 ≤ f x := fun x hx => hf x (by simp [Mob.nms, hx])
    simp only [armM] at h
    split at h
    · rename_i h9
      simp only [Option.bind_eq_bind, Option.bind_eq_some_iff, Option.some.injEq] at h
      obtain ⟨x, h1, y, h2, rfl⟩ := h
      have p1 := arm_pos f a x fa h1
      have p2 := arm_pos f b y fb h2
      have la := load_one a fa
      have p3 : 0 < redR f a b := red1_pos (by omega)
      simp only [armN]
      exact Nat.mul_pos (Nat.mul_pos (Nat.div_pos h9 (by omega)) p1) p2
    · cases h
/-! ### a rod's arms told anew, or none -/
def optD : Option Mob → D
  | some m => m.d
  | none => .non
theorem isn_optD (o : Option Mob) : isnD (optD o) = o.isNone := by
  cases o with
  | none => rfl
  | some m => cases m <;> rfl
theorem plain_optD (o : Option Mob) : plainD (optD o) = true := by
  cases o with
  | none => rfl
  | some m => exact mob_plain m
theorem non_in (x y : Option Mob) : cmpD .nin .non (.tup [optD x, optD y]) = some (x.isSome && y.isSome) := by
  have e : cmpD .nin .non (.tup [optD x, optD y]) = (inL .non [optD x, optD y]).map (!·) := rfl
  have p : ∀ o : Option Mob, eqD (optD o) .non = o.isNone := fun o => by
    cases o with
    | none => rfl
    | some m => cases m <;> rfl
  rw [e]
  unfold inL
  have p1 : plainD .non = true := rfl
  have p2 : plainDs [optD x, optD y] = true := by simp [plainDs, plain_optD]
  have p3 : min (depD .non) (depDs [optD x, optD y]) ≤ 64 := by
    have : depD .non = 0 := rfl
    omega
  simp only [p1, p2, p3, Bool.true_and, decide_true, if_true, Option.map_some, List.any_cons, List.any_nil, Bool.or_false, p]
  cases x <;> cases y <;> rfl
theorem larmed_ev [K61 tab] (kvs : List (T × D)) (f : T → Int) (m : Mob) : ∀ (k : Nat) (c : Cells), m.dep + 2 < k → m.dep ≤ 10 → (∀ x ∈ m.nms, lkD x kvs = some (.int (f x))) → (∀ x ∈ m.nms, 1 ≤ f x ∧ f x ≤ 999999) → callF tab k 61 [m.d, .dct kvs] c = .ok (optD (armM f m)) c := by
  induction m with
  | w n =>
    intro k c hk hd h hf
    obtain ⟨k, rfl⟩ : ∃ j, k = j + 1 := ⟨k - 1, by omega⟩
    rw [callF_at (K61.h61 (tab := tab)) rfl]
    simp [f61__law_armed, b61__law_armed, getV, i_w0, armM, optD]
  | rod l r a b iha ihb =>
    intro k c hk hd h hf
    obtain ⟨k, rfl⟩ : ∃ j, k = j + 1 := ⟨k - 1, by omega⟩
    simp only [Mob.dep] at hk hd
    have ha : ∀ x ∈ a.nms, lkD x kvs = some (.int (f x)) := fun x hx => h x (by simp [Mob.nms, hx])
    have hb : ∀ x ∈ b.nms, lkD x kvs = some (.int (f x)) := fun x hx => h x (by simp [Mob.nms, hx])
    have fa : ∀ x ∈ a.nms, 1 ≤ f x ∧ f x ≤ 999999 := fun x hx => hf x (by simp [Mob.nms, hx])
    have fb : ∀ x ∈ b.nms, 1 ≤ f x ∧ f x ≤ 999999 := fun x hx => hf x (by simp [Mob.nms, hx])
    have e1 := fun c => lload_ev (tab := tab) kvs f a k c (by omega) (by omega) ha
    have e2 := fun c => lload_ev (tab := tab) kvs f b k c (by omega) (by omega) hb
    have la := load_bound a fa
    have lb := load_bound b fb
    have ta := load_lt fa (by omega)
    have tb := load_lt fb (by omega)
    have p4 : ((2 : Int) ^ 40) = ((2 ^ 40 : Nat) : Int) := by decide
    have p5 : 2 ^ 40 < 2 ^ 64 := by decide
    have e3 := fun c => lpairs_ev (tab := tab) (a.load f) (b.load f) k c (by omega) (by omega) (by omega)
    have e4 := fun c => iha k c (by omega) (by omega) ha fa
    have e5 := fun c => ihb k c (by omega) (by omega) hb fb
    have t1 : (((a.load f).toNat : Nat) : Int) = a.load f := by omega
    have t2 : (((b.load f).toNat : Nat) : Int) = b.load f := by omega
    rw [callF_at (K61.h61 (tab := tab)) rfl]
    unfold armM
    by_cases g : max (redL f a b) (redR f a b) ≤ 9
    · rw [if_pos g]
      obtain ⟨g1, g2⟩ := prF_some (a := (a.load f).toNat) (b := (b.load f).toNat) (by omega) (by omega) g
      rw [t1, t2] at g1 g2
      obtain ⟨rest, hr⟩ : ∃ rest, prF (a.load f) (b.load f) = ((redL f a b : Int), (redR f a b : Int)) :: rest := by
        cases q : prF (a.load f) (b.load f) with
        | nil => rw [q] at g2; cases g2
        | cons p rest =>
          rw [q, List.head?_cons] at g2
          exact ⟨rest, by rw [Option.some.inj g2]; rfl⟩
      have dd : ∀ x y : Mob, (Mob.rod (redL f a b) (redR f a b) x y).d = .tup [.str (tx "rod"), .int (redL f a b), .int (redR f a b), x.d, y.d] := fun _ _ => rfl
      have pl : plainDs (List.map prD rest) = true := by
        generalize rest = rs
        induction rs with
        | nil => rfl
        | cons p ps ih => simp [plainDs, plainD, prD, ih]
      rw [hr] at e3
      generalize ((redL f a b : Nat) : Int) = X at *
      generalize ((redR f a b : Nat) : Int) = Y at *
      have ne : cmpD .ne (.lst (List.map prD ((X, Y) :: rest))) (.lst []) = some true := by
        have e : cmpD .ne (.lst (List.map prD ((X, Y) :: rest))) (.lst []) = (cmpD .eq (.lst (List.map prD ((X, Y) :: rest))) (.lst [])).map (!·) := rfl
        rw [e, eqO_lst_nil _ (by simp [plainDs, plainD, prD, pl])]
        rfl
      have i0 : ixD (.lst (List.map prD ((X, Y) :: rest))) (.int 0) = some (.tup [.int X, .int Y]) := ix_lst (by omega) rfl
      have nn := non_in (armM f a) (armM f b)
      cases qa : armM f a with
      | none =>
        rw [qa] at e4 nn
        simp only [List.map_cons] at e3 ne i0
        simp [f61__law_armed, b61__law_armed, getV, i_rod0, i_rod3, i_rod4, e1, e2, e3, e4, e5, ne, nn]
        rfl
      | some x =>
        rw [qa] at e4 nn
        cases qb : armM f b with
        | none =>
          rw [qb] at e5 nn
          simp only [List.map_cons] at e3 ne i0
          simp [f61__law_armed, b61__law_armed, getV, i_rod0, i_rod3, i_rod4, e1, e2, e3, e4, e5, ne, nn]
          rfl
        | some y =>
          rw [qb] at e5 nn
          simp only [List.map_cons] at e3 ne i0
          simp only [optD] at nn e4 e5
          have b1 := add_tup [.str (tx "rod")] [.int X, .int Y] (by simp)
          have b2 := add_tup [.str (tx "rod"), .int X, .int Y] [x.d, y.d] (by simp)
          simp only [List.cons_append, List.nil_append] at b1 b2
          simp [f61__law_armed, b61__law_armed, getV, i_rod0, i_rod3, i_rod4, e1, e2, e3, e4, e5, ne, nn, optD, i0, b1, b2, dd]
    · rw [if_neg g]
      have g1 := prF_none (a := (a.load f).toNat) (b := (b.load f).toNat) (by omega) (by omega) g
      rw [t1, t2] at g1
      rw [g1] at e3
      have z0 : cmpD .ne (.lst []) (.lst []) = some false := rfl
      simp [f61__law_armed, b61__law_armed, getV, i_rod0, i_rod3, i_rod4, e1, e2, e3, e4, e5, z0, optD]
/-! ### the ways counted rod by rod -/
def cntR (f : T → Int) : Mob → Nat
  | .w _ => 1
  | .rod _ _ a b => (prF (a.load f) (b.load f)).length
theorem cnt_armN (f : T → Int) : ∀ (m : Mob) (u : T), (∀ x ∈ m.nms, 1 ≤ f x) → ((m.rods u).map fun p => cntR f p.2).foldr (· * ·) 1 = armN f m
  | .w _, _, _ => rfl
  | .rod l r a b, u, hf => by
    have fa : ∀ x ∈ a.nms, 1 ≤ f x := fun x hx => hf x (by simp [Mob.nms, hx])
    have fb : ∀ x ∈ b.nms, 1 ≤ f x := fun x hx => hf x (by simp [Mob.nms, hx])
    have h1 := cnt_armN f a (u ++ tx "l") fa
    have h2 := cnt_armN f b (u ++ tx "r") fb
    have la := load_one a fa
    have lb := load_one b fb
    have t1 : (((a.load f).toNat : Nat) : Int) = a.load f := by omega
    have t2 : (((b.load f).toNat : Nat) : Int) = b.load f := by omega
    have h3 : (prF (a.load f) (b.load f)).length = 9 / max (redL f a b) (redR f a b) := by
      by_cases g : max (redL f a b) (redR f a b) ≤ 9
      · have := (prF_some (a := (a.load f).toNat) (b := (b.load f).toNat) (by omega) (by omega) g).1
        rw [t1, t2] at this
        exact this
      · have := prF_none (a := (a.load f).toNat) (b := (b.load f).toNat) (by omega) (by omega) g
        rw [t1, t2] at this
        rw [this, Nat.div_eq_of_lt (by omega)]
        rfl
    have pr : ∀ (xs ys : List Nat), (xs ++ ys).foldr (· * ·) 1 = xs.foldr (· * ·) 1 * ys.foldr (· * ·) 1 := fun xs ys => by
      induction xs with
      | nil => simp
      | cons x xs ih => simp only [List.cons_append, List.foldr_cons, ih, Nat.mul_assoc]
    simp only [Mob.rods, List.map_cons, List.map_append, List.foldr_cons, pr, h1, h2, (show cntR f (.rod l r a b) = (prF (a.load f) (b.load f)).length from rfl), h3, armN, Nat.mul_assoc]
/-! ### the law's own question: does it hang still -/
theorem rods_sub {m : Mob} {u : T} {p : T × Mob} (hp : p ∈ m.rods u) : ∃ l r a b, p.2 = .rod l r a b ∧ (∀ x ∈ a.nms, x ∈ m.nms) ∧ (∀ x ∈ b.nms, x ∈ m.nms) ∧ a.dep < m.dep ∧ b.dep < m.dep := by
  obtain ⟨v, _, _, _, h1, ⟨l, r, a, b, h2⟩, h3⟩ := rods_at m u p hp
  have h4 := at_nms h1
  rw [h2] at h3 h4
  simp only [Mob.dep, Mob.nms, List.mem_append] at h3 h4
  exact ⟨l, r, a, b, h2, fun x hx => h4 x (.inl hx), fun x hx => h4 x (.inr hx), by omega, by omega⟩
theorem rods_ok2 {m : Mob} (ho : m.ok = true) {u : T} {p : T × Mob} (hp : p ∈ m.rods u) : p.2.ok = true := by
  obtain ⟨v, _, _, _, h1, _, _⟩ := rods_at m u p hp
  exact at_ok ho h1
theorem lstill_ev [K56 tab] (kvs : List (T × D)) (f : T → Int) (m : Mob) (ho : m.ok = true) (k : Nat) (c : Cells) (hk : m.dep + 2 < k) (hd : m.dep ≤ 10) (h : ∀ x ∈ m.nms, lkD x kvs = some (.int (f x))) (hf : ∀ x ∈ m.nms, (f x).natAbs < 2 ^ 40) : callF tab k 56 [m.d, .dct kvs] c = .ok (.bl (still f m)) c := by
  obtain ⟨k, rfl⟩ : ∃ j, k = j + 1 := ⟨k - 1, by omega⟩
  have e1 := fun c => lrods_ev (tab := tab) m k (tx "") c (by omega) (by omega) (by rw [tx0]; omega)
  rw [callF_at (K56.h56 (tab := tab)) rfl]
  have go := forL_ask (tg := .tp [.nm 2, .nm 3]) (b := evSs (callF tab k) wFuel [.ifs (.cmp .ne (.bin .mul (.ix (.var 3) (.int 1)) (.call 30 [(.ix (.var 3) (.int 3)), (.var 1)])) (.bin .mul (.ix (.var 3) (.int 2)) (.call 30 [(.ix (.var 3) (.int 4)), (.var 1)]))) [.ret (.bl false)] []]) (g := rodD) (c := c) (p := fun p => decide (p.2.lf f = p.2.rt f)) (r := .bl false) (fun env => ∃ v2 v3, env = [.val m.d, .val (.dct kvs), v2, v3]) (m.rods (tx "")) _ ⟨.emp, .emp, rfl⟩ fun p hp env ⟨v2, v3, he⟩ => by
    obtain ⟨l, r, a, b, h2, na, nb, da, db⟩ := rods_sub hp
    have po := rods_ok2 ho hp
    obtain ⟨u, q⟩ := p
    dsimp only at h2 po
    subst h2
    have ar := arms_of po
    have g1 := fun c => lload_ev (tab := tab) kvs f a k c (by omega) (by omega) fun x hx => h x (na x hx)
    have g2 := fun c => lload_ev (tab := tab) kvs f b k c (by omega) (by omega) fun x hx => h x (nb x hx)
    have m1 := mul_int l (a.load f) (.inl (lt64 (by omega)))
    have m2 := mul_int r (b.load f) (.inl (lt64 (by omega)))
    have dr : rodD (u, Mob.rod l r a b) = .tup [.str u, (Mob.rod l r a b).d] := rfl
    refine ⟨[.val m.d, .val (.dct kvs), .val (.str u), .val (Mob.rod l r a b).d], by rw [he, dr]; simp, fun e => ?_, fun e => ?_⟩
    · have e : l * a.load f = r * b.load f := of_decide_eq_true e
      exact ⟨[.val m.d, .val (.dct kvs), .val (.str u), .val (Mob.rod l r a b).d], by simp [getV, i_rod1, i_rod2, i_rod3, i_rod4, g1, g2, m1, m2, e], _, _, rfl⟩
    · have e : ¬ l * a.load f = r * b.load f := of_decide_eq_false e
      simp [getV, i_rod1, i_rod2, i_rod3, i_rod4, g1, g2, m1, m2, e]
  unfold still
  cases q : (m.rods (tx "")).all fun p => decide (p.2.lf f = p.2.rt f) with
  | true =>
    obtain ⟨env', h1, v2, v3, h2⟩ := go.1 q
    rw [h2] at h1
    simp [f56__law_still, b56__law_still, getV, e1, forW, h1]
  | false =>
    have h1 := go.2 q
    simp [f56__law_still, b56__law_still, getV, e1, forW, h1]
end Hg
end
section
set_option Elab.async false
set_option linter.all false
set_option autoImplicit false
set_option maxRecDepth 100000
/-! k19: one weight changed: the plain law. -/
namespace Hg
variable {tab : Nat → Option FD}
/-- the weights with one of them another -/
def chg (ws : Ws) (n : T) (v : Int) : T → Int := fun x => if x = n then v else ws.of x
def made19 (m : Mob) (ws : Ws) : Ws := if m.bar = none then oneC m ws.of else []
theorem chg_iff {m : Mob} (ho : m.ok = true) (hd : m.dep ≤ 5) {ws : Ws} (hw : ws.ok) (hh : ws.has m) {n : T} (hn : n ∈ m.nms) (h2 : ∃ x ∈ m.nms, x ≠ n) {v : Int} (h1 : 1 ≤ v) (h9 : v ≤ 999999) : (still (chg ws n v) m = true ∧ v ≠ ws.of n) ↔ (n, v) ∈ made19 m ws := by
  have pos : ∀ x ∈ m.nms, 1 ≤ chg ws n v x := fun x hx => by
    unfold chg
    split
    · exact h1
    · exact (of_bound hw hh x hx).1
  unfold made19
  by_cases hb : m.bar = none
  · rw [if_pos hb, oneC_mem, still_lc ho hd hb]
    dsimp only
    rw [other_some ho hd hb hn]
    constructor
    · rintro ⟨⟨c, hc⟩, hne⟩
      refine ⟨hn, h2, h9, hne, c, fun x hx hxn => ?_, ?_⟩
      · have := hc x hx
        unfold chg at this
        rwa [if_neg hxn] at this
      · have := hc n hn
        unfold chg at this
        rwa [if_pos rfl] at this
    · rintro ⟨_, _, _, hne, c, hc, hv⟩
      refine ⟨⟨c, fun x hx => ?_⟩, hne⟩
      unfold chg
      by_cases e : x = n
      · rw [if_pos e, hv, e]
      · rw [if_neg e]; exact hc x hx e
  · rw [if_neg hb]
    constructor
    · rintro ⟨hs, _⟩
      exact absurd (bar_of_still ho (load_one m pos) hs) hb
    · intro h; cases h
theorem still56 [K56 tab] (m : Mob) (ho : m.ok = true) (hd : m.dep ≤ 5) (ws : Ws) (hw : ws.ok) (hh : ws.has m) (n : T) (v : Int) (h1 : 1 ≤ v ∧ v ≤ 999999) (c : Cells) : callF tab 60 56 [m.d, .dct (putD n (.int v) ws.bk)] c = .ok (.bl (still (chg ws n v) m)) c := by
  refine lstill_ev _ (chg ws n v) m ho 60 c (by omega) (by omega) (fun x hx => ?_) fun x hx => ?_
  · rw [lkD_putD]
    unfold chg
    split
    · rfl
    · exact of_bk ws x (hh x hx)
  · have := of_bound hw hh x hx
    have p : (2 : Nat) ^ 40 = 1099511627776 := by decide
    unfold chg
    split <;> omega
theorem mul_lst1 (xs : List D) (h : xs.length ≤ 1000) : binD .mul (.lst xs) (.int 1) = some (.lst xs) ∧ binD .mul (.lst xs) (.int 0) = some (.lst []) := by
  have : xs.length ≤ 10000 := by omega
  exact ⟨by simp [binD, this], by simp [binD, this]⟩
theorem in_made (m : Mob) (ws : Ws) (n : T) (v : Int) : cmpD .inn (.tup [.str n, .int v]) (.lst ((made19 m ws).map rowD)) = some (decide ((n, v) ∈ made19 m ws)) := in_rows (n, v) _
theorem k19_rest [K183 tab] (ns : List Int) (m : Mob) (ho : m.ok = true) (hd : m.dep ≤ 3) (ws : Ws) (hw : ws.ok) (hn : ws.map (·.1) = m.names) (s2 s3 s7 s10 s11 : Slot) (c : Cells) :
    evSs (callF tab 60) wFuel (b183_law.drop 8) [.val (.scr ns), .val (.cel 0), s2, s3, .val m.d, .val (.lst (m.names.map .str)), .val ws.d, s7, .emp, .emp, s10, s11, .emp, .emp, .emp, .emp] c = .ok (.rt (.bl true)) c := by
  have hh : ws.has m := fun x hx => by rw [hn]; exact names_mem.mpr hx
  have hd5 : m.dep ≤ 5 := by omega
  have nl := names_len hd5
  let F (s8 s9 s12 s13 s14 s15 : Slot) : Env := [.val (.scr ns), .val (.cel 0), s2, s3, .val m.d, .val (.lst (m.names.map .str)), .val ws.d, s7, s8, s9, s10, s11, s12, s13, s14, s15]
  have e1 : ∀ c, callF tab 60 76 [m.d, ws.d] c = .ok (.lst ((made19 m ws).map rowD)) c := fun c => one_changed_ev (tab := tab) m ws ho hd5 hw hh 60 c (by omega)
  have mlt : ((made19 m ws).map (·.1)).Pairwise (· < ·) := by
    unfold made19
    split
    · have sub : ∀ l : List T, (((l.filterMap fun n => (otherF m ws.of n).map fun v => (n, v))).map (·.1)).Sublist l := fun l => by
        induction l with
        | nil => exact .slnil
        | cons x l ih =>
          cases q : otherF m ws.of x with
          | none => rw [List.filterMap_cons_none (by rw [q]; rfl)]; exact ih.cons _
          | some v => rw [List.filterMap_cons_some (b := (x, v)) (by rw [q]; rfl)]; exact ih.cons₂ _
      exact (names_lt m).sublist (sub m.names)
    · simp
  have mlen : (made19 m ws).length ≤ 32 := by
    unfold made19
    split
    · exact Nat.le_trans (List.length_filterMap_le _ _) nl
    · simp
  have mem : ∀ p ∈ made19 m ws, p.1 ∈ m.nms ∧ (∃ x ∈ m.nms, x ≠ p.1) ∧ 1 ≤ p.2 ∧ p.2 ≤ 999999 ∧ p.2 ≠ ws.of p.1 ∧ still (chg ws p.1 p.2) m = true := fun p hp => by
    have hp' := hp
    unfold made19 at hp
    by_cases hb : m.bar = none
    · rw [if_pos hb] at hp
      obtain ⟨h1, h2⟩ := oneC_mem.mp hp
      obtain ⟨⟨x, hx, hne⟩, h3, h4, q, hq, hv⟩ := (other_some ho hd5 hb h1).mp h2
      have lx := lst_pos ho hd5 hb hx
      have ln := lst_pos ho hd5 hb h1
      have fx := (of_bound hw hh x hx).1
      have e := hq x hx hne
      have p1 : (0 : Rat) < (ws.of x : Rat) := by
        have : ((0 : Int) : Rat) < (ws.of x : Rat) := Rat.intCast_lt_intCast.mpr (by omega)
        exact this
      have p2 : (0 : Rat) < (m.lst.of x : Rat) := by
        have : ((0 : Int) : Rat) < (m.lst.of x : Rat) := Rat.intCast_lt_intCast.mpr (by omega)
        exact this
      have p3 : (0 : Rat) < (m.lst.of p.1 : Rat) := by
        have : ((0 : Int) : Rat) < (m.lst.of p.1 : Rat) := Rat.intCast_lt_intCast.mpr (by omega)
        exact this
      have qp : 0 < q := by
        rw [e] at p1
        exact (Rat.mul_pos_iff_of_pos_right p2).mp p1
      have vp : (0 : Rat) < (p.2 : Rat) := by rw [hv]; exact Rat.mul_pos qp p3
      have : (0 : Int) < p.2 := by
        have : ((0 : Int) : Rat) < (p.2 : Rat) := vp
        exact Rat.intCast_lt_intCast.mp this
      refine ⟨h1, ⟨x, hx, hne⟩, by omega, h3, h4, ?_⟩
      exact ((chg_iff ho hd5 hw hh h1 ⟨x, hx, hne⟩ (by omega) h3).mpr hp').1
    · rw [if_neg hb] at hp; cases hp
  have srt : primD .srt [.lst ((made19 m ws).map rowD)] = some (.lst ((made19 m ws).map rowD)) := by
    show srtD _ = _
    rw [srtD_rows _ (by omega), srt_rising mlt]
  have neq := ne_rows (made19 m ws) (made19 m ws)
  rw [decide_eq_true rfl] at neq
  have ll : primD .len [.lst (m.names.map .str)] = some (.int m.names.length) := by simp [primD]
  have sil : m.names.length = 1 → cmpD .ne (.lst ((made19 m ws).map rowD)) (.lst []) = some false := fun h => by
    have : made19 m ws = [] := by
      rw [List.eq_nil_iff_forall_not_mem]
      intro p hp
      obtain ⟨h1, ⟨x, hx, hne⟩, _⟩ := mem p hp
      obtain ⟨y, hy⟩ : ∃ y, m.names = [y] := by
        match hm : m.names, h with
        | [y], _ => exact ⟨y, rfl⟩
      have a1 := names_mem.mpr h1
      have a2 := names_mem.mpr hx
      rw [hy] at a1 a2
      exact hne ((List.mem_singleton.mp a2).trans (List.mem_singleton.mp a1).symm)
    rw [this]
    rfl
  have dw : primD .dict [ws.d] = some (.dct ws.bk) := by simp [Ws.d, pairsD_rows, dict_rows hw]
  have wkl : ws.bk.length ≤ 32 := by
    have := congrArg List.length hn
    rw [List.length_map] at this
    simp only [Ws.bk, List.length_map]
    omega
  have hbody : b183_law.drop 8 = [.set 8 (.call 76 [(.var 4), (.var 6)]), .ifs (.or (.cmp .ne (.var 8) (.prim .srt [(.var 8)])) (.and (.cmp .eq (.prim .len [(.var 5)]) (.int 1)) (.cmp .ne (.var 8) (.lst [])))) [.ret (.bl false)] [], .forr .e [(.var 8)] (.tp [(.nm 9), (.nm 12)]) [.setO 13 (.prim .dict [(.var 6)]), .put 13 (.var 9) (.var 12), .ifs (.or (.not (.prim (.isi .int) [(.var 12)])) (.not (.chn .le .le (.int 1) (.var 12) (.int 999999)))) [.ret (.bl false)] [], .ifs (.cmp .eq (.ix (.prim .dict [(.var 6)]) (.var 9)) (.var 12)) [.ret (.bl false)] [], .frz 13, .ifs (.not (.call 56 [(.var 4), (.var 13)])) [.ret (.bl false)] []], .forr .e [(.bin .mul (.var 5) (.prim .int1 [(.cmp .gt (.prim .len [(.var 5)]) (.int 1))]))] (.nm 9) [.forr .rng2 [(.int 1), (.int 61)] (.nm 12) [.setO 13 (.prim .dict [(.var 6)]), .set 14 (.osub 13 (.var 9)), .put 13 (.var 9) (.var 12), .frz 13, .set 15 (.and (.call 56 [(.var 4), (.var 13)]) (.cmp .ne (.var 12) (.var 14))), .ifs (.cmp .ne (.var 15) (.cmp .inn (.tup [(.var 9), (.var 12)]) (.var 8))) [.ret (.bl false)] []]], .ret (.bl true)] := rfl
  let S8 : Slot := .val (.lst ((made19 m ws).map rowD))
  have first : ∃ s9 s12 s13, forL (.tp [(.nm 9), (.nm 12)]) (evSs (callF tab 60) wFuel [.setO 13 (.prim .dict [(.var 6)]), .put 13 (.var 9) (.var 12), .ifs (.or (.not (.prim (.isi .int) [(.var 12)])) (.not (.chn .le .le (.int 1) (.var 12) (.int 999999)))) [.ret (.bl false)] [], .ifs (.cmp .eq (.ix (.prim .dict [(.var 6)]) (.var 9)) (.var 12)) [.ret (.bl false)] [], .frz 13, .ifs (.not (.call 56 [(.var 4), (.var 13)])) [.ret (.bl false)] []]) ((made19 m ws).map rowD) (F S8 .emp .emp .emp .emp .emp) c = .ok (.nx (F S8 s9 s12 s13 .emp .emp)) c := by
    obtain ⟨env', f1, s9, s12, s13, f2⟩ := forL_acc (tg := .tp [(.nm 9), (.nm 12)]) (b := evSs (callF tab 60) wFuel [.setO 13 (.prim .dict [(.var 6)]), .put 13 (.var 9) (.var 12), .ifs (.or (.not (.prim (.isi .int) [(.var 12)])) (.not (.chn .le .le (.int 1) (.var 12) (.int 999999)))) [.ret (.bl false)] [], .ifs (.cmp .eq (.ix (.prim .dict [(.var 6)]) (.var 9)) (.var 12)) [.ret (.bl false)] [], .frz 13, .ifs (.not (.call 56 [(.var 4), (.var 13)])) [.ret (.bl false)] []]) (g := rowD) (c := c) (fun _ env => ∃ s9 s12 s13, env = F S8 s9 s12 s13 .emp .emp) (made19 m ws) (F S8 .emp .emp .emp .emp .emp) ⟨_, _, _, rfl⟩ fun done p post e env ⟨s9, s12, s13, h⟩ => by
      obtain ⟨h1, h2, h3, h4, h5, h6⟩ := mem p (by rw [e]; simp)
      have k1 := still56 (tab := tab) m ho hd5 ws hw hh p.1 p.2 ⟨h3, h4⟩
      have k2 := of_bk ws p.1 (hh _ h1)
      have i0 : primD (.isi .int) [.int p.2] = some (.bl true) := rfl
      have k3 : (ws.of p.1 == p.2) = false := by rw [beq_eq_false_iff_ne]; exact fun z => h5 z.symm
      have wl2 : ws.bk.length < 1000000 := by omega
      refine ⟨F S8 (.val (.str p.1)) (.val (.int p.2)) s13 .emp .emp, F S8 (.val (.str p.1)) (.val (.int p.2)) (.val (.dct (putD p.1 (.int p.2) ws.bk))) .emp .emp, by rw [h]; rfl, ?_, _, _, _, rfl⟩
      rw [h6] at k1
      simp [F, getV, getO, dw, wl2, i0, h3, h4, k2, k3, k1]
    rw [f2] at f1
    exact ⟨s9, s12, s13, f1⟩
  obtain ⟨t9, t12, t13, first⟩ := first
  have srcR : srcD .rng2 [.int 1, .int 61] = some ((List.range 60).map fun (j : Nat) => .int (1 + (j : Int))) := rfl
  have inner : ∀ n ∈ m.nms, (∃ x ∈ m.nms, x ≠ n) → ∀ s12 s13 s14 s15, ∃ u12 u13 u14 u15, evSs (callF tab 60) wFuel [.forr .rng2 [(.int 1), (.int 61)] (.nm 12) [.setO 13 (.prim .dict [(.var 6)]), .set 14 (.osub 13 (.var 9)), .put 13 (.var 9) (.var 12), .frz 13, .set 15 (.and (.call 56 [(.var 4), (.var 13)]) (.cmp .ne (.var 12) (.var 14))), .ifs (.cmp .ne (.var 15) (.cmp .inn (.tup [(.var 9), (.var 12)]) (.var 8))) [.ret (.bl false)] []]] (F S8 (.val (.str n)) s12 s13 s14 s15) c = .ok (.nx (F S8 (.val (.str n)) u12 u13 u14 u15)) c := fun n hnm h2 s12 s13 s14 s15 => by
    obtain ⟨env', f1, u12, u13, u14, u15, f2⟩ := forL_acc (tg := .nm 12) (b := evSs (callF tab 60) wFuel [.setO 13 (.prim .dict [(.var 6)]), .set 14 (.osub 13 (.var 9)), .put 13 (.var 9) (.var 12), .frz 13, .set 15 (.and (.call 56 [(.var 4), (.var 13)]) (.cmp .ne (.var 12) (.var 14))), .ifs (.cmp .ne (.var 15) (.cmp .inn (.tup [(.var 9), (.var 12)]) (.var 8))) [.ret (.bl false)] []]) (g := fun (j : Nat) => D.int (1 + (j : Int))) (c := c) (fun _ env => ∃ s12 s13 s14 s15, env = F S8 (.val (.str n)) s12 s13 s14 s15) (List.range 60) (F S8 (.val (.str n)) s12 s13 s14 s15) ⟨_, _, _, _, rfl⟩ fun done j post e env ⟨s12, s13, s14, s15, h⟩ => by
      have hj : j < 60 := by
        have : j ∈ List.range 60 := by rw [e]; simp
        simpa using this
      obtain ⟨v, hv⟩ : ∃ v : Int, v = 1 + (j : Int) := ⟨_, rfl⟩
      have v1 : 1 ≤ v ∧ v ≤ 999999 := by omega
      have k1 := still56 (tab := tab) m ho hd5 ws hw hh n v v1
      have k2 := of_bk ws n (hh _ hnm)
      have k3 := chg_iff ho hd5 hw hh hnm h2 v1.1 v1.2
      have k4 := in_made m ws n v
      have wl2 : ws.bk.length < 1000000 := by omega
      have k5 : decide ((n, v) ∈ made19 m ws) = (still (chg ws n v) m && !(v == ws.of n)) := by
        rw [Bool.eq_iff_iff, decide_eq_true_eq, ← k3]
        simp
      rw [k5] at k4
      refine ⟨F S8 (.val (.str n)) (.val (.int v)) s13 s14 s15, F S8 (.val (.str n)) (.val (.int v)) (.val (.dct (putD n (.int v) ws.bk))) (.val (.int (ws.of n))) (.val (.bl (still (chg ws n v) m && !(v == ws.of n)))), by rw [h, hv]; rfl, ?_, _, _, _, _, rfl⟩
      cases hst : still (chg ws n v) m <;> cases hbq : (v == ws.of n) <;> rw [hst] at k1 k4 <;> rw [hbq] at k4 <;> simp [F, S8, getV, getO, dw, wl2, k2, k1, k4, hbq]
    rw [f2] at f1
    refine ⟨u12, u13, u14, u15, ?_⟩
    generalize ((List.range 60).map fun (j : Nat) => D.int (1 + (j : Int))) = rg at *
    simp [srcR, forW, f1]
  have second : ∃ env', forL (.nm 9) (evSs (callF tab 60) wFuel [.forr .rng2 [(.int 1), (.int 61)] (.nm 12) [.setO 13 (.prim .dict [(.var 6)]), .set 14 (.osub 13 (.var 9)), .put 13 (.var 9) (.var 12), .frz 13, .set 15 (.and (.call 56 [(.var 4), (.var 13)]) (.cmp .ne (.var 12) (.var 14))), .ifs (.cmp .ne (.var 15) (.cmp .inn (.tup [(.var 9), (.var 12)]) (.var 8))) [.ret (.bl false)] []]]) ((if 1 < m.names.length then m.names else []).map .str) (F S8 t9 t12 t13 .emp .emp) c = .ok (.nx env') c := by
    obtain ⟨env', f1, f2⟩ := forL_acc (tg := .nm 9) (b := evSs (callF tab 60) wFuel [.forr .rng2 [(.int 1), (.int 61)] (.nm 12) [.setO 13 (.prim .dict [(.var 6)]), .set 14 (.osub 13 (.var 9)), .put 13 (.var 9) (.var 12), .frz 13, .set 15 (.and (.call 56 [(.var 4), (.var 13)]) (.cmp .ne (.var 12) (.var 14))), .ifs (.cmp .ne (.var 15) (.cmp .inn (.tup [(.var 9), (.var 12)]) (.var 8))) [.ret (.bl false)] []]]) (g := D.str) (c := c) (fun _ env => ∃ s9 s12 s13 s14 s15, env = F S8 s9 s12 s13 s14 s15) (if 1 < m.names.length then m.names else []) (F S8 t9 t12 t13 .emp .emp) ⟨_, _, _, _, _, rfl⟩ fun done n post e env ⟨s9, s12, s13, s14, s15, h⟩ => by
      have hl : 1 < m.names.length := by
        by_cases q : 1 < m.names.length
        · exact q
        · rw [if_neg q] at e; simp at e
      rw [if_pos hl] at e
      have hnm : n ∈ m.names := by rw [e]; simp
      have h2 : ∃ x ∈ m.nms, x ≠ n := by
        have nd := rising_nodup (names_lt m)
        match hm : m.names, hl with
        | x :: y :: r, _ =>
          rw [hm] at nd
          have hxy : x ≠ y := by
            rw [List.nodup_cons] at nd
            intro z; exact nd.1 (by rw [z]; simp)
          by_cases q : x = n
          · exact ⟨y, names_mem.mp (by rw [hm]; simp), fun z => hxy (q.trans z.symm)⟩
          · exact ⟨x, names_mem.mp (by rw [hm]; simp), q⟩
      obtain ⟨u12, u13, u14, u15, g⟩ := inner n (names_mem.mp hnm) h2 s12 s13 s14 s15
      exact ⟨F S8 (.val (.str n)) s12 s13 s14 s15, _, by rw [h]; rfl, g, _, _, _, _, _, rfl⟩
    exact ⟨env', f1⟩
  obtain ⟨env', second⟩ := second
  have mulN : binD .mul (.lst (m.names.map .str)) (.int (if 1 < m.names.length then 1 else 0)) = some (.lst ((if 1 < m.names.length then m.names else []).map .str)) := by
    have := mul_lst1 (m.names.map D.str) (by rw [List.length_map]; omega)
    by_cases q : 1 < m.names.length
    · rw [if_pos q, if_pos q]; exact this.1
    · rw [if_neg q, if_neg q]; exact this.2
  rw [hbody]
  rw [sq_nx (env' := F S8 .emp .emp .emp .emp .emp) (c' := c) (by simp [getV, e1, F, S8])]
  rw [sq_nx (env' := F S8 .emp .emp .emp .emp .emp) (c' := c) (by
    have g8 : getV (F S8 .emp .emp .emp .emp .emp) 8 = some (.lst ((made19 m ws).map rowD)) := rfl
    have g5 : getV (F S8 .emp .emp .emp .emp .emp) 5 = some (.lst (m.names.map .str)) := rfl
    by_cases q : m.names.length = 1
    · have s := sil q
      have l1 : ((m.names.length : Int) == 1) = true := by rw [q]; rfl
      generalize (made19 m ws).map rowD = mr at *
      generalize m.names.map D.str = nr at *
      simp [g8, g5, srt, neq, ll, l1, s]
    · have l1 : ((m.names.length : Int) == 1) = false := by rw [beq_eq_false_iff_ne]; omega
      generalize (made19 m ws).map rowD = mr at *
      generalize m.names.map D.str = nr at *
      simp [g8, g5, srt, neq, ll, l1])]
  rw [sq_nx (env' := F S8 t9 t12 t13 .emp .emp) (c' := c) (by
    have g8 : getV (F S8 .emp .emp .emp .emp .emp) 8 = some (.lst ((made19 m ws).map rowD)) := rfl
    rw [evS_forr]
    simp only [evEs_cons, evEs_nil, evE_var, ap_bind, ap_pure, g8, ap_ofO_some, src_e_lst]
    exact first)]
  rw [sq_nx (env' := env') (c' := c) (by
    have g5 : getV (F S8 t9 t12 t13 .emp .emp) 5 = some (.lst (m.names.map .str)) := rfl
    have i1 : ∀ q : Bool, primD .int1 [.bl q] = some (.int (if q then 1 else 0)) := fun q => rfl
    have d1 : (if decide ((1 : Int) < (m.names.length : Int)) = true then (1 : Int) else 0) = if 1 < m.names.length then 1 else 0 := by
      by_cases q : 1 < m.names.length
      · rw [if_pos q, if_pos (decide_eq_true (by omega))]
      · rw [if_neg q, if_neg]
        rw [decide_eq_true_eq]; omega
    rw [evS_forr]
    simp only [evEs_cons, evEs_nil, evE_bin, evE_prim, evE_cmp, evE_int, evE_var, ap_bind, ap_pure, g5, ap_ofO_some, ll, cmp_gt_int, i1, d1, mulN, src_e_lst]
    exact second)]
  rw [ss_rt (d := .bl true) (c' := c) (by simp)]
theorem k19_law [K183 tab] (ns : List Int) : ∃ c, callF tab 61 183 [.scr ns] [] = .ok (.bl true) c := by
  obtain ⟨w, w0, w1, e1⟩ := draw_ev (tab := tab) ns 0 3 (by omega) 60 [] (by omega) (by omega)
  obtain ⟨v, v0, v1, e2⟩ := draw_ev (tab := tab) ns 1 3 (by omega) 60 [] (by omega) (by omega)
  obtain ⟨m, n1, ho, hd, hn1, e3⟩ := some_ev (tab := tab) ns 3 2 60 (by omega) (by omega) (by omega)
  have e1 : callF tab 60 21 [.scr ns, .cel 0, .int 3] [.lst []] = .ok (.int w) [tw 1] := e1
  have e3 : callF tab 60 25 [.scr ns, .cel 0, .int 3] [tw 2] = .ok m.d [tw n1] := e3
  have hd5 : m.dep ≤ 5 := by omega
  have nl := names_len hd5
  have e4 := fun c => lnames_ev (tab := tab) m 60 c (by omega) hd5
  obtain ⟨ws0, wo0, wn0, _, e5⟩ := lweights_ev (tab := tab) ns m.names (names_lt m) (fun x hx => nms_ok m ho x (names_mem.mp hx)) (by omega) n1 60 [] (by omega) (by omega)
  let n2 : Nat := n1 + 1 + m.names.length
  have e5 : callF tab 60 29 [.scr ns, .cel 0, .lst (m.names.map .str)] [tw n1] = .ok ws0.d [tw n2] := e5
  have e6 := fun c => bar_ev (tab := tab) m ho hd5 60 c (by omega)
  have e7 := fun c => least_ev (tab := tab) m ho hd5 60 c (by omega)
  have ll := lst_len hd5
  let G (s7 s9 s12 : Slot) : Env := [.val (.scr ns), .val (.cel 0), .val (.int w), .val (.int (1 + v)), .val m.d, .val (.lst (m.names.map .str)), .val ws0.d, s7, .emp, s9, .emp, .emp, s12, .emp, .emp, .emp]
  have cm : ∀ s7 c, lcW (callF tab 60) (.tp [(.nm 9), (.nm 12)]) (.bl true) (.var 12) (G s7 .emp .emp) (m.lst.map rowD) c = .ok (m.lst.map fun p => .int p.2) c := fun s7 c => by
    unfold lcW
    rw [lcL_map (f := fun p => .int p.2) m.lst [] c (fun p hp => ⟨G s7 (.val (.str p.1)) (.val (.int p.2)), rfl, fun c => by simp, fun c => by simp [G, getV]⟩) (by simp; omega)]
    simp
  have cr : ∀ s7 c, lcW (callF tab 60) (.tp [(.nm 9), (.nm 12)]) (.bl true) (.tup [(.var 9), (.bin .mul (.var 12) (.var 3))]) (G s7 .emp .emp) (m.lst.map rowD) c = .ok ((m.lst.times (1 + v)).map rowD) c := fun s7 c => by
    unfold lcW
    rw [lcL_map (f := fun p => rowD (p.1, p.2 * (1 + v))) m.lst [] c (fun p hp => ⟨G s7 (.val (.str p.1)) (.val (.int p.2)), rfl, fun c => by simp, fun c => by simp [G, getV, mul_int p.2 (1 + v) (.inr (lt64 (by omega))), rowD]⟩) (by simp; omega)]
    simp [Ws.times]
  have mx : primD .max1 [.lst (m.lst.map fun p => .int p.2)] = some (.int m.lst.max) := by rw [pr_max1, max_ws (lst_ne m)]; rfl
  have lowE : evE (callF tab 60) (.and (.isn (.call 66 [(.var 4)])) (.cmp .lt (.prim .max1 [(.lc .e [(.call 71 [(.var 4)])] (.tp [(.nm 9), (.nm 12)]) [9, 12] (.bl true) (.var 12))]) (.int 300000))) (G .emp .emp .emp) [tw n2] = .ok (.bl (decide (m.bar = none ∧ m.lst.max < 300000))) [tw n2] := by
    have g4 : getV (G .emp .emp .emp) 4 = some m.d := rfl
    have wp : wipeE (G .emp .emp .emp) [9, 12] = G .emp .emp .emp := rfl
    by_cases hb : m.bar = none
    · rw [hb] at e6
      simp only [hb, if_true] at e7
      have z : m.lst.d = .tup (m.lst.map rowD) := rfl
      rw [z] at e7
      generalize (m.lst.map fun p => D.int p.2) = mi at *
      generalize m.lst.map rowD = mr at *
      simp [g4, e6, e7, barD, wp, cm, mx, hb]
    · have : isnD (barD m.bar) = false := by
        rw [isnD_barD]
        cases h : m.bar with
        | none => exact absurd h hb
        | some x => rfl
      simp [g4, e6, this, hb]
  have eighth : ∃ (ws : Ws) (s10 s11 : Slot) (n3 : Nat), ws.ok ∧ ws.map (·.1) = m.names ∧ evS (callF tab 60) wFuel (.ifs (.and (.cmp .gt (.var 2) (.int 0)) (.var 7)) [.set 6 (.prim .tupl [(.lc .e [(.call 71 [(.var 4)])] (.tp [(.nm 9), (.nm 12)]) [9, 12] (.bl true) (.tup [(.var 9), (.bin .mul (.var 12) (.var 3))]))]), .set 10 (.call 21 [(.var 0), (.var 1), (.prim .len [(.var 5)])]), .set 11 (.tup [(.tup [(.ix (.var 5) (.var 10)), (.bin .add (.int 1) (.call 21 [(.var 0), (.var 1), (.int 20)]))])]), .set 6 (.bin .add (.bin .add (.sl (.var 6) .non (.var 10)) (.var 11)) (.sl (.var 6) (.bin .add (.var 10) (.int 1)) .non))] []) (G (.val (.bl (decide (m.bar = none ∧ m.lst.max < 300000)))) .emp .emp) [tw n2] = .ok (.nx [.val (.scr ns), .val (.cel 0), .val (.int w), .val (.int (1 + v)), .val m.d, .val (.lst (m.names.map .str)), .val ws.d, .val (.bl (decide (m.bar = none ∧ m.lst.max < 300000))), .emp, .emp, s10, s11, .emp, .emp, .emp, .emp]) [tw n3] := by
    by_cases hc : 0 < w ∧ m.bar = none ∧ m.lst.max < 300000
    · obtain ⟨hw, hb, hm⟩ := hc
      simp only [hb, if_true] at e7
      have ln : 0 < m.names.length := List.length_pos_iff.mpr (names_ne m)
      obtain ⟨j, j0, j1, f1⟩ := draw_ev (tab := tab) ns n2 (m.names.map D.str).length (by rw [List.length_map]; omega) 60 [] (by omega) (by omega)
      rw [List.length_map] at j1
      obtain ⟨jj, rfl⟩ : ∃ jj : Nat, j = jj := ⟨j.toNat, by omega⟩
      obtain ⟨y, y0, y1, f2⟩ := draw_ev (tab := tab) ns (n2 + 1) 20 (by omega) 60 [] (by omega) (by omega)
      let g : Ws := m.lst.times (1 + v)
      have gn : g.map (·.1) = m.names := by rw [times_names, lst_names]
      have glen : g.length = m.names.length := by rw [← gn, List.length_map]
      have jlt : jj < g.length := by omega
      have hp : g[jj]? = some g[jj] := List.getElem?_eq_getElem jlt
      have gok : g.ok := ⟨by rw [gn]; exact names_lt m, fun p hp => by
        have : p.1 ∈ m.names := by rw [← gn]; exact List.mem_map.mpr ⟨p, hp, rfl⟩
        exact nms_ok m ho _ (names_mem.mp this), fun p hp => by
        obtain ⟨q, hq, rfl⟩ := List.mem_map.mp hp
        have hn : q.1 ∈ m.nms := names_mem.mp (by rw [← lst_names m]; exact List.mem_map.mpr ⟨q, hq, rfl⟩)
        have h := lst_pos ho hd5 hb hn
        rw [of_rising (lst_rising m) (show (q.1, q.2) ∈ m.lst from hq)] at h
        have h2 := max_ge q hq
        dsimp only
        rcases (show v = 0 ∨ v = 1 ∨ v = 2 by omega) with rfl | rfl | rfl <;> omega, by omega⟩
      have nj : m.names[jj]? = some (g[jj].1) := by
        rw [← gn, List.getElem?_map, hp]; rfl
      refine ⟨g.one jj (1 + y), .val (.int jj), .val (.tup [.tup [.str g[jj].1, .int (1 + y)]]), n2 + 1 + 1, gok.one hp ⟨by omega, by omega⟩, by rw [one_names hp, gn], ?_⟩
      have wc : ((0 : Int) < w) = True := by simp [hw]
      have lo : decide (m.bar = none ∧ m.lst.max < 300000) = true := decide_eq_true ⟨hb, hm⟩
      have z : m.lst.d = .tup (m.lst.map rowD) := rfl
      rw [z] at e7
      have x5 : ixD (.lst (m.names.map .str)) (.int jj) = some (.str g[jj].1) := ix_lst (by omega) (by rw [Int.toNat_natCast, List.getElem?_map, nj]; rfl)
      have f1 : callF tab 60 21 [.scr ns, .cel 0, .int ((m.names.map D.str).length : Nat)] [tw n2] = .ok (.int jj) [tw (n2 + 1)] := f1
      have l5 : primD .len [.lst (m.names.map .str)] = some (.int ((m.names.map D.str).length : Nat)) := rfl
      have sl1 : slD g.d .non (.int jj) = some (.tup ((g.take jj).map rowD)) := by
        have := sl_take (g.map rowD) jj (by omega)
        rw [Int.toNat_natCast, ← List.map_take] at this
        exact this
      have sl2 : slD g.d (.int ((jj : Int) + 1)) .non = some (.tup ((g.drop (jj + 1)).map rowD)) := by
        have := sl_drop (g.map rowD) ((jj : Int) + 1) (by omega)
        rw [show ((jj : Int) + 1).toNat = jj + 1 by omega, ← List.map_drop] at this
        exact this
      have a1 := add_tup ((g.take jj).map rowD) [.tup [.str g[jj].1, .int (1 + y)]] (by simp; omega)
      have a2 := add_tup ((g.take jj).map rowD ++ [.tup [.str g[jj].1, .int (1 + y)]]) ((g.drop (jj + 1)).map rowD) (by simp; omega)
      have od : (g.one jj (1 + y)).d = .tup ((g.take jj).map rowD ++ [.tup [.str g[jj].1, .int (1 + y)]] ++ (g.drop (jj + 1)).map rowD) := by
        have e : (g.map (·.1)).getD jj [] = g[jj].1 := by
          rw [List.getD_eq_getElem?_getD, List.getElem?_map, hp]; rfl
        unfold Ws.d Ws.one
        rw [e]
        simp [rowD]
      have wp : wipeE (G (.val (.bl true)) .emp .emp) [9, 12] = G (.val (.bl true)) .emp .emp := rfl
      have gd : D.tup (g.map rowD) = g.d := rfl
      have cr' := cr (.val (.bl true))
      have cr' : ∀ c, lcW (callF tab 60) (.tp [(.nm 9), (.nm 12)]) (.bl true) (.tup [(.var 9), (.bin .mul (.var 12) (.var 3))]) (G (.val (.bl true)) .emp .emp) (m.lst.map rowD) c = .ok (g.map rowD) c := cr'
      rw [od, lo]
      let G2 (s6 s10 s11 : Slot) : Env := [.val (.scr ns), .val (.cel 0), .val (.int w), .val (.int (1 + v)), .val m.d, .val (.lst (m.names.map .str)), s6, .val (.bl true), .emp, .emp, s10, s11, .emp, .emp, .emp, .emp]
      have b1 : evE (callF tab 60) (.and (.cmp .gt (.var 2) (.int 0)) (.var 7)) (G (.val (.bl true)) .emp .emp) [tw n2] = .ok (.bl true) [tw n2] := by simp [G, getV, hw]
      rw [evS_ifs, ap_bind, ap_toB, b1]
      simp only [toBl_bl, ap_ofO_some, if_true]
      rw [sq_nx (env' := G2 (.val g.d) .emp .emp) (c' := [tw n2]) (by
        have g4 : getV (G (.val (.bl true)) .emp .emp) 4 = some m.d := rfl
        simp only [evS_set, evE_prim, evE_lc, evEs_cons, evEs_nil, evE_call, evE_var, ap_bind, ap_pure, g4, ap_ofO_some, e7, src_e_tup, wp, ap_calm, cr', pr_tupl_lst]
        rfl)]
      rw [sq_nx (env' := G2 (.val g.d) (.val (.int jj)) .emp) (c' := [tw (n2 + 1)]) (by
        have g5 : getV (G2 (.val g.d) .emp .emp) 5 = some (.lst (m.names.map .str)) := rfl
        have g0 : getV (G2 (.val g.d) .emp .emp) 0 = some (.scr ns) := rfl
        have g1 : getV (G2 (.val g.d) .emp .emp) 1 = some (.cel 0) := rfl
        simp only [evS_set, evE_call, evE_prim, evEs_cons, evEs_nil, evE_var, ap_bind, ap_pure, g5, g0, g1, ap_ofO_some, l5, f1]
        rfl)]
      rw [sq_nx (env' := G2 (.val g.d) (.val (.int jj)) (.val (.tup [.tup [.str g[jj].1, .int (1 + y)]]))) (c' := [tw (n2 + 1 + 1)]) (by
        have g5 : getV (G2 (.val g.d) (.val (.int jj)) .emp) 5 = some (.lst (m.names.map .str)) := rfl
        have g10 : getV (G2 (.val g.d) (.val (.int jj)) .emp) 10 = some (.int jj) := rfl
        have g0 : getV (G2 (.val g.d) (.val (.int jj)) .emp) 0 = some (.scr ns) := rfl
        have g1 : getV (G2 (.val g.d) (.val (.int jj)) .emp) 1 = some (.cel 0) := rfl
        simp only [evS_set, evE_tup, evE_ix, evE_bin, evE_call, evE_int, evEs_cons, evEs_nil, evE_var, ap_bind, ap_pure, g5, g10, g0, g1, ap_ofO_some, x5, f2, add_int]
        rfl)]
      rw [sq_nx (env' := G2 (.val (.tup ((g.take jj).map rowD ++ [.tup [.str g[jj].1, .int (1 + y)]] ++ (g.drop (jj + 1)).map rowD))) (.val (.int jj)) (.val (.tup [.tup [.str g[jj].1, .int (1 + y)]]))) (c' := [tw (n2 + 1 + 1)]) (by
        have g6 : getV (G2 (.val g.d) (.val (.int jj)) (.val (.tup [.tup [.str g[jj].1, .int (1 + y)]]))) 6 = some g.d := rfl
        have g10 : getV (G2 (.val g.d) (.val (.int jj)) (.val (.tup [.tup [.str g[jj].1, .int (1 + y)]]))) 10 = some (.int jj) := rfl
        have g11 : getV (G2 (.val g.d) (.val (.int jj)) (.val (.tup [.tup [.str g[jj].1, .int (1 + y)]]))) 11 = some (.tup [.tup [.str g[jj].1, .int (1 + y)]]) := rfl
        simp only [evS_set, evE_sl, evE_bin, evE_int, evE_non, evE_var, ap_bind, ap_pure, ap_evB, bOk_non, bOk_int, if_true, g6, g10, g11, ap_ofO_some, sl1, add_int, sl2, a1, a2]
        rfl)]
      rfl
    · refine ⟨ws0, .emp, .emp, n2, wo0, wn0, ?_⟩
      have b1 : evE (callF tab 60) (.and (.cmp .gt (.var 2) (.int 0)) (.var 7)) (G (.val (.bl (decide (m.bar = none ∧ m.lst.max < 300000)))) .emp .emp) [tw n2] = .ok (.bl false) [tw n2] := by
        by_cases hw : 0 < w
        · have : decide (m.bar = none ∧ m.lst.max < 300000) = false := decide_eq_false fun h => hc ⟨hw, h⟩
          rw [this]
          simp [G, getV, hw]
        · simp [G, getV, hw]
      rw [evS_ifs, ap_bind, ap_toB, b1]
      rfl
  obtain ⟨ws, s10, s11, n3, wo, wn, e8⟩ := eighth
  refine ⟨[], ?_⟩
  rw [callF_at (K183.h183 (tab := tab)) rfl]
  show outF 0 (evSs (callF tab 60) wFuel b183_law [.val (.scr ns), .emp, .emp, .emp, .emp, .emp, .emp, .emp, .emp, .emp, .emp, .emp, .emp, .emp, .emp, .emp] []) = _
  rw [← List.take_append_drop 8 b183_law]
  have hb : b183_law.take 8 ++ b183_law.drop 8 = .setN 1 (.lst []) :: .set 2 (.call 21 [(.var 0), (.var 1), (.int 3)]) :: .set 3 (.bin .add (.int 1) (.call 21 [(.var 0), (.var 1), (.int 3)])) :: .set 4 (.call 25 [(.var 0), (.var 1), (.int 3)]) :: .set 5 (.call 28 [(.var 4)]) :: .set 6 (.call 29 [(.var 0), (.var 1), (.var 5)]) :: .set 7 (.and (.isn (.call 66 [(.var 4)])) (.cmp .lt (.prim .max1 [(.lc .e [(.call 71 [(.var 4)])] (.tp [(.nm 9), (.nm 12)]) [9, 12] (.bl true) (.var 12))]) (.int 300000))) :: .ifs (.and (.cmp .gt (.var 2) (.int 0)) (.var 7)) [.set 6 (.prim .tupl [(.lc .e [(.call 71 [(.var 4)])] (.tp [(.nm 9), (.nm 12)]) [9, 12] (.bl true) (.tup [(.var 9), (.bin .mul (.var 12) (.var 3))]))]), .set 10 (.call 21 [(.var 0), (.var 1), (.prim .len [(.var 5)])]), .set 11 (.tup [(.tup [(.ix (.var 5) (.var 10)), (.bin .add (.int 1) (.call 21 [(.var 0), (.var 1), (.int 20)]))])]), .set 6 (.bin .add (.bin .add (.sl (.var 6) .non (.var 10)) (.var 11)) (.sl (.var 6) (.bin .add (.var 10) (.int 1)) .non))] [] :: b183_law.drop 8 := rfl
  rw [hb]
  rw [sq_nx (env' := [.val (.scr ns), .val (.cel 0), .emp, .emp, .emp, .emp, .emp, .emp, .emp, .emp, .emp, .emp, .emp, .emp, .emp, .emp]) (c' := [.lst []]) (by simp)]
  rw [sq_nx (env' := [.val (.scr ns), .val (.cel 0), .val (.int w), .emp, .emp, .emp, .emp, .emp, .emp, .emp, .emp, .emp, .emp, .emp, .emp, .emp]) (c' := [tw 1]) (by simp [getV, e1])]
  rw [sq_nx (env' := [.val (.scr ns), .val (.cel 0), .val (.int w), .val (.int (1 + v)), .emp, .emp, .emp, .emp, .emp, .emp, .emp, .emp, .emp, .emp, .emp, .emp]) (c' := [tw 2]) (by simp [getV, e2])]
  rw [sq_nx (env' := [.val (.scr ns), .val (.cel 0), .val (.int w), .val (.int (1 + v)), .val m.d, .emp, .emp, .emp, .emp, .emp, .emp, .emp, .emp, .emp, .emp, .emp]) (c' := [tw n1]) (by simp [getV, e3])]
  rw [sq_nx (env' := [.val (.scr ns), .val (.cel 0), .val (.int w), .val (.int (1 + v)), .val m.d, .val (.lst (m.names.map .str)), .emp, .emp, .emp, .emp, .emp, .emp, .emp, .emp, .emp, .emp]) (c' := [tw n1]) (by simp [getV, e4])]
  rw [sq_nx (env' := G .emp .emp .emp) (c' := [tw n2]) (by
    have g0 : getV [.val (.scr ns), .val (.cel 0), .val (.int w), .val (.int (1 + v)), .val m.d, .val (.lst (m.names.map .str)), .emp, .emp, .emp, .emp, .emp, .emp, .emp, .emp, .emp, .emp] 0 = some (.scr ns) := rfl
    have g1 : getV [.val (.scr ns), .val (.cel 0), .val (.int w), .val (.int (1 + v)), .val m.d, .val (.lst (m.names.map .str)), .emp, .emp, .emp, .emp, .emp, .emp, .emp, .emp, .emp, .emp] 1 = some (.cel 0) := rfl
    have g5 : getV [.val (.scr ns), .val (.cel 0), .val (.int w), .val (.int (1 + v)), .val m.d, .val (.lst (m.names.map .str)), .emp, .emp, .emp, .emp, .emp, .emp, .emp, .emp, .emp, .emp] 5 = some (.lst (m.names.map .str)) := rfl
    simp only [evS_set, evE_call, evEs_cons, evEs_nil, evE_var, ap_bind, ap_pure, g0, g1, g5, ap_ofO_some, e5]
    rfl)]
  rw [sq_nx (env' := G (.val (.bl (decide (m.bar = none ∧ m.lst.max < 300000)))) .emp .emp) (c' := [tw n2]) (by rw [evS_set, ap_bind, lowE]; rfl)]
  rw [sq_nx e8]
  rw [k19_rest (tab := tab) ns m ho hd ws wo wn (.val (.int w)) (.val (.int (1 + v))) (.val (.bl (decide (m.bar = none ∧ m.lst.max < 300000)))) s10 s11 [tw n3]]
  simp
end Hg
end
section
set_option Elab.async false
set_option linter.all false
set_option autoImplicit false
set_option maxRecDepth 100000
set_option maxHeartbeats 0
namespace Hk19
open Hg PySem PySem.Spec PyProof.Rows L2
abbrev prg : Program := PySem.Challenge.pw_hangstill_k19_whole_one_changed
def r0_is_whole : DR := ⟨0, (tx "is_whole"), 10, n0_is_whole, 3, b0_is_whole⟩
def r1_is_name : DR := ⟨1, (tx "is_name"), 11, n1_is_name, 1, b1_is_name⟩
def r2_is_part : DR := ⟨2, (tx "is_part"), 12, n2_is_part, 2, b2_is_part⟩
def r3_is_mobile : DR := ⟨3, (tx "is_mobile"), 13, n3_is_mobile, 1, b3_is_mobile⟩
def r4_need_mobile : DR := ⟨4, (tx "need_mobile"), 14, n4_need_mobile, 1, b4_need_mobile⟩
def r5_leaves_of : DR := ⟨5, (tx "leaves_of"), 15, n5_leaves_of, 2, b5_leaves_of⟩
def r6_names_of : DR := ⟨6, (tx "names_of"), 16, n6_names_of, 1, b6_names_of⟩
def r7_are_weights : DR := ⟨7, (tx "are_weights"), 17, n7_are_weights, 1, b7_are_weights⟩
def r8_need_weights : DR := ⟨8, (tx "need_weights"), 18, n8_need_weights, 2, b8_need_weights⟩
def r38_reduced : DR := ⟨38, (tx "reduced"), 20, n38_reduced, 2, b38_reduced⟩
def r63_shares_of : DR := ⟨63, (tx "shares_of"), 21, n63_shares_of, 2, b63_shares_of⟩
def r64_rows_of : DR := ⟨64, (tx "rows_of"), 22, n64_rows_of, 1, b64_rows_of⟩
def r65_bar_of : DR := ⟨65, (tx "bar_of"), 23, n65_bar_of, 1, b65_bar_of⟩
def r66_bar : DR := ⟨66, (tx "bar"), 24, n66_bar, 1, b66_bar⟩
def r67_book_of : DR := ⟨67, (tx "book_of"), 25, n67_book_of, 1, b67_book_of⟩
def r68_common : DR := ⟨68, (tx "common"), 26, n68_common, 1, b68_common⟩
def r69_divisor : DR := ⟨69, (tx "divisor"), 27, n69_divisor, 1, b69_divisor⟩
def r70_whole_of : DR := ⟨70, (tx "whole_of"), 28, n70_whole_of, 1, b70_whole_of⟩
def r71_least : DR := ⟨71, (tx "least"), 29, n71_least, 1, b71_least⟩
def r74_leasts : DR := ⟨74, (tx "leasts"), 31, n74_leasts, 1, b74_leasts⟩
def r75_other_for : DR := ⟨75, (tx "other_for"), 32, n75_other_for, 4, b75_other_for⟩
def r76_one_changed : DR := ⟨76, (tx "one_changed"), 33, n76_one_changed, 2, b76_one_changed⟩
def r19__law_cell_at : DR := ⟨19, (tx "_law_cell_at"), 35, n19__law_cell_at, 2, b19__law_cell_at⟩
def r20__law_mixed : DR := ⟨20, (tx "_law_mixed"), 36, n20__law_mixed, 3, b20__law_mixed⟩
def r21__law_draw : DR := ⟨21, (tx "_law_draw"), 37, n21__law_draw, 3, b21__law_draw⟩
def r22__law_pick : DR := ⟨22, (tx "_law_pick"), 38, n22__law_pick, 3, b22__law_pick⟩
def r23__law_mobile : DR := ⟨23, (tx "_law_mobile"), 39, n23__law_mobile, 4, b23__law_mobile⟩
def r24__law_fresh : DR := ⟨24, (tx "_law_fresh"), 40, n24__law_fresh, 2, b24__law_fresh⟩
def r25__law_some : DR := ⟨25, (tx "_law_some"), 41, n25__law_some, 3, b25__law_some⟩
def r26__law_rods : DR := ⟨26, (tx "_law_rods"), 42, n26__law_rods, 2, b26__law_rods⟩
def r27__law_leaves : DR := ⟨27, (tx "_law_leaves"), 43, n27__law_leaves, 1, b27__law_leaves⟩
def r28__law_names : DR := ⟨28, (tx "_law_names"), 44, n28__law_names, 1, b28__law_names⟩
def r29__law_weights : DR := ⟨29, (tx "_law_weights"), 45, n29__law_weights, 3, b29__law_weights⟩
def r30__law_load : DR := ⟨30, (tx "_law_load"), 46, n30__law_load, 2, b30__law_load⟩
def r56__law_still : DR := ⟨56, (tx "_law_still"), 47, n56__law_still, 2, b56__law_still⟩
def r183_law : DR := ⟨183, (tx "law"), 48, n183_law, 1, b183_law⟩
def rs : List DR := [r0_is_whole, r1_is_name, r2_is_part, r3_is_mobile, r4_need_mobile, r5_leaves_of, r6_names_of, r7_are_weights, r8_need_weights, r38_reduced, r63_shares_of, r64_rows_of, r65_bar_of, r66_bar, r67_book_of, r68_common, r69_divisor, r70_whole_of, r71_least, r74_leasts, r75_other_for, r76_one_changed, r19__law_cell_at, r20__law_mixed, r21__law_draw, r22__law_pick, r23__law_mobile, r24__law_fresh, r25__law_some, r26__law_rods, r27__law_leaves, r28__law_names, r29__law_weights, r30__law_load, r56__law_still, r183_law]
def gi : List (T × Int) := [((tx "ARM"), 9), ((tx "DEEP"), 5), ((tx "GREAT"), 999999)]
def gs : List (T × T) := [((tx "LETTERS"), (tx "abcdefghijklmnopqrstuvwxyz"))]
def es : List Nat := [0, 2, 5]
def wd : Option WD := none
theorem hW : ∀ d, wd = some d → chkW prg es d = true ∧ BindOkW prg d := fun d h => by cases h
def loose : List Str := (["HangError", "NoMobile", "NoWeights", "Never", "LETTERS", "ARM", "DEEP", "GREAT", "is_whole", "is_name", "is_part", "is_mobile", "need_mobile", "leaves_of", "names_of", "are_weights", "need_weights", "reduced", "shares_of", "rows_of", "bar_of", "bar", "book_of", "common", "divisor", "whole_of", "least", "leasts", "other_for", "one_changed", "_law_cell_at", "_law_mixed", "_law_draw", "_law_pick", "_law_mobile", "_law_fresh", "_law_some", "_law_rods", "_law_leaves", "_law_names", "_law_weights", "_law_load", "_law_still"] : List String).map Str.ofString
def lawTop : Nat := 48
def lawIx : Nat := 183
def lawR : DR := r183_law
instance : K183 (tabOf rs) := {h0 := rfl, h1 := rfl, h2 := rfl, h3 := rfl, h4 := rfl, h5 := rfl, h6 := rfl, h7 := rfl, h8 := rfl, h38 := rfl, h63 := rfl, h64 := rfl, h65 := rfl, h66 := rfl, h67 := rfl, h68 := rfl, h69 := rfl, h70 := rfl, h71 := rfl, h74 := rfl, h75 := rfl, h76 := rfl, h19 := rfl, h20 := rfl, h21 := rfl, h22 := rfl, h23 := rfl, h24 := rfl, h25 := rfl, h26 := rfl, h27 := rfl, h28 := rfl, h29 := rfl, h30 := rfl, h56 := rfl, h183 := rfl}
theorem bd0_is_whole : BindOk prg r0_is_whole := fun _ _ _ _ _ _ us hl => match us, hl with | [_, _, _], _ => rfl
theorem bd1_is_name : BindOk prg r1_is_name := fun _ _ _ _ _ _ us hl => match us, hl with | [_], _ => rfl
theorem bd2_is_part : BindOk prg r2_is_part := fun _ _ _ _ _ _ us hl => match us, hl with | [_, _], _ => rfl
theorem bd3_is_mobile : BindOk prg r3_is_mobile := fun _ _ _ _ _ _ us hl => match us, hl with | [_], _ => rfl
theorem bd4_need_mobile : BindOk prg r4_need_mobile := fun _ _ _ _ _ _ us hl => match us, hl with | [_], _ => rfl
theorem bd5_leaves_of : BindOk prg r5_leaves_of := fun _ _ _ _ _ _ us hl => match us, hl with | [_, _], _ => rfl
theorem bd6_names_of : BindOk prg r6_names_of := fun _ _ _ _ _ _ us hl => match us, hl with | [_], _ => rfl
theorem bd7_are_weights : BindOk prg r7_are_weights := fun _ _ _ _ _ _ us hl => match us, hl with | [_], _ => rfl
theorem bd8_need_weights : BindOk prg r8_need_weights := fun _ _ _ _ _ _ us hl => match us, hl with | [_, _], _ => rfl
theorem bd38_reduced : BindOk prg r38_reduced := fun _ _ _ _ _ _ us hl => match us, hl with | [_, _], _ => rfl
theorem bd63_shares_of : BindOk prg r63_shares_of := fun _ _ _ _ _ _ us hl => match us, hl with | [_, _], _ => rfl
theorem bd64_rows_of : BindOk prg r64_rows_of := fun _ _ _ _ _ _ us hl => match us, hl with | [_], _ => rfl
theorem bd65_bar_of : BindOk prg r65_bar_of := fun _ _ _ _ _ _ us hl => match us, hl with | [_], _ => rfl
theorem bd66_bar : BindOk prg r66_bar := fun _ _ _ _ _ _ us hl => match us, hl with | [_], _ => rfl
theorem bd67_book_of : BindOk prg r67_book_of := fun _ _ _ _ _ _ us hl => match us, hl with | [_], _ => rfl
theorem bd68_common : BindOk prg r68_common := fun _ _ _ _ _ _ us hl => match us, hl with | [_], _ => rfl
theorem bd69_divisor : BindOk prg r69_divisor := fun _ _ _ _ _ _ us hl => match us, hl with | [_], _ => rfl
theorem bd70_whole_of : BindOk prg r70_whole_of := fun _ _ _ _ _ _ us hl => match us, hl with | [_], _ => rfl
theorem bd71_least : BindOk prg r71_least := fun _ _ _ _ _ _ us hl => match us, hl with | [_], _ => rfl
theorem bd74_leasts : BindOk prg r74_leasts := fun _ _ _ _ _ _ us hl => match us, hl with | [_], _ => rfl
theorem bd75_other_for : BindOk prg r75_other_for := fun _ _ _ _ _ _ us hl => match us, hl with | [_, _, _, _], _ => rfl
theorem bd76_one_changed : BindOk prg r76_one_changed := fun _ _ _ _ _ _ us hl => match us, hl with | [_, _], _ => rfl
theorem bd19__law_cell_at : BindOk prg r19__law_cell_at := fun _ _ _ _ _ _ us hl => match us, hl with | [_, _], _ => rfl
theorem bd20__law_mixed : BindOk prg r20__law_mixed := fun _ _ _ _ _ _ us hl => match us, hl with | [_, _, _], _ => rfl
theorem bd21__law_draw : BindOk prg r21__law_draw := fun _ _ _ _ _ _ us hl => match us, hl with | [_, _, _], _ => rfl
theorem bd22__law_pick : BindOk prg r22__law_pick := fun _ _ _ _ _ _ us hl => match us, hl with | [_, _, _], _ => rfl
theorem bd23__law_mobile : BindOk prg r23__law_mobile := fun _ _ _ _ _ _ us hl => match us, hl with | [_, _, _, _], _ => rfl
theorem bd24__law_fresh : BindOk prg r24__law_fresh := fun _ _ _ _ _ _ us hl => match us, hl with | [_, _], _ => rfl
theorem bd25__law_some : BindOk prg r25__law_some := fun _ _ _ _ _ _ us hl => match us, hl with | [_, _, _], _ => rfl
theorem bd26__law_rods : BindOk prg r26__law_rods := fun _ _ _ _ _ _ us hl => match us, hl with | [_, _], _ => rfl
theorem bd27__law_leaves : BindOk prg r27__law_leaves := fun _ _ _ _ _ _ us hl => match us, hl with | [_], _ => rfl
theorem bd28__law_names : BindOk prg r28__law_names := fun _ _ _ _ _ _ us hl => match us, hl with | [_], _ => rfl
theorem bd29__law_weights : BindOk prg r29__law_weights := fun _ _ _ _ _ _ us hl => match us, hl with | [_, _, _], _ => rfl
theorem bd30__law_load : BindOk prg r30__law_load := fun _ _ _ _ _ _ us hl => match us, hl with | [_, _], _ => rfl
theorem bd56__law_still : BindOk prg r56__law_still := fun _ _ _ _ _ _ us hl => match us, hl with | [_, _], _ => rfl
theorem bd183_law : BindOk prg r183_law := fun _ _ _ _ _ _ us hl => match us, hl with | [_], _ => rfl
theorem binds : ∀ r ∈ rs, BindOk prg r := by
  intro r hr
  simp only [rs, List.mem_cons, List.not_mem_nil, or_false] at hr
  rcases hr with rfl | rfl | rfl | rfl | rfl | rfl | rfl | rfl | rfl | rfl | rfl | rfl | rfl | rfl | rfl | rfl | rfl | rfl | rfl | rfl | rfl | rfl | rfl | rfl | rfl | rfl | rfl | rfl | rfl | rfl | rfl | rfl | rfl | rfl | rfl | rfl
  · exact bd0_is_whole
  · exact bd1_is_name
  · exact bd2_is_part
  · exact bd3_is_mobile
  · exact bd4_need_mobile
  · exact bd5_leaves_of
  · exact bd6_names_of
  · exact bd7_are_weights
  · exact bd8_need_weights
  · exact bd38_reduced
  · exact bd63_shares_of
  · exact bd64_rows_of
  · exact bd65_bar_of
  · exact bd66_bar
  · exact bd67_book_of
  · exact bd68_common
  · exact bd69_divisor
  · exact bd70_whole_of
  · exact bd71_least
  · exact bd74_leasts
  · exact bd75_other_for
  · exact bd76_one_changed
  · exact bd19__law_cell_at
  · exact bd20__law_mixed
  · exact bd21__law_draw
  · exact bd22__law_pick
  · exact bd23__law_mobile
  · exact bd24__law_fresh
  · exact bd25__law_some
  · exact bd26__law_rods
  · exact bd27__law_leaves
  · exact bd28__law_names
  · exact bd29__law_weights
  · exact bd30__law_load
  · exact bd56__law_still
  · exact bd183_law

theorem chk : ∀ r ∈ rs, chkD prg (nmOf rs gi gs es wd) r = true := by
  have h : (rs.all fun r => chkD prg (nmOf rs gi gs es wd) r) = true := by decide +kernel
  exact fun r hr => List.all_eq_true.mp h r hr
abbrev R : PySem.W.OpenRow := PySem.W.OpenLaw.row PySem.Challenge.rw_hangstill_k19_whole_one_changed
abbrev hk : PySem.W.Hook := hookG 4 (faOf rs gi gs es wd) (fnOfs prg rs wd) (whCk wd)
def ob (s : PySem.W.SharedT) : AlG := obG 4 (faOf rs gi gs es wd) (fnOfs prg rs wd) (whCk wd) (HandSHeadRun.getT s)
theorem ob_eq (s : PySem.W.SharedT) : ob s = hk.obs s.abs := obG_eq (HandSHeadRun.getT_eq s)
theorem run (w : World) : HandSHeadRun.RunEq R (PySem.W.view R.prog [lawTop]) hk ob 4000 loose w := by
  intro os
  kernel_rfl
end Hk19
open Hg PySem PySem.W PySem.Calls PyProof.Rows
theorem PySem.Challenge.cw_hangstill_k19_whole_one_changed_holds : PySem.Challenge.rw_hangstill_k19_whole_one_changed.Holds := by
  w_on; o_law
  refine HandSHeadRun.head_any (r := OpenLaw.row PySem.Challenge.rw_hangstill_k19_whole_one_changed) (q := view (OpenLaw.row PySem.Challenge.rw_hangstill_k19_whole_one_changed).prog [Hk19.lawTop]) (H := Hk19.hk) (ob := Hk19.ob) (M := 4000) (loose := Hk19.loose) (d := HandSHeadRun.topDef (OpenLaw.row PySem.Challenge.rw_hangstill_k19_whole_one_changed).prog Hk19.lawTop) (kwd := []) Hk19.ob_eq
    (by kernel_rfl) (fun s => by kernel_rfl) Hk19.run (by kernel_rfl) (by kernel_rfl) (by kernel_rfl) (by rfl) (by first | assumption | decide +kernel) (by decide +kernel) ⟨rfl, rfl, rfl, rfl, rfl, by decide +kernel⟩ ?hw ?hc
  case hw => w_witness2
  case hc =>
    refine L2.walk_ofE (l := PySem.Challenge.rw_hangstill_k19_whole_one_changed) (n := 63) (k := 62) (x := toS (tx "_law_script")) (CX := L2.CX0) rfl (by decide) (by kernel_rfl) ⟨rfl, by decide, by decide⟩ ?F (fun _ _ _ _ z => z)
    intro w mg fa h Y G hmg0
    obtain ⟨K, KX, c, ck⟩ := Y
    have hmg : mg (toS (tx "law")) = some (.ref fa) := by
      have e : (HandSHeadRun.topDef (OpenLaw.row PySem.Challenge.rw_hangstill_k19_whole_one_changed).prog Hk19.lawTop).name = toS (tx "law") := by kernel_rfl
      rw [← e]
      exact hmg0
    exact law_F (k := 60) (ix := Hk19.lawIx) (r := Hk19.lawR) KX G c Hk19.chk Hk19.binds rfl rfl hmg ck Hk19.hW (fun ns _ => k19_law (tab := tabOf Hk19.rs) ns)
end
