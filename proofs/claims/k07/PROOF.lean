import PyProof.Rows.All
import Wide.All
import OpenK.AllK
import Wide.FinOn
import HandS.ForMost
import HandS.Flow
import HandS.Wide
import HandS.WideBits
import HandS.IsInst
import HandS.Style
import HandS.Zip
import HandS.NoneIn
import HandS.SortInts
import HandS.TupSets
import HandS.More
import HandS.DictComp
import HandS.TupAny
import HandS.TupMul
import HandS.Deep
import HandS.List
import KE.SortData
import HandS.Call
import HandS.RaiseMore
import PyProof.FactsAll.bool_3
import PyProof.FactsAll.int_5
import PyProof.AutoIntG7
import PyProof.CallStr
import HandS.TupLe
import HandS.EndBits
import KE.GoesEnum
import PyProof.LongRange
import KE.GoesEnumKw
import HandS.SortKw
import HandS.Small
import HandS.SetFor
import HandS.Strs
import HandS.FStrTup
import PySem.Challenge.RW_honeyturns_k07_turns_by_hand
set_option Elab.async false
set_option linter.all false
set_option maxRecDepth 100000
set_option maxHeartbeats 8000000
namespace Itp
open PySem L2

/-! ### values, the store -/
inductive Val where
  | non | bl (b : Bool) | int (i : Int) | str (x : Str)
  | tup (xs : List Val)
  /-- a list by value: never changed from here on -/
  | lv (xs : List Val)
  /-- the script -/
  | sl (xs : List Val)
  /-- an instance by value: class, its attributes' names, their values -/
  | iv (c : Nat) (ns : List Str) (xs : List Val)
  /-- a def as a value -/
  | fn (f : Nat)
  /-- an object of the store -/
  | ref (n : Nat)
inductive Ob where
  | lst (xs : List Val)
  | ins (c : Nat) (ns : List Str) (xs : List Val)
  | dic (ks : List (List Key)) (xs : List Val)
  /-- a dict whose keys are ints, texts -/
  | dik (ks : List Key) (xs : List Val)
abbrev Store := List Ob
abbrev Env := List (Option Val)

def seqOf (S : Store) : Val → Option (List Val)
  | .tup xs => some xs
  | .lv xs => some xs
  | .sl xs => some xs
  | .ref n => match S[n]? with
    | some (.lst xs) => some xs
    | _ => none
  | _ => none
/-- a list, not a tuple -/
def lstOf (S : Store) : Val → Option (List Val)
  | .lv xs => some xs
  | .ref n => match S[n]? with
    | some (.lst xs) => some xs
    | _ => none
  | _ => none

inductive BOp where
  | add | sub | mul | fdiv | mod | pow
  deriving DecidableEq
inductive COp where
  | lt | le | gt | ge | eq | ne | is | isnot | isin | notin
  deriving DecidableEq
inductive Blt where
  | len | sum | max | min | all | any | abs | int | list | tuple | divmod | sorted
  deriving DecidableEq
inductive Ty where
  | int | bool | str | list | tuple
  deriving DecidableEq
inductive ItK where
  | seq | range | enum | zip | zips
  deriving DecidableEq

mutual
inductive E where
  | var (i : Nat)
  | con (v : Val)
  | glo (x : Str) (v : Val)
  | bin (o : BOp) (a b : E)
  | neg (a : E)
  | cmp (o : COp) (a b : E)
  | chain (o o' : COp) (a b c : E)
  | chain4 (o1 o2 o3 o4 : COp) (a b c d e : E)
  | and (a b : E) | or (a b : E) | one (a : E) | not (a : E)
  | ifx (c a b : E)
  | lst (es : EL) | tup (es : EL)
  | idx (a i : E)
  | slc (a : E) (lo hi : EO)
  | blt (b : Blt) (es : EL)
  | isa (e : E) (ts : List Ty)
  | call (raw : Bool) (f : Nat) (es : EL)
  | callK (raw : Bool) (f : Nat) (es ks : EL) (p : List Nat)
  | lc (own : List Nat) (t : T) (k : ItK) (es : EL) (c : EO) (e : E)
  | sdc (own : List Nat) (t : T) (k : ItK) (es : EL) (c : EO) (e : E)
  | new (e : E)
  /-- an attribute, of some classes -/
  | attr (ks : List Nat) (a : E) (f : Str)
  /-- a method: its class, its name, its def -/
  | meth (raw : Bool) (k : Nat) (m : Str) (f : Nat) (a : E) (es : EL)
  /-- an object made: its class, the def of its __init__ -/
  | make (k f : Nat) (es : EL)
  /-- a bare dict whose keys are tuples -/
  | dct
  | dget (d k : E)
  /-- a dict told with its pairs, keys ints; what stands at a key -/
  | dkd (ks : List Int) (es : EL)
  | kget (d k : E)
  | din (neg : Bool) (k d : E)
  /-- min(.., default=None) -/
  | mind (a : E)
  /-- sorted(set(..)) -/
  | sset (a : E)
  | ixof (a y : E)
  | lset (a : E)
  | rev (a : E)
  | strI (a : E)
  | lc2 (own : List Nat) (t : T) (k : ItK) (es : EL) (own1 : List Nat) (t1 : T) (k1 : ItK) (es1 : EL) (e : E)
  /-- repr of data -/
  | rep (a : E)
  /-- a def, by its name; a call of what a name holds -/
  | dfn (f : Nat)
  | revT (a : E)
  | callV (raw : Bool) (fs : List Nat) (i : Nat) (es : EL)
inductive EO where
  | none | some (e : E)
inductive EL where
  | nil | cons (e : E) (es : EL)
inductive T where
  | nm (i : Nat)
  | tp (ts : TL)
  | sub (o i : E)
  | fld (ks : List Nat) (o : E) (f : Str)
  | dsub (d k : E)
  | ksub (d k : E)
inductive TL where
  | nil | cons (t : T) (ts : TL)
end

/-- statements that change a list -/
inductive LOp where
  | ins | pop | ext | rev | clr
mutual
inductive St where
  | asg (t : T) (e : E)
  | par (is : List Nat) (es : EL)
  | aug (i : Nat) (o : BOp) (e : E)
  | app (o e : E)
  | drop (e : E)
  | ret (e : E)
  | retN
  | ite (c : E) (a b : SL)
  | whl (c : E) (b : SL)
  | for (t : T) (k : ItK) (es : EL) (b : SL)
  | pass | brk | cont | bad
  | augF (ks : List Nat) (o : E) (f : Str) (e : E)
  | dput (d k e : E)
  | augL (i : Nat) (e : E)
  | lop (op : LOp) (o : E) (es : EL)
inductive SL where
  | nil | cons (s : St) (ss : SL)
end

structure Def where
  np : Nat
  ns : Nat
  body : SL
abbrev Table := Nat → Option Def

/-! ### what operators do -/
def MulOk (i j : Int) : Prop := CMul i j ∨ CMulW i j
instance (i j : Int) : Decidable (MulOk i j) := by unfold MulOk CMul CMulW; infer_instance
instance (i j : Int) : Decidable (CDivW i j) := by unfold CDivW; infer_instance
instance (i j : Int) : Decidable (CPow i j) := by unfold CPow; infer_instance
instance (i j : Int) : Decidable (CDivP i j) := by unfold CDivP; infer_instance

def b2i (b : Bool) : Int := if b = true then 1 else 0

def binSem (S : Store) : BOp → Val → Val → Option Val
  | .add, .int i, .int j => some (.int (i + j))
  | .add, .bl b, .int j => some (.int (b2i b + j))
  | .sub, .int i, .bl b => some (.int (i - b2i b))
  | .add, .tup xs, .tup ys => if xs.length + ys.length ≤ sizeLine then some (.tup (xs ++ ys)) else none
  | .add, x, y => match lstOf S x, lstOf S y with
    | some xs, some ys => if xs.length + ys.length ≤ sizeLine then some (.lv (xs ++ ys)) else none
    | _, _ => none
  | .sub, .int i, .int j => some (.int (i - j))
  | .mul, .int i, .int j => if MulOk i j then some (.int (i * j)) else none
  | .mul, .tup xs, .int k => if 0 < xs.length ∧ 2 ≤ k ∧ k ≤ 1000 ∧ xs.length ≤ 1000 then some (.tup (List.replicate k.toNat xs).flatten) else none
  | .mul, x, .int k => match lstOf S x with
    | some xs => if -2 ^ 63 ≤ k ∧ k < 2 ^ 63 ∧ xs.length * k.toNat ≤ sizeLine then some (.lv (List.replicate k.toNat xs).flatten) else none
    | none => none
  | .fdiv, .int i, .int j => if CDivW i j then some (.int (i / j)) else none
  | .mod, .int i, .int j => if 0 < j then some (.int (i % j)) else none
  | .pow, .int i, .int j => if CPow i j then some (.int (i ^ j.toNat)) else none
  | _, _, _ => none

mutual
def toData (S : Store) : Nat → Val → Option PyData
  | _, .non => some .none
  | _, .bl b => some (.bool b)
  | _, .int i => some (.int i)
  | _, .str x => some (.str x)
  | n + 1, .tup xs => (toDatas S n xs).map .tuple
  | n + 1, .lv xs => (toDatas S n xs).map .list
  | n + 1, .ref k => match S[k]? with
    | some (.lst xs) => (toDatas S n xs).map .list
    | _ => none
  | _, _ => none
def toDatas (S : Store) : Nat → List Val → Option (List PyData)
  | _, [] => some []
  | 0, _ :: _ => none
  | n + 1, x :: xs => (toData S n x).bind fun d => (toDatas S (n + 1) xs).map fun ds => d :: ds
end
def eqSem (S : Store) : Val → Val → Option Bool
  | .int i, .int j => some (decide (i = j))
  | .bl a, .bl b => some (decide (a = b))
  | .str a, .str b => some (decide (a = b))
  | .non, .non => some true
  | .non, .int _ => some false
  | .int _, .non => some false
  | x, y => (toData S 20 x).bind fun d => (toData S 20 y).bind fun e => if SeqAt.shaped d = true ∧ SeqAt.shaped e = true then some (PyData.eqv d e) else none

def intsOf : List Val → Option (List Int)
  | [] => some []
  | .int i :: r => (intsOf r).map (i :: ·)
  | _ :: _ => none
def blsOf : List Val → Option (List Bool)
  | [] => some []
  | .bl i :: r => (blsOf r).map (i :: ·)
  | _ :: _ => none
def cmpSem (S : Store) : COp → Val → Val → Option Bool
  | .lt, .int i, .int j => some (decide (i < j))
  | .le, .int i, .int j => some (decide (i ≤ j))
  | .gt, .int i, .int j => some (decide (j < i))
  | .ge, .int i, .int j => some (decide (j ≤ i))
  | .eq, x, y => eqSem S x y
  | .ne, x, y => (eqSem S x y).map (!·)
  | .is, x, .non => some (match x with | .non => true | _ => false)
  | .isnot, x, .non => some (match x with | .non => false | _ => true)
  | .is, .bl a, .bl b => some (decide (a = b))
  | .isnot, .bl a, .bl b => some (!decide (a = b))
  | .isin, .int i, y => (lstOf S y).bind fun ys => (intsOf ys).map fun ns => ns.contains i
  | .notin, .int i, y => (lstOf S y).bind fun ys => (intsOf ys).map fun ns => !ns.contains i
  | .isin, .bl i, y => (lstOf S y).bind fun ys => (blsOf ys).map fun ns => ns.contains i
  | .isin, .tup xs, y => (toData S 20 (.tup xs)).bind fun d => (lstOf S y).bind fun ys => (toDatas S 20 ys).bind fun ds => if SeqAt.shaped d = true ∧ SeqAt.shaped (.list ds) = true then some (ds.any fun z => PyData.eqv z d) else none
  | .notin, .tup xs, y => (toData S 20 (.tup xs)).bind fun d => (lstOf S y).bind fun ys => (toDatas S 20 ys).bind fun ds => if SeqAt.shaped d = true ∧ SeqAt.shaped (.list ds) = true then some (!ds.any fun z => PyData.eqv z d) else none
  | _, _, _ => none

def idxSem (S : Store) (x i : Val) : Option Val :=
  match i with
  | .int k => (seqOf S x).bind fun xs => atI xs k
  | _ => none

def cutL {α : Type} (xs : List α) (lo hi : Option Int) : List α :=
  List.take (HT.sIx xs.length xs.length hi - HT.sIx xs.length 0 lo) (List.drop (HT.sIx xs.length 0 lo) xs)
def slcSem (S : Store) (x : Val) (lo hi : Option Int) : Option Val :=
  match x with
  | .tup xs => some (.tup (cutL xs lo hi))
  | .sl xs => some (.lv (cutL xs lo hi))
  | x => (lstOf S x).map fun xs => .lv (cutL xs lo hi)

def maxL : Int → List Int → Int
  | m, [] => m
  | m, x :: r => maxL (if x > m then x else m) r
def minL : Int → List Int → Int
  | m, [] => m
  | m, x :: r => minL (if x < m then x else m) r

/-- a dict's keys, put in one by one -/
def keyI (ks : List Int) (i : Int) : List Int := if ks.contains i = true then ks else ks ++ [i]
def keysI (ns : List Int) : List Int := ns.foldl keyI []
/-- numbers in order -/
def sortI (ns : List Int) : List Int := ns.mergeSort fun a b => decide (a ≤ b)
def leRow : List Int → List Int → Bool
  | [], _ => true
  | _ :: _, [] => false
  | a :: r, b :: q => decide (a < b) || (decide (a = b) && leRow r q)
def sortR (rs : List (List Int)) : List (List Int) := rs.mergeSort leRow
def rowV (r : List Int) : Val := .tup (r.map Val.int)
def rowsOf : List Val → Option (List (List Int))
  | [] => some []
  | .tup xs :: r => (intsOf xs).bind fun n => (rowsOf r).map (n :: ·)
  | _ :: _ => none
/-- rows, each once -/
def keysR (rs : List (List Int)) : List (List Int) := rs.foldl (fun ks r => if ks.contains r = true then ks else ks ++ [r]) []
/-- rows, none bare -/
def rowsOk (rs : List (List Int)) : Bool := rs.all fun r => !r.isEmpty

def bltSem (S : Store) : Blt → List Val → Option Val
  | .len, [x] => (seqOf S x).map fun xs => .int xs.length
  | .sum, [.tup xs] => (intsOf xs).map fun ns => .int ns.sum
  | .sum, [x] => (lstOf S x).bind fun xs => (intsOf xs).map fun ns => .int ns.sum
  | .max, [x] => (lstOf S x).bind fun xs => (intsOf xs).bind fun ns => match ns with | [] => none | n :: r => some (.int (maxL n r))
  | .min, [x] => (lstOf S x).bind fun xs => (intsOf xs).bind fun ns => match ns with | [] => none | n :: r => some (.int (minL n r))
  | .max, [.int i, .int j] => some (.int (if j > i then j else i))
  | .min, [.int i, .int j] => some (.int (if j < i then j else i))
  | .all, [x] => (lstOf S x).bind fun xs => (blsOf xs).map fun bs => .bl (bs.all id)
  | .any, [x] => (lstOf S x).bind fun xs => (blsOf xs).map fun bs => .bl (bs.any id)
  | .abs, [.int i] => some (.int (if i < 0 then -i else i))
  | .int, [.int i] => some (.int i)
  | .int, [.bl b] => some (.int (if b = true then 1 else 0))
  | .list, [x] => (seqOf S x).map .lv
  | .tuple, [.tup xs] => some (.tup xs)
  | .tuple, [x] => (lstOf S x).map .tup
  | .sorted, [x] => (lstOf S x).bind fun xs => match intsOf xs with
    | some ns => some (.lv ((sortI ns).map Val.int))
    | none => (rowsOf xs).bind fun rs => if rowsOk rs = true then some (.lv ((sortR rs).map rowV)) else none
  | .divmod, [.int i, .int j] => if CDivP i j then some (.tup [.int (i / j), .int (i % j)]) else none
  | _, _ => none

def isTy (S : Store) : Val → Ty → Option Bool
  | .non, _ => some false
  | .bl _, t => some (t = .int ∨ t = .bool)
  | .int _, t => some (t = .int)
  | .str _, t => some (t = .str)
  | .tup _, t => some (t = .tuple)
  | .lv _, t => some (t = .list)
  | .sl _, t => some (t = .list)
  | .ref n, t => match S[n]? with
    | some (.lst _) => some (t = .list)
    | _ => none
  | _, _ => none
def isTys (S : Store) (x : Val) : List Ty → Option Bool
  | [] => some false
  | t :: r => (isTy S x t).bind fun b => (isTys S x r).map fun c => b || c

def natsTo : Nat → List Val := fun n => (List.range n).map fun (i : Nat) => Val.int (i : Int)
def rangeOf (lo : Int) (n : Nat) : List Val := (List.range n).map fun (i : Nat) => Val.int (lo + (i : Int))
def enumFrom : Nat → List Val → List Val
  | _, [] => []
  | i, x :: r => .tup [.int (i : Int), x] :: enumFrom (i + 1) r
def zipV : List Val → List Val → List Val
  | x :: xs, y :: ys => .tup [x, y] :: zipV xs ys
  | _, _ => []
def refsOf : List Val → List Nat
  | [] => []
  | .ref n :: r => n :: refsOf r
  | _ :: r => refsOf r
/-- what is walked -/
def itemsOf (S : Store) : ItK → List Val → Option (List Val)
  | .seq, [x] => seqOf S x
  | .range, [.int n] => if n < 2 ^ 62 ∧ -2 ^ 62 ≤ n then some (rangeOf 0 n.toNat) else none
  | .range, [.int a, .int b] => some (rangeOf a (b - a).toNat)
  | .range, [.int a, .int b, .int t] => if t = -1 ∧ (-2 ^ 62 ≤ a ∧ a < 2 ^ 62) ∧ -2 ^ 62 ≤ b ∧ b < 2 ^ 62 then some ((List.range (a - b).toNat).map fun (i : Nat) => Val.int (a - (i : Int))) else none
  | .enum, [x] => (seqOf S x).map (enumFrom 0)
  | .zips, [x, y] => (lstOf S x).bind fun xs => (lstOf S y).bind fun ys => if xs.length = ys.length then some (zipV xs ys) else none
  | .zip, [.tup xs, .tup ys] => some (zipV xs ys)
  | .zip, [x, y] => (lstOf S x).bind fun xs => (lstOf S y).map fun ys => zipV xs ys
  | _, _ => none

/-- what stays while it is walked -/
def Kept (ks : List Nat) (S S' : Store) : Prop := ∀ k ∈ ks, S'[k]? = S[k]?

/-! ### leaving a def: what it made becomes values -/
mutual
def Val.fits (k : Nat) : Val → Bool
  | .tup xs => fitsL k xs
  | .lv xs => fitsL k xs
  | .sl xs => fitsL k xs
  | .iv _ _ xs => fitsL k xs
  | .ref n => decide (n < k)
  | _ => true
def fitsL (k : Nat) : List Val → Bool
  | [] => true
  | x :: r => x.fits k && fitsL k r
end
def Ob.fits (k : Nat) : Ob → Bool
  | .lst xs => fitsL k xs
  | .ins _ _ xs => fitsL k xs
  | .dic _ xs => fitsL k xs
  | .dik _ xs => fitsL k xs
mutual
def reify (S : Store) (k : Nat) : Nat → Val → Option Val
  | 0, v => if v.fits k = true then some v else none
  | f + 1, v => if v.fits k = true then some v else match v with
    | .tup xs => (reifyL S k f xs).map .tup
    | .lv xs => (reifyL S k f xs).map .lv
    | .iv c ns xs => (reifyL S k f xs).map (.iv c ns)
    | .ref n => match S[n]? with
      | some (.lst xs) => (reifyL S k f xs).map .lv
      | some (.ins c ns xs) => (reifyL S k f xs).map (.iv c ns)
      | _ => none
    | _ => none
def reifyL (S : Store) (k : Nat) : Nat → List Val → Option (List Val)
  | _, [] => some []
  | 0, _ :: _ => none
  | f + 1, x :: r => (reify S k f x).bind fun y => (reifyL S k (f + 1) r).map (y :: ·)
end
def GcOk (S S' : Store) : Prop := S.length ≤ S'.length ∧ ∀ i o, i < S.length → S'[i]? = some o → S[i]? = some o ∨ o.fits S.length = true
open Classical in
noncomputable def gc (S : Store) (v : Val) (S' : Store) : Option (Val × Store) :=
  if GcOk S S' then (reify S' S.length 8 v).map fun w => (w, S'.take S.length) else none

/-! ### the interpreter -/
abbrev Oracle := Bool → Nat → List Val → Store → Option (Val × Store)

open Classical in
noncomputable def mapG (ks : List Nat) (f : Val → Store → Option (List Val × Store)) : List Val → Store → Option (List Val × Store)
  | [], S => some ([], S)
  | x :: xs, S => (f x S).bind fun (ys, S1) => if Kept ks S S1 then (mapG ks f xs S1).map fun (zs, S2) => (ys ++ zs, S2) else none

/-- a tuple's or a list's parts, for so many targets -/
def unpack (S : Store) (n : Nat) (v : Val) : Option (List Val) :=
  match v with
  | .sl _ => none
  | v => (seqOf S v).bind fun xs => if xs.length = n then some xs else none
def EL.len : EL → Nat
  | .nil => 0
  | .cons _ es => es.len + 1
def TL.len : TL → Nat
  | .nil => 0
  | .cons _ ts => ts.len + 1
def ixOf (n : Nat) (i : Int) : Option Nat := ixN n i
def setSem (S : Store) (o i v : Val) : Option Store :=
  match o, i with
  | .ref n, .int k => match S[n]? with
    | some (.lst xs) => (ixN xs.length k).map fun j => S.set n (.lst (xs.set j v))
    | _ => none
  | _, _ => none
def wipeE (ρ : Env) : List Nat → Env
  | [] => ρ
  | i :: r => (wipeE ρ r).set i none
def permL {α : Type} (xs : List α) (p : List Nat) : List α := p.filterMap fun i => xs[i]?

/-! objects, dicts -/
def isRef (n : Nat) : Val → Bool
  | .ref m => decide (m = n)
  | _ => false
def insOf (S : Store) : Val → Option (Nat × List Str × List Val)
  | .iv c ns xs => some (c, ns, xs)
  | .ref n => match S[n]? with
    | some (.ins c ns xs) => some (c, ns, xs)
    | _ => none
  | _ => none
def fldOf (ns : List Str) (xs : List Val) (f : Str) : Option Val := (ns.zip xs).lookup f
def putN {α : Type} (f : Str) (v : α) : List Str → List α → List Str × List α
  | n :: ns, x :: xs => if n = f then (n :: ns, v :: xs) else (n :: (putN f v ns xs).1, x :: (putN f v ns xs).2)
  | _, _ => ([f], [v])
def fldSet (S : Store) (ks : List Nat) (o : Val) (f : Str) (v : Val) : Option Store :=
  match o with
  | .ref n => match S[n]? with
    | some (.ins c ns xs) => if ks.contains c = true ∧ ns.length < 1000 then some (S.set n (.ins c (putN f v ns xs).1 (putN f v ns xs).2)) else none
    | _ => none
  | _ => none
def keyOf : List Val → Option (List Key)
  | [] => some []
  | .int i :: r => (keyOf r).map (.inl i :: ·)
  | .str x :: r => (keyOf r).map (.inr x :: ·)
  | _ :: _ => none
def keyV : Val → Option (List Key)
  | .tup xs => keyOf xs
  | _ => none
def dicOf (S : Store) : Val → Option (List (List Key) × List Val)
  | .ref n => match S[n]? with
    | some (.dic ks xs) => some (ks, xs)
    | _ => none
  | _ => none
def keyIv : Val → Option Key
  | .int i => some (.inl i)
  | .str x => some (.inr x)
  | _ => none
def dikOf (S : Store) : Val → Option (List Key × List Val)
  | .ref n => match S[n]? with
    | some (.dik ks xs) => some (ks, xs)
    | _ => none
  | _ => none
def dval {κ α : Type} [DecidableEq κ] (ks : List κ) (xs : List α) (q : κ) : Option α := ((ks.zip xs).find? fun z => decide (z.1 = q)).map (·.2)
def putD {κ α : Type} [DecidableEq κ] (ks : List κ) (xs : List α) (q : κ) (v : α) : List κ × List α :=
  if (ks.any fun k => decide (k = q)) = true then (ks, List.zipWith (fun k x => if k = q then v else x) ks xs) else (ks ++ [q], xs ++ [v])
def dicSet (S : Store) (o y v : Val) : Option Store :=
  match o with
  | .ref n => match S[n]? with
    | some (.dic ks xs) => (keyV y).bind fun q => if ks.length < sizeLine then some (S.set n (.dic (putD ks xs q v).1 (putD ks xs q v).2)) else none
    | _ => none
  | _ => none
def dikSet (S : Store) (o y v : Val) : Option Store :=
  match o with
  | .ref n => match S[n]? with
    | some (.dik ks xs) => (keyIv y).bind fun q => if ks.length < sizeLine then some (S.set n (.dik (putD ks xs q v).1 (putD ks xs q v).2)) else none
    | _ => none
  | _ => none
/-- a dict's pairs told -/
def dikMk (n : Nat) (ks : List Int) (vs : List Val) (S : Store) : Option Store :=
  match S[n]? with
  | some (.dik [] []) => if ks.Nodup ∧ ks.length = vs.length then some (S.set n (.dik (ks.map .inl) vs)) else none
  | _ => none
def minD (S : Store) (x : Val) : Option Val := (lstOf S x).bind fun xs => (intsOf xs).map fun ns => match ns with
  | [] => .non
  | n :: r => .int (minL n r)
/-- repr of a tuple, a list -/
def repSem (S : Store) (x : Val) : Option Val := (toData S 20 x).bind fun d => if (match d with
    | .dict _ => false
    | _ => true) = true ∧ PyData.showable d = true ∧ SeqAt.shaped d = true ∧ d.shown.length ≤ sizeLine then some (.str d.shown) else none
mutual
noncomputable def evE (c : Oracle) : E → Env → Store → Option (Val × Store)
  | .var i, ρ, S => match ρ[i]? with
    | some (some v) => some (v, S)
    | _ => none
  | .con v, _, S => some (v, S)
  | .glo _ v, _, S => some (v, S)
  | .bin o a b, ρ, S => (evE c a ρ S).bind fun (x, S1) => (evE c b ρ S1).bind fun (y, S2) => (binSem S2 o x y).map fun z => (z, S2)
  | .neg a, ρ, S => (evE c a ρ S).bind fun (x, S1) => match x with
    | .int i => some (.int (-i), S1)
    | _ => none
  | .cmp o a b, ρ, S => (evE c a ρ S).bind fun (x, S1) => (evE c b ρ S1).bind fun (y, S2) => (cmpSem S2 o x y).map fun z => (.bl z, S2)
  | .chain o o' a b d, ρ, S => (evE c a ρ S).bind fun (x, S1) => (evE c b ρ S1).bind fun (y, S2) => (cmpSem S2 o x y).bind fun z =>
      if z = true then (evE c d ρ S2).bind fun (w, S3) => (cmpSem S3 o' y w).map fun u => (.bl u, S3) else some (.bl false, S2)
  | .chain4 o1 o2 o3 o4 a b d e f, ρ, S => (evE c a ρ S).bind fun (x, S1) => (evE c b ρ S1).bind fun (y, S2) => (cmpSem S2 o1 x y).bind fun z1 =>
      if z1 = true then (evE c d ρ S2).bind fun (u, S3) => (cmpSem S3 o2 y u).bind fun z2 =>
        if z2 = true then (evE c e ρ S3).bind fun (v, S4) => (cmpSem S4 o3 u v).bind fun z3 =>
          if z3 = true then (evE c f ρ S4).bind fun (w, S5) => (cmpSem S5 o4 v w).map fun z4 => (.bl z4, S5) else some (.bl false, S4)
        else some (.bl false, S3)
      else some (.bl false, S2)
  | .and a b, ρ, S => (evE c a ρ S).bind fun (x, S1) => match x with
    | .bl true => evE c b ρ S1
    | .bl false => some (.bl false, S1)
    | _ => none
  | .or a b, ρ, S => (evE c a ρ S).bind fun (x, S1) => match x with
    | .bl true => some (.bl true, S1)
    | .bl false => evE c b ρ S1
    | _ => none
  | .one a, ρ, S => evE c a ρ S
  | .not a, ρ, S => (evE c a ρ S).bind fun (x, S1) => match x with
    | .bl b => some (.bl (!b), S1)
    | _ => none
  | .ifx t a b, ρ, S => (evE c t ρ S).bind fun (x, S1) => match x with
    | .bl true => evE c a ρ S1
    | .bl false => evE c b ρ S1
    | _ => none
  | .lst es, ρ, S => (evL c es ρ S).bind fun (vs, S1) => if vs.length ≤ sizeLine then some (.lv vs, S1) else none
  | .tup es, ρ, S => (evL c es ρ S).bind fun (vs, S1) => if vs.length ≤ sizeLine then some (.tup vs, S1) else none
  | .idx a i, ρ, S => (evE c a ρ S).bind fun (x, S1) => (evE c i ρ S1).bind fun (y, S2) => (idxSem S2 x y).map fun z => (z, S2)
  | .slc a lo hi, ρ, S => (evE c a ρ S).bind fun (x, S1) => (evO c lo ρ S1).bind fun (l, S2) => (evO c hi ρ S2).bind fun (h, S3) => (slcSem S3 x l h).map fun z => (z, S3)
  | .blt b es, ρ, S => (evL c es ρ S).bind fun (vs, S1) => (bltSem S1 b vs).map fun z => (z, S1)
  | .isa e ts, ρ, S => (evE c e ρ S).bind fun (x, S1) => (isTys S1 x ts).map fun b => (.bl b, S1)
  | .call raw f es, ρ, S => (evL c es ρ S).bind fun (vs, S1) => (c false f vs S1).bind fun (v, S2) => if raw = true then some (v, S2) else gc S1 v S2
  | .callK raw f es ks p, ρ, S => (evL c es ρ S).bind fun (vs, S0) => (evL c ks ρ S0).bind fun (zs, S1) =>
      (c false f (permL (vs ++ zs) p) S1).bind fun (v, S2) => if raw = true then some (v, S2) else gc S1 v S2
  | .lc own t k es cd e, ρ, S => (evL c es ρ S).bind fun (vs, S1) => (itemsOf S1 k vs).bind fun xs =>
      (mapG (refsOf vs) (fun x S' => (bindT c t x (wipeE ρ own) S').bind fun (ρ', S2) => (evC c cd ρ' S2).bind fun (b, S3) =>
        if b = true then (evE c e ρ' S3).map fun (y, S4) => ([y], S4) else some ([], S3)) xs S1).bind fun (ys, S2) => if ys.length ≤ 1000000 then some (.lv ys, S2) else none
  | .sdc own t k es cd e, ρ, S => (evL c es ρ S).bind fun (vs, S1) => (itemsOf S1 k vs).bind fun xs =>
      (mapG (refsOf vs) (fun x S' => (bindT c t x (wipeE ρ own) S').bind fun (ρ', S2) => (evC c cd ρ' S2).bind fun (b, S3) =>
        if b = true then (evE c e ρ' S3).map fun (y, S4) => ([y], S4) else some ([], S3)) xs S1).bind fun (ys, S2) => (intsOf ys).bind fun ns =>
          if ys.length ≤ 1000000 ∧ (keysI ns).length < 64 then some (.lv ((sortI (keysI ns)).map Val.int), S2) else none
  | .new e, ρ, S => (evE c e ρ S).bind fun (x, S1) => match x with
    | .lv xs => some (.ref S1.length, S1 ++ [.lst xs])
    | _ => none
  | .attr ks a f, ρ, S => (evE c a ρ S).bind fun (x, S1) => (insOf S1 x).bind fun (k, ns, xs) => if ks.contains k = true then (fldOf ns xs f).map fun z => (z, S1) else none
  | .meth raw k m f a es, ρ, S => (evE c a ρ S).bind fun (x, S1) => (insOf S1 x).bind fun (k', ns, xs) => if k' = k ∧ fldOf ns xs m = none then
      (evL c es ρ S1).bind fun (vs, S2) => (c false f (x :: vs) S2).bind fun (v, S3) => if raw = true then some (v, S3) else gc S2 v S3 else none
  | .make k f es, ρ, S => (evL c es ρ S).bind fun (vs, S1) => (c true f (.ref S1.length :: vs) (S1 ++ [.ins k [] []])).bind fun (v, S2) => match v with
    | .non => some (.ref S1.length, S2)
    | _ => none
  | .dct, _, S => some (.ref S.length, S ++ [.dic [] []])
  | .dget d k, ρ, S => (evE c d ρ S).bind fun (x, S1) => (evE c k ρ S1).bind fun (y, S2) => (dicOf S2 x).bind fun (ks, xs) => (keyV y).bind fun q => (dval ks xs q).map fun z => (z, S2)
  | .dkd ks es, ρ, S => (evL c es ρ (S ++ [.dik [] []])).bind fun (vs, S1) => (dikMk S.length ks vs S1).map fun S2 => (.ref S.length, S2)
  | .kget d k, ρ, S => (evE c d ρ S).bind fun (x, S1) => (evE c k ρ S1).bind fun (y, S2) => (dikOf S2 x).bind fun (ks, xs) => (keyIv y).bind fun q => (dval ks xs q).map fun z => (z, S2)
  | .din neg k d, ρ, S => (evE c k ρ S).bind fun (y, S1) => (evE c d ρ S1).bind fun (x, S2) => (dicOf S2 x).bind fun (ks, xs) => (keyV y).map fun q => (.bl (if neg = true then !(dval ks xs q).isSome else (dval ks xs q).isSome), S2)
  | .mind a, ρ, S => (evE c a ρ S).bind fun (x, S1) => (minD S1 x).map fun z => (z, S1)
  | .rep a, ρ, S => (evE c a ρ S).bind fun (x, S1) => (repSem S1 x).map fun z => (z, S1)
  | .dfn f, _, S => some (.fn f, S)
  | .callV raw fs i es, ρ, S => match ρ[i]? with
    | some (some (.fn f)) => if fs.contains f = false then none else (evL c es ρ S).bind fun (vs, S1) => (c false f vs S1).bind fun (v, S2) => if raw = true then some (v, S2) else gc S1 v S2
    | _ => none
  | .sset a, ρ, S => (evE c a ρ S).bind fun (x, S1) => (lstOf S1 x).bind fun xs => (intsOf xs).bind fun ns => if ns.length < 64 then some (.lv ((sortI (keysI ns)).map Val.int), S1) else none
  | .ixof a y, ρ, S => (evE c a ρ S).bind fun (x, S1) => (lstOf S1 x).bind fun _ => (evE c y ρ S1).bind fun (w, S2) => (lstOf S2 x).bind fun xs => (toDatas S2 20 xs).bind fun ds => (toData S2 20 w).bind fun d =>
      if SeqAt.shaped (.list ds) = true ∧ SeqAt.shaped d = true then (ds.findIdx? fun z => PyData.eqv z d).map fun j => (.int (j : Nat), S2) else none
  | .revT a, ρ, S => (evE c a ρ S).bind fun (x, S1) => match x with
    | .tup xs => some (.tup xs.reverse, S1)
    | _ => none
  | .rev a, ρ, S => (evE c a ρ S).bind fun (x, S1) => (lstOf S1 x).map fun xs => (.lv xs.reverse, S1)
  | .strI a, ρ, S => (evE c a ρ S).bind fun (x, S1) => match x with
    | .int i => if i.natAbs.log2 < 1920 then some (.str (toString i), S1) else none
    | .bl k => some (.str (if k then "True" else "False"), S1)
    | _ => none
  | .lset a, ρ, S => (evE c a ρ S).bind fun (x, S1) => (lstOf S1 x).bind fun xs => (rowsOf xs).bind fun rs => if rs.length < 64 then some (.int ((keysR rs).length : Nat), S1) else none
  | .lc2 own t k es own1 t1 k1 es1 e, ρ, S => (evL c es ρ S).bind fun (vs, S1) => (itemsOf S1 k vs).bind fun xs =>
      (mapG (refsOf vs) (fun x S' => (bindT c t x (wipeE ρ own) S').bind fun (ρ', S2) => (evL c es1 ρ' S2).bind fun (ws, S3) => (itemsOf S3 k1 ws).bind fun ys =>
        mapG (refsOf ws) (fun y S4 => (bindT c t1 y (wipeE ρ' own1) S4).bind fun (ρ2, S5) => (evE c e ρ2 S5).map fun (z, S6) => ([z], S6)) ys S3) xs S1).bind fun (ys, S2) => if ys.length ≤ 1000000 then some (.lv ys, S2) else none
/-- a part of a slice -/
noncomputable def evO (c : Oracle) : EO → Env → Store → Option (Option Int × Store)
  | .none, _, S => some (Option.none, S)
  | .some e, ρ, S => (evE c e ρ S).bind fun (x, S1) => match x with
    | .int i => Option.some (Option.some i, S1)
    | _ => Option.none
/-- a comprehension's test -/
noncomputable def evC (c : Oracle) : EO → Env → Store → Option (Bool × Store)
  | .none, _, S => some (true, S)
  | .some e, ρ, S => (evE c e ρ S).bind fun (x, S1) => match x with
    | .bl b => Option.some (b, S1)
    | _ => Option.none
noncomputable def evL (c : Oracle) : EL → Env → Store → Option (List Val × Store)
  | .nil, _, S => some ([], S)
  | .cons e es, ρ, S => (evE c e ρ S).bind fun (x, S1) => (evL c es ρ S1).map fun (xs, S2) => (x :: xs, S2)
noncomputable def bindT (c : Oracle) : T → Val → Env → Store → Option (Env × Store)
  | .nm i, v, ρ, S => some (ρ.set i (some v), S)
  | .tp ts, v, ρ, S => (unpack S ts.len v).bind fun xs => bindTs c ts xs ρ S
  | .sub o i, v, ρ, S => (evE c o ρ S).bind fun (x, S1) => (evE c i ρ S1).bind fun (y, S2) => (setSem S2 x y v).map fun S3 => (ρ, S3)
  | .fld ks o f, v, ρ, S => (evE c o ρ S).bind fun (x, S1) => (fldSet S1 ks x f v).map fun S2 => (ρ, S2)
  | .ksub d k, v, ρ, S => (evE c d ρ S).bind fun (x, S1) => (evE c k ρ S1).bind fun (y, S2) => (dikSet S2 x y v).map fun S3 => (ρ, S3)
  | .dsub d k, v, ρ, S => (evE c d ρ S).bind fun (x, S1) => (evE c k ρ S1).bind fun (y, S2) => (dicSet S2 x y v).map fun S3 => (ρ, S3)
noncomputable def bindTs (c : Oracle) : TL → List Val → Env → Store → Option (Env × Store)
  | .nil, [], ρ, S => some (ρ, S)
  | .cons t ts, v :: vs, ρ, S => (bindT c t v ρ S).bind fun (ρ1, S1) => bindTs c ts vs ρ1 S1
  | _, _, _, _ => none
end

inductive Out where
  | nx (ρ : Env) (S : Store)
  | rt (v : Val) (S : Store)
  | bk (ρ : Env) (S : Store)
  | ct (ρ : Env) (S : Store)

def setAll (ρ : Env) : List Nat → List Val → Env
  | i :: is, v :: vs => setAll (ρ.set i (some v)) is vs
  | _, _ => ρ

open Classical in
noncomputable def forG (ks : List Nat) (g : Val → Env → Store → Option (Env × Store)) (f : Env → Store → Option Out) : List Val → Env → Store → Option Out
  | [], ρ, S => some (.nx ρ S)
  | x :: xs, ρ, S => (g x ρ S).bind fun (ρ1, S1) => (f ρ1 S1).bind fun o => match o with
    | .nx ρ2 S2 => if Kept ks S S2 then forG ks g f xs ρ2 S2 else none
    | .ct ρ2 S2 => if Kept ks S S2 then forG ks g f xs ρ2 S2 else none
    | .bk ρ2 S2 => some (.nx ρ2 S2)
    | .rt v S2 => some (.rt v S2)
noncomputable def whileG (t : Env → Store → Option (Bool × Store)) (f : Env → Store → Option Out) : Nat → Env → Store → Option Out
  | 0, _, _ => none
  | n + 1, ρ, S => (t ρ S).bind fun (b, S1) => if b = true then (f ρ S1).bind fun o => match o with
      | .nx ρ2 S2 => whileG t f n ρ2 S2
      | .ct ρ2 S2 => whileG t f n ρ2 S2
      | .bk ρ2 S2 => some (.nx ρ2 S2)
      | .rt v S2 => some (.rt v S2)
    else some (.nx ρ S1)
/-- how long a while may go -/
def fuel : Nat := 1000000
def LOp.nm : LOp → Str
  | .ins => "insert" | .pop => "pop" | .ext => "extend" | .rev => "reverse" | .clr => "clear"
def LOp.ar : LOp → Nat
  | .ins => 2 | .pop => 1 | .ext => 1 | .rev => 0 | .clr => 0
def lopSem (S : Store) (n : Nat) : LOp → List Val → List Val → Option (List Val)
  | .ins, xs, [.int i, v] => if xs.length < sizeLine ∧ 0 ≤ i ∧ i < 2 ^ 63 then some (xs.take i.toNat ++ [v] ++ xs.drop i.toNat) else none
  | .pop, xs, [.int i] => if -(2 ^ 63) ≤ i ∧ i < 2 ^ 63 then (ixN xs.length i).map fun k => xs.eraseIdx k else none
  | .ext, xs, [y] => (lstOf S y).bind fun ys => if xs.length + ys.length ≤ sizeLine ∧ isRef n y = false then some (xs ++ ys) else none
  | .rev, xs, [] => some xs.reverse
  | .clr, _, [] => some []
  | _, _, _ => none

mutual
noncomputable def exS (c : Oracle) : St → Env → Store → Option Out
  | .asg t e, ρ, S => (evE c e ρ S).bind fun (v, S1) => (bindT c t v ρ S1).map fun (ρ1, S2) => .nx ρ1 S2
  | .par is es, ρ, S => (evL c es ρ S).bind fun (vs, S1) => if vs.length = is.length then some (.nx (setAll ρ is vs) S1) else none
  | .aug i o e, ρ, S => match ρ[i]? with
    | some (some x) => (evE c e ρ S).bind fun (y, S1) => match o, x, y with
      | .add, .int a, .int b => some (.nx (ρ.set i (some (.int (a + b)))) S1)
      | .sub, .int a, .int b => some (.nx (ρ.set i (some (.int (a - b)))) S1)
      | _, _, _ => none
    | _ => none
  | .app o e, ρ, S => (evE c o ρ S).bind fun (x, S1) => (lstOf S1 x).bind fun _ => (evE c e ρ S1).bind fun (v, S2) => match x with
    | .ref n => match S2[n]? with
      | some (.lst xs) => if xs.length < sizeLine then some (.nx ρ (S2.set n (.lst (xs ++ [v])))) else none
      | _ => none
    | _ => none
  | .lop op o es, ρ, S => (evE c o ρ S).bind fun (x, S1) => (lstOf S1 x).bind fun _ => (evL c es ρ S1).bind fun (vs, S2) => match x with
    | .ref n => match S2[n]? with
      | some (.lst xs) => (lopSem S2 n op xs vs).map fun ys => .nx ρ (S2.set n (.lst ys))
      | _ => none
    | _ => none
  | .drop e, ρ, S => (evE c e ρ S).map fun (_, S1) => .nx ρ S1
  | .ret e, ρ, S => (evE c e ρ S).map fun (v, S1) => .rt v S1
  | .retN, _, S => some (.rt .non S)
  | .ite t a b, ρ, S => (evE c t ρ S).bind fun (x, S1) => match x with
    | .bl true => exL c a ρ S1
    | .bl false => exL c b ρ S1
    | _ => none
  | .whl t b, ρ, S => whileG (fun ρ S => (evE c t ρ S).bind fun (x, S1) => match x with
      | .bl b => some (b, S1)
      | _ => none) (fun ρ S => exL c b ρ S) fuel ρ S
  | .for t k es b, ρ, S => (evL c es ρ S).bind fun (vs, S1) => (itemsOf S1 k vs).bind fun xs => forG (refsOf vs) (fun x ρ S => bindT c t x ρ S) (fun ρ S => exL c b ρ S) xs ρ S1
  | .pass, ρ, S => some (.nx ρ S)
  | .brk, ρ, S => some (.bk ρ S)
  | .cont, ρ, S => some (.ct ρ S)
  | .bad, _, _ => none
  | .augF ks o f e, ρ, S => (evE c o ρ S).bind fun (x, S1) => (insOf S1 x).bind fun (k, ns, xs) => if ks.contains k = true then (fldOf ns xs f).bind fun u => (evE c e ρ S1).bind fun (y, S2) => match u, y with
      | .int i, .int j => (insOf S2 x).bind fun (k2, _, _) => if k2 = k then (fldSet S2 ks x f (.int (i + j))).map fun S3 => .nx ρ S3 else none
      | _, _ => none else none
  | .dput d k e, ρ, S => (evE c e ρ S).bind fun (v, S1) => (evE c d ρ S1).bind fun (x, S2) => (evE c k ρ S2).bind fun (y, S3) => (dicSet S3 x y v).map fun S4 => .nx ρ S4
  | .augL i e, ρ, S => match ρ[i]? with
    | some (some (.ref n)) => (evE c e ρ S).bind fun (y, S1) => match S1[n]? with
      | some (.lst xs) => (lstOf S1 y).bind fun ys => if xs.length + ys.length < sizeLine ∧ isRef n y = false then some (.nx ρ (S1.set n (.lst (xs ++ ys)))) else none
      | _ => none
    | _ => none
noncomputable def exL (c : Oracle) : SL → Env → Store → Option Out
  | .nil, ρ, S => some (.nx ρ S)
  | .cons s ss, ρ, S => (exS c s ρ S).bind fun o => match o with
    | .nx ρ1 S1 => exL c ss ρ1 S1
    | o => some o
end

def startE (ns : Nat) (vs : List Val) : Env := vs.map some ++ List.replicate (ns - vs.length) none
/-- a def of the table, so deep; and one less deep -/
abbrev Fn3 := Nat → List Val → Store → Option (Val × Store)
noncomputable def runB (Δ : Table) (c : Oracle) : Fn3 := fun f vs S => match Δ f with
    | none => none
    | some d => if vs.length = d.np ∧ d.np ≤ d.ns then
        (exL c d.body (startE d.ns vs) S).bind fun o => match o with
          | .rt v S1 => some (v, S1)
          | .nx _ S1 => some (.non, S1)
          | _ => none
      else none
noncomputable def runP (Δ : Table) : Nat → Fn3 × Fn3
  | 0 => (fun _ _ _ => none, fun _ _ _ => none)
  | n + 1 => (runB Δ fun b => bif b then (runP Δ n).2 else (runP Δ n).1, (runP Δ n).1)
noncomputable def run (Δ : Table) (n : Nat) : Fn3 := (runP Δ n).1
/-- calls, so deep: an object is made one less deep -/
noncomputable def orc (Δ : Table) (n : Nat) : Oracle := fun b => bif b then (runP Δ n).2 else (runP Δ n).1
theorem run_zero {Δ : Table} {f : Nat} {vs : List Val} {S : Store} : run Δ 0 f vs S = none := rfl
theorem run_succ {Δ : Table} {n f : Nat} {vs : List Val} {S : Store} : run Δ (n + 1) f vs S = runB Δ (orc Δ n) f vs S := rfl
theorem orc_false {Δ : Table} {n f : Nat} {vs : List Val} {S : Store} : orc Δ n false f vs S = run Δ n f vs S := rfl
theorem orc_true {Δ : Table} {n f : Nat} {vs : List Val} {S : Store} : orc Δ (n + 1) true f vs S = run Δ n f vs S := rfl
theorem orc_true0 {Δ : Table} {f : Nat} {vs : List Val} {S : Store} : orc Δ 0 true f vs S = none := rfl
end Itp

namespace Itp
open PySem L2
/-! sum of a tuple of numbers -/
section
variable {pg : Program} {ww : World} {Ar : Around} {Ex : Value → Shared → Prop} {sh : Shared}
theorem st_call {l : Addr} {xs : Array (Int × Tok)} {Q : Value → Shared → Prop} (hh : Ar.handled = none) (hl : sh.heap.IsTuple l (intItems xs))
    (h : ∀ g tk t, (∀ b o, sh.heap.get? b = some o → g.get? b = some o) → Q (.int (preSum (numAt xs) xs.size) t) { sh with heap := g, toks := tk }) :
    wpAny (model pg ww) Ar (call (.builtin "sum") [.ref l]) Q Ex sh := by
  have lt : l < sh.heap.objs.size := by obtain ⟨_, e, _⟩ := hl; exact Heap.lt_size e
  refine call_sum_walkG (wpAny_pyIter_tuple hl ?_)
  have sz : (intItems xs).size = xs.size := by simp [intItems]
  refine ⟨_, _, _, _, _, _, numAt xs, rfl, Walks.tuple (A := Ar.in1) hh sh.heap.objs.size l (Nat.ne_of_lt lt) (intItems xs), ⟨⟨_, Heap.get?_push_size _ rfl, rfl, rfl⟩, hl.push _⟩, fun b hb => ?_, fun _ _ => intItems_at, fun g tk t kp => ?_⟩
  · show b < (sh.heap.push _).objs.size
    rw [Heap.size_push]
    simp only [List.mem_cons, List.not_mem_nil, or_false] at hb
    rcases hb with rfl | rfl
    · exact Nat.lt_succ_self _
    · exact Nat.lt_succ_of_lt lt
  · rw [sz]
    refine h g tk t fun b o e => kp b o (fun hm => ?_) (Heap.get?_push_of_some _ e)
    simp only [List.mem_cons, List.not_mem_nil, or_false] at hm
    exact absurd (hm ▸ Heap.lt_size e) (Nat.lt_irrefl _)
end
theorem cr_sumT {X : Cx} (hc : X.calm = true) : CallR X (.builtin "sum") (fun vs H Q => ∃ (a : Addr) (ns : List Int), vs = [V.ref a] ∧ SqT X.K H a (ns.map V.int) ∧ Q (.int ns.sum) H) := by
  intro pins s σ H vs us Q I r h
  obtain ⟨a, ns, rfl, hs, q⟩ := h
  obtain ⟨its, rv, hl, _⟩ := I.tuple hs
  rw [Vals.ref1 r]
  have hi := rv.ints
  obtain ⟨xs, e⟩ := hi.allInts.items
  have hn : numsOf (intItems xs).toList = ns := by rw [← e]; exact hi.numsOf
  rw [nums_intItems] at hn
  have hl2 : s.heap.IsTuple a (intItems xs) := by rw [← e]; exact hl
  refine st_call (I.ok.hd hc) hl2 fun g tk t kp => ⟨.int _, H, I.kept kp, ⟨_, rfl⟩, ?_⟩
  rw [preSum_eq, List.take_of_length_le (by simp), hn]; exact q
end Itp

namespace Itp
open PySem L2

/-! ### values of the interpreter and of the layer -/
/-- a list that comes from outside -/
def Exl (K : PySem.W.Frag) (μ : List Addr) (Z : Addr → Prop) (H : Hp) (a : Addr) (vs : List V) : Prop :=
  (a ∉ μ ∧ ¬ Z a ∧ Rd H a (.lst vs)) ∨ ∃ o its n, K.lookup a = some o ∧ o.cls = .type "list" ∧ o.dict = none ∧ o.data = .seq its n ∧ its.size ≤ sizeLine ∧ Vals vs its.toList
theorem Exl.sq {K : PySem.W.Frag} {μ : List Addr} {Z : Addr → Prop} {H : Hp} {a : Addr} {vs : List V} (h : Exl K μ Z H a vs) : SqL K H a vs := h.elim (fun q => .inl q.2.2) .inr
section
variable (K : PySem.W.Frag) (cl : Nat → Addr) (μ : List Addr) (Z : Addr → Prop) (H : Hp)
mutual
inductive Rel : Val → V → Prop
  | non : Rel .non .non
  | bl (b : Bool) : Rel (.bl b) (.bl b)
  | int (i : Int) : Rel (.int i) (.int i)
  | str (x : Str) : Rel (.str x) (.str x)
  | fn (f : Nat) : Rel (.fn f) (.ref (cl (1000 + f)))
  | tup {a : Addr} {xs : List Val} {vs : List V} : a ∉ μ → ¬ Z a → H a = some (.tup vs) → RelL xs vs → Rel (.tup xs) (.ref a)
  | lv {a : Addr} {xs : List Val} {vs : List V} : a ∉ μ → ¬ Z a → H a = some (.lst vs) → RelL xs vs → Rel (.lv xs) (.ref a)
  | sl {a : Addr} {xs : List Val} {vs : List V} : Exl K μ Z H a vs → RelL xs vs → Rel (.sl xs) (.ref a)
  | iv {a dx : Addr} {c : Nat} {ns : List Str} {xs : List Val} {vs : List V} : a ∉ μ → ¬ Z a → dx ∉ μ → ¬ Z dx → H a = some (.ins (cl c) dx (ns.zip vs)) → H dx = some (.own a) → ns.length = xs.length → RelL xs vs → Rel (.iv c ns xs) (.ref a)
  | ref {n : Nat} {a : Addr} : μ[n]? = some a → Rel (.ref n) (.ref a)
inductive RelL : List Val → List V → Prop
  | nil : RelL [] []
  | cons {x : Val} {v : V} {xs : List Val} {vs : List V} : Rel x v → RelL xs vs → RelL (x :: xs) (v :: vs)
end
end

/-- an object of the store -/
def ObRel (K : PySem.W.Frag) (cl : Nat → Addr) (μ : List Addr) (Z : Addr → Prop) (H : Hp) (a : Addr) : Ob → Prop
  | .lst xs => ∃ vs, H a = some (.lst vs) ∧ RelL K cl μ Z H xs vs
  | .ins c ns xs => ∃ dx vs, H a = some (.ins (cl c) dx (ns.zip vs)) ∧ H dx = some (.own a) ∧ dx ∉ μ ∧ ¬ Z dx ∧ ns.length = xs.length ∧ RelL K cl μ Z H xs vs
  | .dic ks xs => ∃ vs, H a = some (.dT (ks.zip vs)) ∧ ks.length = xs.length ∧ RelL K cl μ Z H xs vs
  | .dik ks xs => ∃ vs, H a = some (.dK (ks.zip vs)) ∧ ks.length = xs.length ∧ RelL K cl μ Z H xs vs
structure Sim (K : PySem.W.Frag) (cl : Nat → Addr) (μ : List Addr) (Z : Addr → Prop) (S : Store) (H : Hp) : Prop where
  len : μ.length = S.length
  nd : μ.Nodup
  ob : ∀ (n : Nat) (a : Addr) (o : Ob), μ[n]? = some a → S[n]? = some o → ObRel K cl μ Z H a o
  zt : ∀ a, Z a → ∃ o, H a = some o
  zm : ∀ a, Z a → a ∉ μ

/-- a step on: the store has grown by addresses that were free; what is not in the store stands -/
structure Stp (K : PySem.W.Frag) (cl : Nat → Addr) (Z : Addr → Prop) (μ : List Addr) (H : Hp) (μ' : List Addr) (S' : Store) (H' : Hp) : Prop where
  gr : ∃ nw : List Addr, μ' = μ ++ nw ∧ ∀ a ∈ nw, H a = none
  fr : ∀ b o, H b = some o → b ∉ μ → H' b = some o
  sm : Sim K cl μ' Z S' H'

section
variable {K : PySem.W.Frag} {cl : Nat → Addr} {μ μ' μ1 μ2 : List Addr} {Z Z' : Addr → Prop} {S S' S1 S2 : Store} {H H' H1 H2 : Hp} {a p : Addr} {o : HO}
theorem Sim.tr (s : Sim K cl μ Z S H) (h : a ∈ μ) : ∃ o, H a = some o := by
  obtain ⟨n, hn⟩ := List.getElem?_of_mem h
  have hl : n < S.length := by
    rw [← s.len]
    exact (List.getElem?_eq_some_iff.mp hn).1
  have q := s.ob n a S[n] hn (List.getElem?_eq_getElem hl)
  cases e : S[n] with
  | lst xs => rw [e] at q; obtain ⟨vs, q, _⟩ := q; exact ⟨_, q⟩
  | ins c ns xs => rw [e] at q; obtain ⟨dx, vs, q, _⟩ := q; exact ⟨_, q⟩
  | dic ks xs => rw [e] at q; obtain ⟨vs, q, _⟩ := q; exact ⟨_, q⟩
  | dik ks xs => rw [e] at q; obtain ⟨vs, q, _⟩ := q; exact ⟨_, q⟩
theorem Sim.free (s : Sim K cl μ Z S H) (h : H p = none) : p ∉ μ ∧ ¬ Z p := by
  constructor
  · intro z
    obtain ⟨o, e⟩ := s.tr z
    rw [h] at e; cases e
  · intro z
    obtain ⟨o, e⟩ := s.zt _ z
    rw [h] at e; cases e
theorem Stp.refl (s : Sim K cl μ Z S H) : Stp K cl Z μ H μ S H := ⟨⟨[], by simp, by simp⟩, fun _ _ h _ => h, s⟩
theorem Stp.trans (x : Stp K cl Z μ H μ1 S1 H1) (y : Stp K cl Z μ1 H1 μ2 S2 H2) : Stp K cl Z μ H μ2 S2 H2 := by
  obtain ⟨⟨nw, rfl, h1⟩, f1, s1⟩ := x
  obtain ⟨⟨nw2, rfl, h2⟩, f2, s2⟩ := y
  refine ⟨⟨nw ++ nw2, by simp, fun a ha => ?_⟩, fun b o h n => ?_, s2⟩
  · rcases List.mem_append.mp ha with z | z
    · exact h1 a z
    · cases e : H a with
      | none => rfl
      | some o =>
        exfalso
        by_cases hm : a ∈ μ
        · obtain ⟨o', q⟩ := s1.tr (List.mem_append_left nw hm)
          rw [h2 a z] at q; cases q
        · have q := f1 a o e hm
          rw [h2 a z] at q; cases q
  · refine f2 b o (f1 b o h n) fun z => ?_
    rcases List.mem_append.mp z with z | z
    · exact n z
    · have q := h1 b z
      rw [h] at q; cases q

/-! ### what is read stays -/
theorem sqL_move {vs : List V} (h : ∀ o, H a = some o → H' a = some o) (ht : ∃ o, H a = some o) (q : SqL K H a vs) : SqL K H' a vs := by
  rcases q with (q | ⟨ob, q⟩) | q
  · exact .inl (.inl (h _ q))
  · exact .inl (.inr ⟨ob, h _ q⟩)
  · exact .inr q
mutual
theorem Rel.move (hμ : ∀ (n : Nat) (a : Addr), μ[n]? = some a → μ'[n]? = some a) (hb : ∀ a o, H a = some o → a ∉ μ → ¬ Z a → a ∉ μ' ∧ ¬ Z' a ∧ H' a = some o) : ∀ {v : Val} {w : V}, Rel K cl μ Z H v w → Rel K cl μ' Z' H' v w
  | _, _, .non => .non
  | _, _, .bl b => .bl b
  | _, _, .int i => .int i
  | _, _, .str x => .str x
  | _, _, .fn f => .fn f
  | _, _, .tup h1 h2 h3 h4 => .tup (hb _ _ h3 h1 h2).1 (hb _ _ h3 h1 h2).2.1 (hb _ _ h3 h1 h2).2.2 (RelL.move hμ hb h4)
  | _, _, .lv h1 h2 h3 h4 => .lv (hb _ _ h3 h1 h2).1 (hb _ _ h3 h1 h2).2.1 (hb _ _ h3 h1 h2).2.2 (RelL.move hμ hb h4)
  | _, _, .sl h1 h5 => .sl (by
    rcases h1 with ⟨q1, q2, q3 | ⟨ob, q3⟩⟩ | q
    · exact .inl ⟨(hb _ _ q3 q1 q2).1, (hb _ _ q3 q1 q2).2.1, .inl (hb _ _ q3 q1 q2).2.2⟩
    · exact .inl ⟨(hb _ _ q3 q1 q2).1, (hb _ _ q3 q1 q2).2.1, .inr ⟨ob, (hb _ _ q3 q1 q2).2.2⟩⟩
    · exact .inr q) (RelL.move hμ hb h5)
  | _, _, .iv h1 h2 h3 h4 h5 h6 h7 h8 => .iv (hb _ _ h5 h1 h2).1 (hb _ _ h5 h1 h2).2.1 (hb _ _ h6 h3 h4).1 (hb _ _ h6 h3 h4).2.1 (hb _ _ h5 h1 h2).2.2 (hb _ _ h6 h3 h4).2.2 h7 (RelL.move hμ hb h8)
  | _, _, .ref h => .ref (hμ _ _ h)
theorem RelL.move (hμ : ∀ (n : Nat) (a : Addr), μ[n]? = some a → μ'[n]? = some a) (hb : ∀ a o, H a = some o → a ∉ μ → ¬ Z a → a ∉ μ' ∧ ¬ Z' a ∧ H' a = some o) : ∀ {v : List Val} {w : List V}, RelL K cl μ Z H v w → RelL K cl μ' Z' H' v w
  | _, _, .nil => .nil
  | _, _, .cons h t => .cons (Rel.move hμ hb h) (RelL.move hμ hb t)
end
theorem Stp.keep (x : Stp K cl Z μ H μ1 S1 H1) : (∀ (n : Nat) (a : Addr), μ[n]? = some a → μ1[n]? = some a) ∧ (∀ a o, H a = some o → a ∉ μ → ¬ Z a → a ∉ μ1 ∧ ¬ Z a ∧ H1 a = some o) := by
  obtain ⟨⟨nw, rfl, h1⟩, f1, s1⟩ := x
  refine ⟨fun n a h => ?_, fun a o h n z => ⟨fun q => ?_, z, f1 a o h n⟩⟩
  · rw [List.getElem?_append_left (List.getElem?_eq_some_iff.mp h).1]; exact h
  · rcases List.mem_append.mp q with q | q
    · exact n q
    · have e := h1 a q
      rw [h] at e; cases e
theorem Stp.rel (x : Stp K cl Z μ H μ1 S1 H1) {v : Val} {w : V} (r : Rel K cl μ Z H v w) : Rel K cl μ1 Z H1 v w := Rel.move x.keep.1 x.keep.2 r
theorem Stp.rels (x : Stp K cl Z μ H μ1 S1 H1) {v : List Val} {w : List V} (r : RelL K cl μ Z H v w) : RelL K cl μ1 Z H1 v w := RelL.move x.keep.1 x.keep.2 r

theorem RelL.length : ∀ {xs : List Val} {vs : List V}, RelL K cl μ Z H xs vs → xs.length = vs.length
  | _, _, .nil => rfl
  | _, _, .cons _ t => by simp [RelL.length t]
theorem RelL.get : ∀ {xs : List Val} {vs : List V} {i : Nat} {x : Val}, RelL K cl μ Z H xs vs → xs[i]? = some x → ∃ v, vs[i]? = some v ∧ Rel K cl μ Z H x v
  | _, _, 0, _, .cons r _, e => by simp at e; subst e; exact ⟨_, rfl, r⟩
  | _, _, i + 1, x, .cons _ t, e => by
    obtain ⟨v, h1, h2⟩ := RelL.get (i := i) t (by simpa using e)
    exact ⟨v, by simpa using h1, h2⟩
theorem RelL.getB : ∀ {xs : List Val} {vs : List V} {i : Nat} {v : V}, RelL K cl μ Z H xs vs → vs[i]? = some v → ∃ x, xs[i]? = some x ∧ Rel K cl μ Z H x v
  | _, _, 0, _, .cons r _, e => by simp at e; subst e; exact ⟨_, rfl, r⟩
  | _, _, i + 1, x, .cons _ t, e => by
    obtain ⟨v, h1, h2⟩ := RelL.getB (i := i) t (by simpa using e)
    exact ⟨v, by simpa using h1, h2⟩
theorem RelL.append : ∀ {xs ys : List Val} {vs ws : List V}, RelL K cl μ Z H xs vs → RelL K cl μ Z H ys ws → RelL K cl μ Z H (xs ++ ys) (vs ++ ws)
  | _, _, _, _, .nil, s => s
  | _, _, _, _, .cons r t, s => .cons r (RelL.append t s)
theorem RelL.take : ∀ {xs : List Val} {vs : List V} (n : Nat), RelL K cl μ Z H xs vs → RelL K cl μ Z H (xs.take n) (vs.take n)
  | _, _, 0, _ => by simp; exact .nil
  | _, _, _ + 1, .nil => .nil
  | _, _, n + 1, .cons r t => .cons r (RelL.take n t)
theorem RelL.drop : ∀ {xs : List Val} {vs : List V} (n : Nat), RelL K cl μ Z H xs vs → RelL K cl μ Z H (xs.drop n) (vs.drop n)
  | _, _, 0, r => r
  | _, _, _ + 1, .nil => .nil
  | _, _, n + 1, .cons _ t => RelL.drop n t
theorem RelL.set : ∀ {xs : List Val} {vs : List V} (i : Nat) {x : Val} {v : V}, Rel K cl μ Z H x v → RelL K cl μ Z H xs vs → RelL K cl μ Z H (xs.set i x) (vs.set i v)
  | _, _, _, _, _, _, .nil => .nil
  | _, _, 0, _, _, r, .cons _ t => .cons r t
  | _, _, i + 1, _, _, r, .cons q t => .cons q (RelL.set i r t)
theorem RelL.rep {xs : List Val} {vs : List V} (r : RelL K cl μ Z H xs vs) : ∀ n : Nat, RelL K cl μ Z H (List.replicate n xs).flatten (List.replicate n vs).flatten
  | 0 => .nil
  | n + 1 => by
    rw [List.replicate_succ, List.replicate_succ, List.flatten_cons, List.flatten_cons]
    exact r.append (RelL.rep r n)

/-- what stands in the store stays of one sort, whatever happens elsewhere -/
theorem ObRel.move {ob : Ob} (hμ : ∀ (n : Nat) (a : Addr), μ[n]? = some a → μ'[n]? = some a) (hb : ∀ a o, H a = some o → a ∉ μ → ¬ Z a → a ∉ μ' ∧ ¬ Z' a ∧ H' a = some o) (ha : H' a = H a) (r : ObRel K cl μ Z H a ob) : ObRel K cl μ' Z' H' a ob := by
  cases ob with
  | lst xs => obtain ⟨vs, h1, h2⟩ := r; exact ⟨vs, by rw [ha]; exact h1, RelL.move hμ hb h2⟩
  | ins c ns xs => obtain ⟨dx, vs, h1, h2, h3, h4, h5, h6⟩ := r; exact ⟨dx, vs, by rw [ha]; exact h1, (hb _ _ h2 h3 h4).2.2, (hb _ _ h2 h3 h4).1, (hb _ _ h2 h3 h4).2.1, h5, RelL.move hμ hb h6⟩
  | dic ks xs => obtain ⟨vs, h1, h2, h3⟩ := r; exact ⟨vs, by rw [ha]; exact h1, h2, RelL.move hμ hb h3⟩
  | dik ks xs => obtain ⟨vs, h1, h2, h3⟩ := r; exact ⟨vs, by rw [ha]; exact h1, h2, RelL.move hμ hb h3⟩

/-- a new object beside the store, hidden -/
def zadd (Z : Addr → Prop) (p : Addr) : Addr → Prop := fun a => Z a ∨ a = p
theorem hide_keep (h : H p = none) : ∀ a u, H a = some u → a ∉ μ → ¬ Z a → a ∉ μ ∧ ¬ (zadd Z p) a ∧ upd H p o a = some u := fun a u e n z =>
  have ne : a ≠ p := ne_of_none e h
  ⟨n, fun q => q.elim z ne, by rw [upd_ne ne]; exact e⟩
theorem new_keep (h : H p = none) : ∀ a u, H a = some u → a ∉ μ → ¬ Z a → a ∉ μ ∧ ¬ Z a ∧ upd H p o a = some u := fun a u e n z =>
  have ne : a ≠ p := ne_of_none e h
  ⟨n, z, by rw [upd_ne ne]; exact e⟩
theorem Sim.hide (s : Sim K cl μ Z S H) (h : H p = none) : Sim K cl μ (zadd Z p) S (upd H p o) := by
  have f := s.free h
  refine ⟨s.len, s.nd, fun n a ob h1 h2 => (s.ob n a ob h1 h2).move (fun _ _ q => q) (hide_keep h) (upd_ne fun e => f.1 (e ▸ List.mem_of_getElem? h1)), fun a z => ?_, fun a z => ?_⟩
  · rcases z with z | z
    · obtain ⟨u, e⟩ := s.zt a z
      exact ⟨u, by rw [upd_ne (ne_of_none e h)]; exact e⟩
    · subst z; exact ⟨o, upd_same⟩
  · rcases z with z | z
    · exact s.zm a z
    · subst z; exact f.1
theorem Sim.laid (s : Sim K cl μ Z S H) (h : H p = none) : Sim K cl μ Z S (upd H p o) := by
  have f := s.free h
  refine ⟨s.len, s.nd, fun n a ob h1 h2 => (s.ob n a ob h1 h2).move (fun _ _ q => q) (new_keep h) (upd_ne fun e => f.1 (e ▸ List.mem_of_getElem? h1)), fun a z => ?_, s.zm⟩
  obtain ⟨u, e⟩ := s.zt a z
  exact ⟨u, by rw [upd_ne (ne_of_none e h)]; exact e⟩
/-- a new object that is a value from now on -/
theorem Stp.laid (s : Sim K cl μ Z S H) (h : H p = none) : Stp K cl Z μ H μ S (upd H p o) := ⟨⟨[], by simp, by simp⟩, fun b u e _ => by rw [upd_ne (ne_of_none e h)]; exact e, s.laid h⟩
theorem RelL.hide {xs : List Val} {vs : List V} (r : RelL K cl μ Z H xs vs) (h : H p = none) : RelL K cl μ (zadd Z p) (upd H p o) xs vs := r.move (fun _ _ q => q) (hide_keep h)
theorem RelL.laid {xs : List Val} {vs : List V} (r : RelL K cl μ Z H xs vs) (h : H p = none) : RelL K cl μ Z (upd H p o) xs vs := r.move (fun _ _ q => q) (new_keep h)
theorem show_keep : ∀ a u, H a = some u → a ∉ μ → ¬ (zadd Z p) a → a ∉ μ ∧ ¬ Z a ∧ H a = some u := fun _ _ e n z => ⟨n, fun q => z (.inl q), e⟩
theorem Sim.unhide (s : Sim K cl μ (zadd Z p) S H) : Sim K cl μ Z S H :=
  ⟨s.len, s.nd, fun n a ob h1 h2 => (s.ob n a ob h1 h2).move (fun _ _ q => q) show_keep rfl, fun a z => s.zt a (.inl z), fun a z => s.zm a (.inl z)⟩
theorem RelL.unhide {xs : List Val} {vs : List V} (r : RelL K cl μ (zadd Z p) H xs vs) : RelL K cl μ Z H xs vs := r.move (fun _ _ q => q) show_keep
theorem Rel.unhide {x : Val} {v : V} (r : Rel K cl μ (zadd Z p) H x v) : Rel K cl μ Z H x v := r.move (fun _ _ q => q) show_keep
/-- a hidden list goes into the store -/
theorem adopt_keep : ∀ a u, H a = some u → a ∉ μ → ¬ (zadd Z p) a → a ∉ μ ++ [p] ∧ ¬ Z a ∧ H a = some u := fun a _ e n z =>
  ⟨fun q => by
    rcases List.mem_append.mp q with q | q
    · exact n q
    · exact z (.inr (by simpa using q)), fun q => z (.inl q), e⟩
theorem app_get {n : Nat} (h : μ[n]? = some a) : (μ ++ μ1)[n]? = some a := by
  rw [List.getElem?_append_left (List.getElem?_eq_some_iff.mp h).1]; exact h
theorem Sim.adopt {xs : List Val} {vs : List V} (s : Sim K cl μ (zadd Z p) S H) (hz : ¬ Z p) (h : H p = some (.lst vs)) (r : RelL K cl μ (zadd Z p) H xs vs) : Sim K cl (μ ++ [p]) Z (S ++ [.lst xs]) H := by
  have hp : p ∉ μ := s.zm p (.inr rfl)
  refine ⟨by simp [s.len], ?_, fun n a ob h1 h2 => ?_, fun a z => s.zt a (.inl z), fun a z q => ?_⟩
  · rw [List.nodup_append]
    refine ⟨s.nd, by simp, fun a ha b hb e => ?_⟩
    simp at hb
    subst e; subst hb
    exact hp ha
  · by_cases hn : n < μ.length
    · rw [List.getElem?_append_left hn] at h1
      rw [List.getElem?_append_left (by rw [← s.len]; exact hn)] at h2
      exact (s.ob n a ob h1 h2).move (fun _ _ q => app_get q) adopt_keep rfl
    · rw [List.getElem?_append_right (by omega)] at h1
      rw [List.getElem?_append_right (by rw [← s.len]; omega), ← s.len] at h2
      cases e : n - μ.length with
      | zero =>
        rw [e] at h1 h2
        simp at h1 h2
        subst h1; subst h2
        exact ⟨vs, h, r.move (fun _ _ q => app_get q) adopt_keep⟩
      | succ k =>
        rw [e] at h1
        simp at h1
  · rcases List.mem_append.mp q with q | q
    · exact s.zm a (.inl z) q
    · simp at q; subst q; exact hz z
/-- an object of the store is changed -/
theorem set_keep (h : a ∈ μ) : ∀ b u, H b = some u → b ∉ μ → ¬ Z b → b ∉ μ ∧ ¬ Z b ∧ upd H a o b = some u := fun b u e n z =>
  have ne : b ≠ a := fun q => n (q ▸ h)
  ⟨n, z, by rw [upd_ne ne]; exact e⟩
theorem Sim.set {n : Nat} {ob : Ob} (s : Sim K cl μ Z S H) (h : μ[n]? = some a) (r : ObRel K cl μ Z (upd H a o) a ob) : Sim K cl μ Z (S.set n ob) (upd H a o) := by
  have ha := List.mem_of_getElem? h
  refine ⟨by simp [s.len], s.nd, fun m b ob' h1 h2 => ?_, fun b z => ?_, s.zm⟩
  · by_cases e : m = n
    · subst e
      rw [h] at h1; cases h1
      rw [List.getElem?_set_self (by rw [← s.len]; exact (List.getElem?_eq_some_iff.mp h).1)] at h2
      cases h2
      exact r
    · rw [List.getElem?_set_ne (fun q => e q.symm)] at h2
      have hne : b ≠ a := fun q => by
        subst q
        have hm := (List.getElem?_eq_some_iff.mp h1)
        have hn := (List.getElem?_eq_some_iff.mp h)
        exact e ((List.getElem_inj s.nd).mp (hm.2.trans hn.2.symm))
      exact (s.ob m b ob' h1 h2).move (fun _ _ q => q) (set_keep ha) (upd_ne hne)
  · have hne : b ≠ a := fun q => s.zm b z (q ▸ ha)
    obtain ⟨u, e⟩ := s.zt b z
    exact ⟨u, by rw [upd_ne hne]; exact e⟩
theorem Stp.set {n : Nat} {ob : Ob} (s : Sim K cl μ Z S H) (h : μ[n]? = some a) (r : ObRel K cl μ Z (upd H a o) a ob) : Stp K cl Z μ H μ (S.set n ob) (upd H a o) :=
  ⟨⟨[], by simp, by simp⟩, fun b u e hn => by
    have ne : b ≠ a := fun q => hn (q ▸ List.mem_of_getElem? h)
    rw [upd_ne ne]; exact e, s.set h r⟩
end
end Itp

namespace Itp
open PySem PySem.Spec PyProof.Rows L2
/-! ### sorted(xs), rows of numbers, any number of them -/
def encR (f : V → List Int) (b : V) : PyData := .tuple ((f b).map .int)
theorem leRow_le : ∀ r q : List Int, leRow r q = decide (¬ q < r)
  | [], q => by
    unfold leRow
    rw [decide_eq_true]
    exact fun h => by cases h
  | a :: r, [] => by
    unfold leRow
    rw [decide_eq_false]
    exact fun h => h (List.nil_lt_cons _ _)
  | a :: r, b :: q => by
    have ih := leRow_le r q
    unfold leRow
    rw [ih, Bool.eq_iff_iff]
    simp only [Bool.or_eq_true, Bool.and_eq_true, decide_eq_true_eq, List.cons_lt_cons_iff, not_or, not_and]
    constructor
    · rintro (h | ⟨h, h2⟩)
      · exact ⟨by omega, fun e => by omega⟩
      · exact ⟨by omega, fun _ => h2⟩
    · rintro ⟨h1, h2⟩
      rcases (show a < b ∨ a = b by omega) with h | h
      · exact .inl h
      · exact .inr ⟨h, h2 h.symm⟩
theorem dataLe_encR (f : V → List Int) : PySem.W.dataLe false (encR f) = fun p q => leRow (f p) (f q) := by
  funext p q
  show (!PySem.W.dataLt (.tuple ((f q).map .int)) (.tuple ((f p).map .int))) = _
  rw [PySem.W.dataLt_tuple]
  show (!PySem.W.rowLt ((f q).map .int) ((f p).map .int)) = _
  rw [PySem.W.dataLt_ints, leRow_le]
  by_cases h : f q < f p
  · rw [decide_eq_true h, decide_eq_false (fun n => n h)]; rfl
  · rw [decide_eq_false h, decide_eq_true h]; rfl
theorem dp_ints {K : PySem.W.Frag} {H : Hp} : ∀ ns : List Int, DpAll K H (ns.map V.int) (ns.map PyData.int)
  | [] => .nil
  | n :: ns => .cons (.int n) (dp_ints ns)
section
variable {X : Cx}
theorem each_vals {pins : List (Addr × Obj)} {σ : L2.St} {H : Hp} {s : Shared} (I : Inv X pins σ H s) (f : V → List Int) : ∀ {xs : List V} {its : List Value}, Vals xs its → (∀ x ∈ xs, TupI X.K H x (f x)) →
    PySem.W.EachIs (fun v b => RelV b v) its xs ∧ PySem.W.EachIs (fun v b => ∃ as, Reads s.heap v (encR f b) as) its xs
  | _, _, .nil, _ => ⟨.nil, .nil⟩
  | x :: xs, _, .cons r t, h => by
    obtain ⟨h1, h2⟩ := each_vals I f t fun y hy => h y (List.mem_cons_of_mem _ hy)
    obtain ⟨p, e, hp⟩ := h x List.mem_cons_self
    have hd : Dp X.K H x (encR f x) := by
      rw [e] at hp ⊢
      exact .tup hp (dp_ints _)
    exact ⟨.cons r h1, .cons (Dp.reads I _ _ _ hd r) h2⟩
theorem vals_each : ∀ {its : List Value} {xs : List V}, PySem.W.EachIs (fun v b => RelV b v) its xs → Vals xs its
  | _, _, .nil => .nil
  | _, _, .cons h t => .cons h (vals_each t)
def rSortedW (K : PySem.W.Frag) : List V → Hp → VK → Prop := fun vs H Q => ∃ (a : Addr) (xs : List V) (f : V → List Int), vs = [V.ref a] ∧ SqL K H a xs ∧ (∀ x ∈ xs, TupI K H x (f x) ∧ f x ≠ []) ∧
  ∀ (ys : List V) (p : Addr), ys.Perm xs → (ys.Pairwise fun x y => leRow (f x) (f y) = true) → H p = none → Q (.ref p) (upd H p (.lst ys))
theorem cr_sortedW (tr : ∀ r q t : List Int, leRow r q = true → leRow q t = true → leRow r t = true) (to : ∀ r q : List Int, (leRow r q || leRow q r) = true) (hu : X.A.units + 70 < cLine) : CallR X (.builtin "sorted") (rSortedW X.K) := by
  intro pins s σ H vs us Q I r h
  obtain ⟨a, xs, f, rfl, hs, hx, q⟩ := h
  obtain ⟨its, rv, hl, hz⟩ := I.list hs
  rw [Vals.ref1 r]
  obtain ⟨e1, e2⟩ := each_vals I f rv fun x hx' => (hx x hx').1
  refine PySem.W.sorted_data (enc := encR f) (R := fun v b => RelV b v) hl.isList e1 e2 ?_ ?_ hz ?_ fun out ho hr => ?_
  · intro d hd d' hd'
    obtain ⟨b, _, rfl⟩ := List.mem_map.mp hd
    obtain ⟨b', _, rfl⟩ := List.mem_map.mp hd'
    unfold encR
    rw [PySem.W.alike]
    exact PySem.W.alike_ints _ _
  · refine .inl fun d hd => ?_
    obtain ⟨b, hb, rfl⟩ := List.mem_map.mp hd
    have hn := (hx b hb).2
    unfold encR
    cases e : f b with
    | nil => exact absurd e hn
    | cons x r => exact ⟨_, _, rfl⟩
  · intro b hb
    unfold encR
    rw [PyData.depth, PySem.W.depth_ints]
    omega
  · rw [dataLe_encR] at hr
    obtain ⟨ep, he'⟩ := PyProof.Rows.sortedAll_at s.heap its out.toArray
    have hlen : (xs.mergeSort fun p q => leRow (f p) (f q)).length ≤ sizeLine := by
      rw [(List.mergeSort_perm _ _).length_eq]
      exact hz
    refine ⟨.ref _, upd H (s.heap.objs.size + 1) (.lst (xs.mergeSort fun p q => leRow (f p) (f q))), I.laid (t' := s.toks) (fun _ _ => PyProof.Rows.sortedAll_old) (Nat.le_succ _) ⟨hlen, out, ep, vals_each hr, he'⟩, rfl, q _ _ (List.mergeSort_perm _ _) ?_ (I.hok.fresh (Nat.le_succ _))⟩
    exact List.pairwise_mergeSort (le := fun p q => leRow (f p) (f q)) (fun a b c => tr _ _ _) (fun a b => to _ _) xs
end
end Itp

namespace Itp
open PySem PySem.Spec PyProof.Rows L2
theorem add_bool_g (a : Int) (t : Tok) (b : Bool) : Gives (Builtin.«int.__add__» ⟨[.bool b, .int a t], []⟩) (.int ((if b = true then (1 : Int) else 0) + a)) :=
  .of_wp fun M A E s Q h => by obtain ⟨hp, g, d, tk, os⟩ := s; wp_walk; exact ⟨_, rfl, h⟩
theorem same_reflected_int_bool_sub : reflectedDiffers (.type "int") (.type "bool") "sub" = pure false := by
  unfold reflectedDiffers
  show (typeLookup (.type "bool") (dunderR "sub") >>= fun rb => typeLookup (.type "int") (dunderR "sub") >>= fun ra => pure (rb.isSome && rb != ra)) = pure false
  rw [typeLookup_type, typeLookup_type, builtinLookup_eq_fast]; kernel_rfl
section
variable {prog : Program} {w : World} {A : Around} {E : Value → Shared → Prop} {s : Shared} {a : Int} {t : Tok} {b : Bool}
theorem add_bool_int {Q : Value → Shared → Prop} (h : Q (.int ((if b = true then (1 : Int) else 0) + a) s.toks) { s with toks := s.toks + 1 }) : wpAny (model prog w) A (binaryOp .Add (.bool b) (.int a t)) Q E s :=
  binaryOp_left_gives (op := .Add) (T := "bool") (U := "int") (by decide) rfl (fun s' => typeIs_int s' a t) F.fills_bool_add F.fills_int_add F.sub_int_bool F.slot_bool_add F.slot_int_radd F.entry_int_add (F.args_int_add_2 _ _)
    (add_bool_g a t b) trivial h
theorem sub_int_bool {Q : Value → Shared → Prop} (h : Q (.int (a - if b = true then (1 : Int) else 0) s.toks) { s with toks := s.toks + 1 }) : wpAny (model prog w) A (binaryOp .Sub (.int a t) (.bool b)) Q E s :=
  binaryOp_sub_gives (op := .Sub) (T := "int") (U := "bool") (by decide) (typeIs_int s a t) rfl F.fills_int_sub F.fills_bool_sub isSubtype_bool_int same_reflected_int_bool_sub F.slot_int_sub F.entry_int_sub (F.args_int_sub_2 _ _)
    (AutoIntG7.int___sub___int_bool_0 a t b) trivial h
end
section
variable {X : Cx}
theorem op_add_bi : OpR X (binaryOp .Add) (fun x y H Q => ∃ i k, x = .bl k ∧ y = .int i ∧ Q (.int (b2i k + i)) H) := by
  intro pins s σ H x y v u Q I rx ry h
  obtain ⟨i, k, rfl, rfl, q⟩ := h
  obtain ⟨t, rfl⟩ := ry
  cases rx
  exact add_bool_int ⟨.int (b2i k + i), H, I.tok _, ⟨_, rfl⟩, q⟩
theorem op_sub_ib : OpR X (binaryOp .Sub) (fun x y H Q => ∃ i k, x = .int i ∧ y = .bl k ∧ Q (.int (i - b2i k)) H) := by
  intro pins s σ H x y v u Q I rx ry h
  obtain ⟨i, k, rfl, rfl, q⟩ := h
  obtain ⟨t, rfl⟩ := rx
  cases ry
  exact sub_int_bool ⟨.int (i - b2i k), H, I.tok _, ⟨_, rfl⟩, q⟩
theorem call_str_sc : CallR X (.type "str") (fun xs H Q => (∃ i, xs = [.int i] ∧ i.natAbs.log2 < 1920 ∧ Q (.str (toString i)) H) ∨ ∃ k : Bool, xs = [.bl k] ∧ Q (.str (if k then "True" else "False")) H) := by
  intro pins s σ H xs us Q I r h
  rcases h with h | ⟨k, rfl, q⟩
  · exact call_str_int pins s σ H xs us Q I r h
  · cases r with
    | cons h1 h2 =>
      cases h2
      cases h1
      exact PySem.P.str_of_bool ⟨.str _, H, I.tok _, ⟨_, rfl⟩, q⟩
end
end Itp

namespace Itp
open PySem L2

/-- a list that nobody else holds -/
def Frs (K : PySem.W.Frag) (cl : Nat → Addr) (Z : Addr → Prop) (H : Hp) (μ' : List Addr) (S' : Store) (H' : Hp) (v : Val) (w : V) : Prop :=
  ∀ xs, v = .lv xs → ∃ p vs, w = .ref p ∧ H p = none ∧ ¬ Z p ∧ H' p = some (.lst vs) ∧ Sim K cl μ' (zadd Z p) S' H' ∧ RelL K cl μ' (zadd Z p) H' xs vs
def Kf (K : PySem.W.Frag) (cl : Nat → Addr) (Z : Addr → Prop) (μ : List Addr) (H : Hp) (S' : Store) (v : Val) (Q : VK) : Prop :=
  ∀ μ' H' w, Stp K cl Z μ H μ' S' H' → Rel K cl μ' Z H' v w → Frs K cl Z H μ' S' H' v w → Q w H'
def Kn (K : PySem.W.Frag) (cl : Nat → Addr) (Z : Addr → Prop) (μ : List Addr) (H : Hp) (S' : Store) (v : Val) (Q : VK) : Prop :=
  ∀ μ' H' w, Stp K cl Z μ H μ' S' H' → Rel K cl μ' Z H' v w → Q w H'

section
variable {K : PySem.W.Frag} {cl : Nat → Addr} {μ μ' : List Addr} {Z : Addr → Prop} {S S' : Store} {H H' : Hp} {Q : VK} {x y z : Val} {v u w : V} {xs ys : List Val} {vs us : List V}
theorem Kn.f (k : Kn K cl Z μ H S z Q) : Kf K cl Z μ H S z Q := fun μ' H' w st r _ => k μ' H' w st r
theorem Kn.here (k : Kn K cl Z μ H S z Q) (s : Sim K cl μ Z S H) (r : Rel K cl μ Z H z w) : Q w H := k μ H w (Stp.refl s) r
theorem Frs.no (h : ∀ xs, z ≠ .lv xs) : Frs K cl Z H μ' S' H' z w := fun xs e => absurd e (h xs)
theorem Kf.here (k : Kf K cl Z μ H S z Q) (s : Sim K cl μ Z S H) (r : Rel K cl μ Z H z w) (h : ∀ xs, z ≠ .lv xs) : Q w H := k μ H w (Stp.refl s) r (Frs.no h)
theorem Kf.lst (k : Kf K cl Z μ H S (.lv xs) Q) (s : Sim K cl μ Z S H) (r : RelL K cl μ Z H xs vs) : ∀ p, H p = none → Q (.ref p) (upd H p (.lst vs)) := fun p hp =>
  k μ _ _ (Stp.laid s hp) (.lv (s.free hp).1 (s.free hp).2 upd_same (r.laid hp)) fun ys e => by
    cases e
    exact ⟨p, vs, rfl, hp, (s.free hp).2, upd_same, s.hide hp, r.hide hp⟩
theorem Kf.tup (k : Kf K cl Z μ H S (.tup xs) Q) (s : Sim K cl μ Z S H) (r : RelL K cl μ Z H xs vs) : ∀ p, H p = none → Q (.ref p) (upd H p (.tup vs)) := fun p hp =>
  k μ _ _ (Stp.laid s hp) (.tup (s.free hp).1 (s.free hp).2 upd_same (r.laid hp)) (Frs.no fun _ e => nomatch e)
theorem Kn.step {μ1 : List Addr} {S1 : Store} {H1 : Hp} (k : Kn K cl Z μ H S z Q) (st : Stp K cl Z μ H μ1 S1 H1) : Kn K cl Z μ1 H1 S z Q := fun μ' H' w st' r => k μ' H' w (st.trans st') r
/-- fresh behind a step is fresh before -/
theorem Stp.free {μ1 : List Addr} {S1 : Store} {H1 : Hp} {p : Addr} (st : Stp K cl Z μ H μ1 S1 H1) (h : H1 p = none) : H p = none := by
  cases e : H p with
  | none => rfl
  | some o =>
    exfalso
    by_cases hm : p ∈ μ
    · obtain ⟨nw, rfl, _⟩ := st.gr
      obtain ⟨o', q⟩ := st.sm.tr (List.mem_append_left nw hm)
      rw [h] at q; cases q
    · have q := st.fr p o e hm
      rw [h] at q; cases q
theorem Kf.step {μ1 : List Addr} {S1 : Store} {H1 : Hp} (k : Kf K cl Z μ H S z Q) (st : Stp K cl Z μ H μ1 S1 H1) : Kf K cl Z μ1 H1 S z Q := fun μ' H' w st' r f => k μ' H' w (st.trans st') r fun xs e => by
  obtain ⟨p, vs, h1, h2, h3, h4⟩ := f xs e
  exact ⟨p, vs, h1, st.free h2, h3, h4⟩

/-! ### what stands at a sequence -/
theorem lst_at (s : Sim K cl μ Z S H) (r : Rel K cl μ Z H x v) (h : lstOf S x = some xs) : ∃ a vs, v = .ref a ∧ H a = some (.lst vs) ∧ RelL K cl μ Z H xs vs := by
  cases r with
  | lv h1 h2 h3 h4 => cases h; exact ⟨_, _, rfl, h3, h4⟩
  | @ref n a h1 =>
    have h : (match S[n]? with | some (.lst xs) => some xs | _ => none) = some xs := h
    split at h
    · rename_i ys e
      cases h
      obtain ⟨vs, q1, q2⟩ := s.ob _ _ _ h1 e
      exact ⟨a, vs, rfl, q1, q2⟩
    · cases h
  | _ => cases h
theorem seq_at (s : Sim K cl μ Z S H) (r : Rel K cl μ Z H x v) (h : seqOf S x = some xs) : ∃ a vs, v = .ref a ∧ (SqL K H a vs ∨ SqT K H a vs) ∧ RelL K cl μ Z H xs vs := by
  cases r with
  | tup h1 h2 h3 h4 => cases h; exact ⟨_, _, rfl, .inr (.inl (.inl h3)), h4⟩
  | lv h1 h2 h3 h4 => cases h; exact ⟨_, _, rfl, .inl (.inl (.inl h3)), h4⟩
  | sl h1 h5 => cases h; exact ⟨_, _, rfl, .inl h1.sq, h5⟩
  | @ref n a h1 =>
    have h : (match S[n]? with | some (.lst xs) => some xs | _ => none) = some xs := h
    split at h
    · rename_i ys e
      cases h
      obtain ⟨vs, q1, q2⟩ := s.ob _ _ _ h1 e
      exact ⟨a, vs, rfl, .inl (.inl (.inl q1)), q2⟩
    · cases h
  | _ => cases h
theorem RelL.ints : ∀ {xs : List Val} {vs : List V} {ns : List Int}, RelL K cl μ Z H xs vs → intsOf xs = some ns → vs = ns.map V.int
  | _, _, _, .nil, h => by cases h; rfl
  | .int i :: r, _, ns, .cons (.int _) t, h => by
    unfold intsOf at h
    cases e : intsOf r with
    | none => rw [e] at h; cases h
    | some ms => rw [e] at h; cases h; rw [RelL.ints t e]; rfl
  | .non :: _, _, _, _, h => nomatch h
  | .bl _ :: _, _, _, _, h => nomatch h
  | .str _ :: _, _, _, _, h => nomatch h
  | .tup _ :: _, _, _, _, h => nomatch h
  | .lv _ :: _, _, _, _, h => nomatch h
  | .sl _ :: _, _, _, _, h => nomatch h
  | .iv _ _ _ :: _, _, _, _, h => nomatch h
  | .ref _ :: _, _, _, _, h => nomatch h
theorem RelL.bls : ∀ {xs : List Val} {vs : List V} {ns : List Bool}, RelL K cl μ Z H xs vs → blsOf xs = some ns → vs = ns.map V.bl
  | _, _, _, .nil, h => by cases h; rfl
  | .bl i :: r, _, ns, .cons (.bl _) t, h => by
    unfold blsOf at h
    cases e : blsOf r with
    | none => rw [e] at h; cases h
    | some ms => rw [e] at h; cases h; rw [RelL.bls t e]; rfl
  | .non :: _, _, _, _, h => nomatch h
  | .int _ :: _, _, _, _, h => nomatch h
  | .str _ :: _, _, _, _, h => nomatch h
  | .tup _ :: _, _, _, _, h => nomatch h
  | .lv _ :: _, _, _, _, h => nomatch h
  | .sl _ :: _, _, _, _, h => nomatch h
  | .iv _ _ _ :: _, _, _, _, h => nomatch h
  | .ref _ :: _, _, _, _, h => nomatch h
end

def BOp.py : BOp → Operator
  | .add => .Add | .sub => .Sub | .mul => .Mult | .fdiv => .FloorDiv | .mod => .Mod | .pow => .Pow
def COp.py : COp → CmpOp
  | .lt => .Lt | .le => .LtE | .gt => .Gt | .ge => .GtE | .eq => .Eq | .ne => .NotEq | .is => .Is | .isnot => .IsNot | .isin => .In | .notin => .NotIn

def rBin (K : PySem.W.Frag) (cl : Nat → Addr) (o : BOp) : R2 := fun v u H Q => ∃ μ Z S x y z, Sim K cl μ Z S H ∧ Rel K cl μ Z H x v ∧ Rel K cl μ Z H y u ∧ binSem S o x y = some z ∧ Kf K cl Z μ H S z Q
theorem bin_ok {X : Cx} {cl : Nat → Addr} (o : BOp) : OpR X (binaryOp o.py) (rBin X.K cl o) := by
  intro pins s σ H v u vv uu Q I rv ru ⟨μ, Z, S, x, y, z, sm, rx, ry, hb, k⟩
  unfold binSem at hb
  split at hb
  · cases hb; cases rx; cases ry
    exact op_add pins s σ H _ _ _ _ Q I rv ru ⟨_, _, rfl, rfl, k.here sm (.int _) (fun _ e => nomatch e)⟩
  · rename_i b j
    cases hb; cases rx; cases ry
    refine op_add_bi pins s σ H _ _ _ _ Q I rv ru ⟨_, _, rfl, rfl, ?_⟩
    have q := k.here sm (.int _) (fun _ e => nomatch e)
    exact q
  · rename_i i b
    cases hb; cases rx; cases ry
    refine op_sub_ib pins s σ H _ _ _ _ Q I rv ru ⟨_, _, rfl, rfl, ?_⟩
    have q := k.here sm (.int _) (fun _ e => nomatch e)
    exact q
  · split at hb
    · rename_i hc
      cases hb
      cases rx with
      | tup h1 h2 h3 h4 =>
        cases ry with
        | tup g1 g2 g3 g4 =>
          refine op_catA pins s σ H _ _ _ _ Q I rv ru ⟨_, _, _, _, rfl, rfl, .inl (.inl h3), .inl (.inl g3), ?_, fun e => ?_, fun _ e => ?_, fun _ _ => k.tup sm (h4.append g4)⟩
          · rw [← h4.length, ← g4.length]; exact hc
          · subst e; cases h4
            exact k.here sm (.tup g1 g2 g3 g4) (fun _ e => nomatch e)
          · subst e; cases g4
            refine k.here sm (.tup h1 h2 h3 ?_) (fun _ e => nomatch e)
            rw [List.append_nil]; exact h4
    · cases hb
  · split at hb
    · rename_i xs ys e1 e2
      split at hb
      · rename_i hl
        cases hb
        obtain ⟨a, vs, rfl, ha, ra⟩ := lst_at sm rx e1
        obtain ⟨b, us, rfl, hb', rb⟩ := lst_at sm ry e2
        exact op_cat pins s σ H _ _ _ _ Q I rv ru ⟨a, b, vs, us, rfl, rfl, ha, hb', by rw [← ra.length, ← rb.length]; exact hl, k.lst sm (ra.append rb)⟩
      · cases hb
    · cases hb
  · cases hb; cases rx; cases ry
    exact op_sub pins s σ H _ _ _ _ Q I rv ru ⟨_, _, rfl, rfl, k.here sm (.int _) (fun _ e => nomatch e)⟩
  · split at hb
    · rename_i hm
      cases hb; cases rx; cases ry
      rcases hm with hm | hm
      · exact op_mul pins s σ H _ _ _ _ Q I rv ru ⟨_, _, rfl, rfl, hm, k.here sm (.int _) (fun _ e => nomatch e)⟩
      · exact op_mulW pins s σ H _ _ _ _ Q I rv ru ⟨_, _, rfl, rfl, hm, k.here sm (.int _) (fun _ e => nomatch e)⟩
    · cases hb
  · split at hb
    · rename_i xs _ hc
      cases hb
      cases ry
      cases rx with
      | tup h1 h2 h3 h4 =>
        refine op_repT pins s σ H _ _ _ _ Q I rv ru ⟨_, _, _, rfl, rfl, .inl (.inl h3), fun e => ?_, hc.2.1, hc.2.2.1, by rw [← h4.length]; exact hc.2.2.2, k.tup sm (h4.rep _)⟩
        have h5 := h4.length
        rw [e] at h5
        have h6 : xs.length = 0 := h5
        omega
    · cases hb
  · split at hb
    · rename_i xs e1
      split at hb
      · rename_i hl
        cases hb
        obtain ⟨a, vs, rfl, ha, ra⟩ := lst_at sm rx e1
        cases ry
        exact op_rep pins s σ H _ _ _ _ Q I rv ru ⟨a, _, vs, rfl, rfl, ha, hl.1, hl.2.1, by rw [← ra.length]; exact hl.2.2, k.lst sm (ra.rep _)⟩
      · cases hb
    · cases hb
  · split at hb
    · rename_i hm
      cases hb; cases rx; cases ry
      exact op_fdivW pins s σ H _ _ _ _ Q I rv ru ⟨_, _, rfl, rfl, hm, k.here sm (.int _) (fun _ e => nomatch e)⟩
    · cases hb
  · split at hb
    · rename_i hm
      cases hb; cases rx; cases ry
      exact op_mod pins s σ H _ _ _ _ Q I rv ru ⟨_, _, rfl, rfl, hm, k.here sm (.int _) (fun _ e => nomatch e)⟩
    · cases hb
  · split at hb
    · rename_i hm
      cases hb; cases rx; cases ry
      exact op_pow pins s σ H _ _ _ _ Q I rv ru ⟨_, _, rfl, rfl, hm, k.here sm (.int _) (fun _ e => nomatch e)⟩
    · cases hb
  · cases hb

/-! ### comparisons -/
section
variable {K : PySem.W.Frag} {cl : Nat → Addr} {μ μ' : List Addr} {Z : Addr → Prop} {S S' : Store} {H H' : Hp}
mutual
theorem data_of (s : Sim K cl μ Z S H) : ∀ (n : Nat) {x : Val} {v : V} {d : PyData}, Rel K cl μ Z H x v → toData S n x = some d → Dp K H v d
  | _, _, _, _, .non, h => by unfold toData at h; cases h; exact .non
  | _, _, _, _, .bl b, h => by unfold toData at h; cases h; exact .bl b
  | _, _, _, _, .int i, h => by unfold toData at h; cases h; exact .int i
  | _, _, _, _, .str x, h => by unfold toData at h; cases h; exact .str x
  | _, _, _, _, .fn f, h => by unfold toData at h; cases h
  | 0, _, _, _, .tup .., h => by unfold toData at h; cases h
  | n + 1, .tup xs, _, _, .tup h1 h2 h3 h4, h => by
    unfold toData at h
    cases e : toDatas S n xs with
    | none => rw [e] at h; cases h
    | some ds => rw [e] at h; cases h; exact .tup (.inl (.inl h3)) (datas_of s n h4 e)
  | 0, _, _, _, .lv .., h => by unfold toData at h; cases h
  | n + 1, .lv xs, _, _, .lv h1 h2 h3 h4, h => by
    unfold toData at h
    cases e : toDatas S n xs with
    | none => rw [e] at h; cases h
    | some ds => rw [e] at h; cases h; exact .lst (.inl (.inl h3)) (datas_of s n h4 e)
  | 0, _, _, _, .ref .., h => by unfold toData at h; cases h
  | n + 1, .ref k, _, _, .ref h1, h => by
    unfold toData at h
    split at h
    · rename_i xs e0
      obtain ⟨vs, q1, q2⟩ := s.ob _ _ _ h1 e0
      cases e : toDatas S n xs with
      | none => rw [e] at h; cases h
      | some ds => rw [e] at h; cases h; exact .lst (.inl (.inl q1)) (datas_of s n q2 e)
    · cases h
  | _, _, _, _, .sl .., h => by unfold toData at h; cases h
  | _, _, _, _, .iv .., h => by unfold toData at h; cases h
  termination_by n => (n, 0)
theorem datas_of (s : Sim K cl μ Z S H) : ∀ (n : Nat) {xs : List Val} {vs : List V} {ds : List PyData}, RelL K cl μ Z H xs vs → toDatas S n xs = some ds → DpAll K H vs ds
  | _, _, _, _, .nil, h => by unfold toDatas at h; cases h; exact .nil
  | 0, _, _, _, .cons .., h => by unfold toDatas at h; cases h
  | n + 1, x :: xs, _, _, .cons r t, h => by
    unfold toDatas at h
    cases e : toData S n x with
    | none => rw [e] at h; cases h
    | some d =>
      rw [e] at h
      cases e2 : toDatas S (n + 1) xs with
      | none => rw [e2] at h; cases h
      | some ds => rw [e2] at h; cases h; exact .cons (data_of s n r e) (datas_of s (n + 1) t e2)
  termination_by n xs => (n, xs.length + 1)
end
end
def rCmp (K : PySem.W.Frag) (cl : Nat → Addr) (o : COp) : R2 := fun v u H Q => ∃ μ Z S x y z, Sim K cl μ Z S H ∧ Rel K cl μ Z H x v ∧ Rel K cl μ Z H y u ∧ cmpSem S o x y = some z ∧ Kn K cl Z μ H S (.bl z) Q
theorem decV_int (i j : Int) : decide (V.int i = V.int j) = decide (i = j) := by
  by_cases e : i = j
  · subst e; simp
  · rw [decide_eq_false e, decide_eq_false fun q => e (V.int.inj q)]
theorem decV_bl (i j : Bool) : decide (V.bl i = V.bl j) = decide (i = j) := by
  by_cases e : i = j
  · subst e; simp
  · rw [decide_eq_false e, decide_eq_false fun q => e (V.bl.inj q)]
theorem decV_str (i j : Str) : decide (V.str i = V.str j) = decide (i = j) := by
  by_cases e : i = j
  · subst e; simp
  · rw [decide_eq_false e, decide_eq_false fun q => e (V.str.inj q)]
theorem op_neD' {X : Cx} (hu : X.A.units + 64 < cLine) : OpR X (compareOp .NotEq) (fun x y H Q => ∃ d e, Dp X.K H x d ∧ Dp X.K H y e ∧ SeqAt.shaped d = true ∧ SeqAt.shaped e = true ∧ Q (V.bl (!PyData.eqv d e)) H) := by
  first
    | exact op_neD hu
theorem flat_ints : ∀ ns : List Int, (ns.map V.int).all flatV = true
  | [] => rfl
  | _ :: ns => by simp only [List.map_cons, List.all_cons, flatV, flat_ints ns, Bool.and_self]
theorem flat_bls : ∀ ns : List Bool, (ns.map V.bl).all flatV = true
  | [] => rfl
  | _ :: ns => by simp only [List.map_cons, List.all_cons, flatV, flat_bls ns, Bool.and_self]
theorem inV_int (i : Int) : ∀ ns : List Int, inV (.int i) (ns.map V.int) = ns.contains i
  | [] => rfl
  | n :: ns => by
    have h := inV_int i ns
    unfold inV at h ⊢
    rw [List.map_cons, List.any_cons, h, List.contains_cons]
    show (n == i || _) = _
    rw [Bool.beq_comm]
theorem inV_bl (i : Bool) : ∀ ns : List Bool, inV (.bl i) (ns.map V.bl) = ns.contains i
  | [] => rfl
  | n :: ns => by
    have h := inV_bl i ns
    unfold inV at h ⊢
    rw [List.map_cons, List.any_cons, h, List.contains_cons]
    show (n == i || _) = _
    rw [Bool.beq_comm]
theorem cmp_ok {X : Cx} {cl : Nat → Addr} (o : COp) (hu : X.A.units + 65 < cLine) : OpR X (compareOp o.py) (rCmp X.K cl o) := by
  intro pins s σ H v u vv uu Q I rv ru ⟨μ, Z, S, x, y, z, sm, rx, ry, hb, k⟩
  unfold cmpSem at hb
  split at hb
  · cases hb; cases rx; cases ry
    exact op_lt pins s σ H _ _ _ _ Q I rv ru ⟨_, _, rfl, rfl, k.here sm (.bl _)⟩
  · cases hb; cases rx; cases ry
    exact op_le pins s σ H _ _ _ _ Q I rv ru ⟨_, _, rfl, rfl, k.here sm (.bl _)⟩
  · cases hb; cases rx; cases ry
    exact op_gt pins s σ H _ _ _ _ Q I rv ru ⟨_, _, rfl, rfl, k.here sm (.bl _)⟩
  · cases hb; cases rx; cases ry
    exact op_ge pins s σ H _ _ _ _ Q I rv ru ⟨_, _, rfl, rfl, k.here sm (.bl _)⟩
  · unfold eqSem at hb
    split at hb
    · cases hb; cases rx; cases ry
      exact op_eq pins s σ H _ _ _ _ Q I rv ru ⟨rfl, by rw [decV_int]; exact k.here sm (.bl _)⟩
    · cases hb; cases rx; cases ry
      exact op_eq pins s σ H _ _ _ _ Q I rv ru ⟨rfl, by rw [decV_bl]; exact k.here sm (.bl _)⟩
    · cases hb; cases rx; cases ry
      exact op_eq pins s σ H _ _ _ _ Q I rv ru ⟨rfl, by rw [decV_str]; exact k.here sm (.bl _)⟩
    · cases hb; cases rx; cases ry
      exact op_eq pins s σ H _ _ _ _ Q I rv ru ⟨rfl, k.here sm (.bl _)⟩
    · cases hb; cases rx; cases ry
      exact op_eq pins s σ H _ _ _ _ Q I rv ru ⟨rfl, k.here sm (.bl _)⟩
    · cases hb; cases rx; cases ry
      exact op_eq pins s σ H _ _ _ _ Q I rv ru ⟨rfl, k.here sm (.bl _)⟩
    · obtain ⟨d, e1, hb⟩ := Option.bind_eq_some_iff.mp hb
      obtain ⟨e, e2, hb⟩ := Option.bind_eq_some_iff.mp hb
      split at hb
      · rename_i hs
        cases hb
        exact op_eqD (by omega) pins s σ H _ _ _ _ Q I rv ru ⟨d, e, data_of sm _ rx e1, data_of sm _ ry e2, hs.1, hs.2, k.here sm (.bl _)⟩
      · cases hb
  · unfold eqSem at hb
    split at hb
    · cases hb; cases rx; cases ry
      exact op_ne pins s σ H _ _ _ _ Q I rv ru ⟨rfl, by rw [decV_int]; exact k.here sm (.bl _)⟩
    · cases hb; cases rx; cases ry
      exact op_ne pins s σ H _ _ _ _ Q I rv ru ⟨rfl, by rw [decV_bl]; exact k.here sm (.bl _)⟩
    · cases hb; cases rx; cases ry
      exact op_ne pins s σ H _ _ _ _ Q I rv ru ⟨rfl, by rw [decV_str]; exact k.here sm (.bl _)⟩
    · cases hb; cases rx; cases ry
      exact op_ne pins s σ H _ _ _ _ Q I rv ru ⟨rfl, k.here sm (.bl _)⟩
    · cases hb; cases rx; cases ry
      exact op_ne pins s σ H _ _ _ _ Q I rv ru ⟨rfl, k.here sm (.bl _)⟩
    · cases hb; cases rx; cases ry
      exact op_ne pins s σ H _ _ _ _ Q I rv ru ⟨rfl, k.here sm (.bl _)⟩
    · obtain ⟨b, hb1, eb⟩ := Option.map_eq_some_iff.mp hb
      clear hb
      subst eb
      obtain ⟨d, e1, hb2⟩ := Option.bind_eq_some_iff.mp hb1
      obtain ⟨e, e2, hb3⟩ := Option.bind_eq_some_iff.mp hb2
      split at hb3
      · rename_i hs
        cases hb3
        exact op_neD' (by omega) pins s σ H _ _ _ _ Q I rv ru ⟨d, e, data_of sm _ rx e1, data_of sm _ ry e2, hs.1, hs.2, k.here sm (.bl _)⟩
      · cases hb3
  · cases ry; cases hb
    refine op_isN pins s σ H _ _ _ _ Q I rv ru ⟨rfl, ?_⟩
    cases rx <;> exact k.here sm (.bl _)
  · cases ry; cases hb
    refine op_notN pins s σ H _ _ _ _ Q I rv ru ⟨rfl, ?_⟩
    cases rx <;> exact k.here sm (.bl _)
  · cases hb; cases rx; cases ry
    exact op_is_bl pins s σ H _ _ _ _ Q I rv ru ⟨_, _, rfl, rfl, k.here sm (.bl _)⟩
  · cases hb; cases rx; cases ry
    exact op_isnot_bl pins s σ H _ _ _ _ Q I rv ru ⟨_, _, rfl, rfl, k.here sm (.bl _)⟩
  · obtain ⟨ys, e1, hb⟩ := Option.bind_eq_some_iff.mp hb
    obtain ⟨ns, e2, rfl⟩ := Option.map_eq_some_iff.mp hb
    cases rx
    obtain ⟨a, ws, rfl, ha, ra⟩ := lst_at sm ry e1
    rw [ra.ints e2] at ha
    refine op_in_seq pins s σ H _ _ _ _ Q I rv ru ⟨a, _, rfl, .inl (.inl (.inl ha)), rfl, flat_ints ns, ?_⟩
    rw [if_neg Bool.false_ne_true, inV_int]
    exact k.here sm (.bl _)
  · obtain ⟨ys, e1, hb⟩ := Option.bind_eq_some_iff.mp hb
    obtain ⟨ns, e2, rfl⟩ := Option.map_eq_some_iff.mp hb
    cases rx
    obtain ⟨a, ws, rfl, ha, ra⟩ := lst_at sm ry e1
    rw [ra.ints e2] at ha
    refine op_notIn_seq pins s σ H _ _ _ _ Q I rv ru ⟨a, _, rfl, .inl (.inl (.inl ha)), rfl, flat_ints ns, ?_⟩
    rw [if_pos rfl, inV_int]
    exact k.here sm (.bl _)
  · obtain ⟨ys, e1, hb⟩ := Option.bind_eq_some_iff.mp hb
    obtain ⟨ns, e2, rfl⟩ := Option.map_eq_some_iff.mp hb
    cases rx
    obtain ⟨a, ws, rfl, ha, ra⟩ := lst_at sm ry e1
    rw [ra.bls e2] at ha
    refine op_in_seq pins s σ H _ _ _ _ Q I rv ru ⟨a, _, rfl, .inl (.inl (.inl ha)), rfl, flat_bls ns, ?_⟩
    rw [if_neg Bool.false_ne_true, inV_bl]
    exact k.here sm (.bl _)
  · obtain ⟨d, e1, hb⟩ := Option.bind_eq_some_iff.mp hb
    obtain ⟨ys, e2, hb⟩ := Option.bind_eq_some_iff.mp hb
    obtain ⟨ds, e3, hb⟩ := Option.bind_eq_some_iff.mp hb
    split at hb
    · rename_i hc
      cases hb
      obtain ⟨a, ws, rfl, ha, ra⟩ := lst_at sm ry e2
      exact op_inD hu pins s σ H _ _ _ _ Q I rv ru ⟨d, ds, data_of sm _ rx e1, .lst (.inl (.inl ha)) (datas_of sm _ ra e3), hc.1, hc.2, k.here sm (.bl _)⟩
    · cases hb
  · obtain ⟨d, e1, hb⟩ := Option.bind_eq_some_iff.mp hb
    obtain ⟨ys, e2, hb⟩ := Option.bind_eq_some_iff.mp hb
    obtain ⟨ds, e3, hb⟩ := Option.bind_eq_some_iff.mp hb
    split at hb
    · rename_i hc
      cases hb
      obtain ⟨a, ws, rfl, ha, ra⟩ := lst_at sm ry e2
      exact op_notInD hu pins s σ H _ _ _ _ Q I rv ru ⟨d, ds, data_of sm _ rx e1, .lst (.inl (.inl ha)) (datas_of sm _ ra e3), hc.1, hc.2, k.here sm (.bl _)⟩
    · cases hb
  · cases hb

/-! ### subscripts, slices -/
theorem RelL.atI {K : PySem.W.Frag} {cl : Nat → Addr} {μ : List Addr} {Z : Addr → Prop} {H : Hp} {xs : List Val} {vs : List V} {i : Int} {x : Val} (r : RelL K cl μ Z H xs vs) (h : atI xs i = some x) : ∃ v, L2.atI vs i = some v ∧ Rel K cl μ Z H x v := by
  unfold L2.atI at h ⊢
  rw [← r.length]
  cases e : ixN xs.length i with
  | none => rw [e] at h; cases h
  | some j =>
    rw [e] at h
    obtain ⟨v, h1, h2⟩ := r.get (show xs[j]? = some x from h)
    exact ⟨v, h1, h2⟩
def rIdx (K : PySem.W.Frag) (cl : Nat → Addr) : R2 := fun v u H Q => ∃ μ Z S x y z, Sim K cl μ Z S H ∧ Rel K cl μ Z H x v ∧ Rel K cl μ Z H y u ∧ idxSem S x y = some z ∧ Kn K cl Z μ H S z Q
theorem idx_ok {X : Cx} {cl : Nat → Addr} : IxR X (rIdx X.K cl) := by
  intro value slice pins s σ H v u vv uu Q I rv ru ⟨μ, Z, S, x, y, z, sm, rx, ry, hb, k⟩ hp
  unfold idxSem at hb
  split at hb
  · cases ry
    obtain ⟨xs, e1, hb⟩ := Option.bind_eq_some_iff.mp hb
    obtain ⟨a, vs, rfl, ha, ra⟩ := seq_at sm rx e1
    obtain ⟨w, hw, rw'⟩ := ra.atI hb
    refine ix_seq value slice pins s σ H _ _ _ _ Q I rv ru ?_ hp
    rcases ha with ha | ha
    · exact .inl ⟨a, vs, _, w, rfl, rfl, ha, hw, k.here sm rw'⟩
    · exact .inr (.inl ⟨a, vs, _, w, rfl, rfl, ha, hw, k.here sm rw'⟩)
  · cases hb
theorem cut_eq (vs : List V) (lo hi : Option Int) : cutV vs lo hi = cutL vs lo hi := rfl
theorem RelL.cut {K : PySem.W.Frag} {cl : Nat → Addr} {μ : List Addr} {Z : Addr → Prop} {H : Hp} {xs : List Val} {vs : List V} (r : RelL K cl μ Z H xs vs) (lo hi : Option Int) : RelL K cl μ Z H (cutL xs lo hi) (cutV vs lo hi) := by
  rw [cut_eq]
  unfold cutL
  rw [r.length]
  exact (r.drop _).take _
def rSlc (K : PySem.W.Frag) (cl : Nat → Addr) : V → Option Int → Option Int → Hp → VK → Prop := fun v lo hi H Q => ∃ μ Z S x z, Sim K cl μ Z S H ∧ Rel K cl μ Z H x v ∧ slcSem S x lo hi = some z ∧ Kf K cl Z μ H S z Q
theorem slc_ok {X : Cx} {cl : Nat → Addr} : SlR X (rSlc X.K cl) := by
  intro pins s σ H v vv vl vu lo hi sl Q I rv hs pl pu ⟨μ, Z, S, x, z, sm, rx, hb, k⟩
  unfold slcSem at hb
  split at hb
  · cases hb
    cases rx with
    | tup h1 h2 h3 h4 =>
      refine sl_tupA pins s σ H _ _ _ _ _ _ _ Q I rv hs pl pu ⟨_, _, rfl, .inl (.inl h3), fun q => ?_, fun _ => k.tup sm (h4.cut lo hi)⟩
      refine k.here sm (.tup h1 h2 h3 ?_) (fun _ e => nomatch e)
      have e := h4.cut lo hi
      have e2 : cutV _ lo hi = _ := show cutV _ lo hi = _ from by
        unfold cutV
        rw [q.1, q.2, List.drop_zero, Nat.sub_zero, List.take_length]
      rw [e2] at e
      exact e
  · cases hb
    cases rx with
    | sl h1 h5 => exact sl_list pins s σ H _ _ _ _ _ _ _ Q I rv hs pl pu ⟨_, _, rfl, h1.sq, k.lst sm (h5.cut lo hi)⟩
  · obtain ⟨xs, e1, rfl⟩ := Option.map_eq_some_iff.mp hb
    obtain ⟨a, vs, rfl, ha, ra⟩ := lst_at sm rx e1
    exact sl_list pins s σ H _ _ _ _ _ _ _ Q I rv hs pl pu ⟨_, _, rfl, .inl (.inl ha), k.lst sm (ra.cut lo hi)⟩

/-! ### built-ins -/
def Blt.val : Blt → Value
  | .len => .builtin "len" | .sum => .builtin "sum" | .max => .builtin "max" | .min => .builtin "min" | .all => .builtin "all" | .any => .builtin "any"
  | .abs => .builtin "abs" | .int => .type "int" | .list => .type "list" | .tuple => .type "tuple" | .divmod => .builtin "divmod" | .sorted => .builtin "sorted"
def rBlt (K : PySem.W.Frag) (cl : Nat → Addr) (b : Blt) : List V → Hp → VK → Prop := fun vs H Q => ∃ μ Z S xs z, Sim K cl μ Z S H ∧ RelL K cl μ Z H xs vs ∧ bltSem S b xs = some z ∧ Kf K cl Z μ H S z Q
theorem maxL_le : ∀ (m : Int) (r : List Int), m ≤ maxL m r
  | m, [] => Int.le_refl _
  | m, x :: r => by
    have h := maxL_le (if x > m then x else m) r
    unfold maxL
    split at h <;> split <;> omega
theorem maxL_all : ∀ (m : Int) (r : List Int), ∀ y ∈ r, y ≤ maxL m r
  | m, x :: r, y, h => by
    unfold maxL
    rcases List.mem_cons.mp h with e | e
    · subst e
      have h := maxL_le (if y > m then y else m) r
      split at h <;> split <;> omega
    · exact maxL_all _ r y e
theorem maxL_mem : ∀ (m : Int) (r : List Int), maxL m r = m ∨ maxL m r ∈ r
  | m, [] => .inl rfl
  | m, x :: r => by
    unfold maxL
    rcases maxL_mem (if x > m then x else m) r with h | h
    · rw [h]
      split
      · exact .inr (List.mem_cons_self)
      · exact .inl rfl
    · exact .inr (List.mem_cons_of_mem _ h)
theorem maxL_eq {n k : Int} {r : List Int} (hm : k ∈ n :: r) (ha : ∀ y ∈ n :: r, y ≤ k) : k = maxL n r := by
  apply Int.le_antisymm
  · rcases List.mem_cons.mp hm with e | e
    · rw [e]; exact maxL_le n r
    · exact maxL_all n r k e
  · rcases maxL_mem n r with e | e
    · rw [e]; exact ha n (List.mem_cons_self)
    · exact ha _ (List.mem_cons_of_mem _ e)
theorem minL_le : ∀ (m : Int) (r : List Int), minL m r ≤ m
  | m, [] => Int.le_refl _
  | m, x :: r => by
    have h := minL_le (if x < m then x else m) r
    unfold minL
    split at h <;> split <;> omega
theorem minL_all : ∀ (m : Int) (r : List Int), ∀ y ∈ r, minL m r ≤ y
  | m, x :: r, y, h => by
    unfold minL
    rcases List.mem_cons.mp h with e | e
    · subst e
      have h := minL_le (if y < m then y else m) r
      split at h <;> split <;> omega
    · exact minL_all _ r y e
theorem minL_mem : ∀ (m : Int) (r : List Int), minL m r = m ∨ minL m r ∈ r
  | m, [] => .inl rfl
  | m, x :: r => by
    unfold minL
    rcases minL_mem (if x < m then x else m) r with h | h
    · rw [h]
      split
      · exact .inr (List.mem_cons_self)
      · exact .inl rfl
    · exact .inr (List.mem_cons_of_mem _ h)
theorem minL_eq {n k : Int} {r : List Int} (hm : k ∈ n :: r) (ha : ∀ y ∈ n :: r, k ≤ y) : k = minL n r := by
  apply Int.le_antisymm
  · rcases minL_mem n r with e | e
    · rw [e]; exact ha n (List.mem_cons_self)
    · exact ha _ (List.mem_cons_of_mem _ e)
  · rcases List.mem_cons.mp hm with e | e
    · rw [e]; exact minL_le n r
    · exact minL_all n r k e
theorem nlv_int {i : Int} : ∀ xs, Val.int i ≠ .lv xs := fun _ e => nomatch e
theorem nlv_bl {i : Bool} : ∀ xs, Val.bl i ≠ .lv xs := fun _ e => nomatch e
theorem nlv_tup {i : List Val} : ∀ xs, Val.tup i ≠ .lv xs := fun _ e => nomatch e
/-! sorting -/
theorem sortI_eq {ns ns' : List Int} (hp : ns'.Perm ns) (hs : ns'.Pairwise (· ≤ ·)) : ns' = sortI ns := by
  refine List.Perm.eq_of_pairwise (le := (· ≤ ·)) (fun a b _ _ h1 h2 => Int.le_antisymm h1 h2) hs ?_ (hp.trans (List.mergeSort_perm ns _).symm)
  have := List.pairwise_mergeSort (le := fun (a b : Int) => decide (a ≤ b)) (fun a b c h1 h2 => by simp at h1 h2 ⊢; omega) (fun a b => by simp; omega) ns
  exact this.imp fun h => of_decide_eq_true h
theorem leRow_refl : ∀ r : List Int, leRow r r = true
  | [] => rfl
  | a :: r => by unfold leRow; simp [leRow_refl r]
theorem leRow_total : ∀ r q : List Int, (leRow r q || leRow q r) = true
  | [], _ => rfl
  | _ :: _, [] => by simp [leRow]
  | a :: r, b :: q => by
    have h := leRow_total r q
    simp only [leRow, Bool.or_eq_true, Bool.and_eq_true, decide_eq_true_eq] at h ⊢
    rcases Int.lt_trichotomy a b with h1 | h1 | h1
    · exact .inl (.inl h1)
    · subst h1
      rcases h with h | h
      · exact .inl (.inr ⟨rfl, h⟩)
      · exact .inr (.inr ⟨rfl, h⟩)
    · exact .inr (.inl h1)
theorem leRow_trans : ∀ r q t : List Int, leRow r q = true → leRow q t = true → leRow r t = true
  | [], _, _, _, _ => rfl
  | _ :: _, [], _, h, _ => by cases h
  | _ :: _, _ :: _, [], _, h => by cases h
  | a :: r, b :: q, c :: t, h1, h2 => by
    simp only [leRow, Bool.or_eq_true, Bool.and_eq_true, decide_eq_true_eq] at h1 h2 ⊢
    rcases h1 with h1 | ⟨rfl, h1⟩ <;> rcases h2 with h2 | ⟨rfl, h2⟩
    · exact .inl (by omega)
    · exact .inl h1
    · exact .inl h2
    · exact .inr ⟨rfl, leRow_trans r q t h1 h2⟩
theorem leRow_anti : ∀ r q : List Int, leRow r q = true → leRow q r = true → r = q
  | [], [], _, _ => rfl
  | [], _ :: _, _, h => by cases h
  | _ :: _, [], h, _ => by cases h
  | a :: r, b :: q, h1, h2 => by
    simp only [leRow, Bool.or_eq_true, Bool.and_eq_true, decide_eq_true_eq] at h1 h2
    rcases h1 with h1 | ⟨rfl, h1⟩
    · rcases h2 with h2 | ⟨rfl, h2⟩ <;> omega
    · rcases h2 with h2 | ⟨_, h2⟩
      · omega
      · rw [leRow_anti r q h1 h2]
theorem sortR_eq {rs rs' : List (List Int)} (hp : rs'.Perm rs) (hs : rs'.Pairwise (fun a b => leRow a b = true)) : rs' = sortR rs := by
  refine List.Perm.eq_of_pairwise (le := fun a b => leRow a b = true) (fun a b _ _ h1 h2 => leRow_anti a b h1 h2) hs ?_ (hp.trans (List.mergeSort_perm rs _).symm)
  exact List.pairwise_mergeSort leRow_trans leRow_total rs
theorem code_le {B : Int} : ∀ {r q : List Int}, r.length = q.length → TS.Bd B r → TS.Bd B q → TS.code B r ≤ TS.code B q → leRow r q = true
  | [], [], _, _, _, _ => rfl
  | [], _ :: _, h, _, _, _ => by cases h
  | _ :: _, [], h, _, _, _ => by cases h
  | a :: r, b :: q, h, h1, h2, hc => by
    have hl : r.length = q.length := by simpa using h
    simp only [leRow, Bool.or_eq_true, Bool.and_eq_true, decide_eq_true_eq]
    rcases Int.lt_trichotomy a b with e | e | e
    · exact .inl e
    · subst e
      refine .inr ⟨rfl, code_le hl h1.tail h2.tail ?_⟩
      have := TS.code_same (B := B) (d := a) (r := q) (q := r) hl.symm
      by_cases z : TS.code B q < TS.code B r
      · have := this.mpr z; omega
      · omega
    · have := TS.code_lt hl.symm h2.tail h1.tail e
      omega
theorem rel_permV {K : PySem.W.Frag} {cl : Nat → Addr} {μ : List Addr} {Z : Addr → Prop} {H : Hp} {vs ws : List V} (hp : vs.Perm ws) : ∀ {xs : List Val}, RelL K cl μ Z H xs vs → ∃ ys, xs.Perm ys ∧ RelL K cl μ Z H ys ws := by
  induction hp with
  | nil => intro xs r; cases r; exact ⟨[], .nil, .nil⟩
  | cons v _ ih =>
    intro xs r
    cases r with
    | cons r t =>
      obtain ⟨ys, h1, h2⟩ := ih t
      exact ⟨_ :: ys, h1.cons _, .cons r h2⟩
  | swap a b l =>
    intro xs r
    cases r with
    | cons r t =>
      cases t with
      | cons r' t => exact ⟨_, List.Perm.swap _ _ _, .cons r' (.cons r t)⟩
  | trans _ _ ih1 ih2 =>
    intro xs r
    obtain ⟨ys, h1, h2⟩ := ih1 r
    obtain ⟨zs, h3, h4⟩ := ih2 h2
    exact ⟨zs, h1.trans h3, h4⟩
theorem ints_of_map : ∀ ns : List Int, intsOf (ns.map Val.int) = some ns
  | [] => rfl
  | n :: ns => by simp only [List.map_cons, intsOf, ints_of_map ns, Option.map_some]
theorem ints_inv : ∀ {xs : List Val} {ns : List Int}, intsOf xs = some ns → xs = ns.map Val.int
  | [], ns, h => by cases h; rfl
  | .int i :: r, ns, h => by
    unfold intsOf at h
    cases e : intsOf r with
    | none => rw [e] at h; cases h
    | some ms => rw [e] at h; cases h; rw [ints_inv e]; rfl
  | .non :: _, _, h => nomatch h
  | .bl _ :: _, _, h => nomatch h
  | .str _ :: _, _, h => nomatch h
  | .tup _ :: _, _, h => nomatch h
  | .lv _ :: _, _, h => nomatch h
  | .sl _ :: _, _, h => nomatch h
  | .iv _ _ _ :: _, _, h => nomatch h
  | .ref _ :: _, _, h => nomatch h
theorem rows_inv : ∀ {xs : List Val} {rs : List (List Int)}, rowsOf xs = some rs → xs = rs.map rowV
  | [], rs, h => by cases h; rfl
  | .tup x :: r, rs, h => by
    unfold rowsOf at h
    obtain ⟨n, e1, h⟩ := Option.bind_eq_some_iff.mp h
    obtain ⟨m, e2, rfl⟩ := Option.map_eq_some_iff.mp h
    rw [rows_inv e2, ints_inv e1]; rfl
  | .non :: _, _, h => nomatch h
  | .bl _ :: _, _, h => nomatch h
  | .str _ :: _, _, h => nomatch h
  | .int _ :: _, _, h => nomatch h
  | .lv _ :: _, _, h => nomatch h
  | .sl _ :: _, _, h => nomatch h
  | .iv _ _ _ :: _, _, h => nomatch h
  | .ref _ :: _, _, h => nomatch h
theorem perm_rows {rs : List (List Int)} {ys : List Val} (hp : (rs.map rowV).Perm ys) : ∃ rs', ys = rs'.map rowV ∧ rs.Perm rs' := by
  generalize hx : rs.map rowV = xs at hp
  induction hp generalizing rs with
  | nil => exact ⟨[], rfl, by cases rs with | nil => exact .nil | cons a b => cases hx⟩
  | cons v _ ih =>
    cases rs with
    | nil => cases hx
    | cons r rs =>
      rw [List.map_cons] at hx
      injection hx with h1 h2
      obtain ⟨rs', h3, h4⟩ := ih h2
      exact ⟨r :: rs', by rw [List.map_cons, h1, h3], h4.cons _⟩
  | swap a b l =>
    match rs, hx with
    | r1 :: r2 :: rs, hx =>
      rw [List.map_cons, List.map_cons] at hx
      injection hx with h1 h2
      injection h2 with h2 h3
      exact ⟨r2 :: r1 :: rs, by rw [List.map_cons, List.map_cons, h1, h2, h3], List.Perm.swap _ _ _⟩
  | trans _ _ ih1 ih2 =>
    obtain ⟨rs1, h1, h2⟩ := ih1 hx
    obtain ⟨rs2, h3, h4⟩ := ih2 h1.symm
    exact ⟨rs2, h3, h2.trans h4⟩
theorem row_at {K : PySem.W.Frag} {cl : Nat → Addr} {μ : List Addr} {Z : Addr → Prop} {H : Hp} {r : List Int} {v : V} (h : Rel K cl μ Z H (rowV r) v) : TupI K H v r := by
  unfold rowV at h
  cases h with
  | tup h1 h2 h3 h4 =>
    rw [h4.ints (ints_of_map r)] at h3
    exact ⟨_, rfl, .inl (.inl h3)⟩
theorem relL_ints {K : PySem.W.Frag} {cl : Nat → Addr} {μ : List Addr} {Z : Addr → Prop} {H : Hp} : ∀ ns : List Int, RelL K cl μ Z H (ns.map Val.int) (ns.map V.int)
  | [] => .nil
  | n :: ns => .cons (.int n) (relL_ints ns)
def bigOf : List (List Int) → Int
  | [] => 1
  | r :: rs => (r.map fun i => if i < 0 then -i else i).sum + bigOf rs
theorem sum_ge : ∀ {r : List Int} {i : Int}, i ∈ r → i ≤ (r.map fun i => if i < 0 then -i else i).sum ∧ 0 ≤ (r.map fun i => if i < 0 then -i else i).sum
  | a :: r, i, h => by
    have h0 : ∀ r : List Int, 0 ≤ (r.map fun i => if i < 0 then -i else i).sum := by
      intro r
      induction r with
      | nil => simp
      | cons a r ih => simp only [List.map_cons, List.sum_cons]; split <;> omega
    simp only [List.map_cons, List.sum_cons]
    rcases List.mem_cons.mp h with rfl | h
    · have := h0 r
      split <;> omega
    · have := sum_ge h
      split <;> omega
theorem big_ge : ∀ {rs : List (List Int)}, 1 ≤ bigOf rs ∧ ∀ r ∈ rs, ∀ i ∈ r, i < bigOf rs
  | [] => ⟨by decide, fun r h => by cases h⟩
  | a :: rs => by
    have h0 : ∀ r : List Int, 0 ≤ (r.map fun i => if i < 0 then -i else i).sum := by
      intro r
      induction r with
      | nil => simp
      | cons a r ih => simp only [List.map_cons, List.sum_cons]; split <;> omega
    have ih := big_ge (rs := rs)
    have ha := h0 a
    unfold bigOf
    refine ⟨by omega, fun r hr i hi => ?_⟩
    rcases List.mem_cons.mp hr with rfl | hr
    · have := sum_ge hi
      omega
    · have := ih.2 r hr i hi
      omega
def numV : V → Int
  | .int i => i
  | _ => 0
def rowF (H : Hp) : V → List Int
  | .ref t => match H t with
    | some (.tup vs) => vs.map numV
    | _ => []
  | _ => []
theorem row_atF {K : PySem.W.Frag} {cl : Nat → Addr} {μ : List Addr} {Z : Addr → Prop} {H : Hp} {r : List Int} {v : V} (h : Rel K cl μ Z H (rowV r) v) : TupI K H v r ∧ rowF H v = r := by
  refine ⟨row_at h, ?_⟩
  unfold rowV at h
  cases h with
  | tup h1 h2 h3 h4 =>
    rw [h4.ints (ints_of_map r)] at h3
    show (match H _ with | some (.tup vs) => vs.map numV | _ => []) = r
    rw [h3]
    show (r.map V.int).map numV = r
    rw [List.map_map]
    exact (List.map_congr_left (fun i _ => rfl)).trans (List.map_id r)
theorem sorted_rows {X : Cx} {cl : Nat → Addr} {μ : List Addr} {Z : Addr → Prop} {S : Store} {H : Hp} {ys : List Val} {rs : List (List Int)} {a : Addr} {ws : List V} {pins : List (Addr × Obj)} {s : Shared} {σ : L2.St} {us : List Value} {Q : VK} (hu : X.A.units + 70 < cLine) (sm : Sim X.K cl μ Z S H) (e3 : rowsOf ys = some rs) (hok : rowsOk rs = true) (ha : H a = some (.lst ws)) (ra : RelL X.K cl μ Z H ys ws) (I : Inv X pins σ H s) (rv : Vals [V.ref a] us) (k : Kf X.K cl Z μ H S (.lv ((sortR rs).map rowV)) Q) :
    wpAny (model X.prog X.w) X.A (PySem.call (.builtin "sorted") us) (EP X pins σ Q) X.xe s := by
  have eys := rows_inv e3
  subst eys
  have hr : ∀ r ∈ rs, r ≠ [] := by
    intro r hr
    have := List.all_eq_true.mp hok r hr
    intro e
    subst e
    cases this
  have each : ∀ x ∈ ws, TupI X.K H x (rowF H x) ∧ rowF H x ≠ [] := by
    intro x hx
    obtain ⟨i, hi⟩ := List.getElem?_of_mem hx
    obtain ⟨y, hy, ry⟩ := ra.getB hi
    rw [List.getElem?_map] at hy
    cases e : rs[i]? with
    | none => rw [e] at hy; cases hy
    | some r =>
      rw [e] at hy
      cases hy
      obtain ⟨h1, h2⟩ := row_atF ry
      rw [h2]
      exact ⟨h1, hr r (List.mem_of_getElem? e)⟩
  refine cr_sortedW leRow_trans leRow_total hu pins s σ H _ _ Q I rv ⟨a, ws, rowF H, rfl, .inl (.inl ha), each, fun zs p hp hs hn => ?_⟩
  obtain ⟨ys, q1, q2⟩ := rel_permV hp.symm ra
  obtain ⟨rs', rfl, q3⟩ := perm_rows q1
  have e : rs' = sortR rs := by
    refine sortR_eq q3.symm ?_
    rw [List.pairwise_iff_getElem]
    intro i j hi hj hij
    obtain ⟨u, hu, ru⟩ := q2.get (i := i) (x := rowV rs'[i]) (by rw [List.getElem?_map, List.getElem?_eq_getElem hi]; rfl)
    obtain ⟨v, hv, rv⟩ := q2.get (i := j) (x := rowV rs'[j]) (by rw [List.getElem?_map, List.getElem?_eq_getElem hj]; rfl)
    obtain ⟨hi', rfl⟩ := List.getElem?_eq_some_iff.mp hu
    obtain ⟨hj', rfl⟩ := List.getElem?_eq_some_iff.mp hv
    have := List.pairwise_iff_getElem.mp hs i j hi' hj' hij
    rw [(row_atF ru).2, (row_atF rv).2] at this
    exact this
  subst e
  exact k.lst sm q2 p hn
theorem blt_ok {X : Cx} {cl : Nat → Addr} (b : Blt) (hc : X.calm = true) (hu : X.A.units + 70 < cLine) : CallR X b.val (rBlt X.K cl b) := by
  intro pins s σ H vs us Q I rv ⟨μ, Z, S, xs, z, sm, rx, hb, k⟩
  unfold bltSem at hb
  split at hb
  · obtain ⟨ys, e1, rfl⟩ := Option.map_eq_some_iff.mp hb
    cases rx with | cons r t => cases t; obtain ⟨a, ws, rfl, ha, ra⟩ := seq_at sm r e1
                                exact call_len_seq pins s σ H _ _ Q I rv ⟨a, ws, rfl, ha, by rw [← ra.length]; exact k.here sm (.int _) nlv_int⟩
  · obtain ⟨ns, e2, rfl⟩ := Option.map_eq_some_iff.mp hb
    cases rx with | cons r t => cases t; cases r with | tup h1 h2 h3 h4 =>
                                rw [h4.ints e2] at h3
                                exact cr_sumT hc pins s σ H _ _ Q I rv ⟨_, ns, rfl, .inl (.inl h3), k.here sm (.int _) nlv_int⟩
  · obtain ⟨ys, e1, hb⟩ := Option.bind_eq_some_iff.mp hb
    obtain ⟨ns, e2, rfl⟩ := Option.map_eq_some_iff.mp hb
    cases rx with | cons r t => cases t; obtain ⟨a, ws, rfl, ha, ra⟩ := lst_at sm r e1
                                rw [ra.ints e2] at ha
                                exact cr_sum hc pins s σ H _ _ Q I rv ⟨a, ns, rfl, .inl (.inl ha), k.here sm (.int _) nlv_int⟩
  · obtain ⟨ys, e1, hb⟩ := Option.bind_eq_some_iff.mp hb
    obtain ⟨ns, e2, hb⟩ := Option.bind_eq_some_iff.mp hb
    cases rx with | cons r t => cases t; obtain ⟨a, ws, rfl, ha, ra⟩ := lst_at sm r e1
                                rw [ra.ints e2] at ha
                                split at hb
                                · cases hb
                                · cases hb
                                  exact cr_max hc pins s σ H _ _ Q I rv ⟨a, _, rfl, .inl (.inl ha), by simp, fun m h1 h2 => by rw [maxL_eq h1 h2]; exact k.here sm (.int _) nlv_int⟩
  · obtain ⟨ys, e1, hb⟩ := Option.bind_eq_some_iff.mp hb
    obtain ⟨ns, e2, hb⟩ := Option.bind_eq_some_iff.mp hb
    cases rx with | cons r t => cases t; obtain ⟨a, ws, rfl, ha, ra⟩ := lst_at sm r e1
                                rw [ra.ints e2] at ha
                                split at hb
                                · cases hb
                                · cases hb
                                  exact cr_min hc pins s σ H _ _ Q I rv ⟨a, _, rfl, .inl (.inl ha), by simp, fun m h1 h2 => by rw [minL_eq h1 h2]; exact k.here sm (.int _) nlv_int⟩
  · cases hb
    cases rx with | cons r t => cases t with | cons r2 t => cases t; cases r; cases r2
                                                            exact call_max2 hc pins s σ H _ _ Q I rv ⟨_, _, rfl, k.here sm (.int _) nlv_int⟩
  · cases hb
    cases rx with | cons r t => cases t with | cons r2 t => cases t; cases r; cases r2
                                                            exact call_min2 hc pins s σ H _ _ Q I rv ⟨_, _, rfl, k.here sm (.int _) nlv_int⟩
  · obtain ⟨ys, e1, hb⟩ := Option.bind_eq_some_iff.mp hb
    obtain ⟨ns, e2, rfl⟩ := Option.map_eq_some_iff.mp hb
    cases rx with | cons r t => cases t; obtain ⟨a, ws, rfl, ha, ra⟩ := lst_at sm r e1
                                rw [ra.bls e2] at ha
                                exact cr_all hc pins s σ H _ _ Q I rv ⟨a, ns, rfl, .inl (.inl ha), k.here sm (.bl _) nlv_bl⟩
  · obtain ⟨ys, e1, hb⟩ := Option.bind_eq_some_iff.mp hb
    obtain ⟨ns, e2, rfl⟩ := Option.map_eq_some_iff.mp hb
    cases rx with | cons r t => cases t; obtain ⟨a, ws, rfl, ha, ra⟩ := lst_at sm r e1
                                rw [ra.bls e2] at ha
                                exact cr_any hc pins s σ H _ _ Q I rv ⟨a, ns, rfl, .inl (.inl ha), k.here sm (.bl _) nlv_bl⟩
  · cases hb
    cases rx with | cons r t => cases t; cases r; exact call_abs pins s σ H _ _ Q I rv ⟨_, rfl, k.here sm (.int _) nlv_int⟩
  · cases hb
    cases rx with | cons r t => cases t; cases r; exact call_int1 pins s σ H _ _ Q I rv (.inl ⟨_, rfl, k.here sm (.int _) nlv_int⟩)
  · cases hb
    cases rx with | cons r t => cases t; cases r; exact call_int1 pins s σ H _ _ Q I rv (.inr ⟨_, rfl, k.here sm (.int _) nlv_int⟩)
  · obtain ⟨ys, e1, rfl⟩ := Option.map_eq_some_iff.mp hb
    cases rx with | cons r t => cases t; obtain ⟨a, ws, rfl, ha, ra⟩ := seq_at sm r e1
                                exact call_list_of pins s σ H _ _ Q I rv ⟨a, ws, rfl, ha, k.lst sm ra⟩
  · cases hb
    cases rx with | cons r t => cases t; cases r with | tup h1 h2 h3 h4 => exact call_tuple_of pins s σ H _ _ Q I rv ⟨_, _, rfl, .inr ⟨.inl (.inl h3), k.here sm (.tup h1 h2 h3 h4) nlv_tup⟩⟩
  · obtain ⟨ys, e1, rfl⟩ := Option.map_eq_some_iff.mp hb
    cases rx with | cons r t => cases t; obtain ⟨a, ws, rfl, ha, ra⟩ := lst_at sm r e1
                                exact call_tuple_of pins s σ H _ _ Q I rv ⟨a, ws, rfl, .inl ⟨.inl (.inl ha), k.tup sm ra⟩⟩
  · obtain ⟨ys, e1, hb⟩ := Option.bind_eq_some_iff.mp hb
    cases rx with | cons r t => cases t; obtain ⟨a, ws, rfl, ha, ra⟩ := lst_at sm r e1
                                split at hb
                                · rename_i ns e2
                                  cases hb
                                  rw [ra.ints e2] at ha
                                  refine cr_sortedI pins s σ H _ _ Q I rv ⟨a, ns, rfl, .inl (.inl ha), fun ns' p h1 h2 h3 => ?_⟩
                                  rw [sortI_eq h1 h2]
                                  exact k.lst sm (relL_ints _) p h3
                                · obtain ⟨rs, e3, hb⟩ := Option.bind_eq_some_iff.mp hb
                                  split at hb
                                  · rename_i hok
                                    cases hb
                                    exact sorted_rows hu sm e3 hok ha ra I rv k
                                  · cases hb
  · split at hb
    · rename_i hm
      cases hb
      cases rx with | cons r t => cases t with | cons r2 t => cases t; cases r; cases r2
                                                              exact call_divmodW pins s σ H _ _ Q I rv ⟨_, _, rfl, hm, k.tup sm (.cons (.int _) (.cons (.int _) .nil))⟩
    · cases hb
  · cases hb

/-! ### isinstance -/
def Ty.py : Ty → String
  | .int => "int" | .bool => "bool" | .str => "str" | .list => "list" | .tuple => "tuple"
theorem ty_of {K : PySem.W.Frag} {cl : Nat → Addr} {μ : List Addr} {Z : Addr → Prop} {S : Store} {H : Hp} {x : Val} {v : V} (s : Sim K cl μ Z S H) (r : Rel K cl μ Z H x v) {t : Ty} {b : Bool} (h : isTy S x t = some b) :
    ∃ T : String, TyX K H v (.type T) ∧ ∀ t b, isTy S x t = some b → kitB T t.py = some b := by
  cases r with
  | non => exact ⟨_, .base .non, fun t b h => by cases h; cases t <;> decide +kernel⟩
  | bl c => exact ⟨_, .base (.bl c), fun t b h => by cases h; cases t <;> decide +kernel⟩
  | int c => exact ⟨_, .base (.int c), fun t b h => by cases h; cases t <;> decide +kernel⟩
  | str c => exact ⟨_, .base (.str c), fun t b h => by cases h; cases t <;> decide +kernel⟩
  | tup h1 h2 h3 h4 => exact ⟨_, .base (.tup h3), fun t b h => by cases h; cases t <;> decide +kernel⟩
  | lv h1 h2 h3 h4 => exact ⟨_, .base (.lst h3), fun t b h => by cases h; cases t <;> decide +kernel⟩
  | sl h1 h5 =>
    have h3 := h1.sq
    refine ⟨"list", ?_, fun t b h => by cases h; cases t <;> decide +kernel⟩
    rcases h3 with (q | ⟨ob, q⟩) | ⟨o, its, n, q1, q2, _⟩
    · exact .base (.lst q)
    · exact .base (.frz q)
    · exact .kList q1 q2
  | @ref n a h1 =>
    have h : (match S[n]? with | some (.lst _) => some (decide (t = Ty.list)) | _ => none) = some b := h
    split at h
    · rename_i ys e
      obtain ⟨vs, q1, q2⟩ := s.ob _ _ _ h1 e
      refine ⟨"list", .base (.lst q1), fun t b h => ?_⟩
      have h : (match S[n]? with | some (.lst _) => some (decide (t = Ty.list)) | _ => none) = some b := h
      rw [e] at h
      cases h
      cases t <;> decide +kernel
    · cases h
  | iv => cases h
  | fn f => cases h
end Itp

namespace Itp
open PySem L2
section
variable {K : PySem.W.Frag} {cl : Nat → Addr} {μ nw μ' μ1 μ2 : List Addr} {Z Z' : Addr → Prop} {S S' S1 S2 : Store} {H H' H1 H2 : Hp} {a p : Addr} {o : HO}
mutual
theorem Rel.fit : ∀ {x : Val} {v : V}, Rel K cl μ Z H x v → x.fits μ.length = true
  | _, _, .non => rfl
  | _, _, .bl b => rfl
  | _, _, .int i => rfl
  | _, _, .str x => rfl
  | _, _, .fn f => rfl
  | _, _, .tup _ _ _ h => by unfold Val.fits; exact RelL.fit h
  | _, _, .lv _ _ _ h => by unfold Val.fits; exact RelL.fit h
  | _, _, .sl _ h => by unfold Val.fits; exact RelL.fit h
  | _, _, .iv _ _ _ _ _ _ _ h => by unfold Val.fits; exact RelL.fit h
  | _, _, .ref h => by unfold Val.fits; exact decide_eq_true (List.getElem?_eq_some_iff.mp h).1
theorem RelL.fit : ∀ {x : List Val} {v : List V}, RelL K cl μ Z H x v → fitsL μ.length x = true
  | _, _, .nil => by unfold fitsL; rfl
  | _, _, .cons h t => by unfold fitsL; rw [Rel.fit h, RelL.fit t]; rfl
end
mutual
theorem Rel.shrink : ∀ {x : Val} {v : V}, Rel K cl (μ ++ nw) Z H x v → x.fits μ.length = true → Rel K cl μ Z H x v
  | _, _, .non, _ => .non
  | _, _, .bl b, _ => .bl b
  | _, _, .int i, _ => .int i
  | _, _, .str x, _ => .str x
  | _, _, .fn f, _ => .fn f
  | _, _, .tup h1 h2 h3 h4, f => .tup (fun q => h1 (List.mem_append_left _ q)) h2 h3 (RelL.shrink h4 (by unfold Val.fits at f; exact f))
  | _, _, .lv h1 h2 h3 h4, f => .lv (fun q => h1 (List.mem_append_left _ q)) h2 h3 (RelL.shrink h4 (by unfold Val.fits at f; exact f))
  | _, _, .sl h1 h5, f => .sl (h1.elim (fun q => .inl ⟨fun z => q.1 (List.mem_append_left _ z), q.2.1, q.2.2⟩) .inr) (RelL.shrink h5 (by unfold Val.fits at f; exact f))
  | _, _, .iv h1 h2 h3 h4 h5 h6 h7 h8, f => .iv (fun q => h1 (List.mem_append_left _ q)) h2 (fun q => h3 (List.mem_append_left _ q)) h4 h5 h6 h7 (RelL.shrink h8 (by unfold Val.fits at f; exact f))
  | _, _, .ref h, f => .ref (by
    unfold Val.fits at f
    rw [List.getElem?_append_left (of_decide_eq_true f)] at h
    exact h)
theorem RelL.shrink : ∀ {x : List Val} {v : List V}, RelL K cl (μ ++ nw) Z H x v → fitsL μ.length x = true → RelL K cl μ Z H x v
  | _, _, .nil, _ => .nil
  | _, _, .cons h t, f => by
    unfold fitsL at f
    rw [Bool.and_eq_true] at f
    exact .cons (Rel.shrink h f.1) (RelL.shrink t f.2)
end
theorem ObRel.fit {ob : Ob} (r : ObRel K cl μ Z H a ob) : ob.fits μ.length = true := by
  cases ob with
  | lst xs => obtain ⟨vs, _, h⟩ := r; exact h.fit
  | ins c ns xs => obtain ⟨_, vs, _, _, _, _, _, h⟩ := r; exact h.fit
  | dic ks xs => obtain ⟨vs, _, _, h⟩ := r; exact h.fit
  | dik ks xs => obtain ⟨vs, _, _, h⟩ := r; exact h.fit
theorem ObRel.shrink {ob : Ob} (r : ObRel K cl (μ ++ nw) Z H a ob) (f : ob.fits μ.length = true) : ObRel K cl μ Z H a ob := by
  cases ob with
  | lst xs => obtain ⟨vs, h1, h⟩ := r; exact ⟨vs, h1, h.shrink f⟩
  | ins c ns xs => obtain ⟨dx, vs, h1, h2, h3, h4, h5, h⟩ := r; exact ⟨dx, vs, h1, h2, fun q => h3 (List.mem_append_left _ q), h4, h5, h.shrink f⟩
  | dic ks xs => obtain ⟨vs, h1, h2, h⟩ := r; exact ⟨vs, h1, h2, h.shrink f⟩
  | dik ks xs => obtain ⟨vs, h1, h2, h⟩ := r; exact ⟨vs, h1, h2, h.shrink f⟩
theorem not_mem_old (s : Sim K cl (μ ++ nw) Z S H) {n : Nat} (h : (μ ++ nw)[n]? = some a) (hn : ¬ n < μ.length) : a ∉ μ := fun q => by
  obtain ⟨m, hm⟩ := List.getElem?_of_mem q
  have h1 := List.getElem?_eq_some_iff.mp hm
  have h2 := List.getElem?_eq_some_iff.mp h
  have h3 : (μ ++ nw)[m]? = some a := by rw [List.getElem?_append_left h1.1]; exact hm
  have h4 := List.getElem?_eq_some_iff.mp h3
  have e : m = n := (List.getElem_inj s.nd).mp (h4.2.trans h2.2.symm)
  subst e
  exact hn h1.1
mutual
theorem reify_ok (s : Sim K cl (μ ++ nw) Z S H) : ∀ (f : Nat) {x y : Val} {v : V}, Rel K cl (μ ++ nw) Z H x v → reify S μ.length f x = some y → Rel K cl μ Z H y v
  | 0, x, y, v, r, h => by
    unfold reify at h
    split at h
    · rename_i q; cases h; exact r.shrink q
    · cases h
  | f + 1, x, y, v, r, h => by
    unfold reify at h
    split at h
    · rename_i q; cases h; exact r.shrink q
    · rename_i nf
      split at h
      · obtain ⟨ys, e, rfl⟩ := Option.map_eq_some_iff.mp h
        cases r with
        | tup h1 h2 h3 h4 => exact .tup (fun q => h1 (List.mem_append_left _ q)) h2 h3 (reifyL_ok s f h4 e)
      · obtain ⟨ys, e, rfl⟩ := Option.map_eq_some_iff.mp h
        cases r with
        | lv h1 h2 h3 h4 => exact .lv (fun q => h1 (List.mem_append_left _ q)) h2 h3 (reifyL_ok s f h4 e)
      · obtain ⟨ys, e, rfl⟩ := Option.map_eq_some_iff.mp h
        cases r with
        | iv h1 h2 h3 h4 h5 h6 h7 h8 =>
          have q := reifyL_ok s f h8 e
          exact .iv (fun q => h1 (List.mem_append_left _ q)) h2 (fun q => h3 (List.mem_append_left _ q)) h4 h5 h6 (h7.trans (h8.length.trans q.length.symm)) q
      · rename_i n
        cases r with
        | ref h1 =>
          have hn : ¬ n < μ.length := fun q => nf (by unfold Val.fits; exact decide_eq_true q)
          have ha := not_mem_old s h1 hn
          have hz := fun z => s.zm _ z (List.mem_of_getElem? h1)
          split at h
          · rename_i xs e0
            obtain ⟨ys, e, rfl⟩ := Option.map_eq_some_iff.mp h
            obtain ⟨vs, q1, q2⟩ := s.ob _ _ _ h1 e0
            exact .lv ha hz q1 (reifyL_ok s f q2 e)
          · rename_i c ns xs e0
            obtain ⟨ys, e, rfl⟩ := Option.map_eq_some_iff.mp h
            obtain ⟨dx, vs, q1, q2, q3, q4, q5, q6⟩ := s.ob _ _ _ h1 e0
            have q := reifyL_ok s f q6 e
            exact .iv ha hz (fun q => q3 (List.mem_append_left _ q)) q4 q1 q2 (q5.trans (q6.length.trans q.length.symm)) q
          · cases h
      · cases h
  termination_by f => (f, 0)
theorem reifyL_ok (s : Sim K cl (μ ++ nw) Z S H) : ∀ (f : Nat) {x y : List Val} {v : List V}, RelL K cl (μ ++ nw) Z H x v → reifyL S μ.length f x = some y → RelL K cl μ Z H y v
  | _, _, _, _, .nil, h => by unfold reifyL at h; cases h; exact .nil
  | 0, _, _, _, .cons .., h => by unfold reifyL at h; cases h
  | f + 1, x :: xs, _, _, .cons r t, h => by
    unfold reifyL at h
    obtain ⟨y, e, h⟩ := Option.bind_eq_some_iff.mp h
    obtain ⟨ys, e2, rfl⟩ := Option.map_eq_some_iff.mp h
    exact .cons (reify_ok s f r e) (reifyL_ok s (f + 1) t e2)
  termination_by f xs => (f, xs.length + 1)
end
theorem gc_ok {x y : Val} {v : V} (s : Sim K cl μ Z S H) (st : Stp K cl Z μ H μ1 S1 H1) (r : Rel K cl μ1 Z H1 x v) (h : gc S x S1 = some (y, S2)) : Stp K cl Z μ H μ S2 H1 ∧ Rel K cl μ Z H1 y v := by
  obtain ⟨⟨nw, rfl, hn⟩, fr, sm⟩ := st
  unfold gc at h
  split at h
  · rename_i ok
    obtain ⟨w, e, h⟩ := Option.map_eq_some_iff.mp h
    cases h
    rw [← s.len] at e
    refine ⟨⟨⟨[], by simp, by simp⟩, fr, ?_⟩, reify_ok sm 8 r e⟩
    refine ⟨?_, s.nd, fun n a o h1 h2 => ?_, sm.zt, fun a z q => sm.zm a z (List.mem_append_left _ q)⟩
    · rw [List.length_take, s.len]
      have := ok.1
      omega
    · have hl := (List.getElem?_eq_some_iff.mp h1).1
      rw [List.getElem?_take_of_lt (by rw [← s.len]; exact hl)] at h2
      have q := sm.ob n a o (by rw [List.getElem?_append_left hl]; exact h1) h2
      refine q.shrink ?_
      rcases ok.2 n o (by rw [← s.len]; exact hl) h2 with e | e
      · exact (s.ob n a o h1 e).fit
      · rw [s.len]; exact e
  · cases h
end
end Itp

namespace Itp
open PySem L2

/-! ### the text beside the interpreter's terms -/
/-- what is known of the module: its defs by number (name, parameters), its constants, the built-ins that no name of its own hides -/
structure G where
  fn : Nat → Option (Str × List Str)
  ct : List (Str × Val)
  bl : List Str
  /-- calls by keywords: the def, how many by place, the names, where each parameter stands -/
  kw : Nat → List (Nat × List Str × List Nat) := fun _ => []
  /-- methods by their defs: the class, the name, the parameters -/
  ms : Nat → Option (Nat × Str × List Str) := fun _ => none
  /-- classes by the defs of their __init__: the class, its name, the parameters -/
  ctr : Nat → Option (Nat × Str × List Str) := fun _ => none
  /-- names that no class has, by classes -/
  na : Nat → Str → Bool := fun _ _ => false
  /-- defs that are handed about as values -/
  fv : List Nat := []
/-- where one stands: the names by slots, the block's scope, which names' cells were made here -/
structure Pl where
  N : List Str
  sc : Scope
  fn : Str → Bool

def vis (sc : Scope) (x : Str) : Bool := match sc.names.lookup x with
  | some .local => true
  | some .cell => true
  | some .free => true
  | _ => false
def loc (p : Pl) (x : Str) : Bool := match p.sc.names.lookup x with
  | some .local => true
  | some .cell => p.fn x
  | _ => false
def glob (sc : Scope) (x : Str) : Bool := match sc.names.lookup x with
  | some .globalImplicit => true
  | _ => false
def okName (x : Str) : Bool := (x == ("__debug__" : Str)) == false && (x == ("__classdict__" : Str)) == false && !decide (x = "__name__")
def notStar : Expr → Bool
  | .Starred _ _ => false
  | _ => true
def notSlice : Expr → Bool
  | .Slice .. => false
  | _ => true
def notSet : Expr → Bool
  | .Set .. => false
  | _ => true
def notListTup : Expr → Bool
  | .List .. => false
  | .Tuple .. => false
  | _ => true
def notComp : Expr → Bool
  | .ListComp .. => false
  | .SetComp .. => false
  | .DictComp .. => false
  | _ => true
def isName (x : Str) : Expr → Bool
  | .Name y _ => decide (x = y)
  | _ => false
def Blt.nm : Blt → Str
  | .len => "len" | .sum => "sum" | .max => "max" | .min => "min" | .all => "all" | .any => "any"
  | .abs => "abs" | .int => "int" | .list => "list" | .tuple => "tuple" | .divmod => "divmod" | .sorted => "sorted"
def Ty.nm : Ty → Str
  | .int => "int" | .bool => "bool" | .str => "str" | .list => "list" | .tuple => "tuple"
def ItK.nm : ItK → Str
  | .seq => "" | .range => "range" | .enum => "enumerate" | .zip => "zip" | .zips => "zip"
def conIs : Val → Const → Bool
  | .int i, .int j => decide (i = j)
  | .bl a, .bool b => decide (a = b)
  | .non, .none => true
  | .str a, .str b => decide (a = b)
  | _, _ => false
def sameCon : Val → Val → Bool
  | .int i, .int j => decide (i = j)
  | .bl a, .bl b => decide (a = b)
  | .non, .non => true
  | .str a, .str b => decide (a = b)
  | _, _ => false
def fresh : E → Bool
  | .lst _ => true
  | .lc .. => true
  | .slc .. => true
  | .bin .add _ _ => true
  | .bin .mul _ _ => true
  | .blt .list _ => true
  | .blt .sorted _ => true
  | .sdc .. => true
  | .sset _ => true
  | .lc2 .. => true
  | .rev _ => true
  | _ => false
/-- names of types behind isinstance -/
def tysAre (g : G) (p : Pl) : List Ty → List Expr → Bool
  | [], [] => true
  | t :: ts, .Name x _ :: es => decide (x = t.nm) && glob p.sc x && g.bl.contains x && tysAre g p ts es
  | _, _ => false
def T.slots : T → List Nat
  | .nm i => [i]
  | .tp ts => tslots ts
  | .sub _ _ => []
  | .fld _ _ _ => []
  | .dsub _ _ => []
  | .ksub _ _ => []
where tslots : TL → List Nat
  | .nil => []
  | .cons t ts => T.slots t ++ tslots ts
def T.plain : T → Bool
  | .nm _ => true
  | .tp ts => tplain ts
  | .sub _ _ => false
  | .fld _ _ _ => false
  | .dsub _ _ => false
  | .ksub _ _ => false
where tplain : TL → Bool
  | .nil => true
  | .cons t ts => T.plain t && tplain ts
def inner (p : Pl) (scope : Scope) : Pl := ⟨p.N, relS scope p.sc, fun x => scope.names.lookup x == some .cell⟩

def keyIs : List Int → List (Option Expr) → Bool
  | [], [] => true
  | k :: ks, some (.Constant c _ _) :: ps => conIs (.int k) c && keyIs ks ps
  | _, _ => false
def notBareCall : Expr → Bool
  | .Call (.Name _ _) [] [] _ => false
  | _ => true
def isDefN (kw : Keyword) : Bool := decide (kw.arg = some "default") && (match kw.value with
  | .Constant .none _ _ => true
  | _ => false)
def isTrueC : Expr → Bool
  | .Constant (.bool true) _ _ => true
  | _ => false
def isTup : Expr → Bool
  | .Tuple .. => true
  | _ => false
def itCond : ItK → List Expr → Expr → Bool
  | .seq, _, _ => false
  | .range, pes, _ => decide (1 ≤ pes.length) && decide (pes.length ≤ 3)
  | .enum, pes, ptg => decide (pes.length = 1) && isTup ptg
  | .zip, pes, ptg => decide (pes.length = 2) && isTup ptg
  | .zips, pes, ptg => decide (pes.length = 2) && isTup ptg
def kwVal (k : Keyword) : Expr := k.value
def kwNm (k : Keyword) : Option Str := k.arg
def isStrict (kw : Keyword) : Bool := decide (kwNm kw = some "strict") && isTrueC (kwVal kw)
/-- what is walked, as an expression: its parts -/
def itShape (g : G) (p : Pl) (k : ItK) (ptg piter : Expr) : Option (List Expr) :=
  if decide (k = .seq) = true then (if notSet piter = true then some [piter] else none) else
  match piter with
    | .Call (.Name x _) pes [kw] _ => if (decide (k = .zips) && isStrict kw && decide (x = k.nm) && glob p.sc x && g.bl.contains x && itCond k pes ptg) = true then some pes else none
    | .Call (.Name x _) pes [] _ => if (decide (k ≠ .zips) && decide (x = k.nm) && glob p.sc x && g.bl.contains x && itCond k pes ptg) = true then some pes else none
    | _ => none
mutual
def chkE (g : G) (p : Pl) : E → Expr → Bool
  | .var i, pe => match pe with
    | .Name x _ => decide (p.N[i]? = some x) && vis p.sc x && okName x
    | _ => false
  | .con v, pe => match pe with
    | .Constant c _ _ => conIs v c
    | _ => false
  | .glo x v, pe => match pe with
    | .Name y _ => decide (x = y) && glob p.sc x && okName x && (g.ct.any fun q => decide (q.1 = x) && sameCon q.2 v)
    | _ => false
  | .bin o a b, pe => match pe with
    | .BinOp pa op pb _ => decide (op = o.py) && chkE g p a pa && chkE g p b pb
    | _ => false
  | .neg a, pe => match pe with
    | .UnaryOp .USub pa _ => chkE g p a pa
    | _ => false
  | .cmp o a b, pe => match pe with
    | .Compare pa [op] [pb] _ => decide (op = o.py) && notSet pb && chkE g p a pa && chkE g p b pb
    | _ => false
  | .chain o o' a b c, pe => match pe with
    | .Compare pa [op, op'] [pb, pc] _ => decide (op = o.py) && decide (op' = o'.py) && notSet pc && chkE g p a pa && chkE g p b pb && chkE g p c pc
    | _ => false
  | .chain4 o1 o2 o3 o4 a b c d e, pe => match pe with
    | .Compare pa [p1, p2, p3, p4] [pb, pc, pd, pf] _ => decide (p1 = o1.py) && decide (p2 = o2.py) && decide (p3 = o3.py) && decide (p4 = o4.py) && notSet pf && chkE g p a pa && chkE g p b pb && chkE g p c pc && chkE g p d pd && chkE g p e pf
    | _ => false
  | .and a b, pe => match pe with
    | .BoolOp .And (pa :: pb :: rest) pos => chkE g p a pa && chkE g p b (.BoolOp .And (pb :: rest) pos)
    | _ => false
  | .or a b, pe => match pe with
    | .BoolOp .Or (pa :: pb :: rest) pos => chkE g p a pa && chkE g p b (.BoolOp .Or (pb :: rest) pos)
    | _ => false
  | .one a, pe => match pe with
    | .BoolOp _ [pa] _ => chkE g p a pa
    | _ => false
  | .not a, pe => match pe with
    | .UnaryOp .Not pa _ => chkE g p a pa
    | _ => false
  | .ifx c a b, pe => match pe with
    | .IfExp pc pa pb _ => chkE g p c pc && chkE g p a pa && chkE g p b pb
    | _ => false
  | .lst es, pe => match pe with
    | .List pes _ => chkL g p es pes
    | _ => false
  | .tup es, pe => match pe with
    | .Tuple pes _ _ => chkL g p es pes
    | _ => false
  | .idx a i, pe => match pe with
    | .Subscript pa pi _ => notSlice pi && chkE g p a pa && chkE g p i pi
    | _ => false
  | .slc a lo hi, pe => match pe with
    | .Subscript pa (.Slice plo phi none _) _ => chkE g p a pa && chkO g p lo plo && chkO g p hi phi
    | _ => false
  | .blt b es, pe => match pe with
    | .Call (.Name x _) (pe1 :: pes) [] _ => decide (x = b.nm) && glob p.sc x && g.bl.contains x && chkL g p es (pe1 :: pes)
    | _ => false
  | .isa e ts, pe => match pe with
    | .Call (.Name x _) [pe1, .Tuple pts _ _] [] _ => decide (x = "isinstance") && glob p.sc x && g.bl.contains x && notStar pe1 && chkE g p e pe1 && (decide (0 < ts.length) && decide (ts.length ≤ 100)) && tysAre g p ts pts
    | .Call (.Name x _) [pe1, pt] [] _ => decide (x = "isinstance") && glob p.sc x && g.bl.contains x && notStar pe1 && chkE g p e pe1 && decide (ts.length = 1) && tysAre g p ts [pt]
    | _ => false
  | .call _ f es, pe => match pe with
    | .Call (.Name x _) pes [] _ => (match g.fn f with
      | some (y, ps) => decide (x = y) && decide (ps.length = pes.length)
      | none => false) && glob p.sc x && okName x && chkL g p es pes
    | _ => false
  | .callK _ f es ks pm, pe => match pe with
    | .Call (.Name x _) pes kws _ => (match g.fn f with
      | some (y, ps) => decide (x = y) && decide (pm.length = ps.length)
      | none => false) && glob p.sc x && okName x && chkL g p es pes && chkL g p ks (kws.map kwVal) && (kws.all fun k => (kwNm k).isSome) && decide ((pes.length, kws.filterMap kwNm, pm) ∈ g.kw f) && (pm.all fun i => decide (i < pes.length + kws.length))
    | _ => false
  | .lc own t k es cd e, pe => match pe with
    | .ListComp pelt [⟨ptg, piter, pifs, 0⟩] scope _ => blkC p.N p.sc scope (own.map fun i => (p.N.getD i "", i)) && T.plain t && ((T.slots t).all fun i => own.contains i) && (match itShape g p k ptg piter with | some pes => chkL g p es pes | none => false)
        && chkT g (inner p scope) t ptg && chkC g (inner p scope) cd pifs && chkE g (inner p scope) e pelt
    | _ => false
  | .ixof a y, pe => match pe with
    | .Call (.Attribute pa m apos) [py] [] cpos => decide (m = "index") && notBareCall pa && (apos.endLine == cpos.line) && notStar py && chkE g p a pa && chkE g p y py
    | _ => false
  | .revT a, pe => match pe with
    | .Subscript pa (.Slice none none (some (.UnaryOp .USub (.Constant (.int i) _ _) _)) _) _ => decide (i = 1) && chkE g p a pa
    | _ => false
  | .rev a, pe => match pe with
    | .Subscript pa (.Slice none none (some (.UnaryOp .USub (.Constant (.int i) _ _) _)) _) _ => decide (i = 1) && chkE g p a pa
    | _ => false
  | .strI a, pe => match pe with
    | .Call (.Name x _) [pa] [] _ => decide (x = "str") && glob p.sc x && g.bl.contains x && notStar pa && chkE g p a pa
    | _ => false
  | .lset a, pe => match pe with
    | .Call (.Name x _) [.Call (.Name y _) [pa] [] _] [] _ => decide (x = "len") && decide (y = "set") && glob p.sc x && glob p.sc y && g.bl.contains x && g.bl.contains y && notStar pa && chkE g p a pa
    | _ => false
  | .lc2 own t k es own1 t1 k1 es1 e, pe => match pe with
    | .ListComp pelt [⟨ptg, piter, [], 0⟩, ⟨ptg1, piter1, [], 0⟩] scope _ => blkC p.N p.sc scope (own.map fun i => (p.N.getD i "", i)) && (T.plain t && T.plain t1) && ((T.slots t).all fun i => own.contains i) && ((T.slots t1).all fun i => own1.contains i) && (own1.all fun i => own.contains i)
        && (match itShape g p k ptg piter with | some pes => chkL g p es pes | none => false) && (match itShape g (inner p scope) k1 ptg1 piter1 with | some pes => chkL g (inner p scope) es1 pes | none => false)
        && chkT g (inner p scope) t ptg && chkT g (inner p scope) t1 ptg1 && chkE g (inner p scope) e pelt
    | _ => false
  | .sdc own t k es cd e, pe => match pe with
    | .Call (.Name x _) [.DictComp pk pv [⟨ptg, piter, pifs, 0⟩] scope _] [] _ => decide (x = "sorted") && glob p.sc x && g.bl.contains x && isTrueC pv && blkC p.N p.sc scope (own.map fun i => (p.N.getD i "", i)) && T.plain t && ((T.slots t).all fun i => own.contains i) && (match itShape g p k ptg piter with | some pes => chkL g p es pes | none => false)
        && chkT g (inner p scope) t ptg && chkC g (inner p scope) cd pifs && chkE g (inner p scope) e pk
    | _ => false
  | .new e, pe => fresh e && chkE g p e pe
  | .attr ks a f, pe => match pe with
    | .Attribute pa f' _ => decide (f = f') && notBareCall pa && (ks.all fun k => g.na k f) && chkE g p a pa
    | _ => false
  | .meth _ k m f a es, pe => match pe with
    | .Call (.Attribute pa m' apos) pes [] pos => (match g.ms f with
      | some (k', m'', ps) => decide (k = k') && decide (m = m'') && decide (ps.length = pes.length + 1)
      | none => false) && decide (m = m') && notBareCall pa && (apos.endLine == pos.line) && decide (pes.length < 30) && chkE g p a pa && chkL g p es pes
    | _ => false
  | .make k f es, pe => match pe with
    | .Call (.Name x _) pes [] _ => (match g.ctr f with
      | some (k', y, ps) => decide (k = k') && decide (x = y) && decide (ps.length = pes.length + 1)
      | none => false) && glob p.sc x && okName x && chkL g p es pes
    | _ => false
  | .dct, pe => match pe with
    | .Dict [] [] _ => true
    | _ => false
  | .dget d k, pe => match pe with
    | .Subscript pd pk _ => notSlice pk && chkE g p d pd && chkE g p k pk
    | _ => false
  | .dkd ks es, pe => match pe with
    | .Dict pks pvs _ => keyIs ks pks && decide (ks.length = pvs.length) && decide (0 < ks.length) && decide (ks.length ≤ 15) && chkL g p es pvs
    | _ => false
  | .kget d k, pe => match pe with
    | .Subscript pd pk _ => notSlice pk && chkE g p d pd && chkE g p k pk
    | _ => false
  | .din neg k d, pe => match pe with
    | .Compare pk [op] [pd] _ => decide (op = if neg = true then CmpOp.NotIn else CmpOp.In) && notSet pd && notListTup pd && chkE g p k pk && chkE g p d pd
    | _ => false
  | .mind a, pe => match pe with
    | .Call (.Name x _) [pa] [kw] _ => decide (x = "min") && glob p.sc x && g.bl.contains x && isDefN kw && notStar pa && chkE g p a pa
    | _ => false
  | .rep a, pe => match pe with
    | .Call (.Name x _) [pa] [] _ => decide (x = "repr") && glob p.sc x && g.bl.contains x && notStar pa && chkE g p a pa
    | _ => false
  | .dfn f, pe => match pe with
    | .Name x _ => decide (f ∈ g.fv) && glob p.sc x && okName x && (match g.fn f with
      | some (y, _) => decide (x = y)
      | none => false)
    | _ => false
  | .callV _ fs i es, pe => match pe with
    | .Call (.Name x _) (pe1 :: pes) [] _ => decide (p.N[i]? = some x) && vis p.sc x && okName x && (fs.all fun f => g.fv.contains f && match g.fn f with
      | some (_, ps) => decide (ps.length = (pe1 :: pes).length)
      | none => false) && chkL g p es (pe1 :: pes)
    | _ => false
  | .sset a, pe => match pe with
    | .Call (.Name x _) [.Call (.Name y _) [pa] [] _] [] _ => decide (x = "sorted") && decide (y = "set") && glob p.sc x && glob p.sc y && g.bl.contains x && g.bl.contains y && notStar pa && chkE g p a pa
    | _ => false
def chkO (g : G) (p : Pl) : EO → Option Expr → Bool
  | .none, pe => match pe with
    | Option.none => true
    | _ => false
  | .some e, pe => match pe with
    | Option.some x => chkE g p e x
    | _ => false
def chkC (g : G) (p : Pl) : EO → List Expr → Bool
  | .none, pe => match pe with
    | [] => true
    | _ => false
  | .some e, pe => match pe with
    | [x] => chkE g p e x
    | _ => false
def chkL (g : G) (p : Pl) : EL → List Expr → Bool
  | .nil, pe => match pe with
    | [] => true
    | _ => false
  | .cons e es, pe => match pe with
    | x :: xs => notStar x && chkE g p e x && chkL g p es xs
    | _ => false
def chkT (g : G) (p : Pl) : T → Expr → Bool
  | .nm i, pe => match pe with
    | .Name x _ => decide (p.N[i]? = some x) && loc p x
    | _ => false
  | .tp ts, pe => match pe with
    | .Tuple pts _ _ => chkTs g p ts pts
    | _ => false
  | .sub o i, pe => match pe with
    | .Subscript po pi _ => notSlice pi && chkE g p o po && chkE g p i pi
    | _ => false
  | .fld ks o f, pe => match pe with
    | .Attribute po f' _ => decide (f = f') && (ks.all fun k => g.na k f) && chkE g p o po
    | _ => false
  | .dsub d k, pe => match pe with
    | .Subscript pd pk _ => notSlice pk && chkE g p d pd && chkE g p k pk
    | _ => false
  | .ksub d k, pe => match pe with
    | .Subscript pd pk _ => notSlice pk && chkE g p d pd && chkE g p k pk
    | _ => false
def chkTs (g : G) (p : Pl) : TL → List Expr → Bool
  | .nil, pe => match pe with
    | [] => true
    | _ => false
  | .cons t ts, pe => match pe with
    | x :: xs => notStar x && chkT g p t x && chkTs g p ts xs
    | _ => false
end
end Itp

namespace Itp
open PySem PySem.Spec PyProof.Rows L2
/-! ### defs that are called where no repr is under way -/
structure GFn (Pg : Program) (wd : World) (Kf : PySem.W.Frag) (mg : Str → Option Value) (bs : Heap) (k : Nat) (f : Addr) (fd : FuncData) (ps : List Str) (sp : Sp) : Prop where
  len : ∀ us Hh Q E, sp us Hh Q E → us.length = ps.length
  run : ∀ (Ar : Around) (ou : List PySem.Env) (sh : Shared) (Hh : Hp) (ag : Args) (zs : List Value) (us : List V) (Q : VK) (E : XK), Room k Ar → Ar.guards = some [] → Env0 Pg wd Kf mg bs Ar ou sh Hh → BindsTo sh fd ag (ps.zip zs) → Vals us zs → sp us Hh Q E →
    codeAny (model Pg wd) Ar (.call (.ref f) ag) (CR CX0 ou Pg wd Hh sh Q E) sh
section
variable {Pg : Program} {wd : World} {Kf : PySem.W.Frag} {mg : Str → Option Value} {bs : Heap}
theorem GFn.by {x qn : Str} {sm : Stmt} {f : Addr} {fd : FuncData} {Ns ps : List Str} {k : Nat} {sp : Sp} (Fu : Fun Kf x qn sm f fd) (Sc : FnScope Ns ps (defScope sm)) (ln : ∀ us Hh Q E, sp us Hh Q E → us.length = ps.length)
    (hb : ∀ (cv : Value) (Ar : Around) (ou : List PySem.Env) (sh : Shared) (Hh : Hp) (us : List V) (Q : VK) (E : XK), Room k (Ar.deeper (envOfC qn (defScope sm) sh.heap.objs.size f cv)) → Ar.guards = some [] → sp us Hh Q E →
      ∃ t, PSs (cxOf CX0 Pg wd Kf mg bs Ns qn (defScope sm) f cv Ar ou sh Hh E).nox (defBody sm) t ∧ t { nx := fun _ H2 => Q .non H2, rt := Q } (start Ns us) Hh) : GFn Pg wd Kf mg bs (k + 1) f fd ps sp := by
  obtain ⟨oc, od, kV, doc, pm, an, cv, ct, osl, rfl, lk, hcd⟩ := Fu.ex
  refine ⟨ln, fun Ar ou sh Hh ag zs us Q E hr hgd e0 hbd rv hsp => ?_⟩
  have hl := ln _ _ _ _ hsp
  have KX : Kf.In sh.heap := e0.mod.kin.keeps fun b o e => (e0.bs b o e).1
  have lim : sh.heap.NoLimit := e0.mod.nolimit.keeps fun b o e => (e0.bs b o e).1
  have kinds : ∀ y ∈ ps.zip zs, (defScope sm).names.lookup y.1 = some .local ∨ ((defScope sm).names.lookup y.1 = some .cell ∧ ((cellsFrom (sh.heap.objs.size + 1) (defScope sm).names []).lookup y.1).isSome = true) := fun ⟨nm, v⟩ hy => by
    rcases Sc.par nm (List.of_mem_zip hy).1 with q | q
    · exact .inl q
    · exact .inr ⟨q, PySem.W.cellsFrom_some _ _ _ (.inl q)⟩
  refine codeAny_call_function hr.depth (KX _ _ lk) rfl Sc.co Sc.gen rfl (PySem.W.codeRec_of KX hcd) (hbd _ _ _ _ ?_)
  refine wpAny_newFunctionEnv_cells Sc.kind kinds fun en he sh1 xx => ?_
  subst he
  refine ⟨lim.keeps xx.toInCall.keep, codeAny_func ?_⟩
  obtain ⟨t, ht0, hq⟩ := hb cv Ar ou sh Hh us Q E (hr.deeper _) hgd hsp
  have ht := ht0.nox
  have Iv : Inv (cxOf CX0 Pg wd Kf mg bs Ns qn (defScope sm) f cv Ar ou sh Hh E) [] (start Ns us) Hh sh1 := inv_start Sc hr.hd e0 hl rv xx
  refine wpAny_mono (ht.run [] sh1 (start Ns us) Hh _ Iv hq) (fun fl sh2 hs => ?_) fun e sh2 hs => hs
  have fin : ∀ {σ2 : L2.St} {H2 : Hp} {v : V} {u : Value}, Inv (cxOf CX0 Pg wd Kf mg bs Ns qn (defScope sm) f cv Ar ou sh Hh E) [] σ2 H2 sh2 → RelV v u → Q v H2 → CE ou Pg wd Hh sh Q u sh2 :=
    fun {σ2 H2 v u} J r q => ⟨v, H2, J.os, J.bare, J.base, J.hok, r, q⟩
  cases fl with
  | ret u =>
    obtain ⟨v, σ2, H2, J, r, q⟩ := hs
    exact fin J r q
  | next =>
    obtain ⟨σ2, H2, J, q⟩ := hs
    exact fin (v := V.non) (u := Value.none) J rfl q
  | brk =>
    obtain ⟨_, _, _, q⟩ := hs
    exact q.elim
  | cont =>
    obtain ⟨_, _, _, q⟩ := hs
    exact q.elim
end
section
variable {Y : Cx} {k m : Nat} {f C : Addr} {fd : FuncData} {ps ks : List Str} {sp : Sp} {x nm : Str} {p0 pos apos : Pos} {e o : Expr} {es : List Expr} {ta : TE} {t tk : TA} {pm : List Nat}
/-- the callee runs, its arguments bound somehow -/
theorem g_run {pn : List (Addr × Obj)} {σ : L2.St} {Hh : Hp} {sh : Shared} {Q : VK} {kw : List (Str × Value)} {us zs : List Value} {vs : List V} (F : GFn Y.prog Y.w Y.K Y.mg Y.base k f fd ps sp) (hr : Room k Y.A) (gd : Y.A.guards = some [])
    (Iv : Inv Y pn σ Hh sh) (hbd : BindsTo sh fd ⟨us, kw⟩ (ps.zip zs)) (r : Vals vs zs) (h : sp vs Hh Q E0) : wpAny (model Y.prog Y.w) Y.A (call (.ref f) us kw) (EP Y pn σ Q) Y.xe sh := by
  refine wpAny_call (codeAny_mono (F.run Y.A Y.stack sh Hh ⟨us, kw⟩ zs vs Q E0 hr gd Iv.env0 hbd r h) fun res sh2 hq => ?_)
  cases res with
  | error er => exact False.elim hq
  | ok fl =>
    cases fl with
    | ret u => exact Iv.after hq
    | next => exact False.elim hq
    | brk => exact False.elim hq
    | cont => exact False.elim hq
theorem g_runP {pn : List (Addr × Obj)} {σ : L2.St} {Hh : Hp} {sh : Shared} {Q : VK} {us : List Value} {vs : List V} (F : GFn Y.prog Y.w Y.K Y.mg Y.base k f fd ps sp) (hr : Room k Y.A) (gd : Y.A.guards = some []) (hb : Binds Y.K fd ps [])
    (Iv : Inv Y pn σ Hh sh) (r : Vals vs us) (h : sp vs Hh Q E0) : wpAny (model Y.prog Y.w) Y.A (call (.ref f) us) (EP Y pn σ Q) Y.xe sh := by
  refine g_run F hr gd Iv ?_ r h
  have hl : (us ++ []).length = ps.length := by rw [List.append_nil, ← r.length]; exact F.len _ _ _ _ h
  have := hb sh us Iv.kIn hl
  rw [List.append_nil] at this
  exact this
theorem g_call (F : GFn Y.prog Y.w Y.K Y.mg Y.base k f fd ps sp) (hr : Room k Y.A) (gd : Y.A.guards = some []) (hg : Gl Y x) (hm : Y.mg x = some (.ref f)) (hk : PySem.W.keepIn Y.K (.ref f) = true) (hb : Binds Y.K fd ps [])
    (ha : PA Y (e :: es) t) (hdb : (x == ("__debug__" : Str)) = false) (he : starEach (e :: es) Y.env = (false, eval e Y.env) :: starEach es Y.env) (hpl : (backTo pos (starEach es Y.env)).any (·.1) = false) :
    PE Y (.Call (.Name x p0) (e :: es) [] pos) (tCall sp [] E0 t) := by
  refine ⟨fun pn sh σ Hh Q Iv h => ?_⟩
  refine wpAny_Call_Name_kw (ld_glob Iv hg hm ?_ hdb)
  refine PySem.W.callWith_K (h₀ := Y.base) Iv.ok.mod.kin hk (thn (ha.run pos pn sh σ Hh _ Iv h) fun us sh1 ⟨vs, H1, I1, r, q⟩ => ⟨I1.kIn, ?_⟩) he hpl
  have q3 : sp (vs ++ []) H1 Q E0 := q
  rw [List.append_nil] at q3
  exact g_runP F hr gd hb I1 r q3
theorem g_call0 (F : GFn Y.prog Y.w Y.K Y.mg Y.base k f fd ps sp) (hr : Room k Y.A) (gd : Y.A.guards = some []) (hg : Gl Y x) (hm : Y.mg x = some (.ref f)) (hk : PySem.W.keepIn Y.K (.ref f) = true) (hb : Binds Y.K fd ps [])
    (hdb : (x == ("__debug__" : Str)) = false) : PE Y (.Call (.Name x p0) [] [] pos) (tCall sp [] E0 tNil) := by
  refine ⟨fun pn sh σ Hh Q Iv h => ?_⟩
  refine wpAny_Call_Name_kw (ld_glob Iv hg hm ?_ hdb)
  exact PySem.W.callWith_K0 Iv.kIn hk (g_runP (us := []) F hr gd hb Iv .nil h)
theorem g_meth {pl : Sem Bool} (he : PE Y o ta) (cl : Cls Y.K C) (hm : Meth Y.K C nm f) (F : GFn Y.prog Y.w Y.K Y.mg Y.base k f fd ps sp) (hr : Room k Y.A) (gd : Y.A.guards = some []) (hb : Binds Y.K fd ps []) (ha : PA Y (e :: es) t)
    (hst : starEach (e :: es) Y.env = (false, eval e Y.env) :: starEach es Y.env) (hpl : (backTo pos (starEach es Y.env)).any (·.1) = false)
    (ht : eval (.Call (.Attribute o nm apos) (e :: es) [] pos) Y.env = (do
      let obj ← eval o Y.env
      standAt apos.atName
      let (fv, one) ← holding [obj] (getMethod obj nm pl)
      callWith pos fv one (backTo pos (starEach (e :: es) Y.env)) (backToKw pos (keywordEach [] Y.env)))) :
    PE Y (.Call (.Attribute o nm apos) (e :: es) [] pos) (tMeth C nm sp [] E0 ta t) := by
  refine ⟨fun pn sh σ Hh Q Iv h => ?_⟩
  refine PySem.W.methodCall_KW (pl := pl) (thn (he.run pn sh σ Hh _ Iv h) fun u sh1 ⟨xv, H1, I1, rx, a, dx, fs, ex, ea, l, q⟩ => ?_) ht
  subst ex
  obtain rfl : u = Value.ref a := rx
  refine getmeth_ok I1 ea cl hm l ?_
  refine PySem.W.callWith_K (first := [.ref a]) (h₀ := Y.base) Iv.ok.mod.kin hm.kp (thn (ha.run pos pn sh1 σ H1 _ I1 q) fun us sh2 ⟨vs, H2, I2, r, q2⟩ => ⟨I2.kIn, ?_⟩) hst hpl
  have q3 : sp (.ref a :: (vs ++ [])) H2 Q E0 := q2
  rw [List.append_nil] at q3
  have q2 := q3
  exact g_runP (us := .ref a :: us) (vs := .ref a :: vs) F hr gd hb I2 (.cons rfl r) q2
theorem g_meth0 {pl : Sem Bool} (he : PE Y o ta) (cl : Cls Y.K C) (hm : Meth Y.K C nm f) (F : GFn Y.prog Y.w Y.K Y.mg Y.base k f fd ps sp) (hr : Room k Y.A) (gd : Y.A.guards = some []) (hb : Binds Y.K fd ps [])
    (ht : eval (.Call (.Attribute o nm apos) [] [] pos) Y.env = (do
      let obj ← eval o Y.env
      standAt apos.atName
      let (fv, one) ← holding [obj] (getMethod obj nm pl)
      callWith pos fv one (backTo pos (starEach [] Y.env)) (backToKw pos (keywordEach [] Y.env)))) :
    PE Y (.Call (.Attribute o nm apos) [] [] pos) (tMeth C nm sp [] E0 ta tNil) := by
  refine ⟨fun pn sh σ Hh Q Iv h => ?_⟩
  refine PySem.W.methodCall_KW (pl := pl) (thn (he.run pn sh σ Hh _ Iv h) fun u sh1 ⟨xv, H1, I1, rx, a, dx, fs, ex, ea, l, q⟩ => ?_) ht
  subst ex
  obtain rfl : u = Value.ref a := rx
  refine getmeth_ok I1 ea cl hm l ?_
  exact PySem.W.callWith_K0 (first := [.ref a]) I1.kIn hm.kp (g_runP (us := [.ref a]) (vs := [.ref a]) F hr gd hb I1 (.cons rfl .nil) q)
theorem make_guards {Ar : Around} {Cc : Addr} {us : List Value} {kw : List (Str × Value)} : (Ar.under (.builtin "type.__call__" ⟨.ref Cc :: us, kw⟩)).guards = Ar.guards := by
  have e : (Code.builtin "type.__call__" ⟨.ref Cc :: us, kw⟩).guards = [] := by
    first | rfl | simp [Code.guards, Code.isGuard, guardIds]
  unfold Around.under
  simp only [e, pushGuards_eq]
  cases Ar.guards <;> rfl
theorem g_runM {pn : List (Addr × Obj)} {σ : L2.St} {Hh : Hp} {sh : Shared} {Q : VK} {us : List Value} {vs : List V} (M : Mk Y.K C f) (F : GFn Y.prog Y.w Y.K Y.mg Y.base k f fd ps sp) (hr : Room (k + 1) Y.A) (gd : Y.A.guards = some []) (hb : Binds Y.K fd ps [])
    (Iv : Inv Y pn σ Hh sh) (r : Vals vs us)
    (h : ∀ xa dx, Hh xa = none → Hh dx = none → dx ≠ xa → sp (.ref xa :: vs) (upd (upd Hh dx (.own xa)) xa (.ins C dx [])) (fun v H2 => v = .non ∧ Q (.ref xa) H2) E0) :
    wpAny (model Y.prog Y.w) Y.A (call (.ref C) us) (EP Y pn σ Q) Y.xe sh := by
  have hq := h (sh.heap.objs.size + 1) sh.heap.objs.size (Iv.hok.fresh (Nat.le_succ _)) (Iv.hok.fresh (Nat.le_refl _)) (Nat.ne_of_lt (Nat.lt_succ_self _))
  have I2 := Inv.made (C := C) Iv
  have r2 : Vals (V.ref (sh.heap.objs.size + 1) :: vs) (Value.ref (sh.heap.objs.size + 1) :: us) := .cons rfl r
  have hl : ((Value.ref (sh.heap.objs.size + 1) :: us) ++ []).length = ps.length := by
    have e := r2.length
    rw [F.len _ _ _ _ hq] at e
    rw [List.append_nil]
    exact e.symm
  have bd := hb _ (Value.ref (sh.heap.objs.size + 1) :: us) I2.kIn hl
  rw [List.append_nil] at bd
  refine wpAny_call (make_map (f := f) Iv.kIn M.makes M.init (beq_iff_eq.mp M.fn) (codeAny_mono (F.run _ Y.stack _ _ ⟨Value.ref (sh.heap.objs.size + 1) :: us, []⟩ (Value.ref (sh.heap.objs.size + 1) :: us) _ _ E0 (hr.make C us [])
    (by rw [make_guards]; exact gd) (I2.env0.make C us []) bd r2 hq) fun res sh2 hq2 => ?_))
  cases res with
  | error er => exact False.elim hq2
  | ok fl =>
    cases fl with
    | ret u =>
      obtain ⟨v, H2, I3, rv, ev, q3⟩ := I2.after hq2
      subst ev
      exact ⟨rv, ⟨V.ref (sh.heap.objs.size + 1), H2, I3, rfl, q3⟩⟩
    | next => exact False.elim hq2
    | brk => exact False.elim hq2
    | cont => exact False.elim hq2
theorem g_make (M : Mk Y.K C f) (F : GFn Y.prog Y.w Y.K Y.mg Y.base k f fd ps sp) (hr : Room (k + 1) Y.A) (gd : Y.A.guards = some []) (hg : Gl Y x) (hm : Y.mg x = some (.ref C)) (hb : Binds Y.K fd ps [])
    (ha : PA Y (e :: es) t) (hdb : (x == ("__debug__" : Str)) = false) (he : starEach (e :: es) Y.env = (false, eval e Y.env) :: starEach es Y.env) (hpl : (backTo pos (starEach es Y.env)).any (·.1) = false) :
    PE Y (.Call (.Name x p0) (e :: es) [] pos) (tMake C sp [] E0 t) := by
  refine ⟨fun pn sh σ Hh Q Iv h => ?_⟩
  refine wpAny_Call_Name_kw (ld_glob Iv hg hm ?_ hdb)
  refine PySem.W.callWith_K (h₀ := Y.base) Iv.ok.mod.kin M.kp (thn (ha.run pos pn sh σ Hh _ Iv h) fun us sh1 ⟨vs, H1, I1, r, q⟩ => ⟨I1.kIn, ?_⟩) he hpl
  refine g_runM M F hr gd hb I1 r fun xa dx h1 h2 h3 => ?_
  have z := q xa dx h1 h2 h3
  rw [List.append_nil] at z
  exact z
theorem g_make0 (M : Mk Y.K C f) (F : GFn Y.prog Y.w Y.K Y.mg Y.base k f fd ps sp) (hr : Room (k + 1) Y.A) (gd : Y.A.guards = some []) (hg : Gl Y x) (hm : Y.mg x = some (.ref C)) (hb : Binds Y.K fd ps [])
    (hdb : (x == ("__debug__" : Str)) = false) : PE Y (.Call (.Name x p0) [] [] pos) (tMake C sp [] E0 tNil) := by
  refine ⟨fun pn sh σ Hh Q Iv h => ?_⟩
  refine wpAny_Call_Name_kw (ld_glob Iv hg hm ?_ hdb)
  exact PySem.W.callWith_K0 Iv.kIn M.kp (g_runM (us := []) M F hr gd hb Iv .nil h)
end
/-! ### the law's call -/
theorem g_lawCall {Pg : Program} {wd : World} {Kf : PySem.W.Frag} {mg mb : Str → Option Value} {k : Nat} {fa a : Addr} {fd : FuncData} {x : Str} {sp : Sp} {sh1 : Shared} {vs : List Value} {ns : List Int}
    (KX : Kf.In sh1.heap) (hns : sh1.heap.Ns mainGlobals mg) (hbn : sh1.heap.Ns builtinsNs mb) (hbb : ∀ x : Str, x ≠ "__name__" → mb x = bootBuiltins x) (hlim : sh1.heap.NoLimit) (hg : sh1.gens = #[])
    (ha : sh1.heap.get? a = some { cls := .type "list", data := .seq vs.toArray }) (hi : IntsAre vs ns) (hl : ns.length ≤ sizeLine) (hr : Room k callerA)
    (F : ∀ bs : Heap, Kf.In bs → bs.Ns mainGlobals mg → GFn Pg wd Kf mg bs k fa fd [x] sp) (hbind : ∀ (sh : Shared) (u : Value), BindsTo sh fd ⟨[u], []⟩ [(x, u)])
    (hsp : ∀ Hh : Hp, Only Hh → SqL Kf Hh a (ns.map V.int) → sp [.ref a] Hh (fun v _ => v = .bl true) fun _ _ _ => False) :
    codeAny (model Pg wd) callerA (.call (.ref fa) ⟨[.ref a], []⟩) (fun r sh2 => r = .ok (.ret (.bool true)) ∧ OldK sh1.heap sh2.heap ∧ sh2.os = sh1.os ∧ AllBare sh2.gens) sh1 := by
  have rv := vals_ints hi
  have lenV := hi.length
  have core : ∀ Hh : Hp, Only Hh → SqL Kf Hh a (ns.map V.int) → HOk Pg wd Hh sh1.heap → (∀ b, Hh b ≠ none → b = a) → (Hh a ≠ none → Kf.lookup a = none) →
      codeAny (model Pg wd) callerA (.call (.ref fa) ⟨[.ref a], []⟩) (fun r sh2 => r = .ok (.ret (.bool true)) ∧ OldK sh1.heap sh2.heap ∧ sh2.os = sh1.os ∧ AllBare sh2.gens) sh1 := by
    intro Hh hO hS hok hA hK
    have base_of : ∀ {b : Addr} {o : Obj}, sh1.heap.get? b = some o → Hh b = none → (hidT sh1.heap Hh).get? b = some o := fun e nn => hidT_get e nn
    have noA : ∀ {b : Addr} {o : Obj} {es : Array DictEntry} {ep : Nat}, sh1.heap.get? b = some o → o.data = .dict es ep → Hh b = none := fun {b o es ep} e d => by
      cases q : Hh b with
      | none => rfl
      | some u =>
        have e2 : b = a := hA b (by rw [q]; simp)
        subst e2
        rw [ha] at e; cases e
        have d2 : Data.seq vs.toArray _ = Data.dict es ep := d
        cases d2
    have nsK : ∀ {b : Addr} {m : Str → Option Value}, sh1.heap.Ns b m → (hidT sh1.heap Hh).Ns b m := fun {b m} ⟨o, es, ep, e, d, r⟩ => ⟨o, es, ep, base_of e (noA e d), d, r⟩
    have hKb : Kf.In (hidT sh1.heap Hh) := fun b o e => base_of (KX b o e) (by
      cases q : Hh b with
      | none => rfl
      | some u =>
        have e2 : b = a := hA b (by rw [q]; simp)
        subst e2
        rw [hK (by rw [q]; simp)] at e; cases e)
    have hM : Mod Kf mg (hidT sh1.heap Hh) := ⟨hKb, nsK hns, ⟨mb, nsK hbn, hbb⟩, let ⟨mc, h1, h2⟩ := hlim; ⟨mc, nsK h1, h2⟩⟩
    have e0 : Env0 Pg wd Kf mg (hidT sh1.heap Hh) callerA [] sh1 Hh := ⟨rfl, hM, fun b o e => of_hidT e, Nat.le_of_eq (hidT_size _ _), trivial, fun b hb => absurd (show b ∈ ([] : List Addr) from hb) (by simp), hok, .of_eq hg⟩
    refine codeAny_mono ((F _ hKb (nsK hns)).run callerA [] sh1 Hh ⟨[.ref a], []⟩ [.ref a] [.ref a] _ _ hr rfl e0 (hbind sh1 (.ref a)) (.cons rfl .nil) (hsp Hh hO hS)) fun r sh2 h => ?_
    cases r with
    | error e => exact False.elim h
    | ok fl =>
      cases fl with
      | next => exact False.elim h
      | brk => exact False.elim h
      | cont => exact False.elim h
      | ret u =>
        obtain ⟨v, H2, os, bare, un, hok2, r2, q⟩ := h
        have q2 : v = .bl true := q
        subst q2
        obtain rfl : u = Value.bool true := r2
        refine ⟨rfl, OldK.of_keep fun b o e => ?_, os, bare⟩
        cases q : Hh b with
        | none => exact un.keep b o e q (by intro z; exact absurd (show b ∈ ([] : List Addr) from z) (by simp)) (by simp)
        | some u =>
          rcases hO b with z | ⟨ob, xs, z⟩
          · rw [q] at z; cases z
          · have z2 := un.frzs b ob _ z
            obtain ⟨e1, _⟩ := hok b _ z
            obtain ⟨e2, _⟩ := hok2 b _ z2
            rw [e] at e1; cases e1
            exact e2
  cases hk : Kf.lookup a with
  | some o =>
    have e := KX a o hk
    rw [ha] at e
    cases e
    refine core (fun _ => none) (fun _ => .inl rfl) (.inr ⟨_, vs.toArray, _, hk, rfl, rfl, rfl, by rw [List.size_toArray, lenV]; exact hl, by simpa using rv⟩) (fun b u z => (nomatch (show (none : Option HO) = some u from z))) (fun b z => absurd rfl z) fun z => absurd rfl z
  | none =>
    obtain ⟨ob, hob⟩ : ∃ ob : Obj, ob = { cls := .type "list", data := .seq vs.toArray } := ⟨_, rfl⟩
    rw [← hob] at ha
    obtain ⟨Hn, hHn⟩ : ∃ Hn : Hp, ∀ b, Hn b = if b = a then some (.frz ob (.lst (ns.map V.int))) else none := ⟨_, fun _ => rfl⟩
    have at_a : Hn a = some (.frz ob (.lst (ns.map V.int))) := by rw [hHn, if_pos rfl]
    have off : ∀ b, b ≠ a → Hn b = none := fun b nb => by rw [hHn, if_neg nb]
    refine core Hn (fun b => ?_) (.inl (.inr ⟨ob, at_a⟩)) (fun b u z => ?_) (fun b z => ?_) fun _ => hk
    · by_cases eb : b = a
      · subst eb; exact .inr ⟨_, _, at_a⟩
      · exact .inl (off b eb)
    · by_cases eb : b = a
      · subst eb
        rw [at_a] at z
        cases z
        subst hob
        exact ⟨ha, by rw [List.length_map]; exact hl, vs, _, rv, ha⟩
      · rw [off b eb] at z
        cases z
    · by_cases eb : b = a
      · exact eb
      · exact absurd (off b eb) z
theorem g_walk {l : PySem.W.OpenLaw} {n k : Nat} {q : Program} {loose : List Str} {XP : (Str → Option Value) → Heap → Prop} {YP : World → Heap → Prop} {d : DefRec} {Ks : Params → PySem.W.Frag} {sp : World → Sp} {x : Str}
    (hn : l.most = some n) (hn2 : n ≤ sizeLine) (hdf : d.params.defaults = []) (hr : Room k callerA) (hY : ∀ (wd : World) (h : Heap), YP wd h → (Ks wd.params).In h)
    (F : ∀ (wd : World) (mg : Str → Option Value) (fa : Addr) (h : Heap), (Ks wd.params).In h → h.Ns mainGlobals mg → mg d.name = some (.ref fa) →
      ∃ fd : FuncData, (∀ (sh : Shared) (u : Value), BindsTo sh fd ⟨[u], []⟩ [(x, u)]) ∧
        ∀ bs : Heap, (Ks wd.params).In bs → bs.Ns mainGlobals mg → GFn l.prog wd (Ks wd.params) mg bs k fa fd [x] (sp wd))
    (hsp : ∀ (wd : World) (Hh : Hp) (a : Addr) (ns : List Int), ns.length ≤ n → (∀ z ∈ ns, Builtin.Int.intBits z ≤ 1048576) → Only Hh → SqL (Ks wd.params) Hh a (ns.map V.int) → sp wd [.ref a] Hh (fun v _ => v = .bl true) fun _ _ _ => False) :
    PySem.W.WalkO q loose XP YP l.row.toRowW d [] (fun f vs => PySem.call f vs) := by
  refine Att.attach_callB hn hdf fun wd sh0 sh1 mg mb fa o pm cd doc a vs ns G Yh ho hd hcd hmg hobj hints hlen hbits hgn => ?_
  have KX := hY wd _ Yh
  obtain ⟨fd, hb, hF⟩ := F wd mg fa _ KX G.T.g hmg
  exact g_lawCall KX G.T.g G.T.b G.T.builtins G.T.nolimit hgn hobj hints (Nat.le_trans hlen hn2) hr hF hb fun Hh hO hS => hsp wd Hh a ns hlen hbits hO hS
end Itp

namespace Itp
open PySem L2

def RelE (K : PySem.W.Frag) (cl : Nat → Addr) (μ : List Addr) (Z : Addr → Prop) (H : Hp) (ρ : Env) (σ : L2.St) : Prop :=
  ρ.length = σ.length ∧ ∀ (i : Nat) (v : Val), ρ[i]? = some (some v) → ∃ w, σ[i]? = some (some w) ∧ Rel K cl μ Z H v w

section
variable (K : PySem.W.Frag) (cl : Nat → Addr) (c : Oracle)
def tI (e : E) : TE := fun σ H Q => ∃ μ Z S ρ v S', Sim K cl μ Z S H ∧ RelE K cl μ Z H ρ σ ∧ evE c e ρ S = some (v, S') ∧ Kn K cl Z μ H S' v Q
def tJ (e : E) : TE := fun σ H Q => ∃ μ Z S ρ v S', Sim K cl μ Z S H ∧ RelE K cl μ Z H ρ σ ∧ evE c e ρ S = some (v, S') ∧ Kf K cl Z μ H S' v Q
def tT (e : E) : TT := fun σ H Q => ∃ μ Z S ρ b S', Sim K cl μ Z S H ∧ RelE K cl μ Z H ρ σ ∧ evE c e ρ S = some (.bl b, S') ∧ ∀ μ' H', Stp K cl Z μ H μ' S' H' → Q b H'
def tA (es : EL) : TA := fun σ H Q => ∃ μ Z S ρ vs S', Sim K cl μ Z S H ∧ RelE K cl μ Z H ρ σ ∧ evL c es ρ S = some (vs, S') ∧ ∀ μ' H' ws, Stp K cl Z μ H μ' S' H' → RelL K cl μ' Z H' vs ws → Q ws H'
def tP (e : EO) : TO := fun σ H Q => ∃ μ Z S ρ o S', Sim K cl μ Z S H ∧ RelE K cl μ Z H ρ σ ∧ evO c e ρ S = some (o, S') ∧ ∀ μ' H', Stp K cl Z μ H μ' S' H' → Q o H'
def tC' (e : EO) : TT := fun σ H Q => ∃ μ Z S ρ b S', Sim K cl μ Z S H ∧ RelE K cl μ Z H ρ σ ∧ evC c e ρ S = some (b, S') ∧ ∀ μ' H', Stp K cl Z μ H μ' S' H' → Q b H'
/-- a target: the slots that it doesn't name stay -/
def tG (t : T) : TG := fun w σ H Q => ∃ μ Z S ρ v ρ' S', Sim K cl μ Z S H ∧ RelE K cl μ Z H ρ σ ∧ Rel K cl μ Z H v w ∧ bindT c t v ρ S = some (ρ', S') ∧
  ∀ μ' H' σ', Stp K cl Z μ H μ' S' H' → RelE K cl μ' Z H' ρ' σ' → (∀ vs : List Nat, (∀ i ∈ t.slots, i ∈ vs) → wipe σ' vs = wipe σ vs) → Q σ' H'
def tGs (t : TL) : TGs := fun ws σ H Q => ∃ μ Z S ρ vs ρ' S', Sim K cl μ Z S H ∧ RelE K cl μ Z H ρ σ ∧ RelL K cl μ Z H vs ws ∧ bindTs c t vs ρ S = some (ρ', S') ∧
  ∀ μ' H' σ', Stp K cl Z μ H μ' S' H' → RelE K cl μ' Z H' ρ' σ' → (∀ vs : List Nat, (∀ i ∈ T.slots.tslots t, i ∈ vs) → wipe σ' vs = wipe σ vs) → Q σ' H'
/-- a walk gives these items while what is walked stands -/
def Wk (J : It) (k : ItK) (vs : List Val) (ws : List V) : Prop := ∀ (i : Nat) Z μ S H xs, Sim K cl μ Z S H → RelL K cl μ Z H vs ws → itemsOf S k vs = some xs →
  (∀ x, xs[i]? = some x → J.go i H ∧ ∀ w H', J.yld i H w H' → Stp K cl Z μ H μ S H' ∧ Rel K cl μ Z H' x w) ∧ (xs.length ≤ i → J.stop i H)
def tW (k : ItK) (es : EL) : TI := fun σ H R => ∃ μ Z S ρ vs S' xs, Sim K cl μ Z S H ∧ RelE K cl μ Z H ρ σ ∧ evL c es ρ S = some (vs, S') ∧ itemsOf S' k vs = some xs ∧
  ∀ μ' H' ws J, Stp K cl Z μ H μ' S' H' → RelL K cl μ' Z H' vs ws → Wk K cl J k vs ws → R J H'
def spC (f : Nat) (ps : List Str) : Sp := fun vs H Q _ => vs.length = ps.length ∧ ∃ μ Z S xs v S', Sim K cl μ Z S H ∧ RelL K cl μ Z H xs vs ∧ c false f xs S = some (v, S') ∧ Kn K cl Z μ H S' v Q
end

def conV : Val → Option V
  | .int i => some (.int i)
  | .bl b => some (.bl b)
  | .non => some .non
  | .str x => some (.str x)
  | _ => none

/-- how calls by keywords bind -/
def KwL (l : List (Nat × List Str × List Nat)) (ps : List Str) (fd : FuncData) : Prop := ∀ q ∈ l, ∀ (s : Shared) (us ws : List Value), us.length = q.1 → ws.length = q.2.1.length → BindsTo s fd ⟨us, q.2.1.zip ws⟩ (ps.zip (permL (us ++ ws) q.2.2))
abbrev KwOk (g : G) (f : Nat) (ps : List Str) (fd : FuncData) : Prop := KwL (g.kw f) ps fd
theorem kw_nil {ps : List Str} {fd : FuncData} : KwL [] ps fd := fun q h => nomatch h
theorem kw_cons {m : Nat} {ks : List Str} {pm : List Nat} {r : List (Nat × List Str × List Nat)} {ps : List Str} {fd : FuncData} (h : ∀ (us ws : List Value), us.length = m → ws.length = ks.length → bindArgs fd ⟨us, ks.zip ws⟩ = pure (ps.zip (permL (us ++ ws) pm))) (t : KwL r ps fd) : KwL ((m, ks, pm) :: r) ps fd := fun q hq => by
  rcases List.mem_cons.mp hq with e | e
  · subst e
    exact fun s us ws h1 h2 => .of_eq (h us ws h1 h2)
  · exact t q e
structure Ok (X : Cx) (g : G) (p : Pl) (cl : Nat → Addr) (c : Oracle) (n : Nat) : Prop where
  N : X.N = p.N
  sc : X.env.scope = p.sc
  fn : X.fn = p.fn
  calm : X.calm = true
  nd : X.N.Nodup
  xe : X.xe = fun _ _ => False
  room : Room n X.A
  gd : X.A.guards = some []
  fns : ∀ f x ps, g.fn f = some (x, ps) → ∃ a fd, X.mg x = some (.ref a) ∧ PySem.W.keepIn X.K (.ref a) = true ∧ Binds X.K fd ps [] ∧ GFn X.prog X.w X.K X.mg X.base n a fd ps (spC X.K cl c f ps) ∧ KwOk g f ps fd
  ms : ∀ f k m ps, g.ms f = some (k, m, ps) → Cls X.K (cl k) ∧ ∃ a fd, Meth X.K (cl k) m a ∧ Binds X.K fd ps [] ∧ GFn X.prog X.w X.K X.mg X.base n a fd ps (spC X.K cl c f ps)
  ctr : ∀ f k x ps, g.ctr f = some (k, x, ps) → X.mg x = some (.ref (cl k)) ∧ ∃ a fd, Mk X.K (cl k) a ∧ Binds X.K fd ps [] ∧ ((∃ n', n = n' + 1 ∧ GFn X.prog X.w X.K X.mg X.base n' a fd ps (spC X.K cl (fun _ => c true) f ps)) ∨ ∀ vs S, c true f vs S = none)
  na : ∀ k f, g.na k f = true → Cls X.K (cl k) ∧ NoAttr X.K (cl k) f
  fv : ∀ f ∈ g.fv, ∀ x ps, g.fn f = some (x, ps) → X.mg x = some (.ref (cl (1000 + f)))
  bl : ∀ x, g.bl.contains x = true → X.mg x = none
  ct : ∀ q ∈ g.ct, ∃ u w, X.mg q.1 = some u ∧ RelV w u ∧ conV q.2 = some w

section
variable {K : PySem.W.Frag} {cl : Nat → Addr} {μ μ' μ1 : List Addr} {Z : Addr → Prop} {S S' S1 : Store} {H H' H1 : Hp} {ρ : Env} {σ : L2.St}
theorem Stp.env (x : Stp K cl Z μ H μ1 S1 H1) (r : RelE K cl μ Z H ρ σ) : RelE K cl μ1 Z H1 ρ σ := ⟨r.1, fun i v e => by
  obtain ⟨w, h1, h2⟩ := r.2 i v e
  exact ⟨w, h1, x.rel h2⟩⟩
theorem RelE.set {i : Nat} {v : Val} {w : V} (r : RelE K cl μ Z H ρ σ) (h : Rel K cl μ Z H v w) : RelE K cl μ Z H (ρ.set i (some v)) (σ.set i (some w)) := by
  refine ⟨by simp [r.1], fun j u e => ?_⟩
  by_cases hj : i = j
  · subst hj
    by_cases hl : i < ρ.length
    · rw [List.getElem?_set_self hl] at e
      cases e
      exact ⟨w, by rw [List.getElem?_set_self (by rw [← r.1]; exact hl)], h⟩
    · rw [List.getElem?_eq_none (by simpa using hl)] at e
      cases e
  · rw [List.getElem?_set_ne hj] at e
    rw [List.getElem?_set_ne hj]
    exact r.2 j u e
theorem conV_rel {v : Val} {w : V} (h : conV v = some w) : Rel K cl μ Z H v w := by
  cases v with
  | int i => cases h; exact .int i
  | bl i => cases h; exact .bl i
  | non => cases h; exact .non
  | str i => cases h; exact .str i
  | _ => cases h
theorem sameCon_eq {u v : Val} {w : V} (h : sameCon u v = true) (hc : conV u = some w) : conV v = some w := by
  unfold sameCon at h
  split at h
  · rw [← of_decide_eq_true h]; exact hc
  · rw [← of_decide_eq_true h]; exact hc
  · exact hc
  · rw [← of_decide_eq_true h]; exact hc
  · cases h
end

theorem PE.imp {X : Cx} {e : Expr} {t t' : TE} (h : PE X e t) (i : ∀ σ H Q, t' σ H Q → t σ H Q) : PE X e t' := ⟨fun pins s σ H Q I q => h.run pins s σ H Q I (i σ H Q q)⟩
theorem PT.imp {X : Cx} {e : Expr} {t t' : TT} (h : PT X e t) (i : ∀ σ H Q, t' σ H Q → t σ H Q) : PT X e t' := ⟨fun pins s σ H Q I q => h.run pins s σ H Q I (i σ H Q q)⟩
theorem PW.imp {X : Cx} {e : Expr} {t t' : TT} (h : PW X e t) (i : ∀ σ H Q, t' σ H Q → t σ H Q) : PW X e t' := ⟨fun w pins s σ H Q I q => h.run w pins s σ H Q I (i σ H Q q)⟩
theorem PA.imp {X : Cx} {e : List Expr} {t t' : TA} (h : PA X e t) (i : ∀ σ H Q, t' σ H Q → t σ H Q) : PA X e t' := ⟨fun pos pins s σ H Q I q => h.run pos pins s σ H Q I (i σ H Q q)⟩
theorem PTs.imp {X : Cx} {e : List Expr} {t t' : TT} (h : PTs X e t) (i : ∀ σ H Q, t' σ H Q → t σ H Q) : PTs X e t' := ⟨fun pins s σ H Q I q => h.run pins s σ H Q I (i σ H Q q)⟩
theorem PG.imp {X : Cx} {e : Expr} {t t' : TG} (h : PG X e t) (i : ∀ w σ H Q, t' w σ H Q → t w σ H Q) : PG X e t' := ⟨fun pins s σ H v u Q I r q => h.run pins s σ H v u Q I r (i v σ H Q q)⟩
theorem PGs.imp {X : Cx} {e : List Expr} {t t' : TGs} (h : PGs X e t) (i : ∀ w σ H Q, t' w σ H Q → t w σ H Q) : PGs X e t' := ⟨fun pins s σ H v u Q I r q => h.run pins s σ H v u Q I r (i v σ H Q q)⟩
theorem PS.imp {X : Cx} {e : Stmt} {t t' : TS} (h : PS X e t) (i : ∀ D σ H, t' D σ H → t D σ H) : PS X e t' := ⟨fun pins s σ H D I q => h.run pins s σ H D I (i D σ H q)⟩
theorem PSs.imp {X : Cx} {e : List Stmt} {t t' : TS} (h : PSs X e t) (i : ∀ D σ H, t' D σ H → t D σ H) : PSs X e t' := ⟨fun pins s σ H D I q => h.run pins s σ H D I (i D σ H q)⟩
theorem PO.imp {X : Cx} {e : Option Expr} {t t' : TO} (h : PO X e t) (i : ∀ σ H Q, t' σ H Q → t σ H Q) : PO X e t' := ⟨fun pins s σ H Q I q => h.run pins s σ H Q I (i σ H Q q)⟩
theorem PI.or {X : Cx} {tg e : Expr} {t t' : TI} (h : PI X tg e t) (h' : PI X tg e t') : PI X tg e (fun σ H R => t σ H R ∨ t' σ H R) := ⟨fun pins s σ H R I q => q.elim (h.run pins s σ H R I) (h'.run pins s σ H R I)⟩
theorem PI.imp {X : Cx} {tg e : Expr} {t t' : TI} (h : PI X tg e t) (i : ∀ σ H Q, t' σ H Q → t σ H Q) : PI X tg e t' := ⟨fun pins s σ H Q I q => h.run pins s σ H Q I (i σ H Q q)⟩
theorem PG.or {X : Cx} {e : Expr} {t t' : TG} (h : PG X e t) (h' : PG X e t') : PG X e (fun w σ H Q => t w σ H Q ∨ t' w σ H Q) := ⟨fun pins s σ H v u Q I r q => q.elim (h.run pins s σ H v u Q I r) (h'.run pins s σ H v u Q I r)⟩

/-! ### each construct -/
section
variable {X : Cx} {cl : Nat → Addr} {c : Oracle} {g : G} {p : Pl} {n : Nat}
theorem starEach_cons {e : Expr} {es : List Expr} {env : PySem.Env} (h : notStar e = true) : starEach (e :: es) env = (false, eval e env) :: starEach es env := by
  cases e <;> first | rfl | cases h
theorem vis_of {sc : Scope} {x : Str} (h : vis sc x = true) : Vis sc x := by
  unfold vis at h
  split at h
  · exact .inl (by assumption)
  · exact .inr (.inl (by assumption))
  · exact .inr (.inr (by assumption))
  · cases h
theorem glob_of (ok : Ok X g p cl c n) {x : Str} (h : glob p.sc x = true) : Gl X x := by
  unfold glob at h
  show X.env.scope.names.lookup x = _
  rw [ok.sc]
  split at h
  · assumption
  · cases h
theorem okName_of {x : Str} (h : okName x = true) : (x == ("__debug__" : Str)) = false ∧ (x == ("__classdict__" : Str)) = false ∧ x ≠ "__name__" := by
  unfold okName at h
  simp only [Bool.and_eq_true, beq_iff_eq, Bool.not_eq_true', decide_eq_false_iff_not] at h
  exact ⟨h.1.1, h.1.2, h.2⟩
theorem s_var (ok : Ok X g p cl c n) {i : Nat} {pe : Expr} (h : chkE g p (.var i) pe = true) : PE X pe (tI X.K cl c (.var i)) := by
  unfold chkE at h
  split at h
  · simp only [Bool.and_eq_true] at h
    obtain ⟨⟨h1, h2⟩, h3⟩ := h
    refine PE.imp (pe_var (i := i) (by rw [ok.N]; exact of_decide_eq_true h1) (by rw [ok.sc]; exact vis_of h2) (okName_of h3).1 (okName_of h3).2.1) ?_
    rintro σ H Q ⟨μ, Z, S, ρ, v, S', sm, re, ev, k⟩
    unfold evE at ev
    split at ev
    · rename_i e
      cases ev
      obtain ⟨w, h1, h2⟩ := re.2 _ _ e
      exact ⟨w, h1, k.here sm h2⟩
    · cases ev
  · cases h
theorem s_con {v : Val} {pe : Expr} (h : chkE g p (.con v) pe = true) : PE X pe (tI X.K cl c (.con v)) := by
  unfold chkE at h
  split at h
  · unfold conIs at h
    split at h
    · have e := of_decide_eq_true h; subst e
      refine PE.imp pe_int ?_
      rintro σ H Q ⟨μ, Z, S, ρ, v, S', sm, re, ev, k⟩
      unfold evE at ev; cases ev
      exact k.here sm (.int _)
    · have e := of_decide_eq_true h; subst e
      refine PE.imp pe_bl ?_
      rintro σ H Q ⟨μ, Z, S, ρ, v, S', sm, re, ev, k⟩
      unfold evE at ev; cases ev
      exact k.here sm (.bl _)
    · refine PE.imp pe_non ?_
      rintro σ H Q ⟨μ, Z, S, ρ, v, S', sm, re, ev, k⟩
      unfold evE at ev; cases ev
      exact k.here sm .non
    · have e := of_decide_eq_true h; subst e
      refine PE.imp pe_str ?_
      rintro σ H Q ⟨μ, Z, S, ρ, v, S', sm, re, ev, k⟩
      unfold evE at ev; cases ev
      exact k.here sm (.str _)
    · cases h
  · cases h
theorem s_glo (ok : Ok X g p cl c n) {x : Str} {v : Val} {pe : Expr} (h : chkE g p (.glo x v) pe = true) : PE X pe (tI X.K cl c (.glo x v)) := by
  unfold chkE at h
  split at h
  · simp only [Bool.and_eq_true, List.any_eq_true] at h
    obtain ⟨⟨⟨h1, h2⟩, h3⟩, q, hq, h4, h5⟩ := h
    have e := of_decide_eq_true h1; subst e
    have e := of_decide_eq_true h4; subst e
    obtain ⟨u, w, m, rw', hc⟩ := ok.ct q hq
    refine PE.imp (pe_glob (v := w) (u := u) (glob_of ok h2) m rw' (okName_of h3).1) ?_
    rintro σ H Q ⟨μ, Z, S, ρ, v, S', sm, re, ev, k⟩
    unfold evE at ev; cases ev
    exact k.here sm (conV_rel (sameCon_eq h5 hc))
  · cases h

/-- two parts, one behind the other -/
theorem two {a b : E} {σ : L2.St} {H : Hp} {μ : List Addr} {Z : Addr → Prop} {S S1 S2 : Store} {ρ : Env} {x y : Val} {R : V → V → Hp → Prop} (sm : Sim X.K cl μ Z S H) (re : RelE X.K cl μ Z H ρ σ) (ea : evE c a ρ S = some (x, S1)) (eb : evE c b ρ S1 = some (y, S2))
    (k : ∀ μ' H' v w, Stp X.K cl Z μ H μ' S2 H' → Rel X.K cl μ' Z H' x v → Rel X.K cl μ' Z H' y w → R v w H') : tI X.K cl c a σ H fun v H1 => tI X.K cl c b σ H1 fun w H2 => R v w H2 :=
  ⟨μ, Z, S, ρ, x, S1, sm, re, ea, fun μ1 H1 v st1 r1 => ⟨μ1, Z, S1, ρ, y, S2, st1.sm, st1.env re, eb, fun μ2 H2 w st2 r2 => k μ2 H2 v w (st1.trans st2) (st2.rel r1) r2⟩⟩
theorem s_bin {o : BOp} {a b : E} {pa pb : Expr} {pos : Pos} (ha : PE X pa (tI X.K cl c a)) (hb : PE X pb (tI X.K cl c b)) : PE X (.BinOp pa o.py pb pos) (tJ X.K cl c (.bin o a b)) := by
  refine PE.imp (pe_op (bin_ok (cl := cl) o) ha hb) ?_
  rintro σ H Q ⟨μ, Z, S, ρ, v, S', sm, re, ev, k⟩
  unfold evE at ev
  obtain ⟨⟨x, S1⟩, e1, ev⟩ := Option.bind_eq_some_iff.mp ev
  obtain ⟨⟨y, S2⟩, e2, ev⟩ := Option.bind_eq_some_iff.mp ev
  obtain ⟨z, e3, ev⟩ := Option.map_eq_some_iff.mp ev
  cases ev
  exact two sm re e1 e2 fun μ' H' v w st r1 r2 => ⟨μ', Z, _, x, y, _, st.sm, r1, r2, e3, k.step st⟩
theorem tI_tJ {e : E} {σ : L2.St} {H : Hp} {Q : VK} (h : tI X.K cl c e σ H Q) : tJ X.K cl c e σ H Q := by
  obtain ⟨μ, Z, S, ρ, v, S', sm, re, ev, k⟩ := h
  exact ⟨μ, Z, S, ρ, v, S', sm, re, ev, k.f⟩
theorem s_neg {a : E} {pa : Expr} {pos : Pos} (ha : PE X pa (tI X.K cl c a)) : PE X (.UnaryOp .USub pa pos) (tI X.K cl c (.neg a)) := by
  refine PE.imp (pe_un un_neg ha) ?_
  rintro σ H Q ⟨μ, Z, S, ρ, v, S', sm, re, ev, k⟩
  unfold evE at ev
  obtain ⟨⟨x, S1⟩, e1, ev⟩ := Option.bind_eq_some_iff.mp ev
  refine ⟨μ, Z, S, ρ, x, S1, sm, re, e1, fun μ1 H1 w st1 r1 => ?_⟩
  dsimp only at ev
  split at ev
  · cases ev; cases r1
    exact ⟨_, rfl, k μ1 H1 _ st1 (.int _)⟩
  · cases ev
theorem s_cmp (ok : Ok X g p cl c n) {o : COp} {a b : E} {pa pb : Expr} {pos : Pos} (hs : notSet pb = true) (ha : PE X pa (tI X.K cl c a)) (hb : PE X pb (tI X.K cl c b)) :
    PE X (.Compare pa [o.py] [pb] pos) (tI X.K cl c (.cmp o a b)) ∧ PT X (.Compare pa [o.py] [pb] pos) (tT X.K cl c (.cmp o a b)) := by
  have hm : behindInMarks o.py pb = false := by cases pb <;> first | rfl | cases hs
  have hu : X.A.units + 65 < cLine := by
    have := ok.room.un
    omega
  constructor
  · refine PE.imp (pe_cmpR (cmp_ok (cl := cl) o hu) ha hb hm) ?_
    rintro σ H Q ⟨μ, Z, S, ρ, v, S', sm, re, ev, k⟩
    unfold evE at ev
    obtain ⟨⟨x, S1⟩, e1, ev⟩ := Option.bind_eq_some_iff.mp ev
    obtain ⟨⟨y, S2⟩, e2, ev⟩ := Option.bind_eq_some_iff.mp ev
    obtain ⟨z, e3, ev⟩ := Option.map_eq_some_iff.mp ev
    cases ev
    exact two sm re e1 e2 fun μ' H' v w st r1 r2 => ⟨μ', Z, _, x, y, _, st.sm, r1, r2, e3, k.step st⟩
  · refine PT.imp (pt_cmpR (cmp_ok (cl := cl) o hu) ha hb hm) ?_
    rintro σ H Q ⟨μ, Z, S, ρ, b, S', sm, re, ev, k⟩
    unfold evE at ev
    obtain ⟨⟨x, S1⟩, e1, ev⟩ := Option.bind_eq_some_iff.mp ev
    obtain ⟨⟨y, S2⟩, e2, ev⟩ := Option.bind_eq_some_iff.mp ev
    obtain ⟨z, e3, ev⟩ := Option.map_eq_some_iff.mp ev
    cases ev
    exact two sm re e1 e2 fun μ' H' v w st r1 r2 => ⟨μ', Z, _, x, y, _, st.sm, r1, r2, e3, fun μ2 H2 u st2 r => by
      cases r
      exact ⟨_, rfl, k μ2 H2 (st.trans st2)⟩⟩
theorem s_chain (ok : Ok X g p cl c n) {o o' : COp} {a b d : E} {pa pb pd : Expr} {pos : Pos} (hs : notSet pd = true) (ha : PE X pa (tI X.K cl c a)) (hb : PE X pb (tI X.K cl c b)) (hd : PE X pd (tI X.K cl c d)) :
    PE X (.Compare pa [o.py, o'.py] [pb, pd] pos) (tI X.K cl c (.chain o o' a b d)) ∧ PT X (.Compare pa [o.py, o'.py] [pb, pd] pos) (tT X.K cl c (.chain o o' a b d)) := by
  have hm : lastMarks [o.py, o'.py] [pb, pd] = false := by
    show behindInMarks o'.py pd = false
    cases pd <;> first | rfl | cases hs
  have hu : X.A.units + 65 < cLine := by
    have := ok.room.un
    omega
  have key : ∀ {σ : L2.St} {H : Hp} {μ : List Addr} {Z : Addr → Prop} {S : Store} {ρ : Env} {v : Val} {S' : Store} {Q : VK}, Sim X.K cl μ Z S H → RelE X.K cl μ Z H ρ σ → evE c (.chain o o' a b d) ρ S = some (v, S') → Kn X.K cl Z μ H S' v Q →
      tChain (rCmp X.K cl o) (rCmp X.K cl o') (tI X.K cl c a) (tI X.K cl c b) (tI X.K cl c d) σ H Q := by
    intro σ H μ Z S ρ v S' Q sm re ev k
    unfold evE at ev
    obtain ⟨⟨x, S1⟩, e1, ev⟩ := Option.bind_eq_some_iff.mp ev
    obtain ⟨⟨y, S2⟩, e2, ev⟩ := Option.bind_eq_some_iff.mp ev
    obtain ⟨z, e3, ev⟩ := Option.bind_eq_some_iff.mp ev
    refine two sm re e1 e2 fun μ' H' v w st r1 r2 => ⟨μ', Z, S2, x, y, z, st.sm, r1, r2, e3, fun μ2 H2 u st2 r => ?_⟩
    cases r
    refine ⟨_, rfl, ?_⟩
    cases z with
    | true =>
      rw [if_pos rfl]
      dsimp only at ev
      rw [if_pos rfl] at ev
      obtain ⟨⟨w', S3⟩, e4, ev⟩ := Option.bind_eq_some_iff.mp ev
      obtain ⟨q, e5, ev⟩ := Option.map_eq_some_iff.mp ev
      cases ev
      have st12 := st.trans st2
      exact ⟨μ2, Z, S2, ρ, w', _, st2.sm, st12.env re, e4, fun μ3 H3 u3 st3 r3 => ⟨μ3, Z, _, y, w', _, st3.sm, st3.rel (st2.rel r2), r3, e5, k.step (st12.trans st3)⟩⟩
    | false =>
      rw [if_neg Bool.false_ne_true]
      dsimp only at ev
      rw [if_neg Bool.false_ne_true] at ev
      cases ev
      exact k μ2 H2 _ (st.trans st2) (.bl _)
  constructor
  · refine PE.imp (pe_chain (cmp_ok (cl := cl) o hu) (cmp_ok (cl := cl) o' hu) ha hb hd hm) ?_
    rintro σ H Q ⟨μ, Z, S, ρ, v, S', sm, re, ev, k⟩
    exact key sm re ev k
  · refine PT.imp (pt_chain (cmp_ok (cl := cl) o hu) (cmp_ok (cl := cl) o' hu) ha hb hd hm) ?_
    rintro σ H Q ⟨μ, Z, S, ρ, b, S', sm, re, ev, k⟩
    refine key sm re ev fun μ' H' w st r => ?_
    cases r
    exact ⟨_, rfl, k μ' H' st⟩
/-- a test by its value -/
theorem t_val {e : E} {pe : Expr} (h : PE X pe (tI X.K cl c e)) (he : ∀ whole, PySem.isTrue pe X.env whole = (do let v ← whole; standAt pe.pos; holding [v] (truthy v))) : PT X pe (tT X.K cl c e) := by
  refine PT.imp (pt_val h he) ?_
  rintro σ H Q ⟨μ, Z, S, ρ, b, S', sm, re, ev, k⟩
  exact ⟨μ, Z, S, ρ, _, S', sm, re, ev, fun μ' H' w st r => by
    cases r
    exact ⟨_, rfl, k μ' H' st⟩⟩
end
end Itp

namespace Itp
open PySem PySem.Spec PyProof.Rows L2
/-! ### a chain of four -/
section
variable {X : Cx} {o1 o2 o3 o4 : CmpOp} {k1 k2 k3 k4 : R2} {ea eb ec ed ef : Expr} {ta tb tc td tf : TE} {pos : Pos}
def tChain4 (k1 k2 k3 k4 : R2) (ta tb tc td tf : TE) : TE := fun σ H Q => ta σ H fun x H1 => tb σ H1 fun y H2 => k1 x y H2 fun z H3 => ∃ k, z = .bl k ∧
  (if k = true then tc σ H3 fun y2 H4 => k2 y y2 H4 fun z H5 => ∃ k, z = .bl k ∧
    (if k = true then td σ H5 fun y3 H6 => k3 y2 y3 H6 fun z H7 => ∃ k, z = .bl k ∧
      (if k = true then tf σ H7 fun y4 H8 => k4 y3 y4 H8 Q else Q (.bl false) H7) else Q (.bl false) H5) else Q (.bl false) H3)
theorem pe_chain4 (h1 : OpR X (compareOp o1) k1) (h2 : OpR X (compareOp o2) k2) (h3 : OpR X (compareOp o3) k3) (h4 : OpR X (compareOp o4) k4) (ha : PE X ea ta) (hb : PE X eb tb) (hc : PE X ec tc) (hd : PE X ed td) (hf : PE X ef tf)
    (hm : lastMarks [o1, o2, o3, o4] [eb, ec, ed, ef] = false) : PE X (.Compare ea [o1, o2, o3, o4] [eb, ec, ed, ef] pos) (tChain4 k1 k2 k3 k4 ta tb tc td tf) := by
  refine ⟨fun pins s σ H Q I h => ?_⟩
  refine Compare_chain (thn (ha.run pins s σ H _ I h) fun v s1 ⟨x, H1, I1, r1, q1⟩ => chain_link (thn (hb.run pins s1 σ H1 _ I1 q1) fun u s2 ⟨y, H2, I2, r2, q2⟩ =>
    thn (h1 pins s2 σ H2 x y v u _ I2 r1 r2 q2) fun d s3 ⟨z, H3, I3, r3, k, e, q3⟩ => ?_)) hm
  subst e
  cases r3
  refine wpAny_truthy_bool ?_
  cases k with
  | false => exact ite_ff ⟨.bl false, H3, I3, rfl, q3⟩
  | true =>
    refine ite_tt (chain_link (thn (hc.run pins s3 σ H3 _ I3 q3) fun u2 s4 ⟨y2, H4, I4, r4, q4⟩ => thn (h2 pins s4 σ H4 y y2 u u2 _ I4 r2 r4 q4) fun d s5 ⟨z, H5, I5, r5, k, e, q5⟩ => ?_))
    subst e
    cases r5
    refine wpAny_truthy_bool ?_
    cases k with
    | false => exact ite_ff ⟨.bl false, H5, I5, rfl, q5⟩
    | true =>
      refine ite_tt (chain_link (thn (hd.run pins s5 σ H5 _ I5 q5) fun u3 s6 ⟨y3, H6, I6, r6, q6⟩ => thn (h3 pins s6 σ H6 y2 y3 u2 u3 _ I6 r4 r6 q6) fun d s7 ⟨z, H7, I7, r7, k, e, q7⟩ => ?_))
      subst e
      cases r7
      refine wpAny_truthy_bool ?_
      cases k with
      | false => exact ite_ff ⟨.bl false, H7, I7, rfl, q7⟩
      | true => exact ite_tt (chain_last (thn (hf.run pins s7 σ H7 _ I7 q7) fun u4 s8 ⟨y4, H8, I8, r8, q8⟩ => h4 pins s8 σ H8 y3 y4 u3 u4 Q I8 r6 r8 q8))
theorem pt_chain4 (h1 : OpR X (compareOp o1) k1) (h2 : OpR X (compareOp o2) k2) (h3 : OpR X (compareOp o3) k3) (h4 : OpR X (compareOp o4) k4) (ha : PE X ea ta) (hb : PE X eb tb) (hc : PE X ec tc) (hd : PE X ed td) (hf : PE X ef tf)
    (hm : lastMarks [o1, o2, o3, o4] [eb, ec, ed, ef] = false) : PT X (.Compare ea [o1, o2, o3, o4] [eb, ec, ed, ef] pos) (tTest (tChain4 k1 k2 k3 k4 ta tb tc td tf)) := by
  refine ⟨fun pins s σ H Q I h => ?_⟩
  refine isTrue_chain (thn (ha.run pins s σ H _ I h) fun v s1 ⟨x, H1, I1, r1, q1⟩ => test_link (thn (hb.run pins s1 σ H1 _ I1 q1) fun u s2 ⟨y, H2, I2, r2, q2⟩ =>
    thn (h1 pins s2 σ H2 x y v u _ I2 r1 r2 q2) fun d s3 ⟨z, H3, I3, r3, k, e, q3⟩ => ?_)) hm
  subst e
  cases r3
  refine wpAny_truthy_bool ?_
  cases k with
  | false =>
    obtain ⟨k', e', q'⟩ := q3
    cases e'
    exact ite_ff ⟨H3, I3, q'⟩
  | true =>
    refine ite_tt (test_link (thn (hc.run pins s3 σ H3 _ I3 q3) fun u2 s4 ⟨y2, H4, I4, r4, q4⟩ => thn (h2 pins s4 σ H4 y y2 u u2 _ I4 r2 r4 q4) fun d s5 ⟨z, H5, I5, r5, k, e, q5⟩ => ?_))
    subst e
    cases r5
    refine wpAny_truthy_bool ?_
    cases k with
    | false =>
      obtain ⟨k', e', q'⟩ := q5
      cases e'
      exact ite_ff ⟨H5, I5, q'⟩
    | true =>
      refine ite_tt (test_link (thn (hd.run pins s5 σ H5 _ I5 q5) fun u3 s6 ⟨y3, H6, I6, r6, q6⟩ => thn (h3 pins s6 σ H6 y2 y3 u2 u3 _ I6 r4 r6 q6) fun d s7 ⟨z, H7, I7, r7, k, e, q7⟩ => ?_))
      subst e
      cases r7
      refine wpAny_truthy_bool ?_
      cases k with
      | false =>
        obtain ⟨k', e', q'⟩ := q7
        cases e'
        exact ite_ff ⟨H7, I7, q'⟩
      | true =>
        refine ite_tt (test_last (thn (hf.run pins s7 σ H7 _ I7 q7) fun u4 s8 ⟨y4, H8, I8, r8, q8⟩ => thn (h4 pins s8 σ H8 y3 y4 u3 u4 _ I8 r6 r8 q8) fun d' s9 ⟨z2, H9, I9, r9, k2, e2, q9⟩ => ?_))
        subst e2
        cases r9
        exact wpAny_truthy_bool ⟨H9, I9, q9⟩
end
section
variable {X : Cx} {cl : Nat → Addr} {c : Oracle} {g : G} {p : Pl} {n : Nat}
theorem s_chain4 (ok : Ok X g p cl c n) {o1 o2 o3 o4 : COp} {a b d e f : E} {pa pb pd pe pf : Expr} {pos : Pos} (hs : notSet pf = true) (ha : PE X pa (tI X.K cl c a)) (hb : PE X pb (tI X.K cl c b)) (hd : PE X pd (tI X.K cl c d)) (he : PE X pe (tI X.K cl c e)) (hf : PE X pf (tI X.K cl c f)) :
    PE X (.Compare pa [o1.py, o2.py, o3.py, o4.py] [pb, pd, pe, pf] pos) (tI X.K cl c (.chain4 o1 o2 o3 o4 a b d e f)) ∧ PT X (.Compare pa [o1.py, o2.py, o3.py, o4.py] [pb, pd, pe, pf] pos) (tT X.K cl c (.chain4 o1 o2 o3 o4 a b d e f)) := by
  have hm : lastMarks [o1.py, o2.py, o3.py, o4.py] [pb, pd, pe, pf] = false := by
    show behindInMarks o4.py pf = false
    cases pf <;> first | rfl | cases hs
  have hu : X.A.units + 65 < cLine := by
    have := ok.room.un
    omega
  have key : ∀ {σ : L2.St} {H : Hp} {μ : List Addr} {Z : Addr → Prop} {S : Store} {ρ : Env} {v : Val} {S' : Store} {Q : VK}, Sim X.K cl μ Z S H → RelE X.K cl μ Z H ρ σ → evE c (.chain4 o1 o2 o3 o4 a b d e f) ρ S = some (v, S') → Kn X.K cl Z μ H S' v Q →
      tChain4 (rCmp X.K cl o1) (rCmp X.K cl o2) (rCmp X.K cl o3) (rCmp X.K cl o4) (tI X.K cl c a) (tI X.K cl c b) (tI X.K cl c d) (tI X.K cl c e) (tI X.K cl c f) σ H Q := by
    intro σ H μ Z S ρ v S' Q sm re ev k
    unfold evE at ev
    obtain ⟨⟨x, S1⟩, e1, ev⟩ := Option.bind_eq_some_iff.mp ev
    obtain ⟨⟨y, S2⟩, e2, ev⟩ := Option.bind_eq_some_iff.mp ev
    obtain ⟨z, e3, ev⟩ := Option.bind_eq_some_iff.mp ev
    refine two sm re e1 e2 fun μ1 H1 v1 w1 st1 r1 r2 => ⟨μ1, Z, S2, x, y, z, st1.sm, r1, r2, e3, fun μ2 H2 u st2 r => ?_⟩
    cases r
    refine ⟨_, rfl, ?_⟩
    have st12 := st1.trans st2
    cases z with
    | false =>
      rw [if_neg Bool.false_ne_true]
      dsimp only at ev
      rw [if_neg Bool.false_ne_true] at ev
      cases ev
      exact k μ2 H2 _ st12 (.bl _)
    | true =>
      rw [if_pos rfl]
      dsimp only at ev
      rw [if_pos rfl] at ev
      obtain ⟨⟨u, S3⟩, e4, ev⟩ := Option.bind_eq_some_iff.mp ev
      obtain ⟨z, e5, ev⟩ := Option.bind_eq_some_iff.mp ev
      refine ⟨μ2, Z, S2, ρ, u, _, st2.sm, st12.env re, e4, fun μ3 H3 w3 st3 r3 => ⟨μ3, Z, _, y, u, _, st3.sm, st3.rel (st2.rel r2), r3, e5, fun μ4 H4 w4 st4 r => ?_⟩⟩
      cases r
      refine ⟨_, rfl, ?_⟩
      have st14 := (st12.trans st3).trans st4
      cases z with
      | false =>
        rw [if_neg Bool.false_ne_true]
        dsimp only at ev
        rw [if_neg Bool.false_ne_true] at ev
        cases ev
        exact k μ4 H4 _ st14 (.bl _)
      | true =>
        rw [if_pos rfl]
        dsimp only at ev
        rw [if_pos rfl] at ev
        obtain ⟨⟨u', S4⟩, e6, ev⟩ := Option.bind_eq_some_iff.mp ev
        obtain ⟨z, e7, ev⟩ := Option.bind_eq_some_iff.mp ev
        refine ⟨μ4, Z, S3, ρ, u', _, st4.sm, st14.env re, e6, fun μ5 H5 w5 st5 r5 => ⟨μ5, Z, _, u, u', _, st5.sm, st5.rel (st4.rel r3), r5, e7, fun μ6 H6 w6 st6 r => ?_⟩⟩
        cases r
        refine ⟨_, rfl, ?_⟩
        have st16 := (st14.trans st5).trans st6
        cases z with
        | false =>
          rw [if_neg Bool.false_ne_true]
          dsimp only at ev
          rw [if_neg Bool.false_ne_true] at ev
          cases ev
          exact k μ6 H6 _ st16 (.bl _)
        | true =>
          rw [if_pos rfl]
          dsimp only at ev
          rw [if_pos rfl] at ev
          obtain ⟨⟨u2, S5⟩, e8, ev⟩ := Option.bind_eq_some_iff.mp ev
          obtain ⟨q, e9, ev⟩ := Option.map_eq_some_iff.mp ev
          cases ev
          exact ⟨μ6, Z, S4, ρ, u2, _, st6.sm, st16.env re, e8, fun μ7 H7 w7 st7 r7 => ⟨μ7, Z, _, u', u2, _, st7.sm, st7.rel (st6.rel r5), r7, e9, k.step (st16.trans st7)⟩⟩
  constructor
  · refine PE.imp (pe_chain4 (cmp_ok (cl := cl) o1 hu) (cmp_ok (cl := cl) o2 hu) (cmp_ok (cl := cl) o3 hu) (cmp_ok (cl := cl) o4 hu) ha hb hd he hf hm) ?_
    rintro σ H Q ⟨μ, Z, S, ρ, v, S', sm, re, ev, k⟩
    exact key sm re ev k
  · refine PT.imp (pt_chain4 (cmp_ok (cl := cl) o1 hu) (cmp_ok (cl := cl) o2 hu) (cmp_ok (cl := cl) o3 hu) (cmp_ok (cl := cl) o4 hu) ha hb hd he hf hm) ?_
    rintro σ H Q ⟨μ, Z, S, ρ, b, S', sm, re, ev, k⟩
    refine key (Q := fun v H' => ∃ d, v = .bl d ∧ Q d H') sm re ev fun μ' H' w st r => ?_
    cases r
    exact ⟨_, rfl, k μ' H' st⟩
end
end Itp

namespace Itp
open PySem L2
section
variable {X : Cx} {cl : Nat → Addr} {c : Oracle} {g : G} {p : Pl} {n : Nat}
theorem s_and {a b : E} {pa pb : Expr} {rest : List Expr} {pos : Pos} (ha : PE X pa (tI X.K cl c a)) (hb : PE X (.BoolOp .And (pb :: rest) pos) (tI X.K cl c b)) : PE X (.BoolOp .And (pa :: pb :: rest) pos) (tI X.K cl c (.and a b)) := by
  refine PE.imp (pe_and ha hb) ?_
  rintro σ H Q ⟨μ, Z, S, ρ, v, S', sm, re, ev, k⟩
  unfold evE at ev
  obtain ⟨⟨x, S1⟩, e1, ev⟩ := Option.bind_eq_some_iff.mp ev
  refine ⟨μ, Z, S, ρ, x, S1, sm, re, e1, fun μ1 H1 w st1 r1 => ?_⟩
  dsimp only at ev
  split at ev
  · cases r1
    refine ⟨_, rfl, ?_⟩
    refine iteT ?_
    exact ⟨μ1, Z, S1, ρ, v, S', st1.sm, st1.env re, ev, k.step st1⟩
  · cases r1; cases ev
    refine ⟨_, rfl, ?_⟩
    refine iteF ?_
    exact k μ1 H1 _ st1 (.bl _)
  · cases ev
theorem s_or {a b : E} {pa pb : Expr} {rest : List Expr} {pos : Pos} (ha : PE X pa (tI X.K cl c a)) (hb : PE X (.BoolOp .Or (pb :: rest) pos) (tI X.K cl c b)) : PE X (.BoolOp .Or (pa :: pb :: rest) pos) (tI X.K cl c (.or a b)) := by
  refine PE.imp (pe_or ha hb) ?_
  rintro σ H Q ⟨μ, Z, S, ρ, v, S', sm, re, ev, k⟩
  unfold evE at ev
  obtain ⟨⟨x, S1⟩, e1, ev⟩ := Option.bind_eq_some_iff.mp ev
  refine ⟨μ, Z, S, ρ, x, S1, sm, re, e1, fun μ1 H1 w st1 r1 => ?_⟩
  dsimp only at ev
  split at ev
  · cases r1; cases ev
    refine ⟨_, rfl, ?_⟩
    refine iteT ?_
    exact k μ1 H1 _ st1 (.bl _)
  · cases r1
    refine ⟨_, rfl, ?_⟩
    refine iteF ?_
    exact ⟨μ1, Z, S1, ρ, v, S', st1.sm, st1.env re, ev, k.step st1⟩
  · cases ev
theorem s_andW {a b : E} {pa pb : Expr} {rest : List Expr} {pos : Pos} (ha : PT X pa (tT X.K cl c a)) (hb : PW X (.BoolOp .And (pb :: rest) pos) (tT X.K cl c b)) : PW X (.BoolOp .And (pa :: pb :: rest) pos) (tT X.K cl c (.and a b)) := by
  refine PW.imp (pw_and ha hb) ?_
  rintro σ H Q ⟨μ, Z, S, ρ, v, S', sm, re, ev, k⟩
  unfold evE at ev
  obtain ⟨⟨x, S1⟩, e1, ev⟩ := Option.bind_eq_some_iff.mp ev
  dsimp only at ev
  split at ev
  · refine ⟨μ, Z, S, ρ, _, S1, sm, re, e1, fun μ1 H1 st1 => ?_⟩
    refine iteT ?_
    exact ⟨μ1, Z, S1, ρ, v, S', st1.sm, st1.env re, ev, fun μ2 H2 st2 => k μ2 H2 (st1.trans st2)⟩
  · cases ev
    refine ⟨μ, Z, S, ρ, _, _, sm, re, e1, fun μ1 H1 st1 => ?_⟩
    refine iteF ?_
    exact k μ1 H1 st1
  · cases ev
theorem s_orW {a b : E} {pa pb : Expr} {rest : List Expr} {pos : Pos} (ha : PT X pa (tT X.K cl c a)) (hb : PW X (.BoolOp .Or (pb :: rest) pos) (tT X.K cl c b)) : PW X (.BoolOp .Or (pa :: pb :: rest) pos) (tT X.K cl c (.or a b)) := by
  refine PW.imp (pw_or ha hb) ?_
  rintro σ H Q ⟨μ, Z, S, ρ, v, S', sm, re, ev, k⟩
  unfold evE at ev
  obtain ⟨⟨x, S1⟩, e1, ev⟩ := Option.bind_eq_some_iff.mp ev
  dsimp only at ev
  split at ev
  · cases ev
    refine ⟨μ, Z, S, ρ, _, _, sm, re, e1, fun μ1 H1 st1 => ?_⟩
    refine iteT ?_
    exact k μ1 H1 st1
  · refine ⟨μ, Z, S, ρ, _, S1, sm, re, e1, fun μ1 H1 st1 => ?_⟩
    refine iteF ?_
    exact ⟨μ1, Z, S1, ρ, v, S', st1.sm, st1.env re, ev, fun μ2 H2 st2 => k μ2 H2 (st1.trans st2)⟩
  · cases ev
theorem one_eq {a : E} : tI X.K cl c (.one a) = tI X.K cl c a ∧ tT X.K cl c (.one a) = tT X.K cl c a := by
  constructor
  · funext σ H Q; unfold tI; simp only [evE]
  · funext σ H Q; unfold tT; simp only [evE]
theorem s_one {a : E} {pa : Expr} {op : BoolOp} {pos : Pos} (ha : PE X pa (tI X.K cl c a)) : PE X (.BoolOp op [pa] pos) (tI X.K cl c (.one a)) := by
  rw [one_eq.1]; exact pe_one ha
theorem s_oneW {a : E} {pa : Expr} {op : BoolOp} {pos : Pos} (ha : PT X pa (tT X.K cl c a)) : PW X (.BoolOp op [pa] pos) (tT X.K cl c (.one a)) := by
  rw [one_eq.2]
  cases op
  · exact pw_and1 ha
  · exact pw_or1 ha
theorem s_not {a : E} {pa : Expr} {pos : Pos} (ha : PE X pa (tI X.K cl c a)) : PE X (.UnaryOp .Not pa pos) (tI X.K cl c (.not a)) := by
  refine PE.imp (pe_not ha) ?_
  rintro σ H Q ⟨μ, Z, S, ρ, v, S', sm, re, ev, k⟩
  unfold evE at ev
  obtain ⟨⟨x, S1⟩, e1, ev⟩ := Option.bind_eq_some_iff.mp ev
  refine ⟨μ, Z, S, ρ, x, S1, sm, re, e1, fun μ1 H1 w st1 r1 => ?_⟩
  dsimp only at ev
  split at ev
  · cases ev; cases r1
    exact ⟨_, rfl, k μ1 H1 _ st1 (.bl _)⟩
  · cases ev
theorem s_notT {a : E} {pa : Expr} {pos : Pos} (ha : PT X pa (tT X.K cl c a)) : PT X (.UnaryOp .Not pa pos) (tT X.K cl c (.not a)) := by
  refine PT.imp (pt_not ha) ?_
  rintro σ H Q ⟨μ, Z, S, ρ, v, S', sm, re, ev, k⟩
  unfold evE at ev
  obtain ⟨⟨x, S1⟩, e1, ev⟩ := Option.bind_eq_some_iff.mp ev
  dsimp only at ev
  split at ev
  · cases ev
    exact ⟨μ, Z, S, ρ, _, _, sm, re, e1, fun μ1 H1 st1 => k μ1 H1 st1⟩
  · cases ev
theorem s_ifx {t a b : E} {pt pa pb : Expr} {pos : Pos} (ht : PT X pt (tT X.K cl c t)) (ha : PE X pa (tI X.K cl c a)) (hb : PE X pb (tI X.K cl c b)) : PE X (.IfExp pt pa pb pos) (tI X.K cl c (.ifx t a b)) := by
  refine PE.imp (pe_ifExp ht ha hb) ?_
  rintro σ H Q ⟨μ, Z, S, ρ, v, S', sm, re, ev, k⟩
  unfold evE at ev
  obtain ⟨⟨x, S1⟩, e1, ev⟩ := Option.bind_eq_some_iff.mp ev
  dsimp only at ev
  split at ev
  · refine ⟨μ, Z, S, ρ, _, S1, sm, re, e1, fun μ1 H1 st1 => ?_⟩
    refine iteT ?_
    exact ⟨μ1, Z, S1, ρ, v, S', st1.sm, st1.env re, ev, k.step st1⟩
  · refine ⟨μ, Z, S, ρ, _, S1, sm, re, e1, fun μ1 H1 st1 => ?_⟩
    refine iteF ?_
    exact ⟨μ1, Z, S1, ρ, v, S', st1.sm, st1.env re, ev, k.step st1⟩
  · cases ev
theorem pt_ifx {t a b : Expr} {pos : Pos} {tc ta tb : TT} (ht : PT X t tc) (ha : PT X a ta) (hb : PT X b tb) : PT X (.IfExp t a b pos) (fun σ H Q => tc σ H fun k H1 => if k = true then ta σ H1 Q else tb σ H1 Q) := by
  refine ⟨fun pins s σ H Q I h => ?_⟩
  show wpAny _ _ (do if ← isTrue t X.env (eval t X.env) then isTrue a X.env (eval a X.env) else isTrue b X.env (eval b X.env)) _ _ s
  refine wpAny_bind (thn (ht.run pins s σ H _ I h) fun k s1 ⟨H1, I1, q⟩ => ?_)
  cases k with
  | true => exact ha.run pins s1 σ H1 Q I1 q
  | false => exact hb.run pins s1 σ H1 Q I1 q
theorem s_ifxT {t a b : E} {pt pa pb : Expr} {pos : Pos} (ht : PT X pt (tT X.K cl c t)) (ha : PT X pa (tT X.K cl c a)) (hb : PT X pb (tT X.K cl c b)) : PT X (.IfExp pt pa pb pos) (tT X.K cl c (.ifx t a b)) := by
  refine PT.imp (pt_ifx ht ha hb) ?_
  rintro σ H Q ⟨μ, Z, S, ρ, v, S', sm, re, ev, k⟩
  unfold evE at ev
  obtain ⟨⟨x, S1⟩, e1, ev⟩ := Option.bind_eq_some_iff.mp ev
  dsimp only at ev
  split at ev
  · refine ⟨μ, Z, S, ρ, _, S1, sm, re, e1, fun μ1 H1 st1 => ?_⟩
    refine iteT ?_
    exact ⟨μ1, Z, S1, ρ, v, S', st1.sm, st1.env re, ev, fun μ2 H2 st2 => k μ2 H2 (st1.trans st2)⟩
  · refine ⟨μ, Z, S, ρ, _, S1, sm, re, e1, fun μ1 H1 st1 => ?_⟩
    refine iteF ?_
    exact ⟨μ1, Z, S1, ρ, v, S', st1.sm, st1.env re, ev, fun μ2 H2 st2 => k μ2 H2 (st1.trans st2)⟩
  · cases ev

/-! lists of arguments -/
theorem s_nil : PA X [] (tA X.K cl c .nil) := by
  refine PA.imp pa_nil ?_
  rintro σ H Q ⟨μ, Z, S, ρ, v, S', sm, re, ev, k⟩
  unfold evL at ev; cases ev
  exact k μ H [] (Stp.refl sm) .nil
theorem s_cons {e : E} {es : EL} {x : Expr} {xs : List Expr} (h : PE X x (tI X.K cl c e)) (hs : PA X xs (tA X.K cl c es)) (hn : notStar x = true) : PA X (x :: xs) (tA X.K cl c (.cons e es)) := by
  refine PA.imp (pa_cons h hs (starEach_cons hn)) ?_
  rintro σ H Q ⟨μ, Z, S, ρ, v, S', sm, re, ev, k⟩
  unfold evL at ev
  obtain ⟨⟨x, S1⟩, e1, ev⟩ := Option.bind_eq_some_iff.mp ev
  obtain ⟨⟨xs, S2⟩, e2, ev⟩ := Option.map_eq_some_iff.mp ev
  cases ev
  exact ⟨μ, Z, S, ρ, x, S1, sm, re, e1, fun μ1 H1 w st1 r1 => ⟨μ1, Z, S1, ρ, xs, _, st1.sm, st1.env re, e2, fun μ2 H2 ws st2 r2 => k μ2 H2 _ (st1.trans st2) (.cons (st2.rel r1) r2)⟩⟩
theorem s_lst {es : EL} {xs : List Expr} {pos : Pos} (h : PA X xs (tA X.K cl c es)) : PE X (.List xs pos) (tJ X.K cl c (.lst es)) := by
  refine PE.imp (pe_lst h) ?_
  rintro σ H Q ⟨μ, Z, S, ρ, v, S', sm, re, ev, k⟩
  unfold evE at ev
  obtain ⟨⟨vs, S1⟩, e1, ev⟩ := Option.bind_eq_some_iff.mp ev
  dsimp only at ev
  split at ev
  · rename_i hl
    cases ev
    exact ⟨μ, Z, S, ρ, vs, _, sm, re, e1, fun μ1 H1 ws st1 r1 => ⟨by rw [← r1.length]; exact hl, (k.step st1).lst st1.sm r1⟩⟩
  · cases ev
theorem s_tup {es : EL} {xs : List Expr} {k0 : Nat} {pos : Pos} (h : PA X xs (tA X.K cl c es)) : PE X (.Tuple xs k0 pos) (tI X.K cl c (.tup es)) := by
  refine PE.imp (pe_tup h) ?_
  rintro σ H Q ⟨μ, Z, S, ρ, v, S', sm, re, ev, k⟩
  unfold evE at ev
  obtain ⟨⟨vs, S1⟩, e1, ev⟩ := Option.bind_eq_some_iff.mp ev
  dsimp only at ev
  split at ev
  · rename_i hl
    cases ev
    exact ⟨μ, Z, S, ρ, vs, _, sm, re, e1, fun μ1 H1 ws st1 r1 => ⟨by rw [← r1.length]; exact hl, (k.f.step st1).tup st1.sm r1⟩⟩
  · cases ev
theorem plain_of {e : Expr} (h : notSlice e = true) : PlainIx e := fun o i => by
  cases e <;> first | rfl | cases h
theorem s_idx {a i : E} {pa pi : Expr} {pos : Pos} (hn : notSlice pi = true) (ha : PE X pa (tI X.K cl c a)) (hi : PE X pi (tI X.K cl c i)) : PE X (.Subscript pa pi pos) (tI X.K cl c (.idx a i)) := by
  refine PE.imp (pe_ix (idx_ok (cl := cl)) ha hi (plain_of hn)) ?_
  rintro σ H Q ⟨μ, Z, S, ρ, v, S', sm, re, ev, k⟩
  unfold evE at ev
  obtain ⟨⟨x, S1⟩, e1, ev⟩ := Option.bind_eq_some_iff.mp ev
  obtain ⟨⟨y, S2⟩, e2, ev⟩ := Option.bind_eq_some_iff.mp ev
  obtain ⟨z, e3, ev⟩ := Option.map_eq_some_iff.mp ev
  cases ev
  exact two sm re e1 e2 fun μ' H' v w st r1 r2 => ⟨μ', Z, _, x, y, _, st.sm, r1, r2, e3, k.step st⟩
theorem s_pnone : PO X none (tP X.K cl c .none) := by
  refine PO.imp po_none ?_
  rintro σ H Q ⟨μ, Z, S, ρ, v, S', sm, re, ev, k⟩
  unfold evO at ev; cases ev
  exact k μ H (Stp.refl sm)
theorem s_psome {e : E} {pe : Expr} (h : PE X pe (tI X.K cl c e)) : PO X (some pe) (tP X.K cl c (.some e)) := by
  refine PO.imp (po_some h) ?_
  rintro σ H Q ⟨μ, Z, S, ρ, v, S', sm, re, ev, k⟩
  unfold evO at ev
  obtain ⟨⟨x, S1⟩, e1, ev⟩ := Option.bind_eq_some_iff.mp ev
  refine ⟨μ, Z, S, ρ, x, S1, sm, re, e1, fun μ1 H1 w st1 r1 => ?_⟩
  dsimp only at ev
  split at ev
  · cases ev; cases r1
    exact ⟨_, rfl, k μ1 H1 st1⟩
  · cases ev
theorem s_slc {a : E} {lo hi : EO} {pa : Expr} {plo phi : Option Expr} {p2 pos : Pos} (ha : PE X pa (tI X.K cl c a)) (hl : PO X plo (tP X.K cl c lo)) (hh : PO X phi (tP X.K cl c hi)) : PE X (.Subscript pa (.Slice plo phi none p2) pos) (tJ X.K cl c (.slc a lo hi)) := by
  refine PE.imp (pe_slice (slc_ok (cl := cl)) ha hl hh) ?_
  rintro σ H Q ⟨μ, Z, S, ρ, v, S', sm, re, ev, k⟩
  unfold evE at ev
  obtain ⟨⟨x, S1⟩, e1, ev⟩ := Option.bind_eq_some_iff.mp ev
  obtain ⟨⟨l, S2⟩, e2, ev⟩ := Option.bind_eq_some_iff.mp ev
  obtain ⟨⟨h, S3⟩, e3, ev⟩ := Option.bind_eq_some_iff.mp ev
  obtain ⟨z, e4, ev⟩ := Option.map_eq_some_iff.mp ev
  cases ev
  exact ⟨μ, Z, S, ρ, x, S1, sm, re, e1, fun μ1 H1 w st1 r1 => ⟨μ1, Z, S1, ρ, l, S2, st1.sm, st1.env re, e2, fun μ2 H2 st2 =>
    have st12 := st1.trans st2
    ⟨μ2, Z, S2, ρ, h, _, st2.sm, st12.env re, e3, fun μ3 H3 st3 => ⟨μ3, Z, _, x, _, st3.sm, st3.rel (st2.rel r1), e4, k.step (st12.trans st3)⟩⟩⟩⟩
theorem star_any {pos : Pos} {env : PySem.Env} : ∀ {g : G} {p : Pl} {es : EL} {xs : List Expr}, chkL g p es xs = true → ((backTo pos (starEach xs env)).any (·.1)) = false
  | _, _, .nil, xs, h => by
    unfold chkL at h
    split at h
    · rfl
    · cases h
  | g, p, .cons e es, xs, h => by
    unfold chkL at h
    split at h
    · simp only [Bool.and_eq_true] at h
      rw [starEach_cons h.1.1]
      show (false || (backTo pos (starEach _ env)).any (·.1)) = false
      rw [star_any h.2]; rfl
    · cases h
theorem chkL_hd {e : Expr} {es : EL} {xs : List Expr} (h : chkL g p es (e :: xs) = true) : notStar e = true ∧ ∃ e0 es0, es = .cons e0 es0 ∧ chkE g p e0 e = true ∧ chkL g p es0 xs = true := by
  cases es with
  | nil => unfold chkL at h; cases h
  | cons e0 es0 =>
    unfold chkL at h
    simp only [Bool.and_eq_true] at h
    exact ⟨h.1.1, e0, es0, rfl, h.1.2, h.2⟩
theorem Blt.boot (b : Blt) : bootBuiltins b.nm = some b.val := by cases b <;> decide +kernel
theorem Blt.nm_ok (b : Blt) : b.nm ≠ "__name__" ∧ (b.nm == ("__debug__" : Str)) = false := by cases b <;> decide +kernel
theorem s_blt (ok : Ok X g p cl c n) {b : Blt} {es : EL} {x : Expr} {xs : List Expr} {p0 pos : Pos} (hg : glob p.sc b.nm = true) (hb : g.bl.contains b.nm = true) (hc : chkL g p es (x :: xs) = true) (h : PA X (x :: xs) (tA X.K cl c es)) :
    PE X (.Call (.Name b.nm p0) (x :: xs) [] pos) (tJ X.K cl c (.blt b es)) := by
  obtain ⟨hn, e0, es0, rfl, h1, h2⟩ := chkL_hd hc
  have hcr := blt_ok (cl := cl) b ok.calm (by have := ok.room.un; omega)
  have key : PE X (.Call (.Name b.nm p0) (x :: xs) [] pos) (tCB (rBlt X.K cl b) (tA X.K cl c (.cons e0 es0))) := by
    cases e : b.val with
    | builtin id =>
      rw [e] at hcr
      exact pe_callB hcr (glob_of ok hg) (ok.bl _ hb) (by rw [b.boot, e]) h b.nm_ok.1 b.nm_ok.2 (starEach_cons hn) (star_any h2)
    | type T =>
      rw [e] at hcr
      exact pe_callTy hcr (glob_of ok hg) (ok.bl _ hb) (by rw [b.boot, e]) h b.nm_ok.1 b.nm_ok.2 (starEach_cons hn) (star_any h2)
    | _ => cases b <;> cases e
  refine PE.imp key ?_
  rintro σ H Q ⟨μ, Z, S, ρ, v, S', sm, re, ev, k⟩
  unfold evE at ev
  obtain ⟨⟨vs, S1⟩, e1, ev⟩ := Option.bind_eq_some_iff.mp ev
  obtain ⟨z, e4, ev⟩ := Option.map_eq_some_iff.mp ev
  cases ev
  exact ⟨μ, Z, S, ρ, vs, _, sm, re, e1, fun μ1 H1 ws st1 r1 => ⟨μ1, Z, _, vs, _, st1.sm, r1, e4, k.step st1⟩⟩
theorem evL_len : ∀ {es : EL} {xs : List Expr} {vs : List Val} {ρ : Env} {S S1 : Store}, chkL g p es xs = true → evL c es ρ S = some (vs, S1) → vs.length = xs.length
  | .nil, xs, vs, ρ, S, S1, h, e => by
    unfold evL at e; cases e
    unfold chkL at h
    split at h
    · rfl
    · cases h
  | .cons e0 es, xs, vs, ρ, S, S1, h, e => by
    unfold evL at e
    obtain ⟨⟨x, S1⟩, e1, e⟩ := Option.bind_eq_some_iff.mp e
    obtain ⟨⟨xs, S2⟩, e2, e⟩ := Option.map_eq_some_iff.mp e
    cases e
    unfold chkL at h
    split at h
    · simp only [Bool.and_eq_true] at h
      simp [evL_len h.2 e2]
    · cases h
theorem s_call (ok : Ok X g p cl c n) {raw : Bool} {f : Nat} {y : Str} {ps : List Str} {es : EL} {xs : List Expr} {p0 pos : Pos} (hf : g.fn f = some (y, ps)) (hl : ps.length = xs.length) (hg : glob p.sc y = true) (hy : okName y = true) (hc : chkL g p es xs = true) (h : PA X xs (tA X.K cl c es)) :
    PE X (.Call (.Name y p0) xs [] pos) (tI X.K cl c (.call raw f es)) := by
  obtain ⟨a, fd, m, kp, b, F, _⟩ := ok.fns f y ps hf
  have key : PE X (.Call (.Name y p0) xs [] pos) (tCall (spC X.K cl c f ps) [] E0 (tA X.K cl c es)) := by
    cases xs with
    | nil =>
      cases es with
      | nil =>
        refine PE.imp (g_call0 F ok.room ok.gd (glob_of ok hg) m kp b (okName_of hy).1) ?_
        rintro σ H Q ⟨μ, Z, S, ρ, vs, S', sm, re, ev, k⟩
        unfold evL at ev
        cases ev
        exact k μ H [] (Stp.refl sm) .nil
      | cons e es => unfold chkL at hc; cases hc
    | cons x xs =>
      obtain ⟨hn, e0, es0, rfl, h1, h2⟩ := chkL_hd hc
      exact g_call F ok.room ok.gd (glob_of ok hg) m kp b h (okName_of hy).1 (starEach_cons hn) (star_any h2)
  refine PE.imp key ?_
  rintro σ H Q ⟨μ, Z, S, ρ, v, S', sm, re, ev, k⟩
  unfold evE at ev
  obtain ⟨⟨vs, S1⟩, e1, ev⟩ := Option.bind_eq_some_iff.mp ev
  obtain ⟨⟨z, S2⟩, e2, ev⟩ := Option.bind_eq_some_iff.mp ev
  refine ⟨μ, Z, S, ρ, vs, _, sm, re, e1, fun μ1 H1 ws st1 r1 => ?_⟩
  show spC X.K cl c f ps (ws ++ []) H1 Q E0
  rw [List.append_nil]
  refine ⟨by rw [← r1.length, evL_len hc e1, hl], μ1, Z, S1, vs, z, S2, st1.sm, r1, e2, fun μ2 H2 w st2 r2 => ?_⟩
  dsimp only at ev
  split at ev
  · cases ev
    exact k μ2 H2 w (st1.trans st2) r2
  · obtain ⟨q1, q2⟩ := gc_ok st1.sm st2 r2 ev
    exact k μ1 H2 w (st1.trans q1) q2
/-! calls by keywords -/
theorem vals_perm {vs : List V} {us : List Value} (r : Vals vs us) : ∀ pm : List Nat, Vals (permL vs pm) (permL us pm)
  | [] => .nil
  | i :: pm => by
    have ih := vals_perm r pm
    unfold permL at ih ⊢
    rw [List.filterMap_cons, List.filterMap_cons]
    cases e : vs[i]? with
    | none => rw [Vals.none_of r e]; exact ih
    | some x =>
      obtain ⟨u, h1, h2⟩ := Vals.get r e
      rw [h1]
      exact .cons h2 ih
theorem rel_perm {K : PySem.W.Frag} {μ : List Addr} {Z : Addr → Prop} {H : Hp} {xs : List Val} {vs : List V} (r : RelL K cl μ Z H xs vs) : ∀ pm : List Nat, RelL K cl μ Z H (permL xs pm) (permL vs pm)
  | [] => .nil
  | i :: pm => by
    have ih := rel_perm r pm
    unfold permL at ih ⊢
    rw [List.filterMap_cons, List.filterMap_cons]
    cases e : xs[i]? with
    | none =>
      have : vs[i]? = none := by
        rw [List.getElem?_eq_none_iff] at e ⊢
        rw [← r.length]; exact e
      rw [this]; exact ih
    | some x =>
      obtain ⟨u, h1, h2⟩ := r.get e
      rw [h1]
      exact .cons h2 ih
theorem perm_len {α : Type} {xs : List α} : ∀ {pm : List Nat}, (∀ i ∈ pm, i < xs.length) → (permL xs pm).length = pm.length
  | [], _ => rfl
  | i :: pm, h => by
    have ih := perm_len (pm := pm) fun j hj => h j (List.mem_cons_of_mem _ hj)
    unfold permL at ih ⊢
    rw [List.filterMap_cons, List.getElem?_eq_getElem (h i List.mem_cons_self)]
    simp [ih]
theorem run_kw {k m : Nat} {f : Addr} {fd : FuncData} {ps ks : List Str} {pm : List Nat} {sp : Sp} {pins : List (Addr × Obj)} {σ : L2.St} {H : Hp} {s : Shared} {Q : VK} {us ws : List Value} {vs zs : List V} (F : GFn X.prog X.w X.K X.mg X.base k f fd ps sp) (hr : Room k X.A) (gd : X.A.guards = some [])
    (hb : ∀ (s : Shared) (us ws : List Value), us.length = m → ws.length = ks.length → BindsTo s fd ⟨us, ks.zip ws⟩ (ps.zip (permL (us ++ ws) pm)))
    (I : Inv X pins σ H s) (r : Vals vs us) (rz : Vals zs ws) (h1 : vs.length = m) (h2 : zs.length = ks.length) (h : sp (permL (vs ++ zs) pm) H Q E0) : wpAny (model X.prog X.w) X.A (call (.ref f) us (ks.zip ws)) (EP X pins σ Q) X.xe s := by
  exact g_run F hr gd I (hb s us ws (by rw [← r.length]; exact h1) (by rw [← rz.length]; exact h2)) (vals_perm (r.append rz) pm) h
def tKw (sp : Sp) (m n : Nat) (pm : List Nat) (t tk : TA) : TE := fun σ H Q => t σ H fun vs H1 => tk σ H1 fun zs H2 => vs.length = m ∧ zs.length = n ∧ sp (permL (vs ++ zs) pm) H2 Q E0
theorem pe_kw {k m : Nat} {f : Addr} {fd : FuncData} {x : Str} {ps ks : List Str} {pm : List Nat} {sp : Sp} {e : Expr} {es : List Expr} {kws : List Keyword} {t tk : TA} {p0 pos : Pos} (F : GFn X.prog X.w X.K X.mg X.base k f fd ps sp) (hr : Room k X.A) (gd : X.A.guards = some []) (hg : Gl X x) (hm : X.mg x = some (.ref f)) (hk : PySem.W.keepIn X.K (.ref f) = true)
    (hb : ∀ (s : Shared) (us ws : List Value), us.length = m → ws.length = ks.length → BindsTo s fd ⟨us, ks.zip ws⟩ (ps.zip (permL (us ++ ws) pm)))
    (ha : PA X (e :: es) t) (hkw : PK X kws tk) (hall : (backToKw pos (keywordEach kws X.env)).all (·.1.isSome) = true) (hks : (backToKw pos (keywordEach kws X.env)).filterMap (·.1) = ks) (hdb : (x == ("__debug__" : Str)) = false)
    (hst : starEach (e :: es) X.env = (false, eval e X.env) :: starEach es X.env)
    (hpl : ((backTo pos (starEach (e :: es) X.env)).any (·.1) || (backToKw pos (keywordEach kws X.env)).any (·.1.isNone)) = false) :
    PE X (.Call (.Name x p0) (e :: es) kws pos) (tKw sp m ks.length pm t tk) := by
  refine ⟨fun pins s σ H Q I h => ?_⟩
  refine wpAny_Call_Name_kw (ld_glob I hg hm ?_ hdb)
  refine PySem.W.callWith_KW (h₀ := X.base) I.ok.mod.kin hk hall (thn (ha.run pos pins s σ H _ I h) fun us s1 ⟨vs, H1, I1, r, q⟩ => ?_) hpl hst
  refine thn (hkw.run pos pins s1 σ H1 _ I1 q) fun ws s2 ⟨zs, H2, I2, rz, h1, h2, q2⟩ => ⟨I2.kIn, ?_⟩
  rw [hks]
  exact run_kw F hr gd hb I2 r rz h1 h2 q2
theorem pe_kw0 {k : Nat} {f : Addr} {fd : FuncData} {x : Str} {ps ks : List Str} {pm : List Nat} {sp : Sp} {kws : List Keyword} {tk : TA} {p0 pos : Pos} (F : GFn X.prog X.w X.K X.mg X.base k f fd ps sp) (hr : Room k X.A) (gd : X.A.guards = some []) (hg : Gl X x) (hm : X.mg x = some (.ref f)) (hk : PySem.W.keepIn X.K (.ref f) = true)
    (hb : ∀ (s : Shared) (us ws : List Value), us.length = 0 → ws.length = ks.length → BindsTo s fd ⟨us, ks.zip ws⟩ (ps.zip (permL (us ++ ws) pm)))
    (hkw : PK X kws tk) (hall : (backToKw pos (keywordEach kws X.env)).all (·.1.isSome) = true) (hks : (backToKw pos (keywordEach kws X.env)).filterMap (·.1) = ks) (hdb : (x == ("__debug__" : Str)) = false)
    (hpl : ((backTo pos (starEach [] X.env)).any (·.1) || (backToKw pos (keywordEach kws X.env)).any (·.1.isNone)) = false) :
    PE X (.Call (.Name x p0) [] kws pos) (tKw sp 0 ks.length pm tNil tk) := by
  refine ⟨fun pins s σ H Q I h => ?_⟩
  refine wpAny_Call_Name_kw (ld_glob I hg hm ?_ hdb)
  refine PySem.W.callWith_KW0 (h₀ := X.base) I.ok.mod.kin hk hall ?_ hpl
  refine thn (hkw.run pos pins s σ H _ I h) fun ws s2 ⟨zs, H2, I2, rz, h1, h2, q2⟩ => ⟨I2.kIn, ?_⟩
  rw [hks]
  exact run_kw (us := []) (vs := []) F hr gd hb I2 .nil rz h1 h2 q2
theorem kwEach_names {env : PySem.Env} {pos : Pos} : ∀ kws : List Keyword, (backToKw pos (keywordEach kws env)).map (·.1) = kws.map kwNm
  | [] => rfl
  | ⟨a, v, q⟩ :: r => by
    show a :: (backToKw pos (keywordEach r env)).map (·.1) = a :: r.map kwNm
    rw [kwEach_names r]
theorem kw_all {env : PySem.Env} {pos : Pos} {kws : List Keyword} (h : (kws.all fun k => (kwNm k).isSome) = true) :
    (backToKw pos (keywordEach kws env)).all (·.1.isSome) = true ∧ (backToKw pos (keywordEach kws env)).filterMap (·.1) = kws.filterMap kwNm ∧ (backToKw pos (keywordEach kws env)).any (·.1.isNone) = false := by
  have e := kwEach_names (env := env) (pos := pos) kws
  refine ⟨?_, ?_, ?_⟩
  · have : ((backToKw pos (keywordEach kws env)).map (·.1)).all (·.isSome) = true := by
      rw [e, List.all_map]; exact h
    rw [List.all_map] at this
    exact this
  · have : ((backToKw pos (keywordEach kws env)).map (·.1)).filterMap id = (kws.map kwNm).filterMap id := by rw [e]
    rw [List.filterMap_map, List.filterMap_map] at this
    exact this
  · have : ((backToKw pos (keywordEach kws env)).map (·.1)).any (·.isNone) = false := by
      rw [e, List.any_map, List.any_eq_false]
      intro k hk
      have q := List.all_eq_true.mp h k hk
      show ¬ (kwNm k).isNone = true
      cases z : kwNm k with
      | none => rw [z] at q; cases q
      | some _ => simp
    rw [List.any_map] at this
    exact this
theorem s_callK (ok : Ok X g p cl c n) {raw : Bool} {f : Nat} {y : Str} {ps : List Str} {es ks : EL} {pm : List Nat} {pes : List Expr} {kws : List Keyword} {p0 pos : Pos} (hf : g.fn f = some (y, ps)) (hl : pm.length = ps.length) (hg : glob p.sc y = true) (hy : okName y = true) (hc : chkL g p es pes = true) (hck : chkL g p ks (kws.map kwVal) = true)
    (hka : (kws.all fun k => (kwNm k).isSome) = true) (hkw : (pes.length, kws.filterMap kwNm, pm) ∈ g.kw f) (hpm : ∀ i ∈ pm, i < pes.length + kws.length) (ha : PA X pes (tA X.K cl c es)) (hk : PK X kws (tA X.K cl c ks)) :
    PE X (.Call (.Name y p0) pes kws pos) (tI X.K cl c (.callK raw f es ks pm)) := by
  obtain ⟨a, fd, m, kp, b, F, kb⟩ := ok.fns f y ps hf
  have kb := kb _ hkw
  obtain ⟨k1, k2, k3⟩ := kw_all (env := X.env) (pos := pos) hka
  have hpl : ((backTo pos (starEach pes X.env)).any (·.1) || (backToKw pos (keywordEach kws X.env)).any (·.1.isNone)) = false := by
    rw [k3, star_any hc]; rfl
  have hkl : (kws.filterMap kwNm).length = kws.length := by
    have : ∀ kws : List Keyword, (kws.all fun k => (kwNm k).isSome) = true → (kws.filterMap kwNm).length = kws.length := by
      intro kws
      induction kws with
      | nil => intro _; rfl
      | cons k r ih =>
        intro h
        simp only [List.all_cons, Bool.and_eq_true] at h
        rw [List.filterMap_cons]
        cases e : kwNm k with
        | none => rw [e] at h; cases h.1
        | some _ => simp [ih h.2]
    exact this kws hka
  have key : PE X (.Call (.Name y p0) pes kws pos) (tKw (spC X.K cl c f ps) pes.length (kws.filterMap kwNm).length pm (tA X.K cl c es) (tA X.K cl c ks)) := by
    cases pes with
    | nil =>
      cases es with
      | nil =>
        refine PE.imp (pe_kw0 F ok.room ok.gd (glob_of ok hg) m kp kb hk k1 k2 (okName_of hy).1 hpl) ?_
        rintro σ H Q ⟨μ, Z, S, ρ, vs, S', sm, re, ev, k⟩
        unfold evL at ev
        cases ev
        exact k μ H [] (Stp.refl sm) .nil
      | cons e es => unfold chkL at hc; cases hc
    | cons x xs =>
      obtain ⟨hn, e0, es0, rfl, h1, h2⟩ := chkL_hd hc
      exact pe_kw F ok.room ok.gd (glob_of ok hg) m kp kb ha hk k1 k2 (okName_of hy).1 (starEach_cons hn) hpl
  refine PE.imp key ?_
  rintro σ H Q ⟨μ, Z, S, ρ, v, S', sm, re, ev, k⟩
  unfold evE at ev
  obtain ⟨⟨vs, S0⟩, e0, ev⟩ := Option.bind_eq_some_iff.mp ev
  obtain ⟨⟨zs, S1⟩, e1, ev⟩ := Option.bind_eq_some_iff.mp ev
  obtain ⟨⟨z, S2⟩, e2, ev⟩ := Option.bind_eq_some_iff.mp ev
  refine ⟨μ, Z, S, ρ, vs, _, sm, re, e0, fun μ0 H0 ws st0 r0 => ?_⟩
  refine ⟨μ0, Z, S0, ρ, zs, S1, st0.sm, st0.env re, e1, fun μ1 H1 us st1 r1 => ?_⟩
  have l1 := evL_len hc e0
  have l2 := evL_len hck e1
  rw [List.length_map] at l2
  have rr := rel_perm ((st1.rels r0).append r1) pm
  refine ⟨by rw [← r0.length]; exact l1, by rw [← r1.length, hkl]; exact l2, ?_⟩
  refine ⟨?_, μ1, Z, S1, _, z, S2, st1.sm, rr, e2, fun μ2 H2 w st2 r2 => ?_⟩
  · rw [perm_len (by rw [List.length_append, ← r0.length, ← r1.length, l1, l2]; exact hpm), hl]
  · have st01 := st0.trans st1
    dsimp only at ev
    split at ev
    · cases ev
      exact k μ2 H2 w (st01.trans st2) r2
    · obtain ⟨q1, q2⟩ := gc_ok st1.sm st2 r2 ev
      exact k μ1 H2 w (st01.trans q1) q2
/-- a fresh list goes into the store -/
theorem s_new {e : E} {pe : Expr} (h : PE X pe (tJ X.K cl c e)) : PE X pe (tI X.K cl c (.new e)) := by
  refine PE.imp h ?_
  rintro σ H Q ⟨μ, Z, S, ρ, v, S', sm, re, ev, k⟩
  unfold evE at ev
  obtain ⟨⟨x, S1⟩, e1, ev⟩ := Option.bind_eq_some_iff.mp ev
  refine ⟨μ, Z, S, ρ, x, S1, sm, re, e1, fun μ1 H1 w st1 r1 f1 => ?_⟩
  dsimp only at ev
  split at ev
  · cases ev
    obtain ⟨q, vs, rfl, h1, h2, h3, h4, h5⟩ := f1 _ rfl
    have sm2 := h4.adopt h2 h3 h5
    obtain ⟨nw, e, hnw⟩ := st1.gr
    refine k (μ1 ++ [q]) H1 _ ⟨⟨nw ++ [q], by rw [e, List.append_assoc], fun a ha => ?_⟩, st1.fr, sm2⟩ (.ref ?_)
    · rcases List.mem_append.mp ha with z | z
      · exact hnw a z
      · simp at z; subst z; exact h1
    · rw [← st1.sm.len, List.getElem?_append_right (Nat.le_refl _), Nat.sub_self]; rfl
  · cases ev
end
end Itp

namespace Itp
open PySem L2
section
variable {X : Cx} {cl : Nat → Addr} {c : Oracle} {g : G} {p : Pl} {n : Nat}

/-! ### isinstance -/
theorem Ty.boot (t : Ty) : bootBuiltins t.nm = some (.type t.py) := by cases t <;> decide +kernel
theorem Ty.nm_ok (t : Ty) : t.nm ≠ "__name__" ∧ (t.nm == ("__debug__" : Str)) = false := by cases t <;> decide +kernel
theorem pe_ty (ok : Ok X g p cl c n) {t : Ty} {p0 : Pos} (h1 : glob p.sc t.nm = true) (h2 : g.bl.contains t.nm = true) : PE X (.Name t.nm p0) (tC (.ty t.py)) :=
  pe_bltn (v := .ty t.py) (glob_of ok h1) (ok.bl _ h2) t.boot rfl t.nm_ok.1 t.nm_ok.2
theorem pa_tys (ok : Ok X g p cl c n) : ∀ {ts : List Ty} {es : List Expr}, tysAre g p ts es = true → PA X es (fun _ H Q => Q (ts.map fun t => V.ty t.py) H)
  | [], [], _ => PA.imp pa_nil fun _ _ _ h => h
  | [], _ :: _, h => nomatch h
  | t :: ts, es, h => by
    unfold tysAre at h
    split at h
    · rename_i heq; cases heq
    · rename_i t' ts' x p0 es' heq
      cases heq
      simp only [Bool.and_eq_true] at h
      have e := of_decide_eq_true h.1.1.1
      subst e
      exact PA.imp (pa_cons (pe_ty ok h.1.1.2 h.1.2) (pa_tys ok h.2) rfl) fun _ _ _ q => q
    · cases h
theorem kit_any {K : PySem.W.Frag} {S : Store} {x : Val} {T : String} (h : ∀ t b, isTy S x t = some b → kitB T t.py = some b) : ∀ {ts : List Ty} {b : Bool}, isTys S x ts = some b → PySem.W.kitAny K (.type T) (ts.map fun t => Value.type t.py) = some b
  | [], b, e => by unfold isTys at e; cases e; rfl
  | t :: ts, b, e => by
    unfold isTys at e
    obtain ⟨b1, e1, e⟩ := Option.bind_eq_some_iff.mp e
    obtain ⟨b2, e2, e⟩ := Option.map_eq_some_iff.mp e
    subst e
    refine kitAny_cons (kit_ty (h t b1 e1)) (fun q => ?_) (fun q => ?_)
    · rw [q, Bool.false_or]; exact kit_any h e2
    · rw [q]; rfl
theorem clsV_tys : ∀ ts : List Ty, Paired ClsV (ts.map fun t => V.ty t.py) (ts.map fun t => Value.type t.py)
  | [] => .nil
  | t :: ts => .cons (.ty _) (clsV_tys ts)
theorem isi_nm : (Str.ofString "isinstance") ≠ "__name__" ∧ ((Str.ofString "isinstance") == ("__debug__" : Str)) = false ∧ bootBuiltins (Str.ofString "isinstance") = some (.builtin "isinstance") := by decide +kernel
theorem ty_laid {K : PySem.W.Frag} {H : Hp} {x : V} {t : Value} {q : Addr} {o : HO} (h : H q = none) (r : TyX K H x t) : TyX K (upd H q o) x t := by
  have kp : ∀ {a : Addr} {u : HO}, H a = some u → upd H q o a = some u := fun e => by rw [upd_ne (ne_of_none e h)]; exact e
  cases r with
  | base r =>
    refine .base ?_
    cases r with
    | non => exact .non
    | bl b => exact .bl b
    | int i => exact .int i
    | str i => exact .str i
    | flt i => exact .flt i
    | lst e => exact .lst (kp e)
    | frz e => exact .frz (kp e)
    | tup e => exact .tup (kp e)
    | dK e => exact .dK (kp e)
    | dT e => exact .dT (kp e)
    | ins e h1 h2 h3 h4 h5 => exact .ins (kp e) h1 h2 h3 h4 h5
  | byt b => exact .byt b
  | set e => exact .set (kp e)
  | kList e1 e2 => exact .kList e1 e2
  | kTuple e1 e2 => exact .kTuple e1 e2
  | kDict e1 e2 => exact .kDict e1 e2
  | fTuple e => exact .fTuple (kp e)
  | fDict e => exact .fDict (kp e)
theorem isTys_ty {S : Store} {x : Val} {t : Ty} {ts : List Ty} {b : Bool} (h : isTys S x (t :: ts) = some b) : ∃ b1, isTy S x t = some b1 := by
  unfold isTys at h
  obtain ⟨b1, e1, e⟩ := Option.bind_eq_some_iff.mp h
  exact ⟨b1, e1⟩
theorem s_isa (ok : Ok X g p cl c n) {e : E} {ts : List Ty} {pe1 : Expr} {pts : List Expr} {k0 : Nat} {p0 p1 pos : Pos} (hg : glob p.sc "isinstance" = true) (hb : g.bl.contains (Str.ofString "isinstance") = true) (hn : notStar pe1 = true) (h0 : 0 < ts.length) (h100 : ts.length ≤ 100) (ht : tysAre g p ts pts = true) (h : PE X pe1 (tI X.K cl c e)) :
    PE X (.Call (.Name "isinstance" p0) [pe1, .Tuple pts k0 p1] [] pos) (tI X.K cl c (.isa e ts)) := by
  refine PE.imp (pe_callB call_isiT (glob_of ok hg) (ok.bl _ hb) isi_nm.2.2 (pa_cons h (pa_cons (pe_tup (pa_tys ok ht)) pa_nil rfl) (starEach_cons hn)) isi_nm.1 isi_nm.2.1 (starEach_cons hn) rfl) ?_
  rintro σ H Q ⟨μ, Z, S, ρ, v, S', sm, re, ev, k⟩
  unfold evE at ev
  obtain ⟨⟨x, S1⟩, e1, ev⟩ := Option.bind_eq_some_iff.mp ev
  obtain ⟨b, e2, ev⟩ := Option.map_eq_some_iff.mp ev
  cases ev
  refine ⟨μ, Z, S, ρ, x, _, sm, re, e1, fun μ1 H1 w st1 r1 => ?_⟩
  refine ⟨?_, fun q hq => ?_⟩
  · have hl : ts.length ≤ sizeLine := Nat.le_trans h100 (by decide)
    simpa using hl
  · cases ts with
    | nil => exact absurd h0 (by decide)
    | cons t ts =>
      obtain ⟨b1, hb1⟩ := isTys_ty e2
      obtain ⟨T, hT, hk⟩ := ty_of st1.sm r1 hb1
      exact ⟨w, q, _, _, _, b, rfl, upd_same, clsV_tys _, ty_laid hq hT, kit_any hk e2, k μ1 _ _ (st1.trans (Stp.laid st1.sm hq)) (.bl _)⟩
theorem s_isa1 (ok : Ok X g p cl c n) {e : E} {t : Ty} {pe1 pt : Expr} {p0 pos : Pos} (hg : glob p.sc "isinstance" = true) (hb : g.bl.contains (Str.ofString "isinstance") = true) (hn : notStar pe1 = true) (ht : tysAre g p [t] [pt] = true) (h : PE X pe1 (tI X.K cl c e)) :
    PE X (.Call (.Name "isinstance" p0) [pe1, pt] [] pos) (tI X.K cl c (.isa e [t])) := by
  unfold tysAre at ht
  split at ht
  · rename_i h1 h2; cases h1
  · rename_i t' ts' x p9 es' h1 h2
    cases h1; cases h2
    simp only [Bool.and_eq_true] at ht
    have e0 := of_decide_eq_true ht.1.1.1
    subst e0
    refine PE.imp (pe_callB call_isi (glob_of ok hg) (ok.bl _ hb) isi_nm.2.2 (pa_cons h (pa_cons (pe_ty ok ht.1.1.2 ht.1.2) pa_nil rfl) (starEach_cons hn)) isi_nm.1 isi_nm.2.1 (starEach_cons hn) rfl) ?_
    rintro σ H Q ⟨μ, Z, S, ρ, v, S', sm, re, ev, k⟩
    unfold evE at ev
    obtain ⟨⟨x, S1⟩, e1, ev⟩ := Option.bind_eq_some_iff.mp ev
    obtain ⟨b, e2, ev⟩ := Option.map_eq_some_iff.mp ev
    cases ev
    refine ⟨μ, Z, S, ρ, x, _, sm, re, e1, fun μ1 H1 w st1 r1 => ?_⟩
    obtain ⟨b1, hb1⟩ := isTys_ty e2
    obtain ⟨T, hT, hk⟩ := ty_of st1.sm r1 hb1
    have eb : b1 = b := by
      unfold isTys at e2
      rw [hb1] at e2
      unfold isTys at e2
      simpa using e2
    subst eb
    exact ⟨w, _, _, _, b1, rfl, .ty _, hT, kit_ty (hk _ _ hb1), k μ1 _ _ st1 (.bl _)⟩
  · cases ht

/-! ### targets -/
theorem wipe_set {σ : L2.St} {i : Nat} {v : Option V} : ∀ {vs : List Nat}, i ∈ vs → wipe (σ.set i v) vs = wipe σ vs
  | [], h => nomatch h
  | j :: vs, h => by
    unfold wipe
    by_cases e : i ∈ vs
    · rw [wipe_set e]
    · rcases List.mem_cons.mp h with q | q
      · subst q
        have : ∀ vs : List Nat, i ∉ vs → wipe (σ.set i v) vs = (wipe σ vs).set i v := by
          intro vs
          induction vs with
          | nil => intro _; rfl
          | cons j vs ih =>
            intro h
            unfold wipe
            rw [ih fun q => h (List.mem_cons_of_mem _ q), List.set_comm]
            exact fun q => h (q ▸ List.mem_cons_self)
        rw [this vs e, List.set_set]
      · exact absurd q e
theorem g_nm (ok : Ok X g p cl c n) {i : Nat} {pe : Expr} (h : chkT g p (.nm i) pe = true) : PG X pe (tG X.K cl c (.nm i)) := by
  unfold chkT at h
  split at h
  · simp only [Bool.and_eq_true] at h
    obtain ⟨h1, h2⟩ := h
    rename_i x p0
    have hl : L2.Loc X.env.scope x ∧ (X.fn x = true ∨ X.env.scope.names.lookup x = some .local) := by
      rw [ok.sc, ok.fn]
      unfold loc at h2
      split at h2
      · rename_i q; exact ⟨.inl q, .inr q⟩
      · rename_i q; exact ⟨.inr q, .inl h2⟩
      · cases h2
    refine PG.imp (pg_name (i := i) ok.nd (by rw [ok.N]; exact of_decide_eq_true h1) hl.1 hl.2) ?_
    rintro w σ H Q ⟨μ, Z, S, ρ, v, ρ', S', sm, re, rv, ev, k⟩
    unfold bindT at ev
    cases ev
    exact k μ H _ (Stp.refl sm) (re.set rv) fun vs hv => wipe_set (hv i (by simp [T.slots]))
  · cases h
theorem g_nil : PGs X [] (tGs X.K cl c .nil) := by
  refine PGs.imp pgs_nil ?_
  rintro w σ H Q ⟨μ, Z, S, ρ, v, ρ', S', sm, re, rv, ev, k⟩
  cases rv with
  | nil =>
    unfold bindTs at ev
    cases ev
    exact ⟨rfl, k μ H _ (Stp.refl sm) re fun _ _ => rfl⟩
  | cons => unfold bindTs at ev; cases ev
theorem assignEach_cons {e : Expr} {es : List Expr} {env : PySem.Env} (h : notStar e = true) : assignEach (e :: es) env = (false, assign e env) :: assignEach es env := by
  cases e <;> first | rfl | cases h
theorem g_cons {t : T} {ts : TL} {x : Expr} {xs : List Expr} (hn : notStar x = true) (h : PG X x (tG X.K cl c t)) (hs : PGs X xs (tGs X.K cl c ts)) : PGs X (x :: xs) (tGs X.K cl c (.cons t ts)) := by
  refine PGs.imp (pgs_cons h hs (by rw [assignEach_cons hn]; rfl)) ?_
  rintro w σ H Q ⟨μ, Z, S, ρ, v, ρ', S', sm, re, rv, ev, k⟩
  cases rv with
  | nil => unfold bindTs at ev; cases ev
  | cons r rs =>
    unfold bindTs at ev
    obtain ⟨⟨ρ1, S1⟩, e1, ev⟩ := Option.bind_eq_some_iff.mp ev
    refine ⟨_, _, rfl, μ, Z, S, ρ, _, ρ1, S1, sm, re, r, e1, fun μ1 H1 σ1 st1 re1 w1 => ?_⟩
    refine ⟨μ1, Z, S1, ρ1, _, ρ', S', st1.sm, re1, st1.rels rs, ev, fun μ2 H2 σ2 st2 re2 w2 => k μ2 H2 σ2 (st1.trans st2) re2 fun vs hv => ?_⟩
    rw [w2 vs fun i hi => hv i (by simp [T.slots.tslots, hi]), w1 vs fun i hi => hv i (by simp [T.slots.tslots, hi])]
theorem assignEach_len : ∀ {ts : TL} {xs : List Expr} {env : PySem.Env}, chkTs g p ts xs = true → (assignEach xs env).length = ts.len ∧ (assignEach xs env).findIdx? (·.1) = none
  | .nil, xs, env, h => by
    unfold chkTs at h
    split at h
    · exact ⟨rfl, rfl⟩
    · cases h
  | .cons t ts, xs, env, h => by
    unfold chkTs at h
    split at h
    · simp only [Bool.and_eq_true] at h
      rw [assignEach_cons h.1.1]
      obtain ⟨h1, h2⟩ := assignEach_len (env := env) h.2
      refine ⟨by simp [TL.len, h1], ?_⟩
      rw [List.findIdx?_cons]
      simp [h2]
    · cases h
theorem unpack_at {K : PySem.W.Frag} {μ : List Addr} {Z : Addr → Prop} {S : Store} {H : Hp} {x : Val} {v : V} {m : Nat} {xs : List Val} (s : Sim K cl μ Z S H) (r : Rel K cl μ Z H x v) (h : unpack S m x = some xs) : ∃ a vs, v = .ref a ∧ (SqL K H a vs ∨ SqT K H a vs) ∧ RelL K cl μ Z H xs vs ∧ vs.length = m := by
  have key : ∀ {x : Val}, Rel K cl μ Z H x v → (seqOf S x).bind (fun xs => if xs.length = m then some xs else none) = some xs → ∃ a vs, v = .ref a ∧ (SqL K H a vs ∨ SqT K H a vs) ∧ RelL K cl μ Z H xs vs ∧ vs.length = m := by
    intro x r h
    obtain ⟨ys, e1, h⟩ := Option.bind_eq_some_iff.mp h
    split at h
    · rename_i hl
      cases h
      obtain ⟨a, vs, rfl, h1, h2⟩ := seq_at s r e1
      exact ⟨a, vs, rfl, h1, h2, by rw [← h2.length]; exact hl⟩
    · cases h
  unfold unpack at h
  split at h
  · cases h
  · exact key r h
theorem g_tp (ok : Ok X g p cl c n) {ts : TL} {xs : List Expr} {k0 : Nat} {pos : Pos} (hc : chkTs g p ts xs = true) (hs : PGs X xs (tGs X.K cl c ts)) : PG X (.Tuple xs k0 pos) (tG X.K cl c (.tp ts)) := by
  obtain ⟨h1, h2⟩ := assignEach_len (env := X.env) hc
  refine PG.imp (PG.or (pg_tup (n := ts.len) ok.calm hs h1 h2) (pg_unl (n := ts.len) ok.calm hs h1 h2)) ?_
  rintro w σ H Q ⟨μ, Z, S, ρ, v, ρ', S', sm, re, rv, ev, k⟩
  unfold bindT at ev
  obtain ⟨ys, e1, ev⟩ := Option.bind_eq_some_iff.mp ev
  obtain ⟨a, vs, rfl, q, r2, hl⟩ := unpack_at sm rv e1
  have fin : tGs X.K cl c ts vs σ H Q := ⟨μ, Z, S, ρ, ys, ρ', S', sm, re, r2, ev, fun μ1 H1 σ1 st re1 w1 => k μ1 H1 σ1 st re1 fun vs hv => w1 vs fun i hi => hv i (by simpa [T.slots] using hi)⟩
  rcases q with q | q
  · exact .inr ⟨a, vs, rfl, q, hl, fin⟩
  · exact .inl ⟨a, vs, rfl, q, hl, fin⟩
theorem g_sub {o i : E} {po pi : Expr} {pos : Pos} (hn : notSlice pi = true) (ho : PE X po (tI X.K cl c o)) (hi : PE X pi (tI X.K cl c i)) : PG X (.Subscript po pi pos) (tG X.K cl c (.sub o i)) := by
  refine PG.imp (pg_sub ho hi set_list (by intro v; cases pi <;> first | rfl | cases hn)) ?_
  rintro w σ H Q ⟨μ, Z, S, ρ, v, ρ', S', sm, re, rv, ev, k⟩
  unfold bindT at ev
  obtain ⟨⟨x, S1⟩, e1, ev⟩ := Option.bind_eq_some_iff.mp ev
  obtain ⟨⟨y, S2⟩, e2, ev⟩ := Option.bind_eq_some_iff.mp ev
  obtain ⟨S3, e3, ev⟩ := Option.map_eq_some_iff.mp ev
  cases ev
  refine two sm re e1 e2 fun μ' H' v' w' st r1 r2 => ?_
  unfold setSem at e3
  split at e3
  · split at e3
    · rename_i m k' xs hm
      obtain ⟨j, e4, rfl⟩ := Option.map_eq_some_iff.mp e3
      cases r1 with
      | ref h1 =>
        cases r2
        obtain ⟨vs, q1, q2⟩ := st.sm.ob _ _ _ h1 hm
        refine ⟨_, vs, _, j, rfl, rfl, q1, by rw [← q2.length]; exact e4, ?_⟩
        have hme := List.mem_of_getElem? h1
        have st2 := Stp.set (o := .lst (vs.set j w)) (ob := .lst (xs.set j v)) st.sm h1 ⟨_, upd_same, ((q2.set j (st.rel rv)).move (fun _ _ q => q) (set_keep hme))⟩
        exact k μ' _ σ (st.trans st2) ((st.trans st2).env re) fun _ _ => rfl
    · cases e3
  · cases e3
end
end Itp

namespace Itp
open PySem PySem.Spec PyProof.Rows L2
theorem meets_enumerate_new1 {v : Value} {o : Obj} {H : Heap → Prop} (B : Begins v o H) :
    Meets (Builtin.«enumerate.__new__» ⟨[.type "enumerate", v], []⟩) (fun _ R s => H s.heap ∧
      R (.ok (.ret (.ref (s.heap.push o).objs.size))) { s with heap := (s.heap.push o).push { cls := .type "enumerate", data := .fields #[.none, .bool false, .ref s.heap.objs.size, rawInt 0, .none, .none] } }) :=
  .of_wp fun prog w A R s h => by
    obtain ⟨hp, g, d, tk, os⟩ := s; obtain ⟨h1, h⟩ := h
    have hsub := sub_enumerate
    have q1 : ∀ {A' : Around} {E : Value → Shared → Prop} {Q : Value → Shared → Prop}, Q (.ref hp.objs.size) ⟨hp.push o, g, d, tk, os⟩ → wpAny (model prog w) A' (pyIter v) Q E ⟨hp, g, d, tk, os⟩ :=
      fun q => B.iter prog w _ _ ⟨hp, g, d, tk, os⟩ _ h1 q
    wp_walk using q1
    refine wpAny_stack_any fun st => wpAny_pure ?_
    split
    · rename_i c _ _ _ _ _
      cases (c == Value.type "enumerate")
      · wp_walk using q1
        exact ⟨_, rfl, h⟩
      · wp_walk using q1
        exact ⟨_, rfl, h⟩
    · wp_walk using q1
      exact ⟨_, rfl, h⟩
section
variable {prog : Program} {w : World} {A : Around} {E : Value → Shared → Prop} {s : Shared}
theorem call_enumT {t : Addr} {items : Array Value} {Q : Value → Shared → Prop} (hT : s.heap.IsTuple t items)
    (h : ∀ h', IsEnum h' (s.heap.objs.size + 1) s.heap.objs.size 0 .none → h'.IsTupleIter s.heap.objs.size t 0 → h'.objs.size = s.heap.objs.size + 2 →
      (∀ b o, s.heap.get? b = some o → h'.get? b = some o) → Q (.ref (s.heap.objs.size + 1)) { s with heap := h' }) :
    wpAny (model prog w) A (call (.type "enumerate") [.ref t]) Q E s := by
  have B := begins_tuple t items
  refine callType_new F.called_enumerate (by decide) (F.typeCall_enumerate_1 _) (F.newCall_enumerate_1 _) (fun obj => F.args_object_init_2 obj _) F.entry_enumerate_new
    (meets_enumerate_new1 B) ⟨hT, ?_⟩
  have hz : (s.heap.push { cls := .type "tuple_iterator", data := .fields #[.ref t, .int 0 0] }).objs.size = s.heap.objs.size + 1 := Heap.size_push ..
  show _ ∧ _
  rw [hz]
  have he : IsEnum ((s.heap.push { cls := .type "tuple_iterator", data := .fields #[.ref t, .int 0 0] }).push { cls := .type "enumerate", data := .fields #[.none, .bool false, .ref s.heap.objs.size, rawInt 0, .none, .none] }) (s.heap.objs.size + 1) s.heap.objs.size 0 .none := by
    have := Heap.get?_push_size (s.heap.push { cls := .type "tuple_iterator", data := .fields #[.ref t, .int 0 0] }) (o := { cls := .type "enumerate", data := .fields #[.none, .bool false, .ref s.heap.objs.size, rawInt 0, .none, .none] }) rfl
    rw [hz] at this; exact this
  refine ⟨⟨_, he, rfl⟩, h _ he ⟨_, Heap.get?_push_of_some _ (Heap.get?_push_size _ B.free), rfl, rfl⟩ (by rw [Heap.size_push, hz]) fun b o x => Heap.get?_push_of_some _ (Heap.get?_push_of_some _ x)⟩
theorem enum_endT {e it t : Addr} {j : Nat} {items : Array Value} {i : Int} {old : Value} {Q : Option Value → Shared → Prop} (hh : A.handled = none) (he : IsEnum s.heap e it i old) (hit : s.heap.IsTupleIter it t j) (ht : s.heap.IsTuple t items) (hx : items[j]? = none)
    (hQ : ∀ h', Heap.ExtBut it s.heap h' → Q none { s with heap := h' }) : wpAny (model prog w) A (pyNext (.ref e)) Q E s := by
  have hT : s.TypeIs (.ref e) "enumerate" := ⟨_, he, rfl⟩
  unfold pyNext
  refine wpAny_bind (wpAny_attempt (wpAny_callSpecial?_slot (name := Str.ofString "__next__") hT F.slot_enumerate_next
    (wpAny_call_entry F.slot_enumerate_next hT F.entry_enumerate_next ?_ (F.args_enumerate_next_1 _))))
  show wpAny _ _ (field (.ref e) 2 >>= _) _ _ _
  refine wpAny_bind (wpAny_field he rfl (x := .ref it) rfl ?_)
  refine wpAny_bind (wpAny_nextOf_tuple_end (by first | exact hh | (show A.handled = none; exact hh)) hit ht hx fun h' x he' hx' => ?_)
  obtain ⟨o, ho, hc⟩ := hx'
  refine wpAny_bind (wpAny_isInstance (T := "StopIteration") (b := true) ⟨o, ho, hc⟩ isSubtype_stop ?_)
  exact wpAny_pure (hQ _ he')
end
/-- a tuple's items, each in a new pair -/
def IteT (K : PySem.W.Frag) (a : Addr) : It :=
  ⟨fun i H => ∃ (xs : List V) (x : V), SqT K H a xs ∧ xs[i]? = some x, fun i H v H' => ∃ T x, v = .ref T ∧ H T = none ∧ H' = upd H T (.tup [.int (i : Nat), x]) ∧ ∀ xs, SqT K H a xs → xs[i]? = some x, fun i H => ∃ xs : List V, SqT K H a xs ∧ xs.length ≤ i⟩
theorem turn_enumT {P : Program} {w : World} {K : PySem.W.Frag} {elts : List Expr} {kk : Nat} {tpos : Pos} (a e it : Addr) :
    Turn P w K (.Tuple elts kk tpos) (IteT K a) [e, it] e (fun i h => (∃ old, IsEnum h e it ((i : Nat) : Int) old) ∧ h.IsTupleIter it a i ∧ e ≠ it) where
  mem := by simp
  obj := fun i h st b hb => by
    obtain ⟨⟨old, he⟩, ⟨o, ho, hc, hd⟩, _⟩ := st
    have e' : b = e ∨ b = it := by simpa using hb
    rcases e' with z | z
    · rw [z]; exact ⟨_, he, fun v q => nomatch q⟩
    · rw [z]; exact ⟨o, ho, fun v q => by rw [hd] at q; cases q⟩
  keep := fun i h h' st k => let ⟨⟨old, he⟩, hi, hne⟩ := st; ⟨⟨old, k e (by simp) _ he⟩, hi.at fun o q => k it (by simp) o q, hne⟩
  item := by
    intro X hP hw hK hc i pins s σ H E I hf st hg
    subst hP hw hK
    obtain ⟨⟨old, he⟩, hit, hne⟩ := st
    obtain ⟨xs, x, hq, hx⟩ := hg
    obtain ⟨its, rv, p, hz⟩ := I.tuple hq
    obtain ⟨u, hu, ru⟩ := rv.get hx
    have hel : e < s.heap.objs.size := Heap.lt_size he
    have hil : it < s.heap.objs.size := by obtain ⟨_, q, _⟩ := hit; exact Heap.lt_size q
    have hpT : s.heap.IsTuple a its.toArray := p
    have hlt : i < its.toArray.size := by
      have := (List.getElem?_eq_some_iff.mp hu).1
      simpa using this
    have hae : a ≠ e := fun q => by
      subst q
      obtain ⟨o, ho, hc', _⟩ := hpT
      rw [show s.heap.get? a = some _ from he] at ho
      cases ho
      injection hc' with q
      exact absurd q (by decide)
    have hai : a ≠ it := fun q => by
      subst q
      obtain ⟨o, ho, hc', _⟩ := hpT
      obtain ⟨o2, ho2, hc2, _⟩ := hit
      rw [ho2] at ho
      cases ho
      rw [hc2] at hc'
      injection hc' with q
      exact absurd q (by decide)
    have D := Draws.tuple (prog := X.prog) (w := X.w) (A := X.A.in1) (I.ok.hd hc) it a hai its.toArray
    refine wpAny_pyNext_enum_itemD D he ⟨hit, hpT⟩ hlt hne (by simp; exact ⟨hne, fun q => hae q.symm⟩) fun x' h' tk hPx ho st' hT hsz hk => ?_
    obtain ⟨hit', _⟩ := st'
    have hx' : x' = u := by
      have : its.toArray[i]? = some u := by simpa using hu
      rw [this] at hPx
      cases hPx; rfl
    subst hx'
    refine ⟨_, rfl, wpAny_letOwnedTupleGo_enum (s := { s with heap := h', toks := tk + 1 }) ho fun h'' he' sb => ?_⟩
    have hT2 : h''.get? s.heap.objs.size = some { cls := .type "tuple", data := .seq #[.int i tk, x'] } := (sb.2 _ (Nat.ne_of_gt hel)).trans hT
    have new : ObjOk X.prog X.w (upd H s.heap.objs.size (.tup [.int (i : Nat), x])) h'' s.heap.objs.size (.tup [.int (i : Nat), x]) :=
      ⟨by show 2 ≤ sizeLine; decide, [.int i tk, x'], .cons ⟨_, rfl⟩ (.cons ru .nil), ⟨_, hT2, rfl, _, rfl⟩⟩
    have I1 : Inv X pins σ (upd H s.heap.objs.size (.tup [.int (i : Nat), x])) { s with heap := h'', toks := tk + 1 } :=
      I.turnedNew (ch := [e, it]) (fun b ob hb q => (sb.2 b (fun z => hb (by simp [z]))).trans (hk b ob (fun z => hb (by simp [z])) (fun z => hb (by simp [z])) q)) hf (Nat.le_refl _) new
    refine ⟨.ref s.heap.objs.size, _, I1, rfl, ⟨_, x, rfl, I.hok.fresh (Nat.le_refl _), rfl, fun ys hy => ?_⟩, ⟨⟨x', ?_⟩, hit'.at fun o q => (sb.2 it (Ne.symm hne)).trans q, hne⟩, fun b hb => ?_⟩
    · obtain ⟨its2, rv2, p2, _⟩ := I.tuple hy
      have e2 : its = its2 := by
        obtain ⟨o, ho, _, m, hd⟩ := p
        obtain ⟨o2, ho2, _, m2, hd2⟩ := p2
        rw [ho] at ho2; cases ho2
        rw [hd] at hd2
        have := (Data.seq.inj hd2).1
        simpa using this
      subst e2
      have e3 : ys = xs := by first | exact I.tuple_inj hy hq | exact vals_inj rv2 rv
      rw [e3]; exact hx
    · have e1 : ((i + 1 : Nat) : Int) = (i : Int) + 1 := by omega
      rw [e1]; exact he'
    · have hb' : b < s.heap.objs.size := by
        have e' : b = e ∨ b = it := by simpa using hb
        rcases e' with z | z
        · rw [z]; exact hel
        · rw [z]; exact hil
      rw [upd_ne (Nat.ne_of_lt hb')]
      exact (hf b hb).1
  done := by
    intro X hP hw hK hc i pins s σ H E I hf st hg
    subst hP hw hK
    obtain ⟨⟨old, he⟩, hit, hne⟩ := st
    obtain ⟨xs, hq, hx⟩ := hg
    obtain ⟨its, rv, p, hz⟩ := I.tuple hq
    obtain ⟨f0, f1, f2, f3, f4, f5⟩ := hf it (by simp)
    have hl := rv.length
    have hpT : s.heap.IsTuple a its.toArray := p
    exact enum_endT (I.ok.hd hc) he hit hpT (by simp; omega) fun h' eb => ⟨rfl, I.turned (t' := s.toks) (fun b o hb q => eb b o hb q) f0 f1 f3 f4 f5⟩
  self := fun A i s Q E st h => let ⟨⟨_, he⟩, _⟩ := st; wpAny_pyIter_enum he h
def iEnumT (K : PySem.W.Frag) (ta : TA) : TI := fun σ H R => ta σ H fun vs H1 => ∃ a xs, vs = [.ref a] ∧ SqT K H1 a xs ∧ R (IteT K a) H1
theorem pi_enumT {X : Cx} {e : Expr} {ta : TA} {p pos tpos : Pos} {elts : List Expr} {kk : Nat} (hg : Gl X "enumerate") (hm : X.mg "enumerate" = none) (ha : PA X [e] ta) (hs : starEach [e] X.env = [(false, eval e X.env)] := by rfl) :
    PI X (.Tuple elts kk tpos) (.Call (.Name "enumerate" p) [e] [] pos) (iEnumT X.K ta) := by
  refine ⟨fun pins s σ H R I h => ?_⟩
  refine Call_ (ld_blt I hg hm boot_enumerate (PyProof.Rows.callWith_type1 (thn (ha.run pos pins s σ H _ I h) fun us s1 ⟨vs, H1, I1, r1, q1⟩ => ?_) hs rfl))
  obtain ⟨a, xs, ex, hq, q⟩ := q1
  subst ex
  cases r1 with
  | cons r rr =>
    cases rr
    cases r
    obtain ⟨its, rv, p', hz⟩ := I1.tuple hq
    refine call_enumT (show s1.heap.IsTuple a its.toArray from p') fun h' he hit hsz hk => wpAny_pyIter_enum he ?_
    have I2 : Inv X pins σ H1 { s1 with heap := h' } := I1.kept (t' := s1.toks) hk
    refine ⟨s1.heap.objs.size + 1, [s1.heap.objs.size + 1, s1.heap.objs.size], _, _, H1, rfl, I2, turn_enumT a (s1.heap.objs.size + 1) s1.heap.objs.size, ⟨⟨.none, he⟩, hit, Nat.succ_ne_self _⟩, fun b hb => ?_, q⟩
    have e' : b = s1.heap.objs.size + 1 ∨ b = s1.heap.objs.size := by simpa using hb
    have hle : s1.heap.objs.size ≤ b := by
      rcases e' with z | z
      · rw [z]; exact Nat.le_add_right _ _
      · rw [z]; exact Nat.le_refl _
    exact I1.fpOk hle (I1.hok.fresh hle)
end Itp

namespace Itp
open PySem L2
section
variable {X : Cx} {cl : Nat → Addr} {c : Oracle} {g : G} {p : Pl} {n : Nat}
/-! ### what is walked -/
section
variable {K : PySem.W.Frag} {μ : List Addr} {Z : Addr → Prop} {S : Store} {H : Hp} {x : Val} {v : V} {xs : List Val}
theorem seq_atL (s : Sim K cl μ Z S H) (r : Rel K cl μ Z H x v) (h : seqOf S x = some xs) (hn : ∀ ys, x ≠ .tup ys) : ∃ a vs, v = .ref a ∧ SqL K H a vs ∧ RelL K cl μ Z H xs vs := by
  cases r with
  | tup h1 h2 h3 h4 => exact absurd rfl (hn _)
  | lv h1 h2 h3 h4 => cases h; exact ⟨_, _, rfl, .inl (.inl h3), h4⟩
  | sl h1 h5 => cases h; exact ⟨_, _, rfl, h1.sq, h5⟩
  | @ref n a h1 =>
    have h : (match S[n]? with | some (.lst xs) => some xs | _ => none) = some xs := h
    split at h
    · rename_i ys e
      cases h
      obtain ⟨vs, q1, q2⟩ := s.ob _ _ _ h1 e
      exact ⟨a, vs, rfl, .inl (.inl q1), q2⟩
    · cases h
  | _ => cases h
theorem wk_list {a : Addr} {x : Val} (hn : ∀ ys, x ≠ .tup ys) : Wk K cl (Itl K a) .seq [x] [.ref a] := by
  intro i Z μ S H xs sm rl hi
  cases rl with
  | cons r _ =>
    have hi : seqOf S x = some xs := hi
    obtain ⟨b, vs, e, q, rv⟩ := seq_atL sm r hi hn
    cases e
    refine ⟨fun y hy => ?_, fun hl => ⟨vs, q, by rw [← rv.length]; exact hl⟩⟩
    obtain ⟨w, hw, rw'⟩ := rv.get hy
    refine ⟨⟨vs, w, q, hw⟩, fun w' H' hy' => ?_⟩
    obtain ⟨rfl, hw'⟩ := hy'
    have e := hw' vs q
    rw [hw] at e; cases e
    exact ⟨Stp.refl sm, rw'⟩
theorem wk_tup {a : Addr} {ys : List Val} : Wk K cl (Itt K a) .seq [.tup ys] [.ref a] := by
  intro i Z μ S H xs sm rl hi
  cases rl with
  | cons r _ =>
    cases r with
    | @tup _ _ vs h1 h2 h3 h4 =>
      cases hi
      have q : SqT K H a vs := .inl (.inl h3)
      refine ⟨fun y hy => ?_, fun hl => ⟨vs, q, by rw [← h4.length]; exact hl⟩⟩
      obtain ⟨w, hw, rw'⟩ := h4.get hy
      refine ⟨⟨vs, w, q, hw⟩, fun w' H' hy' => ?_⟩
      obtain ⟨rfl, hw'⟩ := hy'
      have e := hw' vs q
      rw [hw] at e; cases e
      exact ⟨Stp.refl sm, rw'⟩
theorem range_get {lo : Int} {m i : Nat} {x : Val} (h : (rangeOf lo m)[i]? = some x) : i < m ∧ x = .int (lo + (i : Int)) := by
  unfold rangeOf at h
  rw [List.getElem?_map] at h
  by_cases hi : i < m
  · rw [List.getElem?_range hi] at h
    cases h
    exact ⟨hi, rfl⟩
  · rw [List.getElem?_eq_none (by simpa using hi)] at h
    cases h
theorem range_len {lo : Int} {m : Nat} : (rangeOf lo m).length = m := by simp [rangeOf]
theorem enum_get : ∀ {ys : List Val} {j i : Nat} {x : Val}, (enumFrom j ys)[i]? = some x → ∃ y, ys[i]? = some y ∧ x = .tup [.int ((j + i : Nat) : Int), y]
  | [], _, _, _, h => by simp [enumFrom] at h
  | y :: r, j, 0, x, h => by simp [enumFrom] at h; subst h; exact ⟨y, rfl, rfl⟩
  | y :: r, j, i + 1, x, h => by
    simp [enumFrom] at h
    obtain ⟨z, h1, h2⟩ := enum_get h
    refine ⟨z, by simpa using h1, ?_⟩
    rw [h2, show j + 1 + i = j + (i + 1) by omega]
theorem enum_len : ∀ {ys : List Val} {j : Nat}, (enumFrom j ys).length = ys.length
  | [], _ => rfl
  | _ :: r, j => by simp [enumFrom, enum_len]
theorem zip_get : ∀ {xs ys : List Val} {i : Nat} {x : Val}, (zipV xs ys)[i]? = some x → ∃ a b, xs[i]? = some a ∧ ys[i]? = some b ∧ x = .tup [a, b]
  | [], _, _, _, h => by simp [zipV] at h
  | _ :: _, [], _, _, h => by simp [zipV] at h
  | a :: r, b :: q, 0, x, h => by simp [zipV] at h; subst h; exact ⟨a, b, rfl, rfl, rfl⟩
  | a :: r, b :: q, i + 1, x, h => by
    simp [zipV] at h
    obtain ⟨a', b', h1, h2, h3⟩ := zip_get h
    exact ⟨a', b', by simpa using h1, by simpa using h2, h3⟩
theorem zip_len : ∀ {xs ys : List Val}, (zipV xs ys).length = min xs.length ys.length
  | [], _ => by simp [zipV]
  | _ :: _, [] => by simp [zipV]
  | _ :: r, _ :: q => by
    simp only [zipV, List.length_cons, zip_len]
    omega
theorem wk_enum {a : Addr} {x : Val} (hn : ∀ ys, x ≠ .tup ys) : Wk K cl (Ite K a) .enum [x] [.ref a] := by
  intro i Z μ S H xs sm rl hi
  cases rl with
  | cons r _ =>
    have hi : (seqOf S x).map (enumFrom 0) = some xs := hi
    obtain ⟨ys, e0, rfl⟩ := Option.map_eq_some_iff.mp hi
    obtain ⟨b, vs, e, q, rv⟩ := seq_atL sm r e0 hn
    cases e
    refine ⟨fun y hy => ?_, fun hl => ⟨vs, q, by rw [← rv.length, ← enum_len (j := 0)]; exact hl⟩⟩
    obtain ⟨z, hz, rfl⟩ := enum_get hy
    obtain ⟨w, hw, rw'⟩ := rv.get hz
    refine ⟨⟨vs, w, q, hw⟩, fun w' H' hy' => ?_⟩
    obtain ⟨T, x', rfl, hT, rfl, hx'⟩ := hy'
    have e := hx' vs q
    rw [hw] at e; cases e
    refine ⟨Stp.laid sm hT, .tup (sm.free hT).1 (sm.free hT).2 upd_same ?_⟩
    rw [Nat.zero_add]
    exact RelL.laid (.cons (.int _) (.cons rw' .nil)) hT
theorem items_zip {S : Store} {x y : Val} (hn : ∀ xs ys, ¬ (x = .tup xs ∧ y = .tup ys)) : itemsOf S .zip [x, y] = (lstOf S x).bind (fun xs => (lstOf S y).map fun ys => zipV xs ys) := by
  cases x <;> cases y <;> first | rfl | exact absurd ⟨rfl, rfl⟩ (hn _ _)
theorem wk_zipL {a b : Addr} {x y : Val} (hn : ∀ xs ys, ¬ (x = .tup xs ∧ y = .tup ys)) : Wk K cl (Itz K a b) .zip [x, y] [.ref a, .ref b] := by
  intro i Z μ S H xs sm rl hi
  cases rl with
  | cons r1 rl =>
    cases rl with
    | cons r2 _ =>
      rw [items_zip hn] at hi
      obtain ⟨us, e1, hi⟩ := Option.bind_eq_some_iff.mp hi
      obtain ⟨ws, e2, rfl⟩ := Option.map_eq_some_iff.mp hi
      obtain ⟨a', vs, e, ha, rv⟩ := lst_at sm r1 e1
      cases e
      obtain ⟨b', vs', e, hb, rv'⟩ := lst_at sm r2 e2
      cases e
      have qa : SqL K H a vs := .inl (.inl ha)
      have qb : SqL K H b vs' := .inl (.inl hb)
      refine ⟨fun z hz => ?_, fun hl => ⟨vs, vs', qa, qb, ?_⟩⟩
      · obtain ⟨z1, z2, hz1, hz2, rfl⟩ := zip_get hz
        obtain ⟨w1, hw1, rw1⟩ := rv.get hz1
        obtain ⟨w2, hw2, rw2⟩ := rv'.get hz2
        refine ⟨⟨vs, vs', w1, w2, qa, qb, hw1, hw2⟩, fun w' H' hy' => ?_⟩
        obtain ⟨T, x1, x2, rfl, hT, rfl, f1, f2⟩ := hy'
        have e := f1 vs qa
        rw [hw1] at e; cases e
        have e := f2 vs' qb
        rw [hw2] at e; cases e
        exact ⟨Stp.laid sm hT, .tup (sm.free hT).1 (sm.free hT).2 upd_same (RelL.laid (.cons rw1 (.cons rw2 .nil)) hT)⟩
      · rw [zip_len] at hl
        rw [← rv.length, ← rv'.length]
        omega
theorem wk_zipT {a b : Addr} {us ws : List Val} : Wk K cl (RZ.ItzT K a b) .zip [.tup us, .tup ws] [.ref a, .ref b] := by
  intro i Z μ S H xs sm rl hi
  cases rl with
  | cons r1 rl =>
    cases rl with
    | cons r2 _ =>
      cases hi
      cases r1 with
      | @tup _ _ vs h1 h2 ha rv =>
        cases r2 with
        | @tup _ _ vs' g1 g2 hb rv' =>
          have qa : SqT K H a vs := .inl (.inl ha)
          have qb : SqT K H b vs' := .inl (.inl hb)
          refine ⟨fun z hz => ?_, fun hl => ⟨vs, vs', qa, qb, ?_⟩⟩
          · obtain ⟨z1, z2, hz1, hz2, rfl⟩ := zip_get hz
            obtain ⟨w1, hw1, rw1⟩ := rv.get hz1
            obtain ⟨w2, hw2, rw2⟩ := rv'.get hz2
            refine ⟨⟨vs, vs', w1, w2, qa, qb, hw1, hw2⟩, fun w' H' hy' => ?_⟩
            obtain ⟨T, x1, x2, rfl, hT, rfl, f1, f2⟩ := hy'
            have e := f1 vs qa
            rw [hw1] at e; cases e
            have e := f2 vs' qb
            rw [hw2] at e; cases e
            exact ⟨Stp.laid sm hT, .tup (sm.free hT).1 (sm.free hT).2 upd_same (RelL.laid (.cons rw1 (.cons rw2 .nil)) hT)⟩
          · rw [zip_len] at hl
            rw [← rv.length, ← rv'.length]
            omega
end
theorem itp_seq {e : E} {piter ptg : Expr} (h : PE X piter (tI X.K cl c e)) : PI X ptg piter (tW X.K cl c .seq (.cons e .nil)) := by
  refine PI.imp (PI.or (pi_list h) (pi_tup h)) ?_
  rintro σ H R ⟨μ, Z, S, ρ, vs, S', xs, sm, re, ev, hi, k⟩
  unfold evL at ev
  obtain ⟨⟨v, S1⟩, e1, ev⟩ := Option.bind_eq_some_iff.mp ev
  unfold evL at ev
  cases ev
  have hs : seqOf S' v = some xs := hi
  by_cases ht : ∃ ys, v = .tup ys
  · obtain ⟨ys, rfl⟩ := ht
    refine .inr ⟨μ, Z, S, ρ, _, _, sm, re, e1, fun μ1 H1 w st r => ?_⟩
    cases r with
    | tup h1 h2 h3 h4 => exact ⟨_, rfl, ⟨_, .inl (.inl h3)⟩, k μ1 H1 _ _ st (.cons (.tup h1 h2 h3 h4) .nil) wk_tup⟩
  · have hn : ∀ ys, v ≠ .tup ys := fun ys e => ht ⟨ys, e⟩
    refine .inl ⟨μ, Z, S, ρ, _, _, sm, re, e1, fun μ1 H1 w st r => ?_⟩
    obtain ⟨a, vs, rfl, q, _⟩ := seq_atL st.sm r hs hn
    exact ⟨a, rfl, ⟨vs, q⟩, k μ1 H1 _ _ st (.cons r .nil) (wk_list hn)⟩
theorem nm_ok (k : ItK) (h : k ≠ .seq) : (k.nm == ("__debug__" : Str)) = false := by cases k <;> first | decide +kernel | exact absurd rfl h
theorem items_r1 {S : Store} {v : Val} {xs : List Val} (h : itemsOf S .range [v] = some xs) : ∃ m : Int, v = .int m ∧ (m < 2 ^ 62 ∧ -2 ^ 62 ≤ m) ∧ xs = rangeOf 0 m.toNat := by
  cases v with
  | int m =>
    have h : (if m < 2 ^ 62 ∧ -2 ^ 62 ≤ m then some (rangeOf 0 m.toNat) else none) = some xs := h
    split at h
    · rename_i q; cases h; exact ⟨m, rfl, q, rfl⟩
    · cases h
  | _ => cases h
theorem items_r2 {S : Store} {v w : Val} {xs : List Val} (h : itemsOf S .range [v, w] = some xs) : ∃ a b : Int, v = .int a ∧ w = .int b ∧ xs = rangeOf a (b - a).toNat := by
  cases v with
  | int a =>
    cases w with
    | int b =>
      cases h
      exact ⟨a, b, rfl, rfl, rfl⟩
    | _ => cases h
  | _ => cases h
def downOf (a b : Int) : List Val := (List.range (a - b).toNat).map fun (i : Nat) => Val.int (a - (i : Int))
theorem items_r3 {S : Store} {v w u : Val} {xs : List Val} (h : itemsOf S .range [v, w, u] = some xs) : ∃ a b : Int, v = .int a ∧ w = .int b ∧ u = .int (-1) ∧ ((-2 ^ 62 ≤ a ∧ a < 2 ^ 62) ∧ -2 ^ 62 ≤ b ∧ b < 2 ^ 62) ∧ xs = downOf a b := by
  cases v with
  | int a =>
    cases w with
    | int b =>
      cases u with
      | int t =>
        have h : (if t = -1 ∧ (-2 ^ 62 ≤ a ∧ a < 2 ^ 62) ∧ -2 ^ 62 ≤ b ∧ b < 2 ^ 62 then some (downOf a b) else none) = some xs := h
        split at h
        · rename_i q; cases h; exact ⟨a, b, rfl, rfl, by rw [q.1], q.2, rfl⟩
        · cases h
      | _ => cases h
    | _ => cases h
  | _ => cases h
/-! ### ranges of any numbers -/
theorem turn_far {P : Program} {w : World} {K : PySem.W.Frag} {tg : Expr} (r : Addr) (a : Int) (n : Nat) : Turn P w K tg (Itr a n) [r] r (fun i h => IsLongIter h r (a + (i : Nat) * 1) ((n : Int) - (i : Nat)) 1) where
  mem := List.mem_singleton.mpr rfl
  obj := fun i h st q hq => by
    obtain rfl := List.mem_singleton.mp hq
    exact ⟨_, st, fun v z => by
      have z2 : Data.fields _ = Data.cell v := z
      cases z2⟩
  keep := fun i h h' st k => k r (List.mem_singleton.mpr rfl) _ st
  item := by
    intro Y y1 y2 y3 y4 i pins s σ H E J hf st hg
    subst y1 y2 y3
    obtain ⟨b0, b1, b2, b3, b4, b5⟩ := hf r (List.mem_singleton.mpr rfl)
    refine (Walks.longrange (prog := Y.prog) (w := Y.w) (J.ok.hd y4) r a 1 n).item i s _ _ hg st fun v g tk hv st' kk => ?_
    obtain ⟨t, rfl⟩ := hv
    have J1 : Inv Y pins σ H { s with heap := g, toks := tk } := J.turned (fun q o hq e => kk q o (by simpa using hq) e) b0 b1 b3 b4 b5
    refine ⟨_, rfl, go_of (s := { s with heap := g, toks := tk }) (n := "longrange_iterator") st' rfl rfl (by decide) ⟨.int (a + i), H, J1, ⟨t, by rw [Int.mul_one]⟩, ⟨rfl, rfl⟩, st', fun q hq => (hf q hq).1⟩⟩
  done := by
    intro Y y1 y2 y3 y4 i pins s σ H E J hf st hg
    subst y1 y2 y3
    obtain ⟨b0, b1, b2, b3, b4, b5⟩ := hf r (List.mem_singleton.mpr rfl)
    have hg : n ≤ i := hg
    exact wpAny_pyNext_long_end (J.ok.hd y4) st (by omega) fun g eb => ⟨rfl, J.turned (t' := s.toks) (fun q o hq e => eb q o hq e) b0 b1 b3 b4 b5⟩
  self := fun _ _ _ _ _ st h => wpAny_pyIter_longiter st h
theorem range_walk {X : Cx} {tg : Expr} {pins : List (Addr × Obj)} {σ : L2.St} {H : Hp} {s : Shared} {R : It → Hp → Prop} {E : Value → Shared → Prop} {a b : Int} {t u v : Tok} {tk : Nat} (J : Inv X pins σ H s) (q : R (Itr a (b - a).toNat) H) :
    wpAny (model X.prog X.w) X.A (pyIter (.ref s.heap.objs.size)) (PIE X pins σ tg R) E { s with heap := s.heap.push { cls := .type "range", data := .fields #[.int a t, .int b u, .int 1 v] }, toks := tk } := by
  have J1 : Inv X pins σ H { s with heap := s.heap.push { cls := .type "range", data := .fields #[.int a t, .int b u, .int 1 v] }, toks := tk } := J.kept fun q o e => Heap.get?_push_of_some _ e
  obtain ⟨z, hz⟩ : ∃ z, z = (s.heap.push { cls := .type "range", data := .fields #[.int a t, .int b u, .int 1 v] }).objs.size := ⟨_, rfl⟩
  have e1 : a + ((0 : Nat) : Int) * 1 = a := by simp
  have e2 : (((b - a).toNat : Nat) : Int) - ((0 : Nat) : Int) = Builtin.Range.rangeSize a b 1 := by rw [rangeSize_one]; split <;> omega
  have fp : ∀ q ∈ [z], FpOk X pins H q := fun q hq => by
    have e : q = z := by simpa using hq
    rw [e, hz]
    exact J1.fpOk (Nat.le_refl _) (J1.hok.fresh (Nat.le_refl _))
  cases sm : Builtin.Range.small a b 1 with
  | true =>
    refine wpAny_pyIter_range (IsRange.new ..) sm ?_
    rw [hz] at fp
    refine ⟨_, _, _, _, H, rfl, J1.kept (t' := tk) fun q o e => Heap.get?_push_of_some _ e, turn_range _ a (b - a).toNat, ?_, fp, q⟩
    show IsRangeIter _ _ (a + ((0 : Nat) : Int) * 1) ((((b - a).toNat : Nat) : Int) - ((0 : Nat) : Int)) 1
    rw [e1, e2]
    exact Heap.get?_push_size _ rfl
  | false =>
    refine wpAny_pyIter_longrange (IsRange.new ..) sm ?_
    rw [hz] at fp
    refine ⟨_, _, _, _, H, rfl, J1.kept (t' := tk) fun q o e => Heap.get?_push_of_some _ e, turn_far _ a (b - a).toNat, ?_, fp, q⟩
    show IsLongIter _ _ (a + ((0 : Nat) : Int) * 1) ((((b - a).toNat : Nat) : Int) - ((0 : Nat) : Int)) 1
    rw [e1, e2]
    exact Heap.get?_push_size _ rfl
open PyProof.Rows in
theorem range_far {X : Cx} {tg : Expr} {a b : Expr} {ta : TA} {p pos : Pos} (hg : Gl X "range") (hm : X.mg "range" = none) (ha : PA X [a, b] ta) (hs : starEach [a, b] X.env = [(false, eval a X.env), (false, eval b X.env)]) (hs2 : starEach [b] X.env = [(false, eval b X.env)]) :
    PI X tg (.Call (.Name "range" p) [a, b] [] pos) (fun σ H R => ta σ H fun vs H1 => ∃ i j : Int, vs = [.int i, .int j] ∧ R (Itr i (j - i).toNat) H1) := by
  refine ⟨fun pins s σ H R J h => Call_ (ld_blt J hg hm boot_range (PyProof.Rows.callWith_type1 (thn (ha.run pos pins s σ H _ J h) fun us s1 ⟨vs, H1, J1, r1, q1⟩ => ?_) (by rw [hs, hs2]) (by rw [hs2]; rfl)))⟩
  obtain ⟨i, j, rfl, q⟩ := q1
  cases r1 with
  | cons r rr =>
    cases rr with
    | cons r' rr =>
      cases rr
      obtain ⟨t, rfl⟩ := r
      obtain ⟨t', rfl⟩ := r'
      exact call_range_2 (range_walk J1 q)
theorem rgc_neg {a b : Int} (h : (-2 ^ 62 ≤ a ∧ a < 2 ^ 62) ∧ -2 ^ 62 ≤ b ∧ b < 2 ^ 62) : RgC a b (-1) (a - b).toNat := RgC.neg h.1.1 h.1.2 h.2.1 h.2.2
theorem itp_range (ok : Ok X g p cl c n) {es : EL} {pes : List Expr} {ptg : Expr} {p0 pos : Pos} (hg : glob p.sc "range" = true) (hb : g.bl.contains (Str.ofString "range") = true) (h1 : 1 ≤ pes.length) (h3 : pes.length ≤ 3) (hc : chkL g p es pes = true) (h : PA X pes (tA X.K cl c es)) :
    PI X ptg (.Call (.Name "range" p0) pes [] pos) (tW X.K cl c .range es) := by
  match pes, h1, h3 with
  | [a], _, _ =>
    obtain ⟨hn, e0, es0, rfl, q1, q2⟩ := chkL_hd hc
    refine PI.imp (pi_range1 (glob_of ok hg) (ok.bl _ hb) h (starEach_cons hn)) ?_
    rintro σ H R ⟨μ, Z, S, ρ, vs, S', xs, sm, re, ev, hi, k⟩
    have hl := evL_len hc ev
    match vs, hl with
    | [v], _ =>
      obtain ⟨m, rfl, hm, rfl⟩ := items_r1 hi
      refine ⟨μ, Z, S, ρ, _, S', sm, re, ev, fun μ1 H1 ws st r => ?_⟩
      cases r with
      | cons r rr =>
        cases rr; cases r
        refine ⟨m, rfl, hm.2, hm.1, k μ1 H1 _ _ st (.cons (.int _) .nil) ?_⟩
        intro i Z μ S H xs sm rl hi
        obtain ⟨m', e, hm', rfl⟩ := items_r1 hi
        cases e
        refine ⟨fun x hx => ?_, fun hl => by rw [range_len] at hl; exact hl⟩
        obtain ⟨q1, rfl⟩ := range_get hx
        refine ⟨q1, fun w H' hy => ?_⟩
        obtain ⟨rfl, rfl⟩ := hy
        exact ⟨Stp.refl sm, .int _⟩
  | [a, b], _, _ =>
    obtain ⟨hn, e0, es0, rfl, q1, q2⟩ := chkL_hd hc
    obtain ⟨hn2, e1, es1, rfl, q3, q4⟩ := chkL_hd q2
    refine PI.imp (range_far (glob_of ok hg) (ok.bl _ hb) h (by rw [starEach_cons hn, starEach_cons hn2]; rfl) (starEach_cons hn2)) ?_
    rintro σ H R ⟨μ, Z, S, ρ, vs, S', xs, sm, re, ev, hi, k⟩
    have hl := evL_len hc ev
    match vs, hl with
    | [v, w], _ =>
      obtain ⟨a', b', rfl, rfl, rfl⟩ := items_r2 hi
      refine ⟨μ, Z, S, ρ, _, S', sm, re, ev, fun μ1 H1 ws st r => ?_⟩
      cases r with
      | cons r rr =>
        cases rr with
        | cons r' rr =>
          cases rr; cases r; cases r'
          refine ⟨a', b', rfl, k μ1 H1 _ _ st (.cons (.int _) (.cons (.int _) .nil)) ?_⟩
          intro i Z μ S H xs sm rl hi
          obtain ⟨m', m'', e, e', rfl⟩ := items_r2 hi
          cases e; cases e'
          refine ⟨fun x hx => ?_, fun hl => by rw [range_len] at hl; exact hl⟩
          obtain ⟨q1, rfl⟩ := range_get hx
          refine ⟨q1, fun w H' hy => ?_⟩
          obtain ⟨rfl, rfl⟩ := hy
          exact ⟨Stp.refl sm, .int _⟩
  | [a, b, d], _, _ =>
    obtain ⟨hn, e0, es0, rfl, q1, q2⟩ := chkL_hd hc
    refine PI.imp (pi_range3 (glob_of ok hg) (ok.bl _ hb) h (starEach_cons hn) (star_any q2)) ?_
    rintro σ H R ⟨μ, Z, S, ρ, vs, S', xs, sm, re, ev, hi, k⟩
    have hl := evL_len hc ev
    match vs, hl with
    | [v, w, u], _ =>
      obtain ⟨a', b', rfl, rfl, rfl, hm, rfl⟩ := items_r3 hi
      refine ⟨μ, Z, S, ρ, _, S', sm, re, ev, fun μ1 H1 ws st r => ?_⟩
      cases r with
      | cons r rr =>
        cases rr with
        | cons r' rr =>
          cases rr with
          | cons r'' rr =>
            cases rr; cases r; cases r'; cases r''
            refine ⟨a', b', -1, (a' - b').toNat, rfl, rgc_neg hm, k μ1 H1 _ _ st (.cons (.int _) (.cons (.int _) (.cons (.int _) .nil))) ?_⟩
            intro i Z μ S H xs sm rl hi
            obtain ⟨m', m'', e, e', _, hm', rfl⟩ := items_r3 hi
            cases e; cases e'
            refine ⟨fun x hx => ?_, fun hl => ?_⟩
            rotate_left
            · have e : (downOf a' b').length = (a' - b').toNat := by simp [downOf]
              rw [e] at hl
              exact hl
            unfold downOf at hx
            rw [List.getElem?_map] at hx
            by_cases hi : i < (a' - b').toNat
            · rw [List.getElem?_range hi] at hx
              cases hx
              refine ⟨hi, fun w H' hy => ?_⟩
              obtain ⟨rfl, rfl⟩ := hy
              refine ⟨Stp.refl sm, ?_⟩
              have e : a' + (i : Int) * (-1) = a' - (i : Int) := by omega
              rw [e]
              exact .int _
            · rw [List.getElem?_eq_none (by simpa using hi)] at hx
              cases hx
theorem wk_enumT {K : PySem.W.Frag} {a : Addr} {us : List Val} : Wk K cl (IteT K a) .enum [.tup us] [.ref a] := by
  intro i Z μ S H xs sm rl hi
  cases rl with
  | cons r _ =>
    cases hi
    cases r with
    | @tup _ _ vs h1 h2 h3 rv =>
      have q : SqT K H a vs := .inl (.inl h3)
      refine ⟨fun y hy => ?_, fun hl => ⟨vs, q, by rw [← rv.length, ← enum_len (j := 0)]; exact hl⟩⟩
      obtain ⟨z, hz, rfl⟩ := enum_get hy
      obtain ⟨w, hw, rw'⟩ := rv.get hz
      refine ⟨⟨vs, w, q, hw⟩, fun w' H' hy' => ?_⟩
      obtain ⟨T, x', rfl, hT, rfl, hx'⟩ := hy'
      have e := hx' vs q
      rw [hw] at e; cases e
      refine ⟨Stp.laid sm hT, .tup (sm.free hT).1 (sm.free hT).2 upd_same ?_⟩
      rw [Nat.zero_add]
      exact RelL.laid (.cons (.int _) (.cons rw' .nil)) hT
theorem itp_enum (ok : Ok X g p cl c n) {es : EL} {pe : Expr} {elts : List Expr} {kk : Nat} {tpos p0 pos : Pos} (hg : glob p.sc "enumerate" = true) (hb : g.bl.contains (Str.ofString "enumerate") = true) (hc : chkL g p es [pe] = true) (h : PA X [pe] (tA X.K cl c es)) :
    PI X (.Tuple elts kk tpos) (.Call (.Name "enumerate" p0) [pe] [] pos) (tW X.K cl c .enum es) := by
  obtain ⟨hn, _⟩ := chkL_hd hc
  refine PI.imp (PI.or (pi_enum (glob_of ok hg) (ok.bl _ hb) h (starEach_cons hn)) (pi_enumT (glob_of ok hg) (ok.bl _ hb) h (starEach_cons hn))) ?_
  rintro σ H R ⟨μ, Z, S, ρ, vs, S', xs, sm, re, ev, hi, k⟩
  have hl := evL_len hc ev
  match vs, hl with
  | [v], _ =>
    have hi : (seqOf S' v).map (enumFrom 0) = some xs := hi
    obtain ⟨ys, e0, rfl⟩ := Option.map_eq_some_iff.mp hi
    by_cases ht : ∃ ys, v = .tup ys
    · obtain ⟨ys, rfl⟩ := ht
      refine .inr ⟨μ, Z, S, ρ, _, _, sm, re, ev, fun μ1 H1 ws st r => ?_⟩
      cases r with
      | cons r rr =>
        cases rr
        cases r with
        | tup h1 h2 h3 h4 => exact ⟨_, _, rfl, .inl (.inl h3), k μ1 H1 _ _ st (.cons (.tup h1 h2 h3 h4) .nil) wk_enumT⟩
    · have hn : ∀ ys, v ≠ .tup ys := fun ys e => ht ⟨ys, e⟩
      refine .inl ⟨μ, Z, S, ρ, _, _, sm, re, ev, fun μ1 H1 ws st r => ?_⟩
      cases r with
      | cons r rr =>
        cases rr
        obtain ⟨a, vs, rfl, q, _⟩ := seq_atL st.sm r e0 hn
        exact ⟨a, vs, rfl, q, k μ1 H1 _ _ st (.cons r .nil) (wk_enum hn)⟩
theorem itp_zip (ok : Ok X g p cl c n) {es : EL} {pe pe2 : Expr} {elts : List Expr} {kk : Nat} {tpos p0 pos : Pos} (hg : glob p.sc "zip" = true) (hb : g.bl.contains (Str.ofString "zip") = true) (hc : chkL g p es [pe, pe2] = true) (h : PA X [pe, pe2] (tA X.K cl c es)) :
    PI X (.Tuple elts kk tpos) (.Call (.Name "zip" p0) [pe, pe2] [] pos) (tW X.K cl c .zip es) := by
  obtain ⟨hn, e0, es0, e1, q1, q2⟩ := chkL_hd hc
  refine PI.imp (RZ.pi_zipA (glob_of ok hg) (ok.bl _ hb) h (starEach_cons hn) (star_any q2)) ?_
  rintro σ H R ⟨μ, Z, S, ρ, vs, S', xs, sm, re, ev, hi, k⟩
  have hl := evL_len hc ev
  match vs, hl with
  | [v, w], _ =>
    refine ⟨μ, Z, S, ρ, _, _, sm, re, ev, fun μ1 H1 ws st r => ?_⟩
    cases r with
    | cons r rr =>
      cases rr with
      | cons r' rr =>
        cases rr
        by_cases ht : ∃ xs ys, v = .tup xs ∧ w = .tup ys
        · obtain ⟨xs, ys, rfl, rfl⟩ := ht
          cases r with
          | tup h1 h2 h3 h4 =>
            cases r' with
            | tup g1 g2 g3 g4 => exact ⟨_, _, _, _, rfl, .inr ⟨.inl (.inl h3), .inl (.inl g3), k μ1 H1 _ _ st (.cons (.tup h1 h2 h3 h4) (.cons (.tup g1 g2 g3 g4) .nil)) wk_zipT⟩⟩
        · have hn : ∀ xs ys, ¬ (v = .tup xs ∧ w = .tup ys) := fun xs ys e => ht ⟨xs, ys, e⟩
          rw [items_zip hn] at hi
          obtain ⟨us, e1, hi⟩ := Option.bind_eq_some_iff.mp hi
          obtain ⟨ws, e2, rfl⟩ := Option.map_eq_some_iff.mp hi
          obtain ⟨a', vs, rfl, ha, rv⟩ := lst_at st.sm r e1
          obtain ⟨b', vs', rfl, hb, rv'⟩ := lst_at st.sm r' e2
          exact ⟨a', b', vs, vs', rfl, .inl ⟨.inl (.inl ha), .inl (.inl hb), k μ1 H1 _ _ st (.cons r (.cons r' .nil)) (wk_zipL hn)⟩⟩
theorem items_zips {S : Store} {x y : Val} : itemsOf S .zips [x, y] = (lstOf S x).bind fun xs => (lstOf S y).bind fun ys => if xs.length = ys.length then some (zipV xs ys) else none := rfl
/-- what is walked stays what it is -/
theorem items_kept {S S' : Store} {k : ItK} {vs : List Val} (h : Kept (refsOf vs) S S') : itemsOf S' k vs = itemsOf S k vs := by
  have key : ∀ {x : Val}, (∀ n, x = .ref n → S'[n]? = S[n]?) → seqOf S' x = seqOf S x ∧ lstOf S' x = lstOf S x := by
    intro x hx
    cases x with
    | ref n => unfold seqOf lstOf; simp only [hx n rfl]; exact ⟨trivial, trivial⟩
    | _ => exact ⟨rfl, rfl⟩
  cases k with
  | seq =>
    match vs with
    | [] => rfl
    | [x] => exact (key fun n e => h n (by subst e; simp [refsOf])).1
    | _ :: _ :: _ => rfl
  | range =>
    unfold itemsOf
    split <;> first | rfl | (rename_i he; cases he) | (rename_i he1 he; cases he)
  | enum =>
    match vs with
    | [] => rfl
    | [x] =>
      show (seqOf S' x).map _ = (seqOf S x).map _
      rw [(key fun n e => h n (by subst e; simp [refsOf])).1]
    | _ :: _ :: _ => rfl
  | zip =>
    match vs with
    | [] => rfl
    | [x] => cases x <;> rfl
    | [x, y] =>
      have hx := key (x := x) fun n e => h n (by subst e; simp [refsOf])
      have hy := key (x := y) fun n e => h n (by
        subst e
        cases x <;> simp [refsOf])
      by_cases ht : ∃ xs ys, x = .tup xs ∧ y = .tup ys
      · obtain ⟨xs, ys, rfl, rfl⟩ := ht; rfl
      · have hn : ∀ xs ys, ¬ (x = .tup xs ∧ y = .tup ys) := fun xs ys e => ht ⟨xs, ys, e⟩
        rw [items_zip hn, items_zip hn, hx.2, hy.2]
    | x :: y :: _ :: _ => cases x <;> cases y <;> rfl
  | zips =>
    match vs with
    | [] => rfl
    | [x] => cases x <;> rfl
    | [x, y] =>
      have hx := key (x := x) fun n e => h n (by subst e; simp [refsOf])
      have hy := key (x := y) fun n e => h n (by
        subst e
        cases x <;> simp [refsOf])
      rw [items_zips, items_zips, hx.2, hy.2]
    | x :: y :: _ :: _ => cases x <;> cases y <;> rfl
end
end Itp

namespace Itp
open PySem L2
section
variable {K : PySem.W.Frag} {cl : Nat → Addr} {μ μ' μ1 μ2 : List Addr} {Z : Addr → Prop} {S S' S1 S2 : Store} {H H' H1 H2 : Hp} {a p : Addr} {o : HO}
theorem updZ_keep (hz : Z p) : ∀ a u, H a = some u → a ∉ μ → ¬ Z a → a ∉ μ ∧ ¬ Z a ∧ upd H p o a = some u := fun a u e n z => by
  have ne : a ≠ p := fun q => z (q ▸ hz)
  exact ⟨n, z, by rw [upd_ne ne]; exact e⟩
theorem Sim.updZ (s : Sim K cl μ Z S H) (hz : Z p) : Sim K cl μ Z S (upd H p o) := by
  refine ⟨s.len, s.nd, fun n a ob h1 h2 => (s.ob n a ob h1 h2).move (fun _ _ q => q) (updZ_keep hz) (upd_ne fun e => s.zm p hz (e ▸ List.mem_of_getElem? h1)), fun a z => ?_, s.zm⟩
  by_cases e : a = p
  · subst e; exact ⟨o, upd_same⟩
  · obtain ⟨u, q⟩ := s.zt a z
    exact ⟨u, by rw [upd_ne e]; exact q⟩
theorem RelL.updZ {xs : List Val} {vs : List V} (r : RelL K cl μ Z H xs vs) (hz : Z p) : RelL K cl μ Z (upd H p o) xs vs := r.move (fun _ _ q => q) (updZ_keep hz)
theorem Rel.updZ {x : Val} {v : V} (r : Rel K cl μ Z H x v) (hz : Z p) : Rel K cl μ Z (upd H p o) x v := r.move (fun _ _ q => q) (updZ_keep hz)
theorem RelE.updZ {ρ : Env} {σ : L2.St} (r : RelE K cl μ Z H ρ σ) (hz : Z p) : RelE K cl μ Z (upd H p o) ρ σ := ⟨r.1, fun i v e => let ⟨w, h1, h2⟩ := r.2 i v e; ⟨w, h1, h2.updZ hz⟩⟩
theorem RelE.hide {ρ : Env} {σ : L2.St} (r : RelE K cl μ Z H ρ σ) (h : H p = none) : RelE K cl μ (zadd Z p) (upd H p o) ρ σ := ⟨r.1, fun i v e => let ⟨w, h1, h2⟩ := r.2 i v e; ⟨w, h1, h2.move (fun _ _ q => q) (hide_keep h)⟩⟩
theorem wipeE_len {ρ : Env} : ∀ vs : List Nat, (wipeE ρ vs).length = ρ.length
  | [] => rfl
  | v :: vs => by unfold wipeE; rw [List.length_set, wipeE_len vs]
theorem wipeE_some {ρ : Env} {i : Nat} {x : Val} : ∀ {vs : List Nat}, (wipeE ρ vs)[i]? = some (some x) → ρ[i]? = some (some x) ∧ i ∉ vs
  | [], h => ⟨h, by simp⟩
  | v :: vs, h => by
    unfold wipeE at h
    by_cases hi : v = i
    · subst hi
      by_cases hv : v < (wipeE ρ vs).length
      · rw [List.getElem?_set_self hv] at h; cases h
      · rw [List.getElem?_eq_none (by simpa using hv)] at h; cases h
    · rw [List.getElem?_set_ne hi] at h
      obtain ⟨h1, h2⟩ := wipeE_some h
      exact ⟨h1, by simp only [List.mem_cons, not_or]; exact ⟨fun e => hi e.symm, h2⟩⟩
theorem wipe_get {σ : L2.St} {i : Nat} : ∀ {vs : List Nat}, i ∉ vs → (wipe σ vs)[i]? = σ[i]?
  | [], _ => rfl
  | v :: vs, h => by
    unfold wipe
    rw [List.getElem?_set_ne (fun e => h (by simp [e])), wipe_get fun q => h (List.mem_cons_of_mem _ q)]
theorem RelE.wipe {ρ : Env} {σ : L2.St} (r : RelE K cl μ Z H ρ σ) (vs : List Nat) : RelE K cl μ Z H (wipeE ρ vs) (L2.wipe σ vs) := by
  refine ⟨by rw [wipeE_len, wipe_length, r.1], fun i v e => ?_⟩
  obtain ⟨h1, h2⟩ := wipeE_some e
  obtain ⟨w, h3, h4⟩ := r.2 i v h1
  exact ⟨w, by rw [wipe_get h2]; exact h3, h4⟩
theorem wipe_idem {σ : L2.St} : ∀ {vs ws : List Nat}, (∀ i ∈ vs, i ∈ ws) → wipe (wipe σ vs) ws = wipe σ ws
  | [], _, _ => rfl
  | v :: vs, ws, h => by
    show wipe ((wipe σ vs).set v none) ws = _
    rw [wipe_set (h v List.mem_cons_self), wipe_idem fun i hi => h i (List.mem_cons_of_mem _ hi)]
end
section
variable {X : Cx} {cl : Nat → Addr} {c : Oracle} {g : G} {p : Pl} {n : Nat}
theorem lc_body {wi : TI} {own : List Nat} {t : T} {k : ItK} {es : EL} {cd : EO} {e : E} {σ : L2.St} {H : Hp} {Q : VK} (hsl : ∀ i ∈ t.slots, i ∈ own) (h : tJ X.K cl c (.lc own t k es cd e) σ H Q) :
    tLc (tW X.K cl c k es) (tG X.K cl c t) (tC' X.K cl c cd) (tI X.K cl c e) own σ H Q := by
  obtain ⟨μ, Z, S, ρ, v, S', sm, re, ev, kf⟩ := h
  unfold evE at ev
  obtain ⟨⟨vals, S1⟩, e1, ev⟩ := Option.bind_eq_some_iff.mp ev
  obtain ⟨xs, e2, ev⟩ := Option.bind_eq_some_iff.mp ev
  obtain ⟨⟨ys, S2⟩, e3, ev⟩ := Option.bind_eq_some_iff.mp ev
  dsimp only at ev
  split at ev
  rotate_left
  · cases ev
  rename_i hlen
  cases ev
  generalize hf : (fun (x : Val) (S' : Store) => (bindT c t x (wipeE ρ own) S').bind fun (ρ', S2) => (evC c cd ρ' S2).bind fun (b, S3) =>
        if b = true then (evE c e ρ' S3).map fun (y, S4) => ([y], S4) else some ([], S3)) = f at e3
  refine ⟨μ, Z, S, ρ, vals, S1, xs, sm, re, e1, e2, fun μ1 H1 ws J st1 rl wk D hD => ?_⟩
  have hZD : ¬ Z D := (st1.sm.free hD).2
  let W : Nat → Nat → Hp → Prop := fun i m Hi => m = xs.length - i ∧ i ≤ xs.length ∧ ∃ μi Si ay av rest, Sim X.K cl μi (zadd Z D) Si Hi ∧ Hi D = some (.lst av) ∧ RelL X.K cl μi (zadd Z D) Hi ay av ∧
    (∃ nw, μi = μ1 ++ nw ∧ ∀ a ∈ nw, H1 a = none) ∧ (∀ b o, H1 b = some o → b ∉ μ1 → Hi b = some o) ∧ RelL X.K cl μi (zadd Z D) Hi vals ws ∧ itemsOf Si k vals = some xs ∧
    mapG (refsOf vals) f (xs.drop i) Si = some (rest, S') ∧ ay ++ rest = ys ∧ RelE X.K cl μi (zadd Z D) Hi (wipeE ρ own) (wipe σ own)
  refine ⟨W, ⟨xs.length, by simp, Nat.zero_le _, μ1, S1, [], [], ys, st1.sm.hide hD, upd_same, .nil, ⟨[], by simp, by simp⟩, fun b o h _ => by rw [upd_ne (ne_of_none h hD)]; exact h, rl.hide hD, e2, by simpa using e3, by simp, ((st1.env re).wipe own).hide hD⟩, ?_⟩
  rintro i m Hi ⟨rfl, hi, μi, Si, ay, av, rest, smi, hDi, ra, gr, fr, rv, it, em, ea, rei⟩
  have hw := wk i (zadd Z D) μi Si Hi xs smi rv it
  by_cases hlt : i < xs.length
  · -- one turn
    right
    have hx : xs[i]? = some xs[i] := List.getElem?_eq_getElem hlt
    obtain ⟨hgo, hyl⟩ := hw.1 _ hx
    rw [List.drop_eq_getElem_cons hlt] at em
    unfold mapG at em
    obtain ⟨⟨y1, S4⟩, f1, em⟩ := Option.bind_eq_some_iff.mp em
    dsimp only at em
    split at em
    rotate_left
    · cases em
    rename_i hk
    obtain ⟨⟨r1, S5⟩, em1, em⟩ := Option.map_eq_some_iff.mp em
    cases em
    refine ⟨hgo, fun H' => W (i + 1) (xs.length - (i + 1)) H', fun H' q => ⟨_, by omega, q⟩, fun w H' hy => ?_⟩
    obtain ⟨sty, rx⟩ := hyl w H' hy
    rw [← hf] at f1
    obtain ⟨⟨ρ', Sa⟩, b1, f1⟩ := Option.bind_eq_some_iff.mp f1
    obtain ⟨⟨b, Sb⟩, b2, f1⟩ := Option.bind_eq_some_iff.mp f1
    -- what is kept along the turn
    have fin : ∀ {μj : List Addr} {Hj : Hp} {Sj : Store}, Stp X.K cl (zadd Z D) μi Hi μj Sj Hj → (∃ nw, μj = μ1 ++ nw ∧ ∀ a ∈ nw, H1 a = none) ∧ (∀ b o, H1 b = some o → b ∉ μ1 → Hj b = some o) := by
      intro μj Hj Sj st
      obtain ⟨nw, e, hn⟩ := gr
      obtain ⟨nw2, e2, hn2⟩ := st.gr
      refine ⟨⟨nw ++ nw2, by rw [e2, e, List.append_assoc], fun a ha => ?_⟩, fun b o h hb => ?_⟩
      · rcases List.mem_append.mp ha with z | z
        · exact hn a z
        · cases q : H1 a with
          | none => rfl
          | some o =>
            exfalso
            have h0 := hn2 a z
            by_cases hm : a ∈ μ1
            · obtain ⟨o', q'⟩ := smi.tr (show a ∈ μi by rw [e]; exact List.mem_append_left _ hm)
              rw [h0] at q'; cases q'
            · have q' := fr a o q hm
              rw [h0] at q'; cases q'
      · refine st.fr b o (fr b o h hb) fun z => ?_
        rw [e] at z
        rcases List.mem_append.mp z with z | z
        · exact hb z
        · have q' := hn b z
          rw [h] at q'; cases q'
    refine ⟨μi, zadd Z D, Si, wipeE ρ own, _, ρ', Sa, sty.sm, sty.env rei, rx, b1, fun μ2 H2 σ2 st2 re2 wp2 => ⟨?_, ?_⟩⟩
    · rw [wp2 own hsl, wipe_idem fun _ h => h]
    · have st12 := sty.trans st2
      refine ⟨μ2, zadd Z D, Sa, ρ', b, Sb, st2.sm, re2, b2, fun μ3 H3 st3 => ?_⟩
      have st13 := st12.trans st3
      cases b with
      | true =>
        refine iteT ?_
        dsimp only at f1
        rw [if_pos rfl] at f1
        obtain ⟨⟨y, Sc⟩, b3, f1⟩ := Option.map_eq_some_iff.mp f1
        cases f1
        refine ⟨μ3, zadd Z D, Sb, ρ', y, _, st3.sm, st3.env re2, b3, fun μ4 H4 w4 st4 r4 => ?_⟩
        have st14 := st13.trans st4
        have hD4 : H4 D = some (.lst av) := st14.fr D _ hDi (smi.zm D (.inr rfl))
        obtain ⟨g1, g2⟩ := fin st14
        refine ⟨av, hD4, ?_, rfl, hlt, μ4, _, ay ++ [y], av ++ [w4], r1, st4.sm.updZ (.inr rfl), upd_same, ?_, g1, fun b o h hb => ?_, (st14.rels rv).updZ (.inr rfl), (items_kept hk).trans it, em1, by rw [List.append_assoc]; exact ea, (st14.env rei).updZ (.inr rfl)⟩
        · rw [← ra.length]
          have : ay.length < ys.length := by rw [← ea]; simp
          have : (1000000 : Nat) < sizeLine := by decide
          omega
        · exact RelL.updZ ((st14.rels ra).append (.cons r4 .nil)) (.inr rfl)
        · rw [upd_ne (ne_of_none h hD)]; exact g2 b o h hb
      | false =>
        refine iteF ?_
        dsimp only at f1
        rw [if_neg Bool.false_ne_true] at f1
        cases f1
        obtain ⟨g1, g2⟩ := fin st13
        exact ⟨rfl, hlt, μ3, _, ay, av, r1, st3.sm, st13.fr D _ hDi (smi.zm D (.inr rfl)), st13.rels ra, g1, g2, st13.rels rv, (items_kept hk).trans it, em1, ea, st13.env rei⟩
  · -- the end
    left
    have hie : i = xs.length := by omega
    rw [hie, List.drop_length] at em
    unfold mapG at em
    cases em
    rw [List.append_nil] at ea
    subst ea
    refine ⟨hw.2 (by omega), kf μi Hi (.ref D) (st1.trans ⟨gr, fr, smi.unhide⟩) (.lv (smi.zm D (.inr rfl)) hZD hDi ra.unhide) fun zs ez => ?_⟩
    cases ez
    exact ⟨D, av, rfl, st1.free hD, hZD, hDi, smi, ra⟩
/-- what has grown since -/
theorem grow_fin {K : PySem.W.Frag} {Z' : Addr → Prop} {μ1 μi μj : List Addr} {H1 Hi Hj : Hp} {Si Sj : Store} (gr : ∃ nw, μi = μ1 ++ nw ∧ ∀ a ∈ nw, H1 a = none) (fr : ∀ b o, H1 b = some o → b ∉ μ1 → Hi b = some o) (smi : Sim K cl μi Z' Si Hi) (st : Stp K cl Z' μi Hi μj Sj Hj) :
    (∃ nw, μj = μ1 ++ nw ∧ ∀ a ∈ nw, H1 a = none) ∧ (∀ b o, H1 b = some o → b ∉ μ1 → Hj b = some o) := by
  obtain ⟨nw, e, hn⟩ := gr
  obtain ⟨nw2, e2, hn2⟩ := st.gr
  refine ⟨⟨nw ++ nw2, by rw [e2, e, List.append_assoc], fun a ha => ?_⟩, fun b o h hb => ?_⟩
  · rcases List.mem_append.mp ha with z | z
    · exact hn a z
    · cases q : H1 a with
      | none => rfl
      | some o =>
        exfalso
        have h0 := hn2 a z
        by_cases hm : a ∈ μ1
        · obtain ⟨o', q'⟩ := smi.tr (show a ∈ μi by rw [e]; exact List.mem_append_left _ hm)
          rw [h0] at q'; cases q'
        · have q' := fr a o q hm
          rw [h0] at q'; cases q'
  · refine st.fr b o (fr b o h hb) fun z => ?_
    rw [e] at z
    rcases List.mem_append.mp z with z | z
    · exact hb z
    · have q' := hn b z
      rw [h] at q'; cases q'
theorem lc2_body {own own1 : List Nat} {t t1 : T} {k k1 : ItK} {es es1 : EL} {e : E} {σ : L2.St} {H : Hp} {Q : VK} (hsl : ∀ i ∈ t.slots, i ∈ own) (hsl1 : ∀ i ∈ t1.slots, i ∈ own1) (h : tJ X.K cl c (.lc2 own t k es own1 t1 k1 es1 e) σ H Q) :
    tLc2 (tW X.K cl c k es) (tG X.K cl c t) (tC' X.K cl c .none) (tW X.K cl c k1 es1) (tG X.K cl c t1) (tC' X.K cl c .none) (tI X.K cl c e) own own1 σ H Q := by
  obtain ⟨μ, Z, S, ρ, v, S', sm, re, ev, kf⟩ := h
  unfold evE at ev
  obtain ⟨⟨vals, S1⟩, e1, ev⟩ := Option.bind_eq_some_iff.mp ev
  obtain ⟨xs, e2, ev⟩ := Option.bind_eq_some_iff.mp ev
  obtain ⟨⟨ys, S2⟩, e3, ev⟩ := Option.bind_eq_some_iff.mp ev
  dsimp only at ev
  split at ev
  rotate_left
  · cases ev
  rename_i hlen
  cases ev
  generalize hf : (fun (x : Val) (S' : Store) => (bindT c t x (wipeE ρ own) S').bind fun (ρ', S2) => (evL c es1 ρ' S2).bind fun (ws, S3) => (itemsOf S3 k1 ws).bind fun ys =>
        mapG (refsOf ws) (fun y S4 => (bindT c t1 y (wipeE ρ' own1) S4).bind fun (ρ2, S5) => (evE c e ρ2 S5).map fun (z, S6) => ([z], S6)) ys S3) = f at e3
  refine ⟨μ, Z, S, ρ, vals, S1, xs, sm, re, e1, e2, fun μ1 H1 ws J st1 rl wk D hD => ?_⟩
  have hZD : ¬ Z D := (st1.sm.free hD).2
  have big : (1000000 : Nat) < sizeLine := by decide
  let W : Nat → Nat → Hp → Prop := fun i m Hi => m = xs.length - i ∧ i ≤ xs.length ∧ ∃ μi Si ay av rest, Sim X.K cl μi (zadd Z D) Si Hi ∧ Hi D = some (.lst av) ∧ RelL X.K cl μi (zadd Z D) Hi ay av ∧
    (∃ nw, μi = μ1 ++ nw ∧ ∀ a ∈ nw, H1 a = none) ∧ (∀ b o, H1 b = some o → b ∉ μ1 → Hi b = some o) ∧ RelL X.K cl μi (zadd Z D) Hi vals ws ∧ itemsOf Si k vals = some xs ∧
    mapG (refsOf vals) f (xs.drop i) Si = some (rest, S') ∧ ay ++ rest = ys ∧ RelE X.K cl μi (zadd Z D) Hi (wipeE ρ own) (wipe σ own)
  refine ⟨W, ⟨xs.length, by simp, Nat.zero_le _, μ1, S1, [], [], ys, st1.sm.hide hD, upd_same, .nil, ⟨[], by simp, by simp⟩, fun b o h _ => by rw [upd_ne (ne_of_none h hD)]; exact h, rl.hide hD, e2, by simpa using e3, by simp, ((st1.env re).wipe own).hide hD⟩, ?_⟩
  rintro i m Hi ⟨rfl, hi, μi, Si, ay, av, rest, smi, hDi, ra, gr, fr, rv, it, em, ea, rei⟩
  have hw := wk i (zadd Z D) μi Si Hi xs smi rv it
  by_cases hlt : i < xs.length
  · -- one turn of the outer walk
    right
    have hx : xs[i]? = some xs[i] := List.getElem?_eq_getElem hlt
    obtain ⟨hgo, hyl⟩ := hw.1 _ hx
    rw [List.drop_eq_getElem_cons hlt] at em
    unfold mapG at em
    obtain ⟨⟨y1, S4⟩, f1, em⟩ := Option.bind_eq_some_iff.mp em
    dsimp only at em
    split at em
    rotate_left
    · cases em
    rename_i hk
    obtain ⟨⟨r1, S5⟩, em1, em⟩ := Option.map_eq_some_iff.mp em
    cases em
    refine ⟨hgo, fun H' => W (i + 1) (xs.length - (i + 1)) H', fun H' q => ⟨_, by omega, q⟩, fun w H' hy => ?_⟩
    obtain ⟨sty, rx⟩ := hyl w H' hy
    rw [← hf] at f1
    obtain ⟨⟨ρ', Sa⟩, b1, f1⟩ := Option.bind_eq_some_iff.mp f1
    obtain ⟨⟨us, Sb⟩, b2, f1⟩ := Option.bind_eq_some_iff.mp f1
    obtain ⟨zs, b3, f1⟩ := Option.bind_eq_some_iff.mp f1
    dsimp only at b2 b3 f1
    generalize hg : (fun (y : Val) (S4 : Store) => (bindT c t1 y (wipeE ρ' own1) S4).bind fun (ρ2, S5) => (evE c e ρ2 S5).map fun (z, S6) => ([z], S6)) = f2 at f1
    refine ⟨μi, zadd Z D, Si, wipeE ρ own, _, ρ', Sa, sty.sm, sty.env rei, rx, b1, fun μ2 H2 σ2 st2 re2 wp2 => ⟨?_, ?_⟩⟩
    · rw [wp2 own hsl, wipe_idem fun _ h => h]
    · have st12 := sty.trans st2
      refine ⟨μ2, zadd Z D, Sa, ρ', true, Sa, st2.sm, re2, by unfold evC; rfl, fun μ3 H3 st3 => iteT ?_⟩
      have st13 := st12.trans st3
      refine ⟨μ3, zadd Z D, Sa, ρ', us, Sb, zs, st3.sm, st3.env re2, b2, b3, fun μ4 H4 ws1 J1 st4 rl1 wk1 => ?_⟩
      have st14 := st13.trans st4
      obtain ⟨g1, g2⟩ := grow_fin gr fr smi st14
      let W1 : Nat → Nat → Hp → Prop := fun j q Hj => q = zs.length - j ∧ j ≤ zs.length ∧ ∃ μj Sj bz bv rest1, Sim X.K cl μj (zadd Z D) Sj Hj ∧ Hj D = some (.lst bv) ∧ RelL X.K cl μj (zadd Z D) Hj (ay ++ bz) bv ∧
        (∃ nw, μj = μ1 ++ nw ∧ ∀ a ∈ nw, H1 a = none) ∧ (∀ b o, H1 b = some o → b ∉ μ1 → Hj b = some o) ∧ RelL X.K cl μj (zadd Z D) Hj vals ws ∧ RelL X.K cl μj (zadd Z D) Hj us ws1 ∧ itemsOf Sj k1 us = some zs ∧
        mapG (refsOf us) f2 (zs.drop j) Sj = some (rest1, S4) ∧ bz ++ rest1 = y1 ∧ RelE X.K cl μj (zadd Z D) Hj (wipeE ρ own) (wipe σ own) ∧ RelE X.K cl μj (zadd Z D) Hj (wipeE ρ' own1) (wipe σ2 own1)
      refine ⟨W1, ⟨zs.length, by simp, Nat.zero_le _, μ4, Sb, [], av, y1, st4.sm, st14.fr D _ hDi (smi.zm D (.inr rfl)), by rw [List.append_nil]; exact st14.rels ra, g1, g2, st14.rels rv, rl1, b3, by simpa using f1, by simp, st14.env rei, (st4.env (st3.env re2)).wipe own1⟩, ?_⟩
      rintro j q Hj ⟨rfl, hj, μj, Sj, bz, bv, rest1, smj, hDj, rb, gr', fr', rv', rv1, it1, em1', ea1, rej, rej1⟩
      have hw1 := wk1 j (zadd Z D) μj Sj Hj zs smj rv1 it1
      by_cases hlt1 : j < zs.length
      · right
        have hz : zs[j]? = some zs[j] := List.getElem?_eq_getElem hlt1
        obtain ⟨hgo1, hyl1⟩ := hw1.1 _ hz
        rw [List.drop_eq_getElem_cons hlt1] at em1'
        unfold mapG at em1'
        obtain ⟨⟨y2, S6⟩, f3, em1'⟩ := Option.bind_eq_some_iff.mp em1'
        dsimp only at em1'
        split at em1'
        rotate_left
        · cases em1'
        rename_i hk1
        obtain ⟨⟨r2, S7⟩, em2, em1'⟩ := Option.map_eq_some_iff.mp em1'
        cases em1'
        refine ⟨hgo1, fun H' => W1 (j + 1) (zs.length - (j + 1)) H', fun H' q => ⟨_, by omega, q⟩, fun w1 H' hy1 => ?_⟩
        obtain ⟨sty1, rx1⟩ := hyl1 w1 H' hy1
        rw [← hg] at f3
        obtain ⟨⟨ρ2, Sc⟩, c1, f3⟩ := Option.bind_eq_some_iff.mp f3
        obtain ⟨⟨y, Sd⟩, c2, f3⟩ := Option.map_eq_some_iff.mp f3
        cases f3
        refine ⟨μj, zadd Z D, Sj, wipeE ρ' own1, _, ρ2, Sc, sty1.sm, sty1.env rej1, rx1, c1, fun μ5 H5 σ3 st5 re5 wp5 => ⟨?_, ?_⟩⟩
        · rw [wp5 own1 hsl1, wipe_idem fun _ h => h]
        · have st15 := sty1.trans st5
          refine ⟨μ5, zadd Z D, Sc, ρ2, true, Sc, st5.sm, re5, by unfold evC; rfl, fun μ6 H6 st6 => iteT ?_⟩
          have st16 := st15.trans st6
          refine ⟨μ6, zadd Z D, Sc, ρ2, y, _, st6.sm, st6.env re5, c2, fun μ7 H7 w7 st7 r7 => ?_⟩
          have st17 := st16.trans st7
          have hD7 : H7 D = some (.lst bv) := st17.fr D _ hDj (smj.zm D (.inr rfl))
          obtain ⟨q1, q2⟩ := grow_fin gr' fr' smj st17
          refine ⟨bv, hD7, ?_, rfl, hlt1, μ7, _, bz ++ [y], bv ++ [w7], r2, st7.sm.updZ (.inr rfl), upd_same, ?_, q1, fun b o h hb => ?_, (st17.rels rv').updZ (.inr rfl), (st17.rels rv1).updZ (.inr rfl), (items_kept hk1).trans it1, em2, by rw [List.append_assoc]; exact ea1, (st17.env rej).updZ (.inr rfl), (st17.env rej1).updZ (.inr rfl)⟩
          · rw [← rb.length]
            have : (ay ++ bz).length < ys.length := by rw [← ea, ← ea1]; simp
            omega
          · rw [← List.append_assoc]
            exact RelL.updZ ((st17.rels rb).append (.cons r7 .nil)) (.inr rfl)
          · rw [upd_ne (ne_of_none h hD)]; exact q2 b o h hb
      · left
        have hje : j = zs.length := by omega
        rw [hje, List.drop_length] at em1'
        unfold mapG at em1'
        cases em1'
        rw [List.append_nil] at ea1
        subst ea1
        exact ⟨hw1.2 (by omega), rfl, hlt, μj, _, ay ++ bz, bv, r1, smj, hDj, rb, gr', fr', rv', (items_kept hk).trans it, em1, by rw [List.append_assoc]; exact ea, rej⟩
  · -- the end
    left
    have hie : i = xs.length := by omega
    rw [hie, List.drop_length] at em
    unfold mapG at em
    cases em
    rw [List.append_nil] at ea
    subst ea
    refine ⟨hw.2 (by omega), kf μi Hi (.ref D) (st1.trans ⟨gr, fr, smi.unhide⟩) (.lv (smi.zm D (.inr rfl)) hZD hDi ra.unhide) fun zs ez => ?_⟩
    cases ez
    exact ⟨D, av, rfl, st1.free hD, hZD, hDi, smi, ra⟩
/-- sorted of a dict whose keys are numbers -/
def rSDI : List V → Hp → VK → Prop := fun xs H Q => ∃ (a : Addr) (kvs : List (Key × V)) (ks : List Int), xs = [.ref a] ∧ Rd H a (.dK kvs) ∧ kvs.map (·.1) = ks.map Sum.inl ∧ ks.length < 64 ∧
    ∀ (ys : List Int) (p : Addr), ys.Perm ks → ys.Pairwise (· ≤ ·) → H p = none → Q (.ref p) (upd H p (.lst (ys.map V.int)))
theorem ints_len : ∀ {xs : List Val} {ns : List Int}, intsOf xs = some ns → xs.length = ns.length := fun h => by rw [ints_inv h, List.length_map]
theorem ints_part {xs zs : List Val} {y : Val} {nd ns : List Int} (h1 : intsOf xs = some nd) (h2 : intsOf (xs ++ y :: zs) = some ns) : ∃ i0, y = .int i0 ∧ intsOf (xs ++ [y]) = some (nd ++ [i0]) := by
  have e := ints_inv h2
  have e1 := ints_inv h1
  obtain ⟨l1, l2, h3, h4, h5⟩ := List.map_eq_append_iff.mp e.symm
  cases l2 with
  | nil => cases h5
  | cons i0 l2 =>
    rw [List.map_cons] at h5
    injection h5 with h6 h7
    refine ⟨i0, h6.symm, ?_⟩
    rw [e1, ← h6, ← List.map_singleton, ← List.map_append]
    exact ints_of_map _
theorem keysI_snoc (ns : List Int) (i : Int) : keysI (ns ++ [i]) = keyI (keysI ns) i := by unfold keysI; rw [List.foldl_append]; rfl
theorem keysI_len (ns : List Int) : (keysI ns).length ≤ ns.length := by
  have key : ∀ (ns ks : List Int), (ns.foldl keyI ks).length ≤ ks.length + ns.length := by
    intro ns
    induction ns with
    | nil => intro ks; simp
    | cons n ns ih =>
      intro ks
      have := ih (keyI ks n)
      have h : (keyI ks n).length ≤ ks.length + 1 := by unfold keyI; split <;> simp
      simp only [List.foldl_cons, List.length_cons]
      omega
  have := key ns []
  simp only [List.length_nil, Nat.zero_add] at this
  exact this
theorem putK_keys {av : List (Key × V)} {nd : List Int} {i : Int} {w : V} (h : av.map (·.1) = (keysI nd).map Sum.inl) : (putK av (.inl i) w).map (·.1) = (keysI (nd ++ [i])).map (Sum.inl : Int → Key) := by
  rw [keysI_snoc]
  have hany : (av.any fun kv => decide (kv.1 = (.inl i : Key))) = (keysI nd).contains i := by
    have : (av.any fun kv => decide (kv.1 = (.inl i : Key))) = (av.map (·.1)).any fun k => decide (k = .inl i) := by rw [List.any_map]; rfl
    rw [this, h, List.any_map]
    rw [Bool.eq_iff_iff, List.any_eq_true, List.contains_iff_mem]
    constructor
    · rintro ⟨x, hx, e⟩
      have e : (Sum.inl x : Key) = .inl i := of_decide_eq_true e
      cases e; exact hx
    · intro hx
      exact ⟨i, hx, decide_eq_true rfl⟩
  unfold putK keyI
  rw [hany]
  split
  · rw [List.map_map, ← h]
    apply List.map_congr_left
    intro kv _
    simp only [Function.comp]
    split <;> rfl
  · rw [List.map_append, List.map_append, h]; rfl
theorem dc_body {wi : TI} {own : List Nat} {t : T} {k : ItK} {es : EL} {cd : EO} {e : E} {σ : L2.St} {H : Hp} {Q : VK} (hsl : ∀ i ∈ t.slots, i ∈ own) (h : tJ X.K cl c (.sdc own t k es cd e) σ H Q) :
    tDc (tW X.K cl c k es) (tG X.K cl c t) (tC' X.K cl c cd) (tI X.K cl c e) (tI X.K cl c (.con (.bl true))) own σ H (fun v H1 => rSDI [v] H1 Q) := by
  obtain ⟨μ, Z, S, ρ, v, S', sm, re, ev, kf⟩ := h
  unfold evE at ev
  obtain ⟨⟨vals, S1⟩, e1, ev⟩ := Option.bind_eq_some_iff.mp ev
  obtain ⟨xs, e2, ev⟩ := Option.bind_eq_some_iff.mp ev
  obtain ⟨⟨ys, S2⟩, e3, ev⟩ := Option.bind_eq_some_iff.mp ev
  obtain ⟨ns, e4, ev⟩ := Option.bind_eq_some_iff.mp ev
  split at ev
  rotate_left
  · cases ev
  rename_i hlen
  cases ev
  generalize hf : (fun (x : Val) (S' : Store) => (bindT c t x (wipeE ρ own) S').bind fun (ρ', S2) => (evC c cd ρ' S2).bind fun (b, S3) =>
        if b = true then (evE c e ρ' S3).map fun (y, S4) => ([y], S4) else some ([], S3)) = f at e3
  refine ⟨μ, Z, S, ρ, vals, S1, xs, sm, re, e1, e2, fun μ1 H1 ws J st1 rl wk D hD => ?_⟩
  have hZD : ¬ Z D := (st1.sm.free hD).2
  let W : Nat → Nat → Hp → Prop := fun i m Hi => m = xs.length - i ∧ i ≤ xs.length ∧ ∃ μi Si ay av rest nd, Sim X.K cl μi (zadd Z D) Si Hi ∧ Hi D = some (.dK av) ∧ (intsOf ay = some nd ∧ av.map (·.1) = (keysI nd).map Sum.inl) ∧
    (∃ nw, μi = μ1 ++ nw ∧ ∀ a ∈ nw, H1 a = none) ∧ (∀ b o, H1 b = some o → b ∉ μ1 → Hi b = some o) ∧ RelL X.K cl μi (zadd Z D) Hi vals ws ∧ itemsOf Si k vals = some xs ∧
    mapG (refsOf vals) f (xs.drop i) Si = some (rest, S') ∧ ay ++ rest = ys ∧ RelE X.K cl μi (zadd Z D) Hi (wipeE ρ own) (wipe σ own)
  refine ⟨W, ⟨xs.length, by simp, Nat.zero_le _, μ1, S1, [], [], ys, [], st1.sm.hide hD, upd_same, ⟨rfl, rfl⟩, ⟨[], by simp, by simp⟩, fun b o h _ => by rw [upd_ne (ne_of_none h hD)]; exact h, rl.hide hD, e2, by simpa using e3, by simp, ((st1.env re).wipe own).hide hD⟩, ?_⟩
  rintro i m Hi ⟨rfl, hi, μi, Si, ay, av, rest, nd, smi, hDi, ra, gr, fr, rv, it, em, ea, rei⟩
  have hw := wk i (zadd Z D) μi Si Hi xs smi rv it
  by_cases hlt : i < xs.length
  · -- one turn
    right
    have hx : xs[i]? = some xs[i] := List.getElem?_eq_getElem hlt
    obtain ⟨hgo, hyl⟩ := hw.1 _ hx
    rw [List.drop_eq_getElem_cons hlt] at em
    unfold mapG at em
    obtain ⟨⟨y1, S4⟩, f1, em⟩ := Option.bind_eq_some_iff.mp em
    dsimp only at em
    split at em
    rotate_left
    · cases em
    rename_i hk
    obtain ⟨⟨r1, S5⟩, em1, em⟩ := Option.map_eq_some_iff.mp em
    cases em
    refine ⟨hgo, fun H' => W (i + 1) (xs.length - (i + 1)) H', fun H' q => ⟨_, by omega, q⟩, fun w H' hy => ?_⟩
    obtain ⟨sty, rx⟩ := hyl w H' hy
    rw [← hf] at f1
    obtain ⟨⟨ρ', Sa⟩, b1, f1⟩ := Option.bind_eq_some_iff.mp f1
    obtain ⟨⟨b, Sb⟩, b2, f1⟩ := Option.bind_eq_some_iff.mp f1
    -- what is kept along the turn
    have fin : ∀ {μj : List Addr} {Hj : Hp} {Sj : Store}, Stp X.K cl (zadd Z D) μi Hi μj Sj Hj → (∃ nw, μj = μ1 ++ nw ∧ ∀ a ∈ nw, H1 a = none) ∧ (∀ b o, H1 b = some o → b ∉ μ1 → Hj b = some o) := by
      intro μj Hj Sj st
      obtain ⟨nw, e, hn⟩ := gr
      obtain ⟨nw2, e2, hn2⟩ := st.gr
      refine ⟨⟨nw ++ nw2, by rw [e2, e, List.append_assoc], fun a ha => ?_⟩, fun b o h hb => ?_⟩
      · rcases List.mem_append.mp ha with z | z
        · exact hn a z
        · cases q : H1 a with
          | none => rfl
          | some o =>
            exfalso
            have h0 := hn2 a z
            by_cases hm : a ∈ μ1
            · obtain ⟨o', q'⟩ := smi.tr (show a ∈ μi by rw [e]; exact List.mem_append_left _ hm)
              rw [h0] at q'; cases q'
            · have q' := fr a o q hm
              rw [h0] at q'; cases q'
      · refine st.fr b o (fr b o h hb) fun z => ?_
        rw [e] at z
        rcases List.mem_append.mp z with z | z
        · exact hb z
        · have q' := hn b z
          rw [h] at q'; cases q'
    refine ⟨μi, zadd Z D, Si, wipeE ρ own, _, ρ', Sa, sty.sm, sty.env rei, rx, b1, fun μ2 H2 σ2 st2 re2 wp2 => ⟨?_, ?_⟩⟩
    · rw [wp2 own hsl, wipe_idem fun _ h => h]
    · have st12 := sty.trans st2
      refine ⟨μ2, zadd Z D, Sa, ρ', b, Sb, st2.sm, re2, b2, fun μ3 H3 st3 => ?_⟩
      have st13 := st12.trans st3
      cases b with
      | true =>
        refine iteT ?_
        dsimp only at f1
        rw [if_pos rfl] at f1
        obtain ⟨⟨y, Sc⟩, b3, f1⟩ := Option.map_eq_some_iff.mp f1
        cases f1
        refine ⟨μ3, zadd Z D, Sb, ρ', y, _, st3.sm, st3.env re2, b3, fun μ4 H4 w4 st4 r4 => ?_⟩
        have st14 := st13.trans st4
        obtain ⟨i0, rfl, e5⟩ : ∃ i0, y = .int i0 ∧ intsOf (ay ++ [y]) = some (nd ++ [i0]) := by
          have := ints_part (xs := ay) (y := y) (zs := r1) ra.1 (by rw [← e4, ← ea]; rfl)
          exact this
        refine ⟨μ4, zadd Z D, _, ρ', .bl true, _, st4.sm, (st3.trans st4).env re2, by unfold evE; rfl, fun μ5 H5 w5 st5 r5 => ?_⟩
        have st15 := st14.trans st5
        have hD5 : H5 D = some (.dK av) := st15.fr D _ hDi (smi.zm D (.inr rfl))
        obtain ⟨g1, g2⟩ := fin st15
        cases r4
        refine ⟨av, .inl i0, rfl, hD5, ?_, rfl, hlt, μ5, _, ay ++ [.int i0], putK av (.inl i0) w5, r1, nd ++ [i0], st5.sm.updZ (.inr rfl), upd_same, ⟨e5, ?_⟩, g1, fun b o h hb => ?_, (st15.rels rv).updZ (.inr rfl), (items_kept hk).trans it, em1, by rw [List.append_assoc]; exact ea, (st15.env rei).updZ (.inr rfl)⟩
        · have h1 : av.length = (keysI nd).length := by
            have := congrArg List.length ra.2
            simpa using this
          have h2 := keysI_len nd
          have h3 := ints_len ra.1
          have : ay.length < ys.length := by rw [← ea]; simp
          have : (1000000 : Nat) < sizeLine := by decide
          omega
        · rw [putK_keys ra.2]
        · rw [upd_ne (ne_of_none h hD)]; exact g2 b o h hb
      | false =>
        refine iteF ?_
        dsimp only at f1
        rw [if_neg Bool.false_ne_true] at f1
        cases f1
        obtain ⟨g1, g2⟩ := fin st13
        exact ⟨rfl, hlt, μ3, _, ay, av, r1, nd, st3.sm, st13.fr D _ hDi (smi.zm D (.inr rfl)), ra, g1, g2, st13.rels rv, (items_kept hk).trans it, em1, ea, st13.env rei⟩
  · -- the end
    left
    have hie : i = xs.length := by omega
    rw [hie, List.drop_length] at em
    unfold mapG at em
    cases em
    rw [List.append_nil] at ea
    subst ea
    rw [ra.1] at e4
    cases e4
    refine ⟨hw.2 (by omega), D, av, keysI ns, rfl, .inl hDi, ra.2, hlen.2, fun ys p h1 h2 h3 => ?_⟩
    rw [sortI_eq h1 h2]
    exact (Kf.step kf (st1.trans ⟨gr, fr, smi.unhide⟩)).lst smi.unhide (relL_ints _) p h3
end
end Itp

namespace Itp
open PySem L2
/-! zip(.., strict=True) of two lists of one length -/
section
variable {pg : Program} {w : World} {A : Around} {X : Value → Shared → Prop} {s : Shared}
/-- the next item of a list, told as some -/
theorem noe_item {p l : Addr} {i : Nat} {ys : Array Value} {x : Value} {Q : Option Value → Shared → Prop} (hp : s.heap.IsListIter p l i) (hl : s.heap.IsList l ys) (hx : ys[i]? = some x)
    (q : ∀ g, g.IsListIter p l (i + 1) → Heap.SameBut p s.heap g → Q (some x) { s with heap := g }) : wpAny (model pg w) A (Builtin.SmallTypes.nextOrEnd (.ref p)) Q X s := by
  unfold Builtin.SmallTypes.nextOrEnd
  exact wpAny_bind (wpAny_attempt (wpAny_nextOf_list_item hp hl hx fun g a1 a2 => wpAny_pure (q g a1 a2)))
/-- a list at its end -/
theorem noe_end {p l : Addr} {i : Nat} {ys : Array Value} {Q : Option Value → Shared → Prop} (hh : A.handled = none) (hp : s.heap.IsListIter p l i) (hl : s.heap.IsList l ys) (hx : ys[i]? = none)
    (q : ∀ g, Heap.ExtBut p s.heap g → Q none { s with heap := g }) : wpAny (model pg w) A (Builtin.SmallTypes.nextOrEnd (.ref p)) Q X s := by
  unfold Builtin.SmallTypes.nextOrEnd
  refine wpAny_bind (wpAny_attempt (wpAny_nextOf_list_end hh hp hl hx fun g e a1 a2 => ?_))
  obtain ⟨ob, ho, hc⟩ := a2
  refine wpAny_bind (wpAny_isInstance (T := "StopIteration") (b := true) ⟨ob, ho, hc⟩ isSubtype_stop ?_)
  exact wpAny_pure (q g a1)
/-- a strict zip -/
abbrev ZipS (h : Heap) (z t u : Addr) (f : Value) : Prop :=
  h.get? z = some { cls := .type "zip", dict := none, data := .fields #[f, .bool false, .bool true, .ref t, .ref u], slots := #[] }
theorem zs_item {z t u p q l r : Addr} {i j : Nat} {xs ys : Array Value} {x y a b : Value} {Q : Value → Shared → Prop} (D : ZipApart z t u p q l r) (hz : ZipS s.heap z t u .none) (ht : IsPair s.heap t (.ref p) (.ref q)) (hu : IsPair s.heap u a b)
    (hp : s.heap.IsListIter p l i) (hq : s.heap.IsListIter q r j) (hl : s.heap.IsList l xs) (hr : s.heap.IsList r ys) (hx : xs[i]? = some x) (hy : ys[j]? = some y)
    (post : ∀ g, ZipS g z t u (rawInt s.heap.objs.size) → IsPair g u x y → g.IsListIter p l (i + 1) → g.IsListIter q r (j + 1) → IsPair g s.heap.objs.size x y → g.objs.size = s.heap.objs.size + 1 →
      (∀ c o, c ≠ z → c ≠ u → c ≠ p → c ≠ q → s.heap.get? c = some o → g.get? c = some o) → Q (.ref s.heap.objs.size) { s with heap := g }) :
    wpAny (model pg w) A (Builtin.«zip.__next__» ⟨[.ref z], []⟩) (fun fin s2 => ∃ v, fin = .done (.ret v) ∧ Q v s2) X s := by
  show wpAny _ _ (field (.ref z) 2 >>= _) _ _ _
  refine wpAny_bind (wpAny_field hz rfl (x := .bool true) rfl ?_)
  show wpAny _ _ (field (.ref z) 3 >>= _) _ _ _
  refine wpAny_bind (wpAny_field hz rfl (x := .ref t) rfl ?_)
  refine wpAny_bind (wpAny_seqItems ht rfl ?_)
  show wpAny _ _ (Builtin.SmallTypes.ownedTupleIsFree (.ref z) >>= _) _ _ _
  refine wpAny_bind ?_
  unfold Builtin.SmallTypes.ownedTupleIsFree
  refine wpAny_bind (wpAny_field hz rfl (x := .none) rfl (wpAny_pure ?_))
  simp only [if_true]
  refine wpAny_bind (wpAny_rule ?_)
  refine wpAny_bind (wpAny_field hz rfl (x := .ref u) rfl ?_)
  refine wpAny_bind (wpAny_setField_rec hz (by simp) fun g1 z1 k1 => ?_)
  replace z1 : ZipS g1 z t u .ellipsis := z1
  refine wpAny_bind ?_
  simp only [List.zipIdx_cons, List.zipIdx_nil, List.forIn_cons, List.forIn_nil]
  refine wpAny_bind (wpAny_bind (wpAny_onRaise ?_))
  show wpAny _ _ (Builtin.SmallTypes.nextOrEnd (.ref p)) _ _ _
  refine noe_item (hp.extBut k1.extBut D.i1z) (hl.extBut k1.extBut D.l1z) hx fun g2 p2 k2 => ?_
  have u2 : IsPair g2 u a b := k2.extBut _ _ D.TOi1 (k1.extBut _ _ D.TOz hu)
  refine wpAny_bind (wpAny_seqItems u2 rfl ?_)
  refine wpAny_bind (wpAny_updateSeq_pair u2 fun g3 u3 k3 => ?_)
  replace u3 : IsPair g3 u x b := u3
  refine wpAny_bind (wpAny_letGo (wpAny_pure ?_))
  refine wpAny_bind (wpAny_bind (wpAny_onRaise ?_))
  show wpAny _ _ (Builtin.SmallTypes.nextOrEnd (.ref q)) _ _ _
  refine noe_item (((hq.extBut k1.extBut D.i2z).extBut k2.extBut D.i12.symm).extBut k3.extBut D.TOi2.symm) (((hr.extBut k1.extBut D.l2z).extBut k2.extBut D.l2i1).extBut k3.extBut D.l2TO) hy fun g4 q4 k4 => ?_
  have u4 : IsPair g4 u x b := k4.extBut _ _ D.TOi2 u3
  refine wpAny_bind (wpAny_seqItems u4 rfl ?_)
  refine wpAny_bind (wpAny_updateSeq_pair u4 fun g5 u5 k5 => ?_)
  replace u5 : IsPair g5 u x y := u5
  refine wpAny_bind (wpAny_letGo (wpAny_pure (wpAny_pure ?_)))
  refine wpAny_bind (wpAny_seqItems u5 rfl ?_)
  refine wpAny_bind (wpAny_newTuple ?_)
  have sz : g5.objs.size = s.heap.objs.size := by rw [k5.1, k4.1, k3.1, k2.1, k1.1]
  have z5 : ZipS g5 z t u .ellipsis := k5.extBut _ _ D.TOz.symm (k4.extBut _ _ D.i2z.symm (k3.extBut _ _ D.TOz.symm (k2.extBut _ _ D.i1z.symm z1)))
  have kp : ∀ c o, c ≠ z → c ≠ u → c ≠ p → c ≠ q → s.heap.get? c = some o → g5.get? c = some o := fun c o c1 c2 c3 c4 e => k5.extBut _ _ c2 (k4.extBut _ _ c4 (k3.extBut _ _ c2 (k2.extBut _ _ c3 (k1.extBut _ _ c1 e))))
  have p5 : g5.IsListIter p l (i + 1) := ((p2.extBut k3.extBut D.TOi1.symm).extBut k4.extBut D.i12).extBut k5.extBut D.TOi1.symm
  have q5 : g5.IsListIter q r (j + 1) := q4.extBut k5.extBut D.TOi2.symm
  have zl : z < g5.objs.size := Heap.lt_size z5
  show wpAny _ _ (Builtin.SmallTypes.ownedTupleHandOut (.ref z) (.ref g5.objs.size) >>= _) _ _ _
  refine wpAny_bind ?_
  unfold Builtin.SmallTypes.ownedTupleHandOut
  have z6 : ZipS (g5.push { cls := .type "tuple", data := .seq #[x, y] }) z t u .ellipsis := Heap.get?_push_of_some _ z5
  refine wpAny_bind (wpAny_setField_rec z6 (by simp) fun g7 z7 k7 => ?_)
  replace z7 : ZipS g7 z t u (rawInt g5.objs.size) := z7
  refine wpAny_setField_rec z7 (by simp) fun g8 z8 k8 => ?_
  replace z8 : ZipS g8 z t u (rawInt g5.objs.size) := z8
  have up : ∀ c o, c ≠ z → g5.get? c = some o → g8.get? c = some o := fun c o c1 e => k8.extBut _ _ c1 (k7.extBut _ _ c1 (Heap.get?_push_of_some _ e))
  have t8 : IsPair g8 g5.objs.size x y := k8.extBut _ _ (Nat.ne_of_gt zl) (k7.extBut _ _ (Nat.ne_of_gt zl) (Heap.get?_push_size _ rfl))
  have s8 : g8.objs.size = g5.objs.size + 1 := by rw [k8.1, k7.1, Heap.size_push]
  rw [sz] at z8 t8 s8
  refine wpAny_pure ⟨_, rfl, ?_⟩
  show Q (.ref g5.objs.size) _
  rw [sz]
  exact post g8 z8 (up _ _ D.TOz u5) (p5.at fun o e => up _ o D.i1z e) (q5.at fun o e => up _ o D.i2z e) t8 s8 fun c o c1 c2 c3 c4 e => up c o c1 (kp c o c1 c2 c3 c4 e)
/-- the end of an iteration is raised -/
theorem stop_wp {α : Type} {Q : α → Shared → Prop} (hh : A.handled = none) (q : ∀ g e, (∀ c o, s.heap.get? c = some o → g.get? c = some o) → (∃ o, g.get? e = some o ∧ o.cls = .type "StopIteration") → X (.ref e) { s with heap := g }) :
    wpAny (model pg w) A (Builtin.SmallTypes.stopIteration : Sem α) Q X s := by
  unfold Builtin.SmallTypes.stopIteration
  refine wpAny_bind ?_
  simp only [newExc, newTuple]
  refine wpAny_bind (wpAny_newObj_type ?_ (by size_fits))
  refine wpAny_bind (m := firstArgMember _ _) (wpAny_of_eq (a := Value.none) (by simp only [firstArgMember]; rfl) ?_)
  refine wpAny_newObj_type ?_ (by size_fits)
  simp only [raiseNew]
  refine wpAny_bind (wpAny_handled ?_)
  rw [hh]
  refine wpAny_bind (wpAny_pure (wpAny_throw ?_))
  exact q _ _ (fun c o e => Heap.get?_push_of_some _ (Heap.get?_push_of_some _ e)) ⟨_, Heap.get?_push_size _ rfl, rfl⟩
theorem wp_ifF {α : Type} {c : Prop} {d : Decidable c} {m n : Sem α} {Q : α → Shared → Prop} (hc : ¬ c) (h : wpAny (model pg w) A n Q X s) : wpAny (model pg w) A (if c then m else n) Q X s := by rw [if_neg hc]; exact h
theorem zs_end {z t u p q l r : Addr} {i j : Nat} {xs ys : Array Value} {a b : Value} {Q : PySem.Fin → Shared → Prop} (hh : A.handled = none) (D : ZipApart z t u p q l r) (hz : ZipS s.heap z t u .none) (ht : IsPair s.heap t (.ref p) (.ref q)) (hu : IsPair s.heap u a b)
    (hp : s.heap.IsListIter p l i) (hq : s.heap.IsListIter q r j) (hl : s.heap.IsList l xs) (hr : s.heap.IsList r ys) (hx : xs[i]? = none) (hy : ys[j]? = none)
    (post : ∀ g e, (∀ c o, c ≠ z → c ≠ u → c ≠ p → c ≠ q → s.heap.get? c = some o → g.get? c = some o) → (∃ o, g.get? e = some o ∧ o.cls = .type "StopIteration") → X (.ref e) { s with heap := g }) :
    wpAny (model pg w) A (Builtin.«zip.__next__» ⟨[.ref z], []⟩) Q X s := by
  show wpAny _ _ (field (.ref z) 2 >>= _) _ _ _
  refine wpAny_bind (wpAny_field hz rfl (x := .bool true) rfl ?_)
  show wpAny _ _ (field (.ref z) 3 >>= _) _ _ _
  refine wpAny_bind (wpAny_field hz rfl (x := .ref t) rfl ?_)
  refine wpAny_bind (wpAny_seqItems ht rfl ?_)
  show wpAny _ _ (Builtin.SmallTypes.ownedTupleIsFree (.ref z) >>= _) _ _ _
  refine wpAny_bind ?_
  unfold Builtin.SmallTypes.ownedTupleIsFree
  refine wpAny_bind (wpAny_field hz rfl (x := .none) rfl (wpAny_pure ?_))
  simp only [if_true]
  refine wpAny_bind (wpAny_rule ?_)
  refine wpAny_bind (wpAny_field hz rfl (x := .ref u) rfl ?_)
  refine wpAny_bind (wpAny_setField_rec hz (by simp) fun g1 z1 k1 => ?_)
  replace z1 : ZipS g1 z t u .ellipsis := z1
  refine wpAny_bind ?_
  simp only [List.zipIdx_cons, List.zipIdx_nil, List.forIn_cons, List.forIn_nil]
  refine wpAny_bind (wpAny_bind (wpAny_onRaise ?_))
  show wpAny _ _ (Builtin.SmallTypes.nextOrEnd (.ref p)) _ _ _
  refine noe_end hh (hp.extBut k1.extBut D.i1z) (hl.extBut k1.extBut D.l1z) hx fun g2 k2 => ?_
  have z2 : ZipS g2 z t u .ellipsis := k2 _ _ D.i1z.symm z1
  refine wpAny_bind (wpAny_setField_rec z2 (by simp) fun g3 z3 k3 => ?_)
  refine wpAny_bind ?_
  refine wpAny_bind ?_
  simp only [List.drop_succ_cons, List.drop_zero, List.zipIdx_cons, List.zipIdx_nil, List.forIn_cons, List.forIn_nil]
  refine wpAny_bind (wpAny_bind (noe_end hh (((hq.extBut k1.extBut D.i2z).extBut k2 D.i12.symm).extBut k3.extBut D.i2z) (((hr.extBut k1.extBut D.l2z).extBut k2 D.l2i1).extBut k3.extBut D.l2z) hy fun g4 k4 => ?_))
  refine wpAny_pure (wpAny_pure ?_)
  refine wpAny_bind (wpAny_rule (stop_wp hh fun g5 e k5 he => ?_))
  exact post g5 e (fun c o c1 c2 c3 c4 x => k5 c o (k4 _ _ c4 (k3.extBut _ _ c1 (k2 _ _ c3 (k1.extBut _ _ c1 x))))) he
end
theorem zsA (a b c : Value) : checkTypeCall "zip" ⟨[a, b], [(Str.ofString "strict", c)]⟩ = pure () := by kernel_rfl
theorem zsB (a b c : Value) : checkBuiltinCall "zip.__new__" ⟨[.type "zip", a, b], [(Str.ofString "strict", c)]⟩ = pure () := by kernel_rfl
theorem zsC (o a b c : Value) : argsOk "object.__init__" ⟨[o, a, b], [(Str.ofString "strict", c)]⟩ := by unfold argsOk; kernel_rfl
abbrev zq1 (h : Heap) (l : Addr) : Heap := h.push { cls := .type "list_iterator", data := .fields #[.ref l, .int 0 0] }
abbrev zq2 (h : Heap) (l r : Addr) : Heap := (zq1 h l).push { cls := .type "list_iterator", data := .fields #[.ref r, .int 0 0] }
abbrev zq3 (h : Heap) (l r : Addr) : Heap := (zq2 h l r).push { cls := .type "tuple", data := .seq #[.ref h.objs.size, .ref (zq1 h l).objs.size] }
abbrev zq4 (h : Heap) (l r : Addr) : Heap := (zq3 h l r).push { cls := .type "tuple", data := .seq #[.none, .none] }
abbrev zq5 (h : Heap) (l r : Addr) : Heap := (zq4 h l r).push { cls := .type "zip", data := .fields #[.none, .bool false, .bool true, .ref (zq2 h l r).objs.size, .ref (zq3 h l r).objs.size] }
theorem zs_new (l r : Addr) (xs ys : Array Value) :
    Meets (Builtin.«zip.__new__» ⟨[.type "zip", .ref l, .ref r], [(Str.ofString "strict", .bool true)]⟩) (fun _ R s => s.heap.IsList l xs ∧ s.heap.IsList r ys ∧
      R (.ok (.ret (.ref (zq4 s.heap l r).objs.size))) { s with heap := zq5 s.heap l r }) :=
  .of_wp fun pg w A R s h => by
    obtain ⟨hp, g, d, tk, os⟩ := s
    obtain ⟨hl, hr, h⟩ := h
    have hsub := sub_zip
    have e2 : (Str.ofString "strict" != ("strict" : Str)) = false := by decide +kernel
    have m1 : Heap.IsList (Shared.heap ⟨hp, g, d, tk, os⟩) l xs := hl
    have m2 : Heap.IsList (Shared.heap ⟨hp.push { cls := .type "list_iterator", data := .fields #[.ref l, .int 0 0] }, g, d, tk, os⟩) r ys := Heap.IsList.push hr _
    wp_walk using wpAny_pyIter_list m1, wpAny_pyIter_list m2
    exact ⟨_, rfl, h⟩
section
variable {pg : Program} {w : World} {A : Around} {X : Value → Shared → Prop} {s : Shared}
end
end Itp

namespace Itp
open PySem L2
section
variable {pg : Program} {w : World} {A : Around} {X : Value → Shared → Prop} {s : Shared}
theorem zs_call {l r : Addr} {xs ys : Array Value} {Q : Value → Shared → Prop} (hl : s.heap.IsList l xs) (hr : s.heap.IsList r ys)
    (post : ∀ g, ZipS g (s.heap.objs.size + 4) (s.heap.objs.size + 2) (s.heap.objs.size + 3) .none → IsPair g (s.heap.objs.size + 2) (.ref s.heap.objs.size) (.ref (s.heap.objs.size + 1)) →
      IsPair g (s.heap.objs.size + 3) .none .none → g.IsListIter s.heap.objs.size l 0 → g.IsListIter (s.heap.objs.size + 1) r 0 → g.objs.size = s.heap.objs.size + 5 →
      (∀ c o, s.heap.get? c = some o → g.get? c = some o) → Q (.ref (s.heap.objs.size + 4)) { s with heap := g }) :
    wpAny (model pg w) A (call (.type "zip") [.ref l, .ref r] [(Str.ofString "strict", .bool true)]) Q X s := by
  refine callType_newKw F.called_zip (by decide) (zsA _ _ _) (zsB _ _ _) (fun obj => zsC obj _ _ _) F.entry_zip_new (zs_new l r xs ys) ⟨hl, hr, ?_⟩
  have z1 : (zq1 s.heap l).objs.size = s.heap.objs.size + 1 := Heap.size_push ..
  have z2 : (zq2 s.heap l r).objs.size = s.heap.objs.size + 2 := by rw [Heap.size_push, z1]
  have z3 : (zq3 s.heap l r).objs.size = s.heap.objs.size + 3 := by rw [Heap.size_push, z2]
  have z4 : (zq4 s.heap l r).objs.size = s.heap.objs.size + 4 := by rw [Heap.size_push, z3]
  have z5 : (zq5 s.heap l r).objs.size = s.heap.objs.size + 5 := by rw [Heap.size_push, z4]
  have g5 : (zq5 s.heap l r).get? (zq4 s.heap l r).objs.size = some _ := Heap.get?_push_size _ rfl
  have g4 : (zq5 s.heap l r).get? (zq3 s.heap l r).objs.size = some _ := Heap.get?_push_of_some _ (Heap.get?_push_size _ rfl)
  have g3 : (zq5 s.heap l r).get? (zq2 s.heap l r).objs.size = some _ := Heap.get?_push_of_some _ (Heap.get?_push_of_some _ (Heap.get?_push_size _ rfl))
  have g2 : (zq5 s.heap l r).get? (zq1 s.heap l).objs.size = some _ := Heap.get?_push_of_some _ (Heap.get?_push_of_some _ (Heap.get?_push_of_some _ (Heap.get?_push_size _ rfl)))
  have g1 : (zq5 s.heap l r).get? s.heap.objs.size = some _ := Heap.get?_push_of_some _ (Heap.get?_push_of_some _ (Heap.get?_push_of_some _ (Heap.get?_push_of_some _ (Heap.get?_push_size _ rfl))))
  show _ ∧ _
  rw [z2, z3, z4] at g5
  rw [z1, z2] at g3
  rw [z3] at g4
  rw [z1] at g2
  rw [z4]
  exact ⟨⟨_, g5, rfl⟩, post _ g5 g3 g4 ⟨_, g1, rfl, rfl⟩ ⟨_, g2, rfl, rfl⟩ z5 fun c o x => Heap.get?_push_of_some _ (Heap.get?_push_of_some _ (Heap.get?_push_of_some _ (Heap.get?_push_of_some _ (Heap.get?_push_of_some _ x))))⟩
theorem zs_pyItem {z t u p q l r : Addr} {i j : Nat} {xs ys : Array Value} {x y a b : Value} {Q : Option Value → Shared → Prop} (D : ZipApart z t u p q l r) (hz : ZipS s.heap z t u .none) (ht : IsPair s.heap t (.ref p) (.ref q)) (hu : IsPair s.heap u a b)
    (hp : s.heap.IsListIter p l i) (hq : s.heap.IsListIter q r j) (hl : s.heap.IsList l xs) (hr : s.heap.IsList r ys) (hx : xs[i]? = some x) (hy : ys[j]? = some y)
    (post : ∀ g, ZipS g z t u (rawInt s.heap.objs.size) → IsPair g u x y → g.IsListIter p l (i + 1) → g.IsListIter q r (j + 1) → IsPair g s.heap.objs.size x y → g.objs.size = s.heap.objs.size + 1 →
      (∀ c o, c ≠ z → c ≠ u → c ≠ p → c ≠ q → s.heap.get? c = some o → g.get? c = some o) → Q (some (.ref s.heap.objs.size)) { s with heap := g }) :
    wpAny (model pg w) A (pyNext (.ref z)) Q X s := by
  have ty : s.TypeIs (.ref z) "zip" := ⟨_, hz, rfl⟩
  unfold pyNext
  exact wpAny_bind (wpAny_attempt (wpAny_callSpecial?_slot (name := Str.ofString "__next__") ty F.slot_zip_next (wpAny_call_entry F.slot_zip_next ty F.entry_zip_next (zs_item D hz ht hu hp hq hl hr hx hy fun g b1 b2 b3 b4 b5 b6 b7 => wpAny_pure (post g b1 b2 b3 b4 b5 b6 b7)) (F.args_zip_next_1 _))))
theorem zs_pyEnd {z t u p q l r : Addr} {i j : Nat} {xs ys : Array Value} {a b : Value} {Q : Option Value → Shared → Prop} (hh : A.handled = none) (D : ZipApart z t u p q l r) (hz : ZipS s.heap z t u .none) (ht : IsPair s.heap t (.ref p) (.ref q)) (hu : IsPair s.heap u a b)
    (hp : s.heap.IsListIter p l i) (hq : s.heap.IsListIter q r j) (hl : s.heap.IsList l xs) (hr : s.heap.IsList r ys) (hx : xs[i]? = none) (hy : ys[j]? = none)
    (post : ∀ g, (∀ c o, c ≠ z → c ≠ u → c ≠ p → c ≠ q → s.heap.get? c = some o → g.get? c = some o) → Q none { s with heap := g }) : wpAny (model pg w) A (pyNext (.ref z)) Q X s := by
  have ty : s.TypeIs (.ref z) "zip" := ⟨_, hz, rfl⟩
  unfold pyNext
  refine wpAny_bind (wpAny_attempt (wpAny_callSpecial?_slot (name := Str.ofString "__next__") ty F.slot_zip_next (wpAny_call_entry F.slot_zip_next ty F.entry_zip_next (zs_end hh D hz ht hu hp hq hl hr hx hy fun g e kp he => ?_) (F.args_zip_next_1 _))))
  obtain ⟨o, ho, hc⟩ := he
  refine wpAny_bind (wpAny_isInstance (T := "StopIteration") (b := true) ⟨o, ho, hc⟩ isSubtype_stop ?_)
  exact wpAny_pure (post _ kp)
theorem wp_ifT {α : Type} {c : Prop} {d : Decidable c} {m n : Sem α} {Q : α → Shared → Prop} (hc : c) (h : wpAny (model pg w) A m Q X s) : wpAny (model pg w) A (if c then m else n) Q X s := by rw [if_pos hc]; exact h
theorem zs_go {elts : List Expr} {k0} {pos : Pos} {z t u T : Addr} {Q : Unit → Shared → Prop} (hz : ZipS s.heap z t u (rawInt T)) (post : ∀ g, ZipS g z t u .none → Heap.SameBut z s.heap g → Q () { s with heap := g }) :
    wpAny (model pg w) A (letOwnedTupleGo (.Tuple elts k0 pos) (.ref z) (.ref T)) Q X s := by
  unfold letOwnedTupleGo
  refine wpAny_bind (wpAny_load hz ?_)
  refine wp_ifT ?_ ?_
  · simp
  refine wpAny_bind (wpAny_rule ?_)
  show wpAny _ _ (setField (.ref z) 0 .none) Q X s
  exact wpAny_setField_rec hz (by simp) fun g a1 a2 => post g a1 a2
theorem zs_iter {z t u : Addr} {f : Value} {Q : Value → Shared → Prop} (hz : ZipS s.heap z t u f) (q : Q (.ref z) s) : wpAny (model pg w) A (pyIter (.ref z)) Q X s := by
  have ty : s.TypeIs (.ref z) "zip" := ⟨_, hz, rfl⟩
  refine wpAny_pyIter_slot ty F.slot_zip_iter (wpAny_call_entry F.slot_zip_iter ty F.entry_zip_iter ?_ (F.args_zip_iter_1 _))
  show wpAny _ _ (ret (.ref z)) _ _ s
  exact wpAny_pure ⟨_, rfl, "zip", _, ty, F.slot_zip_next.lookup, q⟩
end
end Itp

namespace Itp
open PySem L2
/-- two lists of one length, in new pairs -/
def ItS (K : PySem.W.Frag) (a b : Addr) : It :=
  ⟨(Itz K a b).go, (Itz K a b).yld, fun i H => ∃ xs ys : List V, SqL K H a xs ∧ SqL K H b ys ∧ xs.length ≤ i ∧ ys.length ≤ i⟩
theorem turn_zipS {P : Program} {w : World} {K : PySem.W.Frag} {elts : List Expr} {k0 : Nat} {tpos : Pos} {a b z t u p q : Addr} (D : ZipApart z t u p q a b) :
    Turn P w K (.Tuple elts k0 tpos) (ItS K a b) [z, t, u, p, q] z (fun i h => ZipS h z t u .none ∧ IsPair h t (.ref p) (.ref q) ∧ (∃ x y, IsPair h u x y) ∧ h.IsListIter p a i ∧ h.IsListIter q b i) where
  mem := by simp
  obj := fun i h st c hc => by
    obtain ⟨hz, ht, ⟨x, y, hu⟩, ⟨o1, e1, _, d1⟩, ⟨o2, e2, _, d2⟩⟩ := st
    have cs : c = z ∨ c = t ∨ c = u ∨ c = p ∨ c = q := by simpa using hc
    rcases cs with e | e | e | e | e <;> rw [e]
    · exact ⟨_, hz, fun v k => nomatch k⟩
    · exact ⟨_, ht, fun v k => nomatch k⟩
    · exact ⟨_, hu, fun v k => nomatch k⟩
    · exact ⟨o1, e1, fun v k => by rw [d1] at k; cases k⟩
    · exact ⟨o2, e2, fun v k => by rw [d2] at k; cases k⟩
  keep := fun i h h' st k => by
    obtain ⟨hz, ht, ⟨x, y, hu⟩, hp, hq⟩ := st
    exact ⟨k z (by simp) _ hz, k t (by simp) _ ht, ⟨x, y, k u (by simp) _ hu⟩, hp.at fun o e => k p (by simp) o e, hq.at fun o e => k q (by simp) o e⟩
  item := by
    intro X hP hw hK hc i pins s σ H E I hf st hg
    subst hP hw hK
    obtain ⟨hz, ht, ⟨x0, y0, hu⟩, hp, hq⟩ := st
    obtain ⟨xs, ys, x, y, mx, my, hx, hy⟩ := hg
    obtain ⟨its, rv, pl, _⟩ := I.list mx
    obtain ⟨its2, rv2, pl2, _⟩ := I.list my
    obtain ⟨v1, hv1, r1⟩ := rv.get hx
    obtain ⟨v2, hv2, r2⟩ := rv2.get hy
    have zl : z < s.heap.objs.size := Heap.lt_size hz
    refine zs_pyItem D hz ht hu hp hq pl.isList pl2.isList (x := v1) (y := v2) (by simpa using hv1) (by simpa using hv2) fun g z1 u1 p1 q1 hT sz kp => ?_
    refine ⟨_, rfl, zs_go (s := { s with heap := g }) z1 fun g2 z2 sb => ?_⟩
    have hT2 : g2.get? s.heap.objs.size = some { cls := .type "tuple", data := .seq #[v1, v2] } := (sb.2 _ (Nat.ne_of_gt zl)).trans hT
    have new : ObjOk X.prog X.w (upd H s.heap.objs.size (.tup [x, y])) g2 s.heap.objs.size (.tup [x, y]) := ⟨by show 2 ≤ sizeLine; decide, [v1, v2], .cons r1 (.cons r2 .nil), ⟨_, hT2, rfl, _, rfl⟩⟩
    have I1 : Inv X pins σ (upd H s.heap.objs.size (.tup [x, y])) { s with heap := g2 } :=
      I.turnedNew (t' := s.toks) (ch := [z, t, u, p, q]) (fun c o hb e => (sb.2 c (fun e' => hb (by simp [e']))).trans (kp c o (fun e' => hb (by simp [e'])) (fun e' => hb (by simp [e'])) (fun e' => hb (by simp [e'])) (fun e' => hb (by simp [e'])) e)) hf (Nat.le_refl _) new
    refine ⟨.ref s.heap.objs.size, _, I1, rfl, ⟨_, x, y, rfl, I.hok.fresh (Nat.le_refl _), rfl, fun l hl => by rw [I.list_inj hl mx]; exact hx, fun l hl => by rw [I.list_inj hl my]; exact hy⟩, ⟨z2, ?_, ⟨v1, v2, ?_⟩, ?_, ?_⟩, fun c hcm => ?_⟩
    · exact (sb.2 _ D.TIz).trans (kp _ _ D.TIz D.TITO D.TIi1 D.TIi2 ht)
    · exact (sb.2 _ D.TOz).trans u1
    · exact p1.at fun o e => (sb.2 _ D.i1z).trans e
    · exact q1.at fun o e => (sb.2 _ D.i2z).trans e
    · have lt : c < s.heap.objs.size := by
        have cs : c = z ∨ c = t ∨ c = u ∨ c = p ∨ c = q := by simpa using hcm
        rcases cs with e | e | e | e | e <;> rw [e]
        · exact zl
        · exact Heap.lt_size ht
        · exact Heap.lt_size hu
        · obtain ⟨_, e1, _⟩ := hp; exact Heap.lt_size e1
        · obtain ⟨_, e2, _⟩ := hq; exact Heap.lt_size e2
      rw [upd_ne (Nat.ne_of_lt lt)]
      exact (hf c hcm).1
  done := by
    intro X hP hw hK hc i pins s σ H E I hf st hg
    subst hP hw hK
    obtain ⟨hz, ht, ⟨x0, y0, hu⟩, hp, hq⟩ := st
    obtain ⟨xs, ys, mx, my, b1, b2⟩ := hg
    obtain ⟨its, rv, pl, _⟩ := I.list mx
    obtain ⟨its2, rv2, pl2, _⟩ := I.list my
    have l1 := rv.length
    have l2 := rv2.length
    exact zs_pyEnd (I.ok.hd hc) D hz ht hu hp hq pl.isList pl2.isList (by simp; omega) (by simp; omega) fun g kp => ⟨rfl, I.turnedL (t' := s.toks) (ch := [z, t, u, p, q]) (fun c o hb e => kp c o (fun e' => hb (by simp [e'])) (fun e' => hb (by simp [e'])) (fun e' => hb (by simp [e'])) (fun e' => hb (by simp [e'])) e) hf⟩
  self := fun A i s Q E st h => zs_iter st.1 h
end Itp

namespace Itp
open PySem L2
/-- a class of the language called with keywords -/
theorem cw_ty {M : Model} {A : Around} {X : Value → Shared → Prop} {s : Shared} {env : PySem.Env} {pos : Pos} {T : String} {e : Expr} {es : List Expr} {kws : List Keyword} {Q : Value → Shared → Prop}
    (h : wpAny M A (spliced (backTo pos (starEach (e :: es) env))) (fun vs s1 => wpAny M A (evalAll ((backToKw pos (keywordEach kws env)).map (·.2)))
      (fun kvs s2 => wpAny M A (call (.type T) vs (((backToKw pos (keywordEach kws env)).filterMap (·.1)).zip kvs)) Q X s2) X s1) X s)
    (he : backTo pos (starEach (e :: es) env) = (false, eval e env) :: backTo pos (starEach es env)) (hp : (backTo pos (starEach (e :: es) env)).any (·.1) = false)
    (ha : (backToKw pos (keywordEach kws env)).all (·.1.isSome) = true) (hk : (backToKw pos (keywordEach kws env)).any (·.1.isNone) = false) :
    wpAny M A (callWith pos (.type T) [] (backTo pos (starEach (e :: es) env)) (backToKw pos (keywordEach kws env))) Q X s := by
  have h2 : wpAny M A (evalArgs (.type T) true (backTo pos (starEach (e :: es) env)) (backToKw pos (keywordEach kws env))) (fun a s1 => wpAny M A (call (.type T) ([] ++ a.pos) a.kw) Q X s1) X s := by
    rw [he] at h ⊢
    exact PyProof.Rows.evalArgs_kwB ha h
  unfold callWith
  refine wpAny_bind (wpAny_holding (wpAny_mono h2 (fun a s2 h3 => wpAny_bind (wpAny_standAt ?_)) fun _ _ y => y))
  simp only [hp, hk, Bool.or_false]
  refine wpAny_bind (wpAny_pure ?_)
  exact wpAny_bind (wpAny_mono h3 (fun r s3 hr => wpAny_bind (wpAny_holding (wpAny_point (wpAny_pure hr)))) fun _ _ y => y)
def iZipS (K : PySem.W.Frag) (ta tk : TA) : TI := fun σ H R => ta σ H fun vs H1 => tk σ H1 fun ks H2 => ∃ a b xs ys, vs = [.ref a, .ref b] ∧ ks = [.bl true] ∧ SqL K H2 a xs ∧ SqL K H2 b ys ∧ R (ItS K a b) H2
theorem pi_zipS {X : Cx} {e e2 : Expr} {kws : List Keyword} {ta tk : TA} {p pos tpos : Pos} {elts : List Expr} {k0 : Nat} (hg : Gl X "zip") (hm : X.mg "zip" = none) (ha : PA X [e, e2] ta) (hk : PK X kws tk)
    (he : backTo pos (starEach [e, e2] X.env) = (false, eval e X.env) :: backTo pos (starEach [e2] X.env)) (hp : (backTo pos (starEach [e, e2] X.env)).any (·.1) = false)
    (hal : (backToKw pos (keywordEach kws X.env)).all (·.1.isSome) = true) (hnn : (backToKw pos (keywordEach kws X.env)).any (·.1.isNone) = false) (hks : (backToKw pos (keywordEach kws X.env)).filterMap (·.1) = [Str.ofString "strict"]) :
    PI X (.Tuple elts k0 tpos) (.Call (.Name "zip" p) [e, e2] kws pos) (iZipS X.K ta tk) := by
  refine ⟨fun pins s σ H R I h => ?_⟩
  refine wpAny_Call_Name_kw (ld_blt I hg hm PyProof.Rows.boot_zip ?_)
  refine cw_ty (thn (ha.run pos pins s σ H _ I h) fun us s1 ⟨vs, H1, I1, r1, q1⟩ => thn (hk.run pos pins s1 σ H1 _ I1 q1) fun ws s2 ⟨ks, H2, I2, r2, q2⟩ => ?_) he hp hal hnn
  rw [hks]
  obtain ⟨a, b, xs, ys, ex, ek, mx, my, q⟩ := q2
  subst ex ek
  cases r1 with
  | cons r rr =>
    cases rr with
    | cons r' rr =>
      cases rr
      cases r
      cases r'
      cases r2 with
      | cons rk rr =>
        cases rr
        cases rk
        obtain ⟨its, rv, pl, _⟩ := I2.list mx
        obtain ⟨its2, rv2, pl2, _⟩ := I2.list my
        have fr5 : ∀ c, c ∈ [s2.heap.objs.size + 4, s2.heap.objs.size + 2, s2.heap.objs.size + 3, s2.heap.objs.size, s2.heap.objs.size + 1] → FpOk X pins H2 c := fun c hcm => by
          have hle : s2.heap.objs.size ≤ c := by
            simp only [List.mem_cons, List.not_mem_nil, or_false] at hcm
            rcases hcm with z | z | z | z | z <;> omega
          exact I2.fpOk hle (I2.hok.fresh hle)
        show wpAny _ _ (call (.type "zip") [.ref a, .ref b] [(Str.ofString "strict", .bool true)]) _ _ _
        refine zs_call pl.isList pl2.isList fun g hz ht hu h1 h2 hsz hkp => zs_iter hz ?_
        have I3 : Inv X pins σ H2 { s2 with heap := g } := I2.kept (t' := s2.toks) hkp
        exact ⟨s2.heap.objs.size + 4, [s2.heap.objs.size + 4, s2.heap.objs.size + 2, s2.heap.objs.size + 3, s2.heap.objs.size, s2.heap.objs.size + 1], _, _, H2, rfl, I3, turn_zipS (PySem.W.ktu_apart s2.heap.objs.size a b pl.lt pl2.lt), ⟨hz, ht, ⟨_, _, hu⟩, h1, h2⟩, fr5, q⟩
end Itp

namespace Itp
open PySem L2
/-! ### objects and dicts beside the heap -/
section
variable {K : PySem.W.Frag} {cl : Nat → Addr} {μ : List Addr} {Z : Addr → Prop} {S : Store} {H : Hp}
theorem ins_at {x : Val} {v : V} {k : Nat} {ns : List Str} {xs : List Val} (s : Sim K cl μ Z S H) (r : Rel K cl μ Z H x v) (h : insOf S x = some (k, ns, xs)) : ∃ a dx vs, v = .ref a ∧ H a = some (.ins (cl k) dx (ns.zip vs)) ∧ ns.length = xs.length ∧ RelL K cl μ Z H xs vs := by
  cases r with
  | iv h1 h2 h3 h4 h5 h6 h7 h8 => cases h; exact ⟨_, _, _, rfl, h5, h7, h8⟩
  | ref h1 =>
    unfold insOf at h
    dsimp only at h
    split at h
    · rename_i c ns' xs' e
      cases h
      obtain ⟨dx, vs, q1, q2, q3, q4, q5, q6⟩ := s.ob _ _ _ h1 e
      exact ⟨_, dx, vs, rfl, q1, q5, q6⟩
    · cases h
  | _ => cases h
theorem fld_at : ∀ {ns : List Str} {xs : List Val} {vs : List V} {f : Str} {x : Val}, RelL K cl μ Z H xs vs → fldOf ns xs f = some x → ∃ v, (ns.zip vs).lookup f = some v ∧ Rel K cl μ Z H x v
  | [], xs, vs, f, x, r, h => by unfold fldOf at h; simp at h
  | n :: ns, [], vs, f, x, r, h => by unfold fldOf at h; simp at h
  | n :: ns, y :: xs, _, f, x, .cons (v := w) (vs := ws) r t, h => by
    unfold fldOf at h
    rw [List.zip_cons_cons, List.lookup_cons] at h ⊢
    cases e : f == n with
    | true => rw [e] at h; cases h; exact ⟨w, rfl, r⟩
    | false =>
      rw [e] at h
      obtain ⟨v, h1, h2⟩ := fld_at (ns := ns) (f := f) (x := x) t h
      exact ⟨v, h1, h2⟩
theorem fld_none : ∀ {ns : List Str} {xs : List Val} {vs : List V} {f : Str}, RelL K cl μ Z H xs vs → fldOf ns xs f = none → (ns.zip vs).lookup f = none
  | [], xs, vs, f, r, h => by simp
  | n :: ns, [], _, f, .nil, h => by simp
  | n :: ns, y :: xs, _, f, .cons (v := w) (vs := ws) r t, h => by
    unfold fldOf at h
    rw [List.zip_cons_cons, List.lookup_cons] at h ⊢
    cases e : f == n with
    | true => rw [e] at h; cases h
    | false =>
      rw [e] at h
      exact fld_none (ns := ns) (f := f) t h
theorem putN_ok : ∀ {ns : List Str} {xs : List Val} {vs : List V} {f : Str} {x : Val} {v : V}, RelL K cl μ Z H xs vs → ns.length = xs.length → Rel K cl μ Z H x v →
    (putN f x ns xs).1.zip (putN f v ns vs).2 = putF f v (ns.zip vs) ∧ (putN f x ns xs).1.length = (putN f x ns xs).2.length ∧ RelL K cl μ Z H (putN f x ns xs).2 (putN f v ns vs).2
  | [], [], _, f, x, v, .nil, h, q => by simp only [putN, putF, List.zip_nil_left, List.zip_cons_cons]; exact ⟨trivial, rfl, .cons q .nil⟩
  | n :: ns, y :: xs, _, f, x, v, .cons (v := w) (vs := ws) r t, h, q => by
    obtain ⟨h1, h2, h3⟩ := putN_ok (ns := ns) (f := f) t (by simpa using h) q
    by_cases e : n = f
    · simp only [putN, putF, List.zip_cons_cons, if_pos e]
      refine ⟨trivial, by simpa using h, .cons q t⟩
    · simp only [putN, putF, List.zip_cons_cons, if_neg e, h1, List.length_cons, h2]
      exact ⟨trivial, trivial, .cons r h3⟩
/-- an attribute set: the heap behind it -/
theorem fldSet_ok {ks : List Nat} {o x : Val} {ov w : V} {f : Str} {S' : Store} (s : Sim K cl μ Z S H) (ro : Rel K cl μ Z H o ov) (rx : Rel K cl μ Z H x w) (h : fldSet S ks o f x = some S') :
    ∃ a k dx fs, ov = .ref a ∧ H a = some (.ins (cl k) dx fs) ∧ k ∈ ks ∧ fs.length < 1000 ∧ Stp K cl Z μ H μ S' (upd H a (.ins (cl k) dx (putF f w fs))) := by
  cases ro with
  | ref h1 =>
    rename_i n a
    unfold fldSet at h
    dsimp only at h
    split at h
    · rename_i k ns xs e
      split at h
      · rename_i hc
        cases h
        obtain ⟨dx, vs, q1, q2, q3, q4, q5, q6⟩ := s.ob _ _ _ h1 e
        have hme := List.mem_of_getElem? h1
        obtain ⟨p1, p2, p3⟩ := putN_ok (f := f) q6 q5 rx
        have ne : dx ≠ a := fun z => q3 (z ▸ hme)
        refine ⟨a, k, dx, _, rfl, q1, by simpa using hc.1, by rw [List.length_zip]; omega, Stp.set s h1 ⟨dx, (putN f w ns vs).2, ?_, ?_, q3, q4, p2, p3.move (fun _ _ q => q) (set_keep hme)⟩⟩
        · rw [upd_same, p1]
        · rw [upd_ne ne]; exact q2
      · cases h
    · cases h
  | _ => cases h
theorem key_at : ∀ {xs : List Val} {vs : List V} {q : List Key}, RelL K cl μ Z H xs vs → keyOf xs = some q → vs = q.map kV
  | [], _, q, .nil, h => by cases h; rfl
  | .int i :: r, _, q, .cons r1 t, h => by
    unfold keyOf at h
    obtain ⟨q', e, rfl⟩ := Option.map_eq_some_iff.mp h
    cases r1
    rw [key_at t e]; rfl
  | .str i :: r, _, q, .cons r1 t, h => by
    unfold keyOf at h
    obtain ⟨q', e, rfl⟩ := Option.map_eq_some_iff.mp h
    cases r1
    rw [key_at t e]; rfl
  | .non :: r, _, q, _, h => by cases h
  | .bl _ :: r, _, q, _, h => by cases h
  | .tup _ :: r, _, q, _, h => by cases h
  | .lv _ :: r, _, q, _, h => by cases h
  | .sl _ :: r, _, q, _, h => by cases h
  | .iv .. :: r, _, q, _, h => by cases h
  | .ref _ :: r, _, q, _, h => by cases h
theorem keyV_at {y : Val} {w : V} {q : List Key} (r : Rel K cl μ Z H y w) (h : keyV y = some q) : ∃ b, w = .ref b ∧ H b = some (.tup (q.map kV)) ∧ b ∉ μ := by
  cases r with
  | tup h1 h2 h3 h4 =>
    have e := key_at h4 h
    subst e
    exact ⟨_, rfl, h3, h1⟩
  | _ => cases h
theorem dic_at {x : Val} {v : V} {ks : List (List Key)} {xs : List Val} (s : Sim K cl μ Z S H) (r : Rel K cl μ Z H x v) (h : dicOf S x = some (ks, xs)) : ∃ a vs, v = .ref a ∧ H a = some (.dT (ks.zip vs)) ∧ ks.length = xs.length ∧ RelL K cl μ Z H xs vs := by
  cases r with
  | ref h1 =>
    unfold dicOf at h
    dsimp only at h
    split at h
    · rename_i ks' xs' e
      cases h
      obtain ⟨vs, q1, q2, q3⟩ := s.ob _ _ _ h1 e
      exact ⟨_, vs, rfl, q1, q2, q3⟩
    · cases h
  | _ => cases h
theorem dval_at {κ : Type} [DecidableEq κ] : ∀ {ks : List κ} {xs : List Val} {vs : List V} {q : κ}, RelL K cl μ Z H xs vs → (∀ x, dval ks xs q = some x → ∃ v, valV (ks.zip vs) q = some v ∧ Rel K cl μ Z H x v) ∧ (dval ks xs q = none → valV (ks.zip vs) q = none)
  | [], xs, vs, q, r => by simp [dval, valV]
  | k :: ks, [], _, q, .nil => by simp [dval, valV]
  | k :: ks, y :: xs, _, q, .cons (v := w) (vs := ws) r t => by
    have ih := dval_at (ks := ks) (q := q) t
    unfold dval at ih ⊢
    unfold valV at ih ⊢
    simp only [List.zip_cons_cons, List.find?_cons]
    by_cases e : k = q
    · simp only [decide_eq_true e, Option.map_some]
      exact ⟨fun x h => ⟨w, rfl, by cases h; exact r⟩, fun h => by cases h⟩
    · simp only [decide_eq_false e]
      exact ih
theorem any_zip {κ : Type} [DecidableEq κ] : ∀ {α : Type} {ks : List κ} {vs : List α} {q : κ}, ks.length = vs.length → ((ks.zip vs).any fun kv => decide (kv.1 = q)) = ks.any fun k => decide (k = q)
  | _, [], _, q, h => by simp
  | _, k :: ks, [], q, h => by cases h
  | _, k :: ks, v :: vs, q, h => by
    simp only [List.zip_cons_cons, List.any_cons]
    rw [any_zip (by simpa using h)]
theorem putD_ok {κ : Type} [DecidableEq κ] {ks : List κ} {xs : List Val} {vs : List V} {q : κ} {x : Val} {v : V} (r : RelL K cl μ Z H xs vs) (hl : ks.length = xs.length) (rx : Rel K cl μ Z H x v) :
    (putD ks xs q x).1.zip (putD ks vs q v).2 = putK (ks.zip vs) q v ∧ (putD ks xs q x).1.length = (putD ks xs q x).2.length ∧ RelL K cl μ Z H (putD ks xs q x).2 (putD ks vs q v).2 := by
  have hl2 : ks.length = vs.length := by rw [hl, r.length]
  unfold putD putK
  rw [any_zip hl2]
  split
  · refine ⟨?_, by simp [hl], ?_⟩
    · have : ∀ {ks : List κ} {vs : List V}, ks.length = vs.length → ks.zip (List.zipWith (fun k x => if k = q then v else x) ks vs) = (ks.zip vs).map fun kv => if kv.1 = q then (kv.1, v) else kv := by
        intro ks
        induction ks with
        | nil => intro vs _; simp
        | cons k ks ih =>
          intro vs h
          cases vs with
          | nil => cases h
          | cons w ws =>
            simp only [List.zipWith_cons_cons, List.zip_cons_cons, List.map_cons, ih (by simpa using h)]
            congr 1
            by_cases e : k = q <;> simp [e]
      exact this hl2
    · have : ∀ {ks : List κ} {xs : List Val} {vs : List V}, RelL K cl μ Z H xs vs → RelL K cl μ Z H (List.zipWith (fun k y => if k = q then x else y) ks xs) (List.zipWith (fun k y => if k = q then v else y) ks vs) := by
        intro ks
        induction ks with
        | nil => intro xs vs _; simp only [List.zipWith_nil_left]; exact .nil
        | cons k ks ih =>
          intro xs vs r
          cases r with
          | nil => simp only [List.zipWith_nil_right]; exact .nil
          | cons r t =>
            simp only [List.zipWith_cons_cons]
            refine .cons ?_ (ih t)
            split
            · exact rx
            · exact r
      exact this r
  · refine ⟨?_, by simp [hl], r.append (.cons rx .nil)⟩
    rw [List.zip_append hl2]; rfl
theorem dicSet_ok {o y x : Val} {ov yv w : V} {S' : Store} (s : Sim K cl μ Z S H) (ro : Rel K cl μ Z H o ov) (ry : Rel K cl μ Z H y yv) (rx : Rel K cl μ Z H x w) (h : dicSet S o y x = some S') :
    ∃ a H', ov = .ref a ∧ DPut H a yv w H' ∧ Stp K cl Z μ H μ S' H' := by
  cases ro with
  | ref h1 =>
    rename_i n a
    unfold dicSet at h
    dsimp only at h
    split at h
    · rename_i ks xs e
      obtain ⟨q, eq, h⟩ := Option.bind_eq_some_iff.mp h
      split at h
      · rename_i hc
        cases h
        obtain ⟨vs, q1, q2, q3⟩ := s.ob _ _ _ h1 e
        obtain ⟨b, rfl, hb, _⟩ := keyV_at ry eq
        have hme := List.mem_of_getElem? h1
        obtain ⟨p1, p2, p3⟩ := putD_ok (q := q) q3 q2 rx
        refine ⟨a, _, rfl, DPut.t q1 hb (by rw [List.length_zip]; omega), Stp.set s h1 ⟨(putD ks vs q w).2, ?_, p2, p3.move (fun _ _ q => q) (set_keep hme)⟩⟩
        rw [upd_same, p1]
      · cases h
    · cases h
  | _ => cases h
theorem keyIv_at {y : Val} {w : V} {q : Key} (r : Rel K cl μ Z H y w) (h : keyIv y = some q) : w = kV q := by
  cases r <;> cases h <;> rfl
theorem dik_at {x : Val} {v : V} {ks : List Key} {xs : List Val} (s : Sim K cl μ Z S H) (r : Rel K cl μ Z H x v) (h : dikOf S x = some (ks, xs)) : ∃ a vs, v = .ref a ∧ H a = some (.dK (ks.zip vs)) ∧ ks.length = xs.length ∧ RelL K cl μ Z H xs vs := by
  cases r with
  | ref h1 =>
    unfold dikOf at h
    dsimp only at h
    split at h
    · rename_i ks' xs' e
      cases h
      obtain ⟨vs, q1, q2, q3⟩ := s.ob _ _ _ h1 e
      exact ⟨_, vs, rfl, q1, q2, q3⟩
    · cases h
  | _ => cases h
theorem dikSet_ok {o y x : Val} {ov yv w : V} {S' : Store} (s : Sim K cl μ Z S H) (ro : Rel K cl μ Z H o ov) (ry : Rel K cl μ Z H y yv) (rx : Rel K cl μ Z H x w) (h : dikSet S o y x = some S') :
    ∃ a H', ov = .ref a ∧ DPut H a yv w H' ∧ Stp K cl Z μ H μ S' H' := by
  cases ro with
  | ref h1 =>
    rename_i n a
    unfold dikSet at h
    dsimp only at h
    split at h
    · rename_i ks xs e
      obtain ⟨q, eq, h⟩ := Option.bind_eq_some_iff.mp h
      split at h
      · rename_i hc
        cases h
        obtain ⟨vs, q1, q2, q3⟩ := s.ob _ _ _ h1 e
        obtain rfl := keyIv_at ry eq
        have hme := List.mem_of_getElem? h1
        obtain ⟨p1, p2, p3⟩ := putD_ok (q := q) q3 q2 rx
        refine ⟨a, _, rfl, DPut.k q1 (by rw [List.length_zip]; omega), Stp.set s h1 ⟨(putD ks vs q w).2, ?_, p2, p3.move (fun _ _ q => q) (set_keep hme)⟩⟩
        rw [upd_same, p1]
      · cases h
    · cases h
  | _ => cases h
/-- a new object of the store -/
theorem Sim.push {p : Addr} {o : HO} {ob : Ob} (s : Sim K cl μ Z S H) (h : H p = none) (r : ObRel K cl (μ ++ [p]) Z (upd H p o) p ob) : Sim K cl (μ ++ [p]) Z (S ++ [ob]) (upd H p o) := by
  have f := s.free h
  have kp : ∀ a u, H a = some u → a ∉ μ → ¬ Z a → a ∉ μ ++ [p] ∧ ¬ Z a ∧ upd H p o a = some u := fun a u e n z =>
    have ne : a ≠ p := ne_of_none e h
    ⟨fun q => by
      rcases List.mem_append.mp q with q | q
      · exact n q
      · exact ne (by simpa using q), z, by rw [upd_ne ne]; exact e⟩
  refine ⟨by simp [s.len], ?_, fun n a ob' h1 h2 => ?_, fun a z => ?_, fun a z q => ?_⟩
  · rw [List.nodup_append]
    refine ⟨s.nd, by simp, fun a ha b hb e => ?_⟩
    simp at hb
    subst e; subst hb
    exact f.1 ha
  · by_cases hn : n < μ.length
    · rw [List.getElem?_append_left hn] at h1
      rw [List.getElem?_append_left (by rw [← s.len]; exact hn)] at h2
      exact (s.ob n a ob' h1 h2).move (fun _ _ q => app_get q) kp (upd_ne fun e => f.1 (e ▸ List.mem_of_getElem? h1))
    · rw [List.getElem?_append_right (by omega)] at h1
      rw [List.getElem?_append_right (by rw [← s.len]; omega), ← s.len] at h2
      cases e : n - μ.length with
      | zero =>
        rw [e] at h1 h2
        simp at h1 h2
        subst h1; subst h2
        exact r
      | succ k =>
        rw [e] at h1
        simp at h1
  · obtain ⟨u, e⟩ := s.zt a z
    exact ⟨u, by rw [upd_ne (ne_of_none e h)]; exact e⟩
  · rcases List.mem_append.mp q with q | q
    · exact s.zm a z q
    · simp at q; subst q; exact f.2 z
theorem Stp.push {p : Addr} {o : HO} {ob : Ob} (s : Sim K cl μ Z S H) (h : H p = none) (r : ObRel K cl (μ ++ [p]) Z (upd H p o) p ob) : Stp K cl Z μ H (μ ++ [p]) (S ++ [ob]) (upd H p o) :=
  ⟨⟨[p], rfl, by simpa using h⟩, fun b u e _ => by rw [upd_ne (ne_of_none e h)]; exact e, s.push h r⟩
end
theorem base_of {po : Expr} {m : Str} {env : PySem.Env} (h : notBareCall po = true) : attributeBase po m env (eval po env) = eval po env := by
  cases po with
  | Call f as ks ps =>
    cases f with
    | Name x q =>
      cases as with
      | nil =>
        cases ks with
        | nil => cases h
        | cons => rfl
      | cons => rfl
    | _ => rfl
  | _ => rfl
end Itp

namespace Itp
open PySem L2
section
variable {X : Cx} {cl : Nat → Addr} {c : Oracle} {g : G} {p : Pl} {n : Nat}
theorem s_attr (ok : Ok X g p cl c n) {ks : List Nat} {a : E} {f : Str} {pa : Expr} {pos : Pos} (hb : notBareCall pa = true) (hk : (ks.all fun k => g.na k f) = true) (h : PE X pa (tI X.K cl c a)) : PE X (.Attribute pa f pos) (tI X.K cl c (.attr ks a f)) := by
  refine PE.imp (pe_fld h (base_of hb)) ?_
  rintro σ H Q ⟨μ, Z, S, ρ, v, S', sm, re, ev, k⟩
  unfold evE at ev
  obtain ⟨⟨x, S1⟩, e1, ev⟩ := Option.bind_eq_some_iff.mp ev
  obtain ⟨⟨k', ns, xs⟩, e2, ev⟩ := Option.bind_eq_some_iff.mp ev
  dsimp only at ev
  split at ev
  · rename_i hc
    obtain ⟨z, e3, ev⟩ := Option.map_eq_some_iff.mp ev
    cases ev
    refine ⟨μ, Z, S, ρ, x, _, sm, re, e1, fun μ1 H1 w st1 r1 => ?_⟩
    obtain ⟨a0, dx, vs, rfl, q1, q2, q3⟩ := ins_at st1.sm r1 e2
    obtain ⟨u, q4, q5⟩ := fld_at q3 e3
    have hm : k' ∈ ks := by simpa using hc
    have na := ok.na k' f (List.all_eq_true.mp hk k' hm)
    exact ⟨a0, cl k', dx, _, u, rfl, q1, na.1, na.2, q4, k μ1 H1 u st1 q5⟩
  · cases ev
theorem meth_eval {o : Expr} {m : Str} {apos pos : Pos} {args : List Expr} {env : PySem.Env} (hbase : attributeBase o m env (eval o env) = eval o env)
    (hform : methodCallForm (args.length + ([] : List Keyword).length) (backTo pos (starEach args env)) (backToKw pos (keywordEach [] env)) = true) (hline : (apos.endLine == pos.line) = true) :
    eval (.Call (.Attribute o m apos) args [] pos) env = (do
      let ov ← eval o env
      standAt apos.atName
      let (f, first) ← holding [ov] (getMethod ov m (do return (← importBound o env).getD true))
      callWith pos f first (backTo pos (starEach args env)) (backToKw pos (keywordEach [] env))) := by
  have hpos : methodCallPos true o env apos pos = pure pos := by unfold methodCallPos; simp [hline]
  rw [arm_eval_Call, hbase]
  unfold methodCall
  rw [hform]
  simp only [hpos, calleeOf, if_true]
  rfl
theorem form_of {pos : Pos} {env : PySem.Env} {es : EL} {args : List Expr} (hc : chkL g p es args = true) (hl : args.length < 30) : methodCallForm (args.length + ([] : List Keyword).length) (backTo pos (starEach args env)) (backToKw pos (keywordEach [] env)) = true := by
  have h1 := star_any (pos := pos) (env := env) hc
  have h2 : (backTo pos (starEach args env)).all (fun x => !x.1) = true := by
    rw [List.all_eq_true]
    intro x hx
    have := List.any_eq_false.mp h1 x hx
    simpa using this
  unfold methodCallForm
  have h3 : (backToKw pos (keywordEach [] env)).all (fun x => x.1.isSome) = true := rfl
  have h4 : decide (args.length + ([] : List Keyword).length + (if (backToKw pos (keywordEach [] env)).isEmpty then 0 else 1) < 30) = true := by
    have : (backToKw pos (keywordEach [] env)).isEmpty = true := rfl
    simp only [this, if_true, List.length_nil]
    exact decide_eq_true (by omega)
  simp only [h2, h3, Bool.true_and]
  exact h4
theorem s_meth (ok : Ok X g p cl c n) {raw : Bool} {k f : Nat} {m : Str} {ps : List Str} {a : E} {es : EL} {pa : Expr} {xs : List Expr} {apos pos : Pos} (hf : g.ms f = some (k, m, ps)) (hl : ps.length = xs.length + 1) (hb : notBareCall pa = true) (hline : (apos.endLine == pos.line) = true) (h30 : xs.length < 30) (hc : chkL g p es xs = true)
    (ha : PE X pa (tI X.K cl c a)) (h : PA X xs (tA X.K cl c es)) : PE X (.Call (.Attribute pa m apos) xs [] pos) (tI X.K cl c (.meth raw k m f a es)) := by
  obtain ⟨cls, af, fd, mt, b, F⟩ := ok.ms f k m ps hf
  have key : PE X (.Call (.Attribute pa m apos) xs [] pos) (tMeth (cl k) m (spC X.K cl c f ps) [] E0 (tI X.K cl c a) (tA X.K cl c es)) := by
    cases xs with
    | nil =>
      cases es with
      | nil =>
        refine PE.imp (g_meth0 ha cls mt F ok.room ok.gd b (meth_eval (base_of hb) (form_of hc h30) hline)) ?_
        rintro σ H Q ⟨μ, Z, S, ρ, x, S1, sm, re, e1, kk⟩
        refine ⟨μ, Z, S, ρ, x, S1, sm, re, e1, fun μ1 H1 w st1 r1 => ?_⟩
        obtain ⟨a0, dx, fs, rfl, q1, q2, μ2, Z2, S2, ρ2, vs, S3, sm2, re2, ev, k2⟩ := kk μ1 H1 w st1 r1
        unfold evL at ev
        cases ev
        exact ⟨a0, dx, fs, rfl, q1, q2, k2 μ2 H1 [] (Stp.refl sm2) .nil⟩
      | cons e es => unfold chkL at hc; cases hc
    | cons x xs =>
      obtain ⟨hn, e0, es0, rfl, h1, h2⟩ := chkL_hd hc
      exact g_meth ha cls mt F ok.room ok.gd b h (starEach_cons hn) (star_any h2) (meth_eval (base_of hb) (form_of hc h30) hline)
  refine PE.imp key ?_
  rintro σ H Q ⟨μ, Z, S, ρ, v, S', sm, re, ev, kk⟩
  unfold evE at ev
  obtain ⟨⟨x, S1⟩, e1, ev1⟩ := Option.bind_eq_some_iff.mp ev
  clear ev
  obtain ⟨⟨k', ns, ys⟩, e2, ev2⟩ := Option.bind_eq_some_iff.mp ev1
  clear ev1
  dsimp only at ev2
  split at ev2
  · rename_i hcd
    obtain ⟨ek, hno⟩ := hcd
    rw [ek] at e2
    obtain ⟨⟨vs, S2⟩, e3, ev3⟩ := Option.bind_eq_some_iff.mp ev2
    clear ev2
    obtain ⟨⟨z, S3⟩, e4, ev⟩ := Option.bind_eq_some_iff.mp ev3
    clear ev3
    refine ⟨μ, Z, S, ρ, x, S1, sm, re, e1, fun μ1 H1 w st1 r1 => ?_⟩
    obtain ⟨a0, dx, us, rfl, q1, q2, q3⟩ := ins_at st1.sm r1 e2
    refine ⟨a0, dx, _, rfl, q1, fld_none q3 hno, μ1, Z, S1, ρ, vs, S2, st1.sm, st1.env re, e3, fun μ2 H2 ws st2 r2 => ?_⟩
    show spC X.K cl c f ps (.ref a0 :: (ws ++ [])) H2 Q E0
    rw [List.append_nil]
    have st12 := st1.trans st2
    refine ⟨by rw [List.length_cons, ← r2.length, evL_len hc e3, hl], μ2, Z, S2, x :: vs, z, S3, st2.sm, .cons (st2.rel r1) r2, e4, fun μ3 H3 w3 st3 r3 => ?_⟩
    dsimp only at ev
    split at ev
    · cases ev
      exact kk μ3 H3 w3 (st12.trans st3) r3
    · obtain ⟨t1, t2⟩ := gc_ok st2.sm st3 r3 ev
      exact kk μ2 H3 w3 (st12.trans t1) t2
  · cases ev2
theorem s_make (ok : Ok X g p cl c n) {k f : Nat} {y : Str} {ps : List Str} {es : EL} {xs : List Expr} {p0 pos : Pos} (hf : g.ctr f = some (k, y, ps)) (hl : ps.length = xs.length + 1) (hg : glob p.sc y = true) (hy : okName y = true) (hc : chkL g p es xs = true) (h : PA X xs (tA X.K cl c es)) :
    PE X (.Call (.Name y p0) xs [] pos) (tI X.K cl c (.make k f es)) := by
  obtain ⟨m, af, fd, M, b, F⟩ := ok.ctr f k y ps hf
  rcases F with ⟨n', rfl, F⟩ | hno
  · have key : PE X (.Call (.Name y p0) xs [] pos) (tMake (cl k) (spC X.K cl (fun _ => c true) f ps) [] E0 (tA X.K cl c es)) := by
      cases xs with
      | nil =>
        cases es with
        | nil =>
          refine PE.imp (g_make0 M F ok.room ok.gd (glob_of ok hg) m b (okName_of hy).1) ?_
          rintro σ H Q ⟨μ, Z, S, ρ, vs, S', sm, re, ev, k⟩
          unfold evL at ev
          cases ev
          exact k μ H [] (Stp.refl sm) .nil
        | cons e es => unfold chkL at hc; cases hc
      | cons x xs =>
        obtain ⟨hn, e0, es0, rfl, h1, h2⟩ := chkL_hd hc
        exact g_make M F ok.room ok.gd (glob_of ok hg) m b h (okName_of hy).1 (starEach_cons hn) (star_any h2)
    refine PE.imp key ?_
    rintro σ H Q ⟨μ, Z, S, ρ, v, S', sm, re, ev, kk⟩
    unfold evE at ev
    obtain ⟨⟨vs, S1⟩, e1, ev⟩ := Option.bind_eq_some_iff.mp ev
    obtain ⟨⟨z, S2⟩, e2, ev⟩ := Option.bind_eq_some_iff.mp ev
    refine ⟨μ, Z, S, ρ, vs, _, sm, re, e1, fun μ1 H1 ws st1 r1 x dx hx hdx ne => ?_⟩
    show spC X.K cl (fun _ => c true) f ps (.ref x :: (ws ++ [])) _ _ E0
    rw [List.append_nil]
    have smd := Sim.laid (o := .own x) st1.sm hdx
    have std := Stp.laid (o := .own x) st1.sm hdx
    have hx' : upd H1 dx (.own x) x = none := by rw [upd_ne (fun e => ne e.symm)]; exact hx
    have stp : Stp X.K cl Z μ1 (upd H1 dx (.own x)) (μ1 ++ [x]) (S1 ++ [.ins k [] []]) (upd (upd H1 dx (.own x)) x (.ins (cl k) dx [])) := by
      refine Stp.push smd hx' ⟨dx, [], by rw [upd_same]; rfl, by rw [upd_ne ne, upd_same], ?_, (st1.sm.free hdx).2, rfl, .nil⟩
      intro q
      rcases List.mem_append.mp q with q | q
      · exact (st1.sm.free hdx).1 q
      · exact ne (by simpa using q)
    have st13 := std.trans stp
    refine ⟨by rw [List.length_cons, ← r1.length, evL_len hc e1, hl], μ1 ++ [x], Z, S1 ++ [.ins k [] []], .ref S1.length :: vs, z, S2, st13.sm, .cons (.ref ?_) (st13.rels r1), e2, fun μ3 H3 w3 st3 r3 => ?_⟩
    · rw [← st1.sm.len, List.getElem?_append_right (Nat.le_refl _), Nat.sub_self]; rfl
    dsimp only at ev
    split at ev
    · cases ev
      cases r3
      refine ⟨rfl, kk μ3 H3 _ ((st1.trans st13).trans st3) (.ref (st3.keep.1 _ _ ?_))⟩
      rw [← st1.sm.len, List.getElem?_append_right (Nat.le_refl _), Nat.sub_self]; rfl
    · cases ev
  · refine ⟨fun pins s σ H Q I q => ?_⟩
    obtain ⟨μ, Z, S, ρ, v, S', sm, re, ev, kk⟩ := q
    unfold evE at ev
    obtain ⟨⟨vs, S1⟩, e1, ev⟩ := Option.bind_eq_some_iff.mp ev
    obtain ⟨⟨z, S2⟩, e2, ev⟩ := Option.bind_eq_some_iff.mp ev
    rw [hno] at e2
    cases e2
theorem s_dct {pos : Pos} : PE X (.Dict [] [] pos) (tI X.K cl c .dct) := by
  refine PE.imp pe_dnewT ?_
  rintro σ H Q ⟨μ, Z, S, ρ, v, S', sm, re, ev, k⟩ q hq
  unfold evE at ev
  cases ev
  refine k (μ ++ [q]) _ _ (Stp.push sm hq ⟨[], by rw [upd_same]; rfl, rfl, .nil⟩) (.ref ?_)
  rw [← sm.len, List.getElem?_append_right (Nat.le_refl _), Nat.sub_self]; rfl
theorem s_dget (ok : Ok X g p cl c n) {d k : E} {pd pk : Expr} {pos : Pos} (hn : notSlice pk = true) (hd : PE X pd (tI X.K cl c d)) (hk : PE X pk (tI X.K cl c k)) : PE X (.Subscript pd pk pos) (tI X.K cl c (.dget d k)) := by
  have hu := ok.room.units
  refine PE.imp (pe_dget (by omega) hd hk (by intro ov iv; cases pk <;> first | rfl | cases hn)) ?_
  rintro σ H Q ⟨μ, Z, S, ρ, v, S', sm, re, ev, kk⟩
  unfold evE at ev
  obtain ⟨⟨x, S1⟩, e1, ev⟩ := Option.bind_eq_some_iff.mp ev
  obtain ⟨⟨y, S2⟩, e2, ev⟩ := Option.bind_eq_some_iff.mp ev
  obtain ⟨⟨ks, xs⟩, e3, ev⟩ := Option.bind_eq_some_iff.mp ev
  obtain ⟨q, e4, ev⟩ := Option.bind_eq_some_iff.mp ev
  obtain ⟨z, e5, ev⟩ := Option.map_eq_some_iff.mp ev
  cases ev
  refine two sm re e1 e2 fun μ' H' v w st r1 r2 => ?_
  obtain ⟨a, vs, rfl, q1, q2, q3⟩ := dic_at st.sm r1 e3
  obtain ⟨b, rfl, q4, _⟩ := keyV_at r2 e4
  obtain ⟨u, q5, q6⟩ := (dval_at (ks := ks) (q := q) q3).1 _ e5
  exact ⟨a, u, rfl, by rw [← q5]; exact DGet.t q1 q4, kk μ' H' u st q6⟩
theorem s_kget (ok : Ok X g p cl c n) {d k : E} {pd pk : Expr} {pos : Pos} (hn : notSlice pk = true) (hd : PE X pd (tI X.K cl c d)) (hk : PE X pk (tI X.K cl c k)) : PE X (.Subscript pd pk pos) (tI X.K cl c (.kget d k)) := by
  have hu := ok.room.units
  refine PE.imp (pe_dget (by omega) hd hk (by intro ov iv; cases pk <;> first | rfl | cases hn)) ?_
  rintro σ H Q ⟨μ, Z, S, ρ, v, S', sm, re, ev, kk⟩
  unfold evE at ev
  obtain ⟨⟨x, S1⟩, e1, ev⟩ := Option.bind_eq_some_iff.mp ev
  obtain ⟨⟨y, S2⟩, e2, ev⟩ := Option.bind_eq_some_iff.mp ev
  obtain ⟨⟨ks, xs⟩, e3, ev⟩ := Option.bind_eq_some_iff.mp ev
  obtain ⟨q, e4, ev⟩ := Option.bind_eq_some_iff.mp ev
  obtain ⟨z, e5, ev⟩ := Option.map_eq_some_iff.mp ev
  cases ev
  refine two sm re e1 e2 fun μ' H' v w st r1 r2 => ?_
  obtain ⟨a, vs, rfl, q1, q2, q3⟩ := dik_at st.sm r1 e3
  obtain rfl := keyIv_at r2 e4
  obtain ⟨u, q5, q6⟩ := (dval_at (ks := ks) (q := q) q3).1 _ e5
  exact ⟨a, u, rfl, by rw [← q5]; exact DGet.k q1, kk μ' H' u st q6⟩
/-- the pairs of a display -/
def trsOf (K : PySem.W.Frag) (cl : Nat → Addr) (c : Oracle) : List Int → EL → List (TE × TE)
  | k :: ks, .cons e es => (tI K cl c (.con (.int k)), tI K cl c e) :: trsOf K cl c ks es
  | _, _ => []
def PVs (X : Cx) (cl : Nat → Addr) (c : Oracle) : EL → List Expr → Prop
  | .nil, [] => True
  | .cons e es, x :: xs => PE X x (tI X.K cl c e) ∧ PVs X cl c es xs
  | _, _ => False
theorem pps_of (g : G) (p : Pl) {pos : Pos} : ∀ {ks : List Int} {es : EL} {pks : List (Option Expr)} {pvs : List Expr}, keyIs ks pks = true → ks.length = pvs.length → PVs X cl c es pvs → PPs X pos pks pvs (trsOf X.K cl c ks es)
  | [], es, pks, pvs, h, hl, hp => by
    cases pks with
    | nil =>
      cases pvs with
      | nil => cases es <;> exact pps_nil
      | cons _ _ => cases hl
    | cons _ _ => cases h
  | k :: ks, es, [], pvs, h, hl, hp => by cases h
  | k :: ks, es, none :: pks, pvs, h, hl, hp => by cases h
  | k :: ks, es, some pk :: pks, [], h, hl, hp => by cases hl
  | k :: ks, .nil, some pk :: pks, x :: xs, h, hl, hp => by cases hp
  | k :: ks, .cons e es, some pk :: pks, x :: xs, h, hl, hp => by
    cases pk with
    | Constant cc kd ps =>
      have h : (conIs (.int k) cc && keyIs ks pks) = true := h
      rw [Bool.and_eq_true] at h
      have hk : PE X (.Constant cc kd ps) (tI X.K cl c (.con (.int k))) := s_con (g := g) (p := p) (by unfold chkE; exact h.1)
      exact pps_cons hk hp.1 (pps_of g p h.2 (by simpa using hl) hp.2)
    | _ => cases h
theorem pairs_of {σ : L2.St} {K : PySem.W.Frag} : ∀ {ks : List Int} {es : EL} {H : Hp} {μ : List Addr} {Z : Addr → Prop} {S : Store} {ρ : Env} {vs : List Val} {S' : Store} {Q : List (V × V) → Hp → Prop}, Sim K cl μ Z S H → RelE K cl μ Z H ρ σ → evL c es ρ S = some (vs, S') → ks.length = vs.length →
    (∀ μ' H' ws, Stp K cl Z μ H μ' S' H' → RelL K cl μ' Z H' vs ws → Q ((ks.zip ws).map fun z => (V.int z.1, z.2)) H') → tPairs (trsOf K cl c ks es) σ H Q
  | [], es, H, μ, Z, S, ρ, vs, S', Q, sm, re, ev, hl, k => by
    cases es with
    | nil =>
      unfold evL at ev
      cases ev
      exact k μ H [] (Stp.refl sm) .nil
    | cons e es =>
      unfold evL at ev
      obtain ⟨⟨x, S1⟩, e1, ev⟩ := Option.bind_eq_some_iff.mp ev
      obtain ⟨⟨xs, S2⟩, e2, ev⟩ := Option.map_eq_some_iff.mp ev
      cases ev
      cases hl
  | i :: ks, .nil, H, μ, Z, S, ρ, vs, S', Q, sm, re, ev, hl, k => by
    unfold evL at ev
    cases ev
    cases hl
  | i :: ks, .cons e es, H, μ, Z, S, ρ, vs, S', Q, sm, re, ev, hl, k => by
    unfold evL at ev
    obtain ⟨⟨x, S1⟩, e1, ev⟩ := Option.bind_eq_some_iff.mp ev
    obtain ⟨⟨xs, S2⟩, e2, ev⟩ := Option.map_eq_some_iff.mp ev
    cases ev
    show tI K cl c (.con (.int i)) σ H fun y H1 => tI K cl c e σ H1 fun w H2 => tPairs (trsOf K cl c ks es) σ H2 fun ps H3 => Q ((y, w) :: ps) H3
    refine ⟨μ, Z, S, ρ, .int i, S, sm, re, by unfold evE; rfl, fun μ1 H1 w1 st1 r1 => ?_⟩
    cases r1
    refine ⟨μ1, Z, S, ρ, x, S1, st1.sm, st1.env re, e1, fun μ2 H2 w2 st2 r2 => ?_⟩
    have st12 := st1.trans st2
    refine pairs_of st2.sm (st12.env re) e2 (by simpa using hl) fun μ3 H3 ws st3 r3 => ?_
    exact k μ3 H3 (w2 :: ws) (st12.trans st3) (.cons (st3.rel r2) r3)
theorem putK_out {κ : Type} [DecidableEq κ] {kvs : List (κ × V)} {k : κ} {v : V} (h : ∀ z ∈ kvs, z.1 ≠ k) : putK kvs k v = kvs ++ [(k, v)] := putK_new v (by
  unfold valV
  rw [List.find?_eq_none.mpr fun z hz => by simpa using h z hz]
  rfl)
theorem merge_nodup : ∀ {more kvs : List (Key × V)}, (more.map (·.1)).Nodup → (∀ z ∈ kvs, ∀ w ∈ more, z.1 ≠ w.1) → mergeK kvs more = kvs ++ more
  | [], kvs, _, _ => by show kvs = kvs ++ []; rw [List.append_nil]
  | p :: r, kvs, h, h2 => by
    rw [List.map_cons, List.nodup_cons] at h
    show mergeK (putK kvs p.1 p.2) r = _
    rw [putK_out fun z hz => h2 z hz p List.mem_cons_self, merge_nodup h.2 ?_, List.append_assoc]
    · rfl
    · intro z hz w hw
      rcases List.mem_append.mp hz with hz | hz
      · exact h2 z hz w (List.mem_cons_of_mem _ hw)
      · obtain rfl := List.mem_singleton.mp hz
        intro e
        exact h.1 (List.mem_map.mpr ⟨w, hw, e.symm⟩)
theorem keyIs_some : ∀ {ks : List Int} {pks : List (Option Expr)}, keyIs ks pks = true → pks.all (·.isSome) = true ∧ pks.length = ks.length
  | [], [], _ => ⟨rfl, rfl⟩
  | [], _ :: _, h => by cases h
  | _ :: _, [], h => by cases h
  | _ :: _, none :: _, h => by cases h
  | k :: ks, some pk :: pks, h => by
    cases pk with
    | Constant cc kd ps =>
      have h : (conIs (.int k) cc && keyIs ks pks) = true := h
      rw [Bool.and_eq_true] at h
      have := keyIs_some h.2
      exact ⟨by rw [List.all_cons, this.1]; rfl, by rw [List.length_cons, this.2]; rfl⟩
    | _ => cases h
theorem s_dkd (g : G) (p : Pl) {ks : List Int} {es : EL} {pks : List (Option Expr)} {pvs : List Expr} {pos : Pos} (hk : keyIs ks pks = true) (hl : ks.length = pvs.length) (h0 : 0 < ks.length) (h15 : ks.length ≤ 15) (hp : PVs X cl c es pvs) :
    PE X (.Dict pks pvs pos) (tI X.K cl c (.dkd ks es)) := by
  have kl := keyIs_some hk
  refine PE.imp (pe_disp (pps_of g p hk hl hp) kl.1 (by omega) (by rintro rfl; simp at kl; omega) (by omega)) ?_
  rintro σ H Q ⟨μ, Z, S, ρ, v, S', sm, re, ev, kk⟩ q hq
  unfold evE at ev
  obtain ⟨⟨vs, S1⟩, e1, ev⟩ := Option.bind_eq_some_iff.mp ev
  obtain ⟨S2, e2, ev⟩ := Option.map_eq_some_iff.mp ev
  cases ev
  have st1 : Stp X.K cl Z μ H (μ ++ [q]) (S ++ [.dik [] []]) (upd H q (.dK [])) := Stp.push sm hq ⟨[], by rw [upd_same]; rfl, rfl, .nil⟩
  have at1 : (μ ++ [q])[S.length]? = some q := by rw [← sm.len, List.getElem?_append_right (Nat.le_refl _), Nat.sub_self]; rfl
  unfold dikMk at e2
  split at e2
  · rename_i e3
    split at e2
    · rename_i hc
      cases e2
      refine pairs_of st1.sm (st1.env re) e1 hc.2 fun μ2 H2 ws st2 r2 => ?_
      have at2 := st2.keep.1 _ _ at1
      obtain ⟨_, q1, _, q3⟩ := st2.sm.ob _ _ _ at2 e3
      have wl := r2.length
      have nd : ((ks.map Sum.inl : List Key).zip ws).map (·.1) = ks.map Sum.inl := List.map_fst_zip (by rw [List.length_map]; omega)
      refine ⟨q1, (ks.map Sum.inl).zip ws, ?_, by rw [List.length_zip, List.length_map]; omega, ?_⟩
      · rw [List.zip_map_left, List.map_map]
        rfl
      · rw [merge_nodup (by
          rw [nd]
          exact List.Pairwise.map _ (fun a b h e => h (Sum.inl.inj e)) hc.1) (by intro z hz; cases hz), List.nil_append]
        have hme := List.mem_of_getElem? at2
        have st3 : Stp X.K cl Z μ2 H2 μ2 (S1.set S.length (.dik (ks.map .inl) vs)) (upd H2 q (.dK ((ks.map Sum.inl).zip ws))) :=
          Stp.set st2.sm at2 ⟨ws, by rw [upd_same], by rw [List.length_map]; exact hc.2, r2.move (fun _ _ q => q) (set_keep hme)⟩
        exact kk μ2 _ _ ((st1.trans st2).trans st3) (.ref at2)
    · cases e2
  · cases e2
theorem s_din (ok : Ok X g p cl c n) {neg : Bool} {k d : E} {pk pd : Expr} {pos : Pos} (hs : notSet pd = true) (hs2 : notListTup pd = true) (hk : PE X pk (tI X.K cl c k)) (hd : PE X pd (tI X.K cl c d)) :
    PE X (.Compare pk [if neg = true then CmpOp.NotIn else CmpOp.In] [pd] pos) (tI X.K cl c (.din neg k d)) ∧ PT X (.Compare pk [if neg = true then CmpOp.NotIn else CmpOp.In] [pd] pos) (tT X.K cl c (.din neg k d)) := by
  have hu := ok.room.units
  have hm : ∀ op, behindInMarks op pd = false := by
    intro op
    cases pd <;> first | rfl | cases hs | cases hs2 | (cases op <;> rfl)
  have key : ∀ {σ : L2.St} {H : Hp} {μ : List Addr} {Z : Addr → Prop} {S : Store} {ρ : Env} {v : Val} {S' : Store} {Q : VK}, Sim X.K cl μ Z S H → RelE X.K cl μ Z H ρ σ → evE c (.din neg k d) ρ S = some (v, S') → Kn X.K cl Z μ H S' v Q →
      (tI X.K cl c k σ H fun y H1 => tI X.K cl c d σ H1 fun x H2 => ∃ a o, x = .ref a ∧ DGet H2 a y o ∧ Q (.bl (if neg = true then !o.isSome else o.isSome)) H2) := by
    intro σ H μ Z S ρ v S' Q sm re ev kk
    unfold evE at ev
    obtain ⟨⟨y, S1⟩, e1, ev⟩ := Option.bind_eq_some_iff.mp ev
    obtain ⟨⟨x, S2⟩, e2, ev⟩ := Option.bind_eq_some_iff.mp ev
    obtain ⟨⟨ks, xs⟩, e3, ev⟩ := Option.bind_eq_some_iff.mp ev
    obtain ⟨q, e4, ev⟩ := Option.map_eq_some_iff.mp ev
    cases ev
    refine two sm re e1 e2 fun μ' H' v w st r1 r2 => ?_
    obtain ⟨a, vs, rfl, q1, q2, q3⟩ := dic_at st.sm r2 e3
    obtain ⟨b, rfl, q4, _⟩ := keyV_at r1 e4
    refine ⟨a, _, rfl, DGet.t q1 q4, ?_⟩
    have dv := dval_at (ks := ks) (q := q) q3
    have same : (valV (ks.zip vs) q).isSome = (dval ks xs q).isSome := by
      cases e : dval ks xs q with
      | none => rw [dv.2 e]; rfl
      | some z =>
        obtain ⟨u, q5, _⟩ := dv.1 z e
        rw [q5]
        rfl
    rw [same]
    exact kk μ' H' _ st (.bl _)
  cases neg with
  | true =>
    have pc := pc_dnotin (X := X) (by omega) hk hd
    constructor
    · refine PE.imp (pe_cmp pc (hm _)) ?_
      rintro σ H Q ⟨μ, Z, S, ρ, v, S', sm, re, ev, kk⟩
      exact key sm re ev kk
    · refine PT.imp (pt_cmp pc (hm _)) ?_
      rintro σ H Q ⟨μ, Z, S, ρ, b, S', sm, re, ev, kk⟩
      refine key (Q := fun v H' => ∃ d, v = .bl d ∧ Q d H') sm re ev fun μ' H' w st r => ?_
      cases r
      exact ⟨_, rfl, kk μ' H' st⟩
  | false =>
    have pc := pc_din (X := X) (by omega) hk hd
    constructor
    · refine PE.imp (pe_cmp pc (hm _)) ?_
      rintro σ H Q ⟨μ, Z, S, ρ, v, S', sm, re, ev, kk⟩
      exact key sm re ev kk
    · refine PT.imp (pt_cmp pc (hm _)) ?_
      rintro σ H Q ⟨μ, Z, S, ρ, b, S', sm, re, ev, kk⟩
      refine key (Q := fun v H' => ∃ d, v = .bl d ∧ Q d H') sm re ev fun μ' H' w st r => ?_
      cases r
      exact ⟨_, rfl, kk μ' H' st⟩
/-- a dict's place as a target -/
theorem g_dsub (ok : Ok X g p cl c n) {d k : E} {pd pk : Expr} {pos : Pos} (hn : notSlice pk = true) (hd : PE X pd (tI X.K cl c d)) (hk : PE X pk (tI X.K cl c k)) : PG X (.Subscript pd pk pos) (tG X.K cl c (.dsub d k)) := by
  have hu := ok.room.units
  refine PG.imp (pg_sub hd hk (set_dict (by omega)) (by intro v; cases pk <;> first | rfl | cases hn)) ?_
  rintro w σ H Q ⟨μ, Z, S, ρ, v, ρ', S', sm, re, rv, ev, kk⟩
  unfold bindT at ev
  obtain ⟨⟨x, S1⟩, e1, ev⟩ := Option.bind_eq_some_iff.mp ev
  obtain ⟨⟨y, S2⟩, e2, ev⟩ := Option.bind_eq_some_iff.mp ev
  obtain ⟨S3, e3, ev⟩ := Option.map_eq_some_iff.mp ev
  cases ev
  refine two sm re e1 e2 fun μ' H' v' w' st r1 r2 => ?_
  obtain ⟨a, H4, rfl, g4, st2⟩ := dicSet_ok st.sm r1 r2 (st.rel rv) e3
  exact ⟨a, H4, rfl, g4, kk μ' H4 σ (st.trans st2) ((st.trans st2).env re) fun _ _ => rfl⟩
theorem g_ksub (ok : Ok X g p cl c n) {d k : E} {pd pk : Expr} {pos : Pos} (hn : notSlice pk = true) (hd : PE X pd (tI X.K cl c d)) (hk : PE X pk (tI X.K cl c k)) : PG X (.Subscript pd pk pos) (tG X.K cl c (.ksub d k)) := by
  have hu := ok.room.units
  refine PG.imp (pg_sub hd hk (set_dict (by omega)) (by intro v; cases pk <;> first | rfl | cases hn)) ?_
  rintro w σ H Q ⟨μ, Z, S, ρ, v, ρ', S', sm, re, rv, ev, kk⟩
  unfold bindT at ev
  obtain ⟨⟨x, S1⟩, e1, ev⟩ := Option.bind_eq_some_iff.mp ev
  obtain ⟨⟨y, S2⟩, e2, ev⟩ := Option.bind_eq_some_iff.mp ev
  obtain ⟨S3, e3, ev⟩ := Option.map_eq_some_iff.mp ev
  cases ev
  refine two sm re e1 e2 fun μ' H' v' w' st r1 r2 => ?_
  obtain ⟨a, H4, rfl, g4, st2⟩ := dikSet_ok st.sm r1 r2 (st.rel rv) e3
  exact ⟨a, H4, rfl, g4, kk μ' H4 σ (st.trans st2) ((st.trans st2).env re) fun _ _ => rfl⟩
/-- an attribute as a target -/
def gFld (K : PySem.W.Frag) (to : TE) (f : Str) : TG := fun v σ H Q => to σ H fun x H1 => ∃ a C dx fs, x = .ref a ∧ H1 a = some (.ins C dx fs) ∧ Cls K C ∧ NoAttr K C f ∧ fs.length < 1000 ∧ Q σ (upd H1 a (.ins C dx (putF f v fs)))
theorem pg_fld {o : Expr} {f : Str} {pos : Pos} {to : TE} (ho : PE X o to) : PG X (.Attribute o f pos) (gFld X.K to f) := by
  refine ⟨fun pins s σ H v u Q I r h => ?_⟩
  rw [assign_Attribute]
  refine wpAny_bind (wpAny_holding (thn (ho.run pins s σ H _ I h) fun ov s1 ⟨x, H1, I1, r1, a, C, dx, fs, ex, ea, cc, n, l, q⟩ => ?_))
  subst ex
  obtain rfl : ov = Value.ref a := r1
  refine wpAny_bind (wpAny_standAt (wpAny_bind (wpAny_holding (setattr_ok I1 ea cc n l r fun s3 I3 => ?_))))
  exact wpAny_release ⟨σ, _, I3, q⟩
theorem g_fld (ok : Ok X g p cl c n) {ks : List Nat} {o : E} {f : Str} {po : Expr} {pos : Pos} (hk : (ks.all fun k => g.na k f) = true) (ho : PE X po (tI X.K cl c o)) : PG X (.Attribute po f pos) (tG X.K cl c (.fld ks o f)) := by
  refine PG.imp (pg_fld ho) ?_
  rintro w σ H Q ⟨μ, Z, S, ρ, v, ρ', S', sm, re, rv, ev, k⟩
  unfold bindT at ev
  obtain ⟨⟨x, S1⟩, e1, ev⟩ := Option.bind_eq_some_iff.mp ev
  obtain ⟨S2, e2, ev⟩ := Option.map_eq_some_iff.mp ev
  cases ev
  refine ⟨μ, Z, S, ρ, x, S1, sm, re, e1, fun μ1 H1 w1 st1 r1 => ?_⟩
  obtain ⟨a, k', dx, fs, rfl, q1, q2, q3, st2⟩ := fldSet_ok st1.sm r1 (st1.rel rv) e2
  have na := ok.na k' f (List.all_eq_true.mp hk k' q2)
  exact ⟨a, _, dx, fs, rfl, q1, na.1, na.2, q3, k μ1 _ σ (st1.trans st2) ((st1.trans st2).env re) fun _ _ => rfl⟩
end
end Itp

namespace Itp
open PySem L2
/-! min(.., default=None) -/
section
variable {pg : Program} {ww : World} {Ar : Around} {Rs : Result → Shared → Prop} {it : Addr} {f1 f2 : List Addr} {m : Nat} {Pq : Nat → Value → Prop} {Sq : Nat → Heap → Prop}
abbrev mdA (it bx : Addr) : Args := ⟨[.ref it, .none, .ref bx], [(Str.ofString "default", .none)]⟩
theorem md_name : (toString "min" ++ toString ".loop" : String) = "min.loop" := by decide
theorem md_loop (Wk : Walks pg ww Ar.in1 it f1 f2 m Pq Sq) (lt : Nat → Nat → Bool) (hc : CmpOf pg ww Ar.in1 .Lt Pq lt) (bx : Addr) (nb : bx ∉ f1) :
    ∀ (d i : Nat) (sh : Shared) (best : Value) (cap : Nat), m - (i + 1) = d → i + 1 ≤ m → Sq (i + 1) sh.heap → Pq (argBest lt i) best →
    sh.heap.get? bx = some { cls := .type "list", dict := none, data := .seq #[best, best] cap, slots := #[] } →
    (∀ x g tk, Pq (argBest lt (m - 1)) x → (∀ c o, c ∉ f2 → c ≠ bx → sh.heap.get? c = some o → g.get? c = some o) → Rs (.ok (.ret x)) { sh with heap := g, toks := tk }) →
    codeAny (model pg ww) Ar (.builtin "min.loop" (mdA it bx)) Rs sh := by
  have nb2 : bx ∉ f2 := fun q => nb (Wk.sub _ q)
  intro d
  induction d with
  | zero =>
    intro i sh best cap hd hi st hP hb hR
    have im : i + 1 = m := by omega
    refine codeAny_builtin F.entry_min_loop ?_
    rw [Around.under_plainId F.plain_min_loop _]
    show wpAny _ Ar.in1 (seqItems? (.ref bx) >>= _) _ _ sh
    refine wpAny_bind (wpAny_seqItems hb rfl ?_)
    show wpAny _ Ar.in1 (tryCatch (pyNext (.ref it)) _ >>= _) _ _ sh
    refine wpAny_bind (wpAny_tryCatch (Wk.done sh _ _ (im ▸ st) fun g tk kp => ?_))
    have hb2 := kp bx _ nb2 hb
    show wpAny _ Ar.in1 (updateSeq bx (fun _ => #[]) >>= _) _ _ _
    refine wpAny_bind ?_
    refine wpAny_updateSeq hb2 rfl (wpAny_bind (wpAny_letGo (wpAny_pure ?_)))
    exact hR best _ tk (by rw [← im]; exact hP) fun c o q1 q2 e => (Heap.get?_update_other _ _ (Ne.symm q2)).trans (kp c o q1 e)
  | succ d ih =>
    intro i sh best cap hd hi st hP hb hR
    have im : i + 1 < m := by omega
    refine codeAny_builtin F.entry_min_loop ?_
    rw [Around.under_plainId F.plain_min_loop _]
    show wpAny _ Ar.in1 (seqItems? (.ref bx) >>= _) _ _ sh
    refine wpAny_bind (wpAny_seqItems hb rfl ?_)
    show wpAny _ Ar.in1 (tryCatch (pyNext (.ref it)) _ >>= _) _ _ sh
    refine wpAny_bind (wpAny_tryCatch (Wk.item (i + 1) sh _ _ im st fun x g tk hx st2 kp => ?_))
    have hb2 := kp bx _ nb2 hb
    show wpAny _ Ar.in1 (tryCatch (holding [x, x] (richCompare .Lt x best >>= _)) _ >>= _) _ _ _
    refine wpAny_bind (wpAny_tryCatch (wpAny_holding (wpAny_bind (hc (i + 1) (argBest lt i) x best _ _ _ hx hP ?_))))
    refine wpAny_bind (wpAny_holding (wpAny_truthy_bool (wpAny_bind (wpAny_letGo (wpAny_pure ?_)))))
    cases ht : lt (i + 1) (argBest lt i) with
    | true =>
      simp only [if_true]
      refine wpAny_bind (wpAny_updateSeq hb2 rfl (wpAny_bind (wpAny_letGo ?_)))
      rw [md_name]
      refine wpAny_pure ⟨plainId_quiet F.plain_min_loop _, ih (i + 1) _ x _ (by omega) im (Wk.frame _ _ _ st2 fun c q o e => ?_) (by simp only [argBest, ht, if_true]; exact hx) (Heap.get?_update_self _ hb2 rfl) fun x2 g2 tk2 hx2 kp2 => ?_⟩
      · exact (Heap.get?_update_other _ _ (fun q2 : bx = c => nb (by rw [q2]; exact q))).trans e
      · exact hR x2 g2 tk2 hx2 fun c o q1 q2 e => kp2 c o q1 q2 ((Heap.get?_update_other _ _ (Ne.symm q2)).trans (kp c o q1 e))
    | false =>
      simp only [Bool.false_eq_true, if_false]
      refine wpAny_bind (wpAny_letGo ?_)
      rw [md_name]
      refine wpAny_pure ⟨plainId_quiet F.plain_min_loop _, ih (i + 1) _ best cap (by omega) im st2 (by simp only [argBest, ht, Bool.false_eq_true, if_false]; exact hP) hb2 fun x2 g2 tk2 hx2 kp2 => ?_⟩
      exact hR x2 g2 tk2 hx2 fun c o q1 q2 e => kp2 c o q1 q2 (kp c o q1 e)
/-- the first turn: none at all, or one -/
theorem md_first (Wk : Walks pg ww Ar.in1 it f1 f2 m Pq Sq) (lt : Nat → Nat → Bool) (hc : CmpOf pg ww Ar.in1 .Lt Pq lt) (bx : Addr) (nb : bx ∉ f1) {sh : Shared} {cap : Nat} (st : Sq 0 sh.heap)
    (hb : sh.heap.get? bx = some { cls := .type "list", dict := none, data := .seq #[] cap, slots := #[] })
    (hR : ∀ x g tk, (if m = 0 then x = .none else Pq (argBest lt (m - 1)) x) → (∀ c o, c ∉ f2 → c ≠ bx → sh.heap.get? c = some o → g.get? c = some o) → Rs (.ok (.ret x)) { sh with heap := g, toks := tk }) :
    codeAny (model pg ww) Ar (.builtin "min.loop" (mdA it bx)) Rs sh := by
  have nb2 : bx ∉ f2 := fun q => nb (Wk.sub _ q)
  refine codeAny_builtin F.entry_min_loop ?_
  rw [Around.under_plainId F.plain_min_loop _]
  show wpAny _ Ar.in1 (seqItems? (.ref bx) >>= _) _ _ sh
  refine wpAny_bind (wpAny_seqItems hb rfl ?_)
  show wpAny _ Ar.in1 (tryCatch (pyNext (.ref it)) _ >>= _) _ _ sh
  by_cases m0 : m = 0
  · refine wpAny_bind (wpAny_tryCatch (Wk.done sh _ _ (m0 ▸ st) fun g tk kp => ?_))
    show wpAny _ Ar.in1 (rule _ >>= _) _ _ _
    refine wpAny_bind (wpAny_rule (wpAny_pure ?_))
    exact hR .none g tk (by rw [if_pos m0]) fun c o q1 _ e => kp c o q1 e
  · refine wpAny_bind (wpAny_tryCatch (Wk.item 0 sh _ _ (by omega) st fun x g tk hx st2 kp => ?_))
    have hb2 := kp bx _ nb2 hb
    show wpAny _ Ar.in1 (updateSeq bx (fun _ => #[x, x]) >>= _) _ _ _
    refine wpAny_bind (wpAny_updateSeq hb2 rfl ?_)
    rw [md_name]
    refine wpAny_pure ⟨plainId_quiet F.plain_min_loop _, md_loop Wk lt hc bx nb _ 0 _ x _ rfl (by omega) (Wk.frame _ _ _ st2 fun c q o e => ?_) hx (Heap.get?_update_self _ hb2 rfl) fun x2 g2 tk2 hx2 kp2 => ?_⟩
    · exact (Heap.get?_update_other _ _ (fun q2 : bx = c => nb (by rw [q2]; exact q))).trans e
    · exact hR x2 g2 tk2 (by rw [if_neg m0]; exact hx2) fun c o q1 q2 e => kp2 c o q1 q2 ((Heap.get?_update_other _ _ (Ne.symm q2)).trans (kp c o q1 e))
end
section
variable {pg : Program} {ww : World} {Ar : Around} {Ex : Value → Shared → Prop} {sh : Shared}
abbrev mdC (x : Value) : Args := ⟨[x], [(Str.ofString "default", .none)]⟩
theorem md_args (x : Value) : argsOk "min" (mdC x) := by unfold argsOk; kernel_rfl
theorem md_call {l : Addr} {xs : Array (Int × Tok)} {Q : Value → Shared → Prop} (hh : Ar.handled = none) (hl : sh.heap.IsList l (intItems xs))
    (h : ∀ v g tk, (if xs.size = 0 then v = .none else (intItems xs)[argBest (fun i j => decide (numAt xs i < numAt xs j)) (xs.size - 1)]? = some v) → (∀ b o, sh.heap.get? b = some o → g.get? b = some o) → Q v { sh with heap := g, toks := tk }) :
    wpAny (model pg ww) Ar (call (.builtin "min") [.ref l] [(Str.ofString "default", .none)]) Q Ex sh := by
  refine wpAny_call (codeAny_call_builtin F.plain_min F.entry_min ?_)
  simp only [checkBuiltinCall, F.kind_min]
  have key : wpAny (model pg ww) Ar.in1 (Builtin.«min» (mdC (.ref l))) (fun fin s' => match fin with
      | .done f => (match (Except.ok f : Result) with | .ok (.ret v) => Q v s' | .ok _ => False | .error e => Ex e s')
      | .again c' => c'.quiet = true ∧ codeAny (model pg ww) Ar c' (fun r s' => match r with | .ok (.ret v) => Q v s' | .ok _ => False | .error e => Ex e s') s') Ex sh := by
    show wpAny _ Ar.in1 (Builtin.Builtins.bindParams "min" ["key", "default"] 0 ⟨[], [(Str.ofString "default", .none)]⟩ >>= _) _ _ sh
    refine wpAny_bind (wpAny_of_eq (show Builtin.Builtins.bindParams "min" ["key", "default"] 0 ⟨[], [(Str.ofString "default", .none)]⟩ = pure [none, some .none] from by kernel_rfl) ?_)
    refine wpAny_bind (wpAny_pure ?_)
    refine wpAny_bind (iter_intList hl fun s2 e st hfp hlI => ?_)
    subst e
    refine wpAny_bind (wpAny_newObj_type ?_)
    rw [md_name]
    refine wpAny_pure ⟨plainId_quiet F.plain_min_loop _, ?_⟩
    have Wk := Walks.list (prog := pg) (w := ww) (A := Ar.in1) hh sh.heap.objs.size l hlI (intItems xs)
    refine md_first Wk (fun i j => decide (numAt xs i < numAt xs j)) (CmpOf.ints_lt (numAt xs) (fun _ _ => intItems_at)) _ (fun hm => Nat.lt_irrefl _ (hfp _ hm)) (Wk.frame _ _ _ st fun b _ o e => Heap.get?_push_of_some _ e) (Heap.get?_push_size _ rfl) fun v g tk hv kp => ?_
    have sz : (intItems xs).size = xs.size := by simp [intItems]
    rw [sz] at hv
    exact h v g tk hv (old_kept fun b o hb e => kp b o hb (Nat.ne_of_lt (Heap.lt_size e)) (Heap.get?_push_of_some _ e))
  cases hsig : Manifest.signature? "min" with
  | none => exact wpAny_pure key
  | some sig =>
    have ha := md_args (.ref l)
    simp only [argsOk, hsig] at ha
    have h2 : Bind.checkArgs "min" sig (mdC (.ref l)) = pure () := ha
    show wpAny _ Ar.in1 (Bind.checkArgs "min" sig (mdC (.ref l))) _ _ sh
    rw [h2]; exact wpAny_pure key
end
section
variable {X : Cx}
def rMinD (K : PySem.W.Frag) : List V → List V → Hp → VK → Prop := fun vs zs H Q => ∃ (a : Addr) (ns : List Int), vs = [V.ref a] ∧ zs = [.non] ∧ SqL K H a (ns.map V.int) ∧ (ns = [] → Q .non H) ∧ (∀ k, k ∈ ns → (∀ y, y ∈ ns → k ≤ y) → Q (.int k) H)
theorem cr_minD (hc : X.calm = true) : CallRK X (.builtin "min") [Str.ofString "default"] (rMinD X.K) := by
  intro pins s σ H vs zs us ws Q I r rz h
  obtain ⟨a, ns, rfl, rfl, hs, q0, q⟩ := h
  obtain rfl := Vals.ref1 r
  obtain ⟨w1, rfl, e1⟩ := vals1 rz
  obtain rfl : w1 = Value.none := e1
  obtain ⟨its, rv, hl, _⟩ := I.list hs
  have hi := rv.ints
  obtain ⟨xs, e⟩ := hi.allInts.items
  have hn : numsOf (intItems xs).toList = ns := by rw [← e]; exact hi.numsOf
  rw [nums_intItems] at hn
  have hl2 : s.heap.IsList a (intItems xs) := by rw [← e]; exact hl.isList
  have sz : xs.size = ns.length := by rw [← hn]; simp
  refine md_call (I.ok.hd hc) hl2 fun v g tk hv kp => ?_
  by_cases n0 : xs.size = 0
  · rw [if_pos n0] at hv
    subst hv
    exact ⟨.non, H, I.kept kp, rfl, q0 (List.length_eq_zero_iff.mp (by omega))⟩
  · rw [if_neg n0] at hv
    obtain ⟨t, rfl⟩ := intItems_at hv
    obtain ⟨h1, h2⟩ := argBest_lt (numAt xs) (xs.size - 1)
    refine ⟨.int _, H, I.kept kp, ⟨_, rfl⟩, q _ ?_ fun y hy => ?_⟩
    · rw [← hn, numAt_eq]
      exact PySem.getD_mem (by rw [List.length_map, Array.length_toList]; omega)
    · rw [← hn] at hy
      obtain ⟨j, hj, rfl⟩ := mem_getD hy
      rw [List.length_map, Array.length_toList] at hj
      rw [← numAt_eq]; exact h2 j (by omega)
end
section
variable {X : Cx} {cl : Nat → Addr} {c : Oracle} {g : G} {p : Pl} {n : Nat}
theorem s_mind (ok : Ok X g p cl c n) {a : E} {pa : Expr} {kw : Keyword} {p0 pos : Pos} (hg : glob p.sc "min" = true) (hb : g.bl.contains (Str.ofString "min") = true) (hd : isDefN kw = true) (hn : notStar pa = true) (h : PE X pa (tI X.K cl c a)) : PE X (.Call (.Name "min" p0) [pa] [kw] pos) (tI X.K cl c (.mind a)) := by
  obtain ⟨an, av, ap⟩ := kw
  simp only [isDefN, Bool.and_eq_true] at hd
  have hnm : an = some "default" := of_decide_eq_true hd.1
  subst hnm
  have hv : PE X av (tC .non) := by
    have hv0 := hd.2
    split at hv0
    · exact pe_non
    · cases hv0
  have hst : starEach [pa] X.env = (false, eval pa X.env) :: starEach [] X.env := starEach_cons hn
  have key := pe_callBK (p := p0) (pos := pos) (cr_minD ok.calm) (glob_of ok hg) (ok.bl _ hb) (show bootBuiltins (Str.ofString "min") = some (.builtin "min") by decide +kernel) (pa_cons h pa_nil hst) (pk_cons (nm := some (Str.ofString "default")) (kpos := ap) hv pk_nil) (by decide) (by decide) (by rw [hst]; rfl) (by rw [hst]; rfl) rfl rfl rfl
  refine PE.imp key ?_
  rintro σ H Q ⟨μ, Z, S, ρ, v, S', sm, re, ev, k⟩
  unfold evE at ev
  obtain ⟨⟨x, S1⟩, e1, ev⟩ := Option.bind_eq_some_iff.mp ev
  obtain ⟨z, e2, ev⟩ := Option.map_eq_some_iff.mp ev
  cases ev
  refine ⟨μ, Z, S, ρ, x, _, sm, re, e1, fun μ1 H1 w st1 r1 => ?_⟩
  unfold minD at e2
  obtain ⟨xs, e3, e2⟩ := Option.bind_eq_some_iff.mp e2
  obtain ⟨ns, e4, e2⟩ := Option.map_eq_some_iff.mp e2
  obtain ⟨a0, vs, rfl, q1, q2⟩ := lst_at st1.sm r1 e3
  have e5 := q2.ints e4
  subst e5
  refine ⟨a0, ns, rfl, rfl, .inl (.inl q1), fun n0 => ?_, fun j h1 h2 => ?_⟩
  · subst n0
    subst e2
    exact k μ1 H1 _ st1 .non
  · cases ns with
    | nil => cases h1
    | cons n0 r =>
      subst e2
      rw [minL_eq h1 h2]
      exact k μ1 H1 _ st1 (.int _)
end
end Itp

namespace PySem.Itp2
open PySem PySem.Spec PyProof.Rows L2
/-! ### set(xs), xs a list of numbers -/
/-- a bare set, new -/
abbrev bareO (w : World) : Obj := { cls := .type "set", dict := none, data := .set #[] 0 (.fresh 0 0 (!w.params.followText "set-order")) }
abbrev Shared.bare (s : Shared) (w : World) : Shared := { s with heap := s.heap.push (bareO w) }
/-- what set.__init__ leaves behind -/
def Filled (w : World) (s : Shared) (ns : List Int) (s₂ : Shared) : Prop := ∃ h' tk c, s₂ = { s with heap := h', toks := tk } ∧ SetR w h' s.heap.objs.size (fun j => decide (j ∈ ns)) c ∧ c ≤ ns.length ∧ ∀ b o, s.heap.get? b = some o → h'.get? b = some o
section
variable {P : Program} {w : World} {A : Around} {E : Value → Shared → Prop} {s : Shared} {l : Addr} {items : Array Value} {ns : List Int}
theorem init_listI {R : Result → Shared → Prop} (hh : A.handled = none) (hl : s.heap.IsList l items) (hit : IntsAre items.toList ns) (hb : ns.length + 1 < scanBound)
    (q : ∀ s₂, Filled w s ns s₂ → R (.ok (.ret .none)) s₂) :
    wpAny (model P w) A.in1 (Builtin.«set.__init__» ⟨[.ref s.heap.objs.size, .ref l], []⟩) (fun fin s' => match fin with | .done f => R (.ok f) s' | .again c' => c'.quiet = true ∧ codeAny (model P w) A c' R s') (fun e s' => R (.error e) s') (Shared.bare s w) := by
  have len : items.size = ns.length := by have z := IntsAre.length hit; rwa [Array.length_toList] at z
  have old : l < s.heap.objs.size := by obtain ⟨o, ho, _⟩ := hl; exact Heap.lt_size ho
  have at0 : (s.heap.push (bareO w)).get? s.heap.objs.size = some (bareO w) := Heap.get?_push_size _ rfl
  have tyS : (Shared.bare s w).TypeIs (.ref s.heap.objs.size) "set" := ⟨_, at0, rfl⟩
  have lst1 : (s.heap.push (bareO w)).IsList l items := hl.push _
  have sz : (s.heap.push (bareO w)).objs.size = s.heap.objs.size + 1 := Heap.size_push ..
  obtain ⟨ol, hol, hcl, nl, hdl⟩ := lst1
  obtain ⟨ocls, odict, odata, oslots⟩ := ol
  simp only at hcl hdl
  subst hcl; subst hdl
  have lst1 : (s.heap.push (bareO w)).IsList l items := ⟨_, hol, rfl, nl, rfl⟩
  have k1 := F.sub_list_set
  have k2 := F.sub_list_frozenset
  have k3 : (Value.type "list" == Value.type "dict") = false := by decide
  unfold Builtin.«set.__init__» noKeywords Builtin.Frozenset.updateFrom
  generalize hPI : pyIter = PI
  wp_walk
  subst hPI
  refine wpAny_pyIter_list lst1 ?_
  refine wpAny_bind (wpAny_runValue ?_)
  have ne1 : l ≠ (s.heap.push (bareO w)).objs.size := by rw [sz]; exact Nat.ne_of_lt (Nat.lt_succ_of_lt old)
  have out : s.heap.objs.size ∉ [(s.heap.push (bareO w)).objs.size, l] := by
    rw [sz]
    intro z
    rcases List.mem_cons.mp z with e | e
    · exact Nat.ne_of_lt (Nat.lt_succ_self _) e
    · exact Nat.ne_of_lt old (List.mem_singleton.mp e).symm
  refine set_update_ints ((Walks.list (by simp [hh]) _ l ne1 items).toS) s.heap.objs.size out ns len hb (fun i v hv => ?_) (items.size - 0) 0 _ (by omega) (Nat.zero_le _) ⟨⟨_, Heap.get?_push_size _ rfl, rfl, rfl⟩, lst1.push _⟩ ⟨0, Nat.le_refl 0, setR_new_at (Heap.get?_push_of_some _ at0)⟩ fun s' c' hm hc' hS' => ?_
  · have hi : i < ns.length := by have := (Array.getElem?_eq_some_iff.mp hv).1; omega
    obtain ⟨t, e⟩ := PyProof.Rows.IntsAre.int_at hit i v (by rw [Array.getElem?_toList]; exact hv)
    refine ⟨ns[i], t, List.getElem?_eq_getElem hi, ?_⟩
    rw [e, List.getD_eq_getElem?_getD, List.getElem?_eq_getElem hi]
    rfl
  · obtain ⟨h', g2, d', tk', os'⟩ := s'
    obtain rfl : g2 = s.gens := hm.gens
    obtain rfl : d' = s.drawn := hm.drawn
    obtain rfl : os' = s.os := hm.os
    show wpAny _ _ _ _ _ _
    refine wpAny_pure ?_
    show wpAny _ _ (ret Value.none) _ _ _
    rw [len] at hc'
    refine wpAny_pure (q _ ⟨h', tk', c', rfl, hS', hc', fun b o e => ?_⟩)
    have lt := Heap.lt_size e
    refine hm.heap b o (fun z => ?_) (Heap.get?_push_of_some _ (Heap.get?_push_of_some _ e))
    rw [sz] at z
    rcases List.mem_cons.mp z with e | e
    · exact Nat.ne_of_lt lt e
    · exact Nat.ne_of_lt (Nat.lt_succ_of_lt lt) (List.mem_singleton.mp e)
theorem call_set_lstI {Q : Value → Shared → Prop} (hh : A.handled = none) (hl : s.heap.IsList l items) (hit : IntsAre items.toList ns) (hb : ns.length + 1 < scanBound) (q : ∀ s₂, Filled w s ns s₂ → Q (.ref s.heap.objs.size) s₂) : wpAny (model P w) A (call (.type "set") [.ref l]) Q E s := by
  obtain ⟨c, tl, hmro⟩ := F.called_set.mro
  have hmade := F.called_set.made
  have hsub := F.called_set.sub
  refine wpAny_call (codeAny_of_tree ?_)
  show wpAny _ _ (callAny (.type "set") _) _ _ _
  refine wpAny_pure ⟨Code.quiet_builtin _ (by decide +kernel), codeAny_builtin F.entry_type_call ?_⟩
  rw [Around.under_plain (weight_type_call_type "set" [.ref l] []) rfl]
  have n1 := F.called_set.notType
  have n2 := F.called_set.canCreate
  have n3 := F.typeCall_set_1 (.ref l)
  repeat (any_goals (first | assumption | wp_step))
  refine codeAny_mono (code_set_led1 (.ref l) (E := E) (Q₁ := fun v s₁ => v = .ref s.heap.objs.size ∧ s₁ = Shared.bare s w) ⟨rfl, rfl⟩) fun r s₁ hr => ?_
  cases r with
  | error e => exact hr
  | ok fl =>
    cases fl with
    | ret v =>
      obtain ⟨rfl, rfl⟩ := hr
      have at0 : (s.heap.push (bareO w)).get? s.heap.objs.size = some (bareO w) := Heap.get?_push_size _ rfl
      have tyS : (Shared.bare s w).TypeIs (.ref s.heap.objs.size) "set" := ⟨_, at0, rfl⟩
      have m1 := F.called_set.init.lookup
      have m2 := F.called_set.init.bind (.ref s.heap.objs.size)
      repeat (any_goals (first | assumption | wp_step))
      refine codeAny_mono (codeAny_call_builtin (R := wants (fun r s₂ => r = .none ∧ Filled w s ns s₂) E) F.called_set.init.plain F.entry_set_init (check_set_init_1 tyS (init_listI hh hl hit hb fun s₂ h₂ => ⟨rfl, h₂⟩))) fun r₂ s₂ hr₂ => ?_
      cases r₂ with
      | error e => exact hr₂
      | ok fl₂ =>
        cases fl₂ with
        | ret r =>
          obtain ⟨rfl, h₂⟩ := hr₂
          repeat (any_goals (first | assumption | wp_step))
          exact q _ h₂
        | _ => exact hr₂.elim
    | _ => exact hr.elim
end
end PySem.Itp2

namespace Itp
open PySem L2
theorem keyI_mem {ks : List Int} {i x : Int} : x ∈ keyI ks i ↔ x ∈ ks ∨ x = i := by
  unfold keyI
  split
  · rename_i h
    rw [List.contains_iff_mem] at h
    constructor
    · exact .inl
    · rintro (h1 | rfl)
      · exact h1
      · exact h
  · simp
theorem keyI_nd {ks : List Int} {i : Int} (h : ks.Nodup) : (keyI ks i).Nodup := by
  unfold keyI
  split
  · exact h
  · rename_i h1
    rw [List.nodup_append]
    refine ⟨h, by simp, fun a ha b hb => ?_⟩
    simp only [List.mem_singleton] at hb
    subst hb
    rintro rfl
    exact h1 (List.contains_iff_mem.mpr ha)
theorem keysI_mem {ns : List Int} {x : Int} : x ∈ keysI ns ↔ x ∈ ns := by
  have key : ∀ (ns ks : List Int), x ∈ ns.foldl keyI ks ↔ x ∈ ks ∨ x ∈ ns := by
    intro ns
    induction ns with
    | nil => intro ks; simp
    | cons n ns ih =>
      intro ks
      rw [List.foldl_cons, ih, keyI_mem, List.mem_cons, or_assoc]
  have := key ns []
  simpa [keysI] using this
theorem keysI_nd (ns : List Int) : (keysI ns).Nodup := by
  have key : ∀ (ns ks : List Int), ks.Nodup → (ns.foldl keyI ks).Nodup := by
    intro ns
    induction ns with
    | nil => intro ks h; exact h
    | cons n ns ih => intro ks h; exact ih _ (keyI_nd h)
  exact key ns [] List.nodup_nil
section
variable {X : Cx} {cl : Nat → Addr} {c : Oracle} {g : G} {p : Pl} {n : Nat}
def rSetL (K : PySem.W.Frag) (w : World) : List V → Hp → VK → Prop := fun xs H Q => ∃ (l : Addr) (ns : List Int), xs = [V.ref l] ∧ SqL K H l (ns.map V.int) ∧ ns.length < 1000 ∧
  ∀ (q : Addr) (k : Nat), H q = none → k ≤ ns.length → Q (.ref q) (upd H q (SetO w q (fun j => decide (j ∈ ns)) k))
theorem cr_setL (hc : X.calm = true) : CallR X (.type "set") (rSetL X.K X.w) := by
  intro pins s σ H xs us Q I r h
  obtain ⟨l, ns, rfl, hs, hb, q⟩ := h
  obtain ⟨its, rv, hl, hz⟩ := I.list hs
  rw [Vals.ref1 r]
  refine PySem.Itp2.call_set_lstI (I.ok.hd hc) hl.isList (ns := ns) (by simpa using rv.ints) (by unfold scanBound; omega) fun s₂ hs₂ => ?_
  obtain ⟨h', tk, k, rfl, R, hk, keep⟩ := hs₂
  exact ⟨.ref _, upd H s.heap.objs.size (SetO X.w s.heap.objs.size (fun j => decide (j ∈ ns)) k), I.laid (t' := tk) keep (Nat.le_refl _) (setO_new R), rfl, q _ _ (I.hok.fresh (Nat.le_refl _)) hk⟩
theorem s_sset (ok : Ok X g p cl c n) {a : E} {pa : Expr} {p0 p1 pos pos1 : Pos} (hg : glob p.sc "sorted" = true) (hg1 : glob p.sc "set" = true) (hb : g.bl.contains (Str.ofString "sorted") = true) (hb1 : g.bl.contains (Str.ofString "set") = true) (hn : notStar pa = true) (h : PE X pa (tI X.K cl c a)) :
    PE X (.Call (.Name "sorted" p0) [.Call (.Name "set" p1) [pa] [] pos1] [] pos) (tJ X.K cl c (.sset a)) := by
  have hst : starEach [pa] X.env = (false, eval pa X.env) :: starEach [] X.env := starEach_cons hn
  have k1 := pe_callTy (p := p1) (pos := pos1) (cr_setL ok.calm) (glob_of ok hg1) (ok.bl _ hb1) (show bootBuiltins (Str.ofString "set") = some (.type "set") by decide +kernel) (pa_cons h pa_nil hst) (by decide) (by decide) hst rfl
  have k2 := pe_callB (p := p0) (pos := pos) (cr_sortedSet ok.calm) (glob_of ok hg) (ok.bl _ hb) (show bootBuiltins (Str.ofString "sorted") = some (.builtin "sorted") by decide +kernel) (pa_cons k1 pa_nil rfl) (by decide) (by decide) rfl rfl
  refine PE.imp k2 ?_
  rintro σ H Q ⟨μ, Z, S, ρ, v, S', sm, re, ev, k⟩
  unfold evE at ev
  obtain ⟨⟨x, S1⟩, e1, ev⟩ := Option.bind_eq_some_iff.mp ev
  obtain ⟨xs, e2, ev⟩ := Option.bind_eq_some_iff.mp ev
  obtain ⟨ns, e3, ev⟩ := Option.bind_eq_some_iff.mp ev
  split at ev
  rotate_left
  · cases ev
  rename_i hlen
  cases ev
  refine ⟨μ, Z, S, ρ, x, _, sm, re, e1, fun μ1 H1 w st1 r1 => ?_⟩
  obtain ⟨a0, vs, rfl, q1, q2⟩ := lst_at st1.sm r1 e2
  have e5 := q2.ints e3
  subst e5
  refine ⟨a0, ns, rfl, .inl (.inl q1), by omega, fun q m hq hm => ⟨q, _, m, rfl, upd_same, by omega, fun ns' p' h1 h2 h3 hp => ?_⟩⟩
  have st2 := Stp.laid (o := SetO X.w q (fun j => decide (j ∈ ns)) m) st1.sm hq
  have st := st1.trans st2
  have eq : ns' = sortI (keysI ns) := by
    refine sortI_eq ?_ (h1.imp fun h => Int.le_of_lt h)
    refine (List.perm_ext_iff_of_nodup (h1.imp fun h => Int.ne_of_lt h) (keysI_nd ns)).mpr fun z => ?_
    rw [keysI_mem, h2, decide_eq_true_iff]
  subst eq
  exact (k.step st).lst st.sm (relL_ints _) p' hp
end
end Itp

namespace Itp
open PySem L2
/-! ### the first place of a thing; how many unlike rows -/
theorem keysR_mem {rs : List (List Int)} {x : List Int} : x ∈ keysR rs ↔ x ∈ rs := by
  have key : ∀ (rs ks : List (List Int)), x ∈ rs.foldl (fun ks r => if ks.contains r = true then ks else ks ++ [r]) ks ↔ x ∈ ks ∨ x ∈ rs := by
    intro rs
    induction rs with
    | nil => intro ks; simp
    | cons r rs ih =>
      intro ks
      rw [List.foldl_cons, ih, List.mem_cons, ← or_assoc]
      refine or_congr ?_ Iff.rfl
      split
      · rename_i h
        have h := List.contains_iff_mem.mp h
        constructor
        · exact .inl
        · rintro (h1 | rfl)
          · exact h1
          · exact h
      · simp
  have := key rs []
  simpa [keysR] using this
theorem keysR_nd (rs : List (List Int)) : (keysR rs).Nodup := by
  have key : ∀ (rs ks : List (List Int)), ks.Nodup → (rs.foldl (fun ks r => if ks.contains r = true then ks else ks ++ [r]) ks).Nodup := by
    intro rs
    induction rs with
    | nil => intro ks h; exact h
    | cons r rs ih =>
      intro ks h
      refine ih _ ?_
      show (if ks.contains r = true then ks else ks ++ [r]).Nodup
      split
      · exact h
      · rename_i h1
        rw [List.nodup_append]
        refine ⟨h, by simp, fun a ha b hb => ?_⟩
        simp only [List.mem_singleton] at hb
        subst hb
        rintro rfl
        exact h1 (List.contains_iff_mem.mpr ha)
  exact key rs [] List.nodup_nil
theorem RelL.revE {K : PySem.W.Frag} {cl : Nat → Addr} {μ : List Addr} {Z : Addr → Prop} {H : Hp} : ∀ {xs : List Val} {vs : List V}, RelL K cl μ Z H xs vs → RelL K cl μ Z H xs.reverse vs.reverse
  | _, _, .nil => .nil
  | _, _, .cons h r => by rw [List.reverse_cons, List.reverse_cons]; exact (RelL.revE r).append (.cons h .nil)
theorem row_tup {K : PySem.W.Frag} {cl : Nat → Addr} {μ : List Addr} {Z : Addr → Prop} {H : Hp} {r : List Int} {v : V} (h : Rel K cl μ Z H (rowV r) v) : ∃ a, v = .ref a ∧ H a = some (.tup (r.map V.int)) := by
  unfold rowV at h
  cases h with
  | tup h1 h2 h3 h4 =>
    rw [h4.ints (ints_of_map r)] at h3
    exact ⟨_, rfl, h3⟩
theorem rows_ks {K : PySem.W.Frag} {cl : Nat → Addr} {μ : List Addr} {Z : Addr → Prop} {H : Hp} : ∀ {rs : List (List Int)} {ws : List V}, RelL K cl μ Z H (rs.map rowV) ws → ∃ ks : List (Addr × List Int), ws = ks.map (fun p => V.ref p.1) ∧ ks.map (·.2) = rs ∧ ∀ p ∈ ks, H p.1 = some (.tup (p.2.map V.int))
  | [], _, h => by cases h; exact ⟨[], rfl, rfl, fun p h => nomatch h⟩
  | r :: rs, _, h => by
    cases h with
    | cons h1 h2 =>
      obtain ⟨a, rfl, ha⟩ := row_tup h1
      obtain ⟨ks, rfl, e2, h3⟩ := rows_ks h2
      refine ⟨(a, r) :: ks, rfl, by rw [List.map_cons, e2], fun p hp => ?_⟩
      rcases List.mem_cons.mp hp with rfl | hp
      · exact ha
      · exact h3 p hp
def rLenST (K : PySem.W.Frag) (P : Program) (w : World) : List V → Hp → VK → Prop := fun xs H Q => ∃ (a : Addr) (L : List (Addr × List Int)), xs = [V.ref a] ∧ H a = some (SetTO P w a L) ∧ (∀ p ∈ L, SqT K H p.1 (p.2.map V.int)) ∧ ((L.map (·.2)).Nodup → Q (.int (L.length : Nat)) H)
theorem cr_lenST {X : Cx} : CallR X (.builtin "len") (rLenST X.K X.prog X.w) := by
  intro pins s σ H xs us Q I r h
  obtain ⟨a, L, rfl, ha, hk, q⟩ := h
  have R0 : SetT0 X.prog X.w s.heap a L := (I.hok a _ ha).1
  obtain ⟨es, ep, t, R⟩ := R0.full fun p hp => I.isT (hk p hp)
  rw [Vals.ref1 r]
  obtain ⟨o, ho, hex, hd⟩ := R.ob
  have hf := R.few
  have hz := R.size
  exact call_len_set ho hex hd R.fits (by rw [hz]; omega) ⟨.int (L.length : Nat), H, I.tok _, ⟨_, by rw [hz]⟩, q R.nd⟩
section
variable {X : Cx} {cl : Nat → Addr} {c : Oracle} {g : G} {p : Pl} {n : Nat}
theorem s_lset (ok : Ok X g p cl c n) {a : E} {pa : Expr} {p0 p1 pos pos1 : Pos} (hg : glob p.sc "len" = true) (hg1 : glob p.sc "set" = true) (hb : g.bl.contains (Str.ofString "len") = true) (hb1 : g.bl.contains (Str.ofString "set") = true) (hn : notStar pa = true) (h : PE X pa (tI X.K cl c a)) :
    PE X (.Call (.Name "len" p0) [.Call (.Name "set" p1) [pa] [] pos1] [] pos) (tI X.K cl c (.lset a)) := by
  have hst : starEach [pa] X.env = (false, eval pa X.env) :: starEach [] X.env := starEach_cons hn
  have hu : X.A.units + 64 < cLine := by
    have := ok.room.un
    omega
  have k1 := pe_callTy (p := p1) (pos := pos1) (cr_setOfT ok.calm hu) (glob_of ok hg1) (ok.bl _ hb1) (show bootBuiltins (Str.ofString "set") = some (.type "set") by decide +kernel) (pa_cons h pa_nil hst) (by decide) (by decide) hst rfl
  have k2 := pe_callB (p := p0) (pos := pos) cr_lenST (glob_of ok hg) (ok.bl _ hb) (show bootBuiltins (Str.ofString "len") = some (.builtin "len") by decide +kernel) (pa_cons k1 pa_nil rfl) (by decide) (by decide) rfl rfl
  refine PE.imp k2 ?_
  rintro σ H Q ⟨μ, Z, S, ρ, v, S', sm, re, ev, k⟩
  unfold evE at ev
  obtain ⟨⟨x, S1⟩, e1, ev⟩ := Option.bind_eq_some_iff.mp ev
  obtain ⟨xs, e2, ev⟩ := Option.bind_eq_some_iff.mp ev
  obtain ⟨rs, e3, ev⟩ := Option.bind_eq_some_iff.mp ev
  split at ev
  rotate_left
  · cases ev
  rename_i hlen
  cases ev
  refine ⟨μ, Z, S, ρ, x, _, sm, re, e1, fun μ1 H1 w st1 r1 => ?_⟩
  obtain ⟨a0, vs, rfl, q1, q2⟩ := lst_at st1.sm r1 e2
  have e5 := rows_inv e3
  subst e5
  obtain ⟨ks, rfl, e6, hks⟩ := rows_ks q2
  refine ⟨a0, ks, rfl, .inl (.inl q1), fun p hp => .inl (.inl (hks p hp)), by rw [← List.length_map (·.2), e6]; exact hlen, fun q L hq hL hall => ⟨q, L, rfl, upd_same, fun p hp => ?_, fun nd => ?_⟩⟩
  · have h1 := hks p (hL p hp)
    exact .inl (.inl (by rw [upd_ne (ne_of_none h1 hq)]; exact h1))
  · have st2 := Stp.laid (o := SetTO X.prog X.w q L) st1.sm hq
    have len : L.length = (keysR rs).length := by
      rw [← List.length_map (·.2)]
      refine List.Perm.length_eq ((List.perm_ext_iff_of_nodup nd (keysR_nd rs)).mpr fun z => ?_)
      rw [keysR_mem]
      constructor
      · intro hz
        obtain ⟨p, hp, rfl⟩ := List.mem_map.mp hz
        rw [← e6]
        exact List.mem_map.mpr ⟨p, hL p hp, rfl⟩
      · intro hz
        rw [← e6] at hz
        obtain ⟨p, hp, rfl⟩ := List.mem_map.mp hz
        exact hall p hp
    rw [len]
    exact k _ _ _ (st1.trans st2) (.int _)
theorem s_rev {a : E} {pa : Expr} {k : Nat} {p1 p2 p3 pos : Pos} (ha : PE X pa (tI X.K cl c a)) : PE X (.Subscript pa (.Slice none none (some (.UnaryOp .USub (.Constant (.int 1) k p1) p2)) p3) pos) (tJ X.K cl c (.rev a)) := by
  refine PE.imp (pe_revL ha) ?_
  rintro σ H Q ⟨μ, Z, S, ρ, v, S', sm, re, ev, k⟩
  unfold evE at ev
  obtain ⟨⟨x, S1⟩, e1, ev⟩ := Option.bind_eq_some_iff.mp ev
  obtain ⟨xs, e2, ev⟩ := Option.map_eq_some_iff.mp ev
  cases ev
  refine ⟨μ, Z, S, ρ, x, _, sm, re, e1, fun μ1 H1 w st1 r1 => ?_⟩
  obtain ⟨a0, vs, rfl, q1, q2⟩ := lst_at st1.sm r1 e2
  exact ⟨a0, vs, rfl, .inl (.inl q1), fun p hp => (k.step st1).lst st1.sm (RelL.revE q2) p hp⟩
theorem s_strI (ok : Ok X g p cl c n) {a : E} {pa : Expr} {p0 pos : Pos} (hg : glob p.sc "str" = true) (hb : g.bl.contains (Str.ofString "str") = true) (hn : notStar pa = true) (h : PE X pa (tI X.K cl c a)) :
    PE X (.Call (.Name "str" p0) [pa] [] pos) (tI X.K cl c (.strI a)) := by
  have hst : starEach [pa] X.env = (false, eval pa X.env) :: starEach [] X.env := starEach_cons hn
  have k1 := pe_callTy (p := p0) (pos := pos) (call_str_sc (X := X)) (glob_of ok hg) (ok.bl _ hb) (show bootBuiltins (Str.ofString "str") = some (.type "str") by decide +kernel) (pa_cons h pa_nil hst) (by decide) (by decide) hst rfl
  refine PE.imp k1 ?_
  rintro σ H Q ⟨μ, Z, S, ρ, v, S', sm, re, ev, k⟩
  unfold evE at ev
  obtain ⟨⟨x, S1⟩, e1, ev⟩ := Option.bind_eq_some_iff.mp ev
  dsimp only at ev
  split at ev
  · split at ev
    · rename_i hz
      cases ev
      refine ⟨μ, Z, S, ρ, _, _, sm, re, e1, fun μ1 H1 w st1 r1 => ?_⟩
      cases r1
      exact .inl ⟨_, rfl, hz, k _ _ _ st1 (.str _)⟩
    · cases ev
  · cases ev
    refine ⟨μ, Z, S, ρ, _, _, sm, re, e1, fun μ1 H1 w st1 r1 => ?_⟩
    cases r1
    exact .inr ⟨_, rfl, k _ _ _ st1 (.str _)⟩
  · cases ev
theorem s_ixof (ok : Ok X g p cl c n) {a y : E} {pa py : Expr} {apos cpos : Pos} (hb : notBareCall pa = true) (hl : (apos.endLine == cpos.line) = true) (hn : notStar py = true) (ha : PE X pa (tI X.K cl c a)) (hy : PE X py (tI X.K cl c y)) :
    PE X (.Call (.Attribute pa "index" apos) [py] [] cpos) (tI X.K cl c (.ixof a y)) := by
  have hs : starEach [py] X.env = (false, eval py X.env) :: starEach [] X.env := starEach_cons hn
  have hu : X.A.units + 65 < cLine := by
    have := ok.room.un
    omega
  refine PE.imp (pe_bm PySem.F.plainAttrs_list PySem.F.slot_list_index PySem.F.type_list_index (mt_indexD hu) ha (pa_cons hy pa_nil hs) (base_of hb) (by rw [hs]; rfl) hl hs) ?_
  rintro σ H Q ⟨μ, Z, S, ρ, v, S', sm, re, ev, k⟩
  unfold evE at ev
  obtain ⟨⟨x, S1⟩, e1, ev⟩ := Option.bind_eq_some_iff.mp ev
  obtain ⟨l0, e0, ev⟩ := Option.bind_eq_some_iff.mp ev
  obtain ⟨⟨w, S2⟩, e2, ev⟩ := Option.bind_eq_some_iff.mp ev
  obtain ⟨xs, e3, ev⟩ := Option.bind_eq_some_iff.mp ev
  obtain ⟨ds, e4, ev⟩ := Option.bind_eq_some_iff.mp ev
  obtain ⟨d, e5, ev⟩ := Option.bind_eq_some_iff.mp ev
  split at ev
  rotate_left
  · cases ev
  rename_i hsh
  obtain ⟨j, e6, ev⟩ := Option.map_eq_some_iff.mp ev
  cases ev
  obtain ⟨hj, h1, h2⟩ := List.findIdx?_eq_some_iff_getElem.mp e6
  refine ⟨μ, Z, S, ρ, x, S1, sm, re, e1, fun μ1 H1 w1 st1 r1 => ?_⟩
  obtain ⟨a0, vs0, rfl, q0, _⟩ := lst_at st1.sm r1 e0
  refine ⟨.inl ⟨rfl, vs0, .inl (.inl q0)⟩, μ1, Z, S1, ρ, w, _, st1.sm, st1.env re, e2, fun μ2 H2 w2 st2 r2 => ?_⟩
  have r1' := st2.rel r1
  obtain ⟨a1, vs, e7, q1, q2⟩ := lst_at st2.sm r1' e3
  cases e7
  refine ⟨a0, w2, d, ds, j, ds[j], rfl, rfl, .lst (.inl (.inl q1)) (datas_of st2.sm _ q2 e4), data_of st2.sm _ r2 e5, hsh.1, hsh.2, List.getElem?_eq_getElem hj, h1, fun m z hm hz => ?_, k _ _ _ (st1.trans st2) (.int _)⟩
  obtain ⟨hm', rfl⟩ := List.getElem?_eq_some_iff.mp hz
  have := h2 m hm
  simpa using this
end
end Itp

namespace HT
open PySem PySem.Spec PyProof.Rows
section
variable {prog : Program} {w : World} {A : Around} {E : Value → Shared → Prop} {s : Shared}
/-! ### a tuple from the back -/
theorem adjust_back (n : Nat) : Builtin.Slice.sliceAdjust none none (-1) (n : Int) = ((n : Int) - 1, -1) := by
  unfold Builtin.Slice.sliceAdjust
  simp only [show ((-1 : Int) < 0) by decide, if_true]
theorem places_back (n : Nat) : Builtin.Slice.slicePlaces ((n : Int) - 1) (-1) (-1) = n := by
  unfold Builtin.Slice.slicePlaces
  simp only [show ¬ ((-1 : Int) > 0) by decide, if_false, show (- -1 : Int) = 1 by decide, Int.ediv_one]
  split <;> omega
theorem pick_back (xs : Array Value) : ((List.range xs.size).filterMap fun (m : Nat) => xs[(((xs.size : Int) - 1) + (m : Int) * (-1)).toNat]?).toArray = xs.toList.reverse.toArray := by
  have e : (List.range xs.size).filterMap (fun (m : Nat) => xs[(((xs.size : Int) - 1) + (m : Int) * (-1)).toNat]?) = ((List.range xs.size).map fun k => xs.size - 1 - k).filterMap (xs[·]?) := by
    rw [List.filterMap_map]
    have key : ∀ l : List Nat, (∀ m ∈ l, m < xs.size) → l.filterMap (fun (m : Nat) => xs[(((xs.size : Int) - 1) + (m : Int) * (-1)).toNat]?) = l.filterMap ((fun x => xs[x]?) ∘ fun k => xs.size - 1 - k) := by
      intro l
      induction l with
      | nil => intro _; rfl
      | cons m l ih =>
        intro h
        have hm := h m List.mem_cons_self
        rw [List.filterMap_cons, List.filterMap_cons, ih fun x hx => h x (List.mem_cons_of_mem _ hx)]
        have e1 : (((xs.size : Int) - 1) + (m : Int) * (-1)).toNat = xs.size - 1 - m := by omega
        rw [e1]
        rfl
    exact key _ fun m hm => List.mem_range.mp hm
  rw [e, PySem.W.krv_range, List.filterMap_reverse, PySem.W.krv_all]
theorem sliceApplied_back {sl : Addr} {vl vu vs : Value} {n : Nat} {Q : Int × Int × Nat → Shared → Prop} (hs : s.heap.IsSliceOf sl vl vu vs) (pl : IsPart vl none) (pu : IsPart vu none) (ps : IsPart vs (some (-1)))
    (h : Q ((n : Int) - 1, -1, n) s) : wpAny (model prog w) A (Builtin.Slice.sliceApplied (.ref sl) (pure (n : Int))) Q E s := by
  obtain ⟨os, hos, hcs, hds⟩ := id hs
  unfold Builtin.Slice.sliceApplied Builtin.Slice.sliceFields
  refine wpAny_bind (wpAny_bind (wpAny_field hos hds (x := vl) rfl (wpAny_bind (wpAny_field hos hds (x := vu) rfl (wpAny_bind (wpAny_field hos hds (x := vs) rfl (wpAny_pure ?_)))))))
  refine wpAny_bind (slicePart_ ps ?_)
  show wpAny _ _ (if (((-1 : Int)) == 0) = true then _ else _) _ _ s
  rw [if_neg (by decide)]
  refine wpAny_bind (slicePart_ pl (wpAny_bind (slicePart_ pu (wpAny_bind (wpAny_pure ?_)))))
  show wpAny _ _ (match Builtin.Slice.sliceAdjust none none (-1) (n : Int) with | (lo, hi) => pure (lo, (-1 : Int), Builtin.Slice.slicePlaces lo hi (-1))) _ _ s
  rw [adjust_back n]
  show wpAny _ _ (pure ((n : Int) - 1, (-1 : Int), Builtin.Slice.slicePlaces ((n : Int) - 1) (-1) (-1))) _ _ s
  rw [places_back]
  exact wpAny_pure h
theorem getItem_tuple_back {t sl : Addr} {items : Array Value} {vl vu vs : Value} {Q : Value → Shared → Prop} (ht : IsTup s.heap t items) (hs : s.heap.IsSliceOf sl vl vu vs) (pl : IsPart vl none) (pu : IsPart vu none) (ps : IsPart vs (some (-1)))
    (h : Q (.ref s.heap.objs.size) { s with heap := s.heap.push { cls := .type "tuple", data := .seq items.toList.reverse.toArray } })
    (hsz : items.size ≤ sizeLine) : wpAny (model prog w) A (getItem (.ref t) (.ref sl)) Q E s := by
  have htake : sizeOk (.seq items.toList.reverse.toArray) := by
    show items.toList.reverse.toArray.size ≤ sizeLine
    rw [List.size_toArray, List.length_reverse, Array.length_toList]
    exact hsz
  obtain ⟨os, hos, hcs, hds⟩ := id hs
  have hTs : s.TypeIs (.ref sl) "slice" := ⟨os, hos, hcs⟩
  unfold getItem
  try with_reducible refine wpAny_holding ?_
  first | refine wpAny_bind (wpAny_pure ?_) | skip
  refine wpAny_bind (wpAny_sequenceKey ht.typeIs (by decide) ?_)
  refine wpAny_bind (wpAny_callSpecial?_slot (name := Str.ofString "__getitem__") ht.typeIs PyProof.Rows.slot_tuple_getitem
    (wpAny_call_entry PyProof.Rows.slot_tuple_getitem ht.typeIs entry_tuple_getitem ?_ (args_tuple_getitem _ _)))
  show wpAny _ _ (Builtin.Tuple.tupleItemsOf (.ref t) >>= _) _ _ s
  refine wpAny_bind (tupleItemsOf_ ht ?_)
  refine wpAny_bind (wpAny_typeOf hTs ?_)
  rw [if_pos (by decide)]
  refine wpAny_bind (sliceApplied_back hs pl pu ps ?_)
  have hno : ¬ ((((items.size : Int) - 1) == 0 && (-1 : Int) == 1 && items.size == items.size) = true) := by
    intro q
    rw [Bool.and_eq_true, Bool.and_eq_true] at q
    have q1 : (-1 : Int) = 1 := eq_of_beq q.1.2
    omega
  show wpAny _ _ (if (((items.size : Int) - 1) == 0 && (-1 : Int) == 1 && items.size == items.size) = true then _ else _) _ _ s
  rw [if_neg hno, pick_back]
  first
    | exact wpAny_bind (m := Builtin.Tuple.tupleExact _) (wpAny_newObj_type (wpAny_pure ⟨_, rfl, wpAny_pure h⟩) htake)
    | exact wpAny_bind (m := Builtin.Tuple.tupleExact _) (wpAny_newObj_type (wpAny_bind (wpAny_pure (wpAny_pure ⟨_, rfl, wpAny_pure h⟩))) htake)
    | exact wpAny_bind (wpAny_bind (m := Builtin.Tuple.tupleExact _) (wpAny_newObj_type (wpAny_pure (wpAny_pure ⟨_, rfl, wpAny_pure h⟩)) htake))
    | exact wpAny_bind (wpAny_bind (m := Builtin.Tuple.tupleExact _) (wpAny_newObj_type (wpAny_pure ⟨_, rfl, wpAny_pure h⟩) htake))
end
end HT
namespace Itp
open PySem PySem.Spec PyProof.Rows L2
section
variable {X : Cx}
def tRevT (K : PySem.W.Frag) (te : TE) : TE := fun σ H Q => te σ H fun x H1 => ∃ a xs, x = .ref a ∧ SqT K H1 a xs ∧ ∀ p, H1 p = none → Q (.ref p) (upd H1 p (.tup xs.reverse))
theorem pe_revT {e : Expr} {te : TE} {k : Nat} {p1 p2 p3 pos : Pos} (he : PE X e te) : PE X (.Subscript e (.Slice none none (some (.UnaryOp .USub (.Constant (.int 1) k p1) p2)) p3) pos) (tRevT X.K te) := by
  refine ⟨fun pins s σ H Q I h => ?_⟩
  refine Subscript_ (thn (he.run pins s σ H _ I h) fun v s1 ⟨x, H1, I1, r1, q1⟩ => ?_)
  obtain ⟨a, xs, ex, hx, q⟩ := q1
  subst ex
  cases r1
  have hst : PO X (some (.UnaryOp .USub (.Constant (.int 1) k p1) p2)) (tPart (tUn (rU fun i => .int (-i)) (tC (.int 1)))) := po_some (pe_un un_neg pe_int)
  refine wpAny_Slice (thn (po_none.run pins s1 σ H1 (fun o H2 => o = none ∧ H2 = H1) I1 ⟨rfl, rfl⟩) fun vl s2 ⟨l, H2, I2, pl, el, e2⟩ => ?_)
  subst el e2
  refine thn (po_none.run pins s2 σ H2 (fun o H3 => o = none ∧ H3 = H2) I2 ⟨rfl, rfl⟩) fun vu s3 ⟨u, H3, I3, pu, eu, e3⟩ => ?_
  subst eu e3
  refine thn (hst.run pins s3 σ H3 (fun o H4 => o = some (-1) ∧ H4 = H3) I3 ⟨1, rfl, -1, rfl, rfl, rfl⟩) fun vs s4 ⟨o, H4, I4, ps, eo, e4⟩ => ?_
  subst eo e4
  have I5 : Inv X pins σ H4 { s4 with heap := s4.heap.push { cls := .type "slice", data := .fields #[vl, vu, vs] } } := I4.kept (t' := s4.toks) fun b ob q => Heap.get?_push_of_some _ q
  obtain ⟨its, r, ht, hz⟩ := I5.tuple hx
  have hlen := r.length
  show wpAny (model X.prog X.w) X.A (subscriptTail e (.Slice none none (some (.UnaryOp .USub (.Constant (.int 1) k p1) p2)) p3) (.ref a) (.ref s4.heap.objs.size)) (EP X pins σ Q) X.xe { s4 with heap := s4.heap.push { cls := .type "slice", data := .fields #[vl, vu, vs] } }
  refine tail_any (ops := [.ref a, .ref s4.heap.objs.size]) ht.typeIs (PyProof.Rows.slot_tuple_getitem.lookup) ?_ (by with_unfolding_all rfl)
  refine HT.getItem_tuple_back ht (Heap.IsSliceOf.new _ vl vu vs) pl pu ps ?_ (by rw [List.size_toArray]; omega)
  refine ⟨.ref _, _, I5.laid (t' := s4.toks) (o := .tup xs.reverse) (fun b ob q => Heap.get?_push_of_some _ q) (Nat.le_refl _) ?_, rfl, q _ (I5.hok.fresh (Nat.le_refl _))⟩
  exact ⟨by rw [List.length_reverse]; exact hz, _, r.reverse, _, Heap.get?_push_size _ rfl, rfl, 0, by simp⟩
end
section
variable {X : Cx} {cl : Nat → Addr} {c : Oracle} {g : G} {p : Pl} {n : Nat}
theorem s_revT {a : E} {pa : Expr} {k : Nat} {p1 p2 p3 pos : Pos} (ha : PE X pa (tI X.K cl c a)) : PE X (.Subscript pa (.Slice none none (some (.UnaryOp .USub (.Constant (.int 1) k p1) p2)) p3) pos) (tI X.K cl c (.revT a)) := by
  refine PE.imp (pe_revT ha) ?_
  rintro σ H Q ⟨μ, Z, S, ρ, v, S', sm, re, ev, k⟩
  unfold evE at ev
  obtain ⟨⟨x, S1⟩, e1, ev⟩ := Option.bind_eq_some_iff.mp ev
  dsimp only at ev
  split at ev
  · cases ev
    refine ⟨μ, Z, S, ρ, _, _, sm, re, e1, fun μ1 H1 w st1 r1 => ?_⟩
    cases r1 with
    | tup h1 h2 h3 h4 => exact ⟨_, _, rfl, .inl (.inl h3), (k.f.step st1).tup st1.sm (RelL.revE h4)⟩
  · cases ev
end
end Itp

namespace Itp
open PySem PySem.Spec PyProof.Rows L2
/-! repr of tuples and lists; defs as values -/
theorem noDict_shaped {d : PyData} (h : SeqAt.shaped d = true) : d.hasDict = false ∧ d.depth ≤ 64 := by
  unfold SeqAt.shaped at h
  rw [Bool.and_eq_true] at h
  exact ⟨PyData.hasDict_of_canLay d h.1, of_decide_eq_true h.2⟩
section
variable {X : Cx}
def rRep (K : PySem.W.Frag) : List V → Hp → VK → Prop := fun xs H Q => ∃ (v : V) (d : PyData), xs = [v] ∧ Dp K H v d ∧ d.showable = true ∧ SeqAt.shaped d = true ∧ d.shown.length ≤ sizeLine ∧ Q (.str d.shown) H
theorem cr_repr (gd : X.A.guards = some []) (hu : X.A.units + 100 < cLine) : CallR X (.builtin "repr") (rRep X.K) := by
  intro pn s σ H xs us Q I r h
  obtain ⟨v, d, rfl, hd, hs, sh, hz, q⟩ := h
  obtain ⟨u, rfl, ru⟩ : ∃ u, us = [u] ∧ RelV v u := by
    cases r with
    | cons h t => cases t; exact ⟨_, rfl, h⟩
  have big : ∀ {a : Addr}, RelV (.ref a) u → Dp X.K H (.ref a) d → wpAny (model X.prog X.w) X.A (call (.builtin "repr") [u]) (EP X pn σ Q) X.xe s := by
    intro a ru hd
    obtain rfl : u = .ref a := ru
    obtain ⟨nd, dp⟩ := noDict_shaped sh
    obtain ⟨as, r1⟩ := Dp.reads I d _ (.ref a) hd rfl
    exact repr_of_reads' r1 hs (fun h => absurd (nd.symm.trans h) (by decide)) gd (by omega) (fun b o e => e) (fun h2 u tk kp => ⟨.str d.shown, H, I.kept kp, ⟨u, rfl⟩, q⟩) hz
  cases hd with
  | non =>
    obtain rfl : u = .none := ru
    rw [PyData.shown] at q
    exact PySem.P.repr_of_none ⟨.str _, H, I.tok _, ⟨_, rfl⟩, q⟩
  | bl b =>
    obtain rfl : u = .bool b := ru
    rw [PyData.shown] at q
    exact PySem.P.repr_of_bool ⟨.str _, H, I.tok _, ⟨_, rfl⟩, q⟩
  | int i =>
    obtain ⟨t, rfl⟩ := ru
    rw [PyData.shown] at q
    refine PySem.P.repr_of_int (by simpa [PyData.showable] using hs) ⟨.str _, H, I.tok _, ⟨_, rfl⟩, q⟩
  | str x =>
    obtain ⟨t, rfl⟩ := ru
    rw [PyData.shown] at q hz
    exact PySem.P.repr_of_str ⟨.str _, H, I.tok _, ⟨_, rfl⟩, q⟩ hz
  | lst a b => exact big ru (.lst a b)
  | tup a b => exact big ru (.tup a b)
end
theorem ite_some {α : Type} {p : Prop} [Decidable p] {a v : α} (h : (if p then some a else none) = some v) : p ∧ a = v := by
  by_cases hp : p
  · rw [if_pos hp] at h; cases h; exact ⟨hp, rfl⟩
  · rw [if_neg hp] at h; cases h
section
variable {X : Cx} {cl : Nat → Addr} {c : Oracle} {g : G} {p : Pl} {n : Nat}
theorem s_rep (ok : Ok X g p cl c n) {a : E} {pa : Expr} {p0 pos : Pos} (hg : glob p.sc "repr" = true) (hb : g.bl.contains (Str.ofString "repr") = true) (hn : notStar pa = true) (h : PE X pa (tI X.K cl c a)) : PE X (.Call (.Name "repr" p0) [pa] [] pos) (tI X.K cl c (.rep a)) := by
  have hst : starEach [pa] X.env = (false, eval pa X.env) :: starEach [] X.env := starEach_cons hn
  have key := pe_callB (p := p0) (pos := pos) (cr_repr ok.gd (by have := ok.room.un; omega)) (glob_of ok hg) (ok.bl _ hb) (show bootBuiltins (Str.ofString "repr") = some (.builtin "repr") by decide +kernel) (pa_cons h pa_nil hst) (by decide) (by decide) hst rfl
  refine PE.imp key ?_
  rintro σ H Q ⟨μ, Z, S, ρ, v, S', sm, re, ev, k⟩
  unfold evE at ev
  obtain ⟨⟨x, S1⟩, e1, ev⟩ := Option.bind_eq_some_iff.mp ev
  obtain ⟨z, e2, ev⟩ := Option.map_eq_some_iff.mp ev
  cases ev
  refine ⟨μ, Z, S, ρ, x, _, sm, re, e1, fun μ1 H1 w st1 r1 => ?_⟩
  unfold repSem at e2
  obtain ⟨d, e3, e2⟩ := Option.bind_eq_some_iff.mp e2
  obtain ⟨hp, hv⟩ := ite_some e2
  have hc := hp.2
  subst hv
  exact ⟨w, d, rfl, data_of st1.sm 20 r1 e3, hc.1, hc.2.1, hc.2.2, k μ1 H1 _ st1 (.str _)⟩
theorem s_dfn (ok : Ok X g p cl c n) {f : Nat} {y : Str} {ps : List Str} {p0 : Pos} (hf : g.fn f = some (y, ps)) (hv : f ∈ g.fv) (hg : glob p.sc y = true) (hy : okName y = true) : PE X (.Name y p0) (tI X.K cl c (.dfn f)) := by
  have hm := ok.fv f hv y ps hf
  refine PE.imp (pe_glob (glob_of ok hg) hm (show RelV (.ref (cl (1000 + f))) _ from rfl) (okName_of hy).1) ?_
  rintro σ H Q ⟨μ, Z, S, ρ, v, S', sm, re, ev, k⟩
  unfold evE at ev
  cases ev
  exact k.here sm (.fn f)
theorem s_callV (ok : Ok X g p cl c n) {raw : Bool} {fs : List Nat} {i : Nat} {es : EL} {x : Str} {pe1 : Expr} {pes : List Expr} {p0 pos : Pos} (hN : p.N[i]? = some x) (hv : vis p.sc x = true) (hy : okName x = true) (hf : ∀ f ∈ fs, f ∈ g.fv ∧ ∃ y ps, g.fn f = some (y, ps) ∧ ps.length = (pe1 :: pes).length)
    (hc : chkL g p es (pe1 :: pes) = true) (h : PA X (pe1 :: pes) (tA X.K cl c es)) : PE X (.Call (.Name x p0) (pe1 :: pes) [] pos) (tI X.K cl c (.callV raw fs i es)) := by
  obtain ⟨hn, e0, es0, rfl, h1, h2⟩ := chkL_hd hc
  have hst : starEach (pe1 :: pes) X.env = (false, eval pe1 X.env) :: starEach pes X.env := starEach_cons hn
  refine ⟨fun pn s σ H Q I hq => ?_⟩
  obtain ⟨μ, Z, S, ρ, v, S', sm, re, ev, k⟩ := hq
  unfold evE at ev
  split at ev
  rotate_left
  · cases ev
  rename_i f hρ
  split at ev
  · cases ev
  rename_i hin
  obtain ⟨hfv, y, ps, hfn, hl⟩ := hf f (by simpa using hin)
  obtain ⟨a, fd, m, kp, b, F, _⟩ := ok.fns f y ps hfn
  have ea : a = cl (1000 + f) := by
    have m2 := ok.fv f hfv y ps hfn
    rw [m] at m2
    cases m2
    rfl
  obtain ⟨w, hσ, rw'⟩ := re.2 i _ hρ
  cases rw'
  rw [← ea] at hσ
  obtain ⟨⟨vs, S1⟩, e1, ev⟩ := Option.bind_eq_some_iff.mp ev
  obtain ⟨⟨z, S2⟩, e2, ev⟩ := Option.bind_eq_some_iff.mp ev
  have hNx : X.N[i]? = some x := by rw [ok.N]; exact hN
  have hvx : Vis X.env.scope x := by rw [ok.sc]; exact vis_of hv
  refine wpAny_Call_Name_kw (thn ((pe_var (pos := p0) hNx hvx (okName_of hy).1 (okName_of hy).2.1).run pn s σ H (fun v H1 => v = .ref a ∧ H1 = H) I ⟨.ref a, hσ, rfl, rfl⟩) fun u s1 ⟨v1, H1, I1, r1, q1⟩ => ?_)
  obtain ⟨rfl, rfl⟩ := q1
  cases r1
  refine PySem.W.callWith_K (h₀ := X.base) I.ok.mod.kin kp (thn (h.run pos pn s1 σ _ (fun ws H2 => spC X.K cl c f ps ws H2 Q E0) I1 ⟨μ, Z, S, ρ, vs, S1, sm, re, e1, fun μ1 H2 ws st1 rl => ?_⟩) fun us s2 ⟨ws, H2, I2, r, q⟩ => ⟨I2.kIn, ?_⟩) hst (star_any h2)
  · refine ⟨by rw [← rl.length, evL_len hc e1, hl], μ1, Z, S1, vs, z, S2, st1.sm, rl, e2, fun μ2 H3 w3 st2 r3 => ?_⟩
    dsimp only at ev
    split at ev
    · cases ev
      exact k μ2 H3 w3 (st1.trans st2) r3
    · obtain ⟨t1, t2⟩ := gc_ok st1.sm st2 r3 ev
      exact k μ1 H3 w3 (st1.trans t1) t2
  · exact g_runP F ok.room ok.gd b I2 r q
end
end Itp

namespace Itp
open PySem L2
def isBO : Expr → Bool
  | .BoolOp .. => true
  | _ => false
structure Good (X : Cx) (cl : Nat → Addr) (c : Oracle) (pe : Expr) (e : E) : Prop where
  v : PE X pe (tI X.K cl c e)
  t : PT X pe (tT X.K cl c e)
  f : fresh e = true → PE X pe (tJ X.K cl c e)
  w : isBO pe = true → PW X pe (tT X.K cl c e)
section
variable {g : G} {cl : Nat → Addr} {c : Oracle} {n : Nat}
theorem Ok.blk {X : Cx} {p : Pl} (ok : Ok X g p cl c n) (s : Shared) (H : Hp) (scope : Scope) (cl' : List (Str × Addr)) (C : Addr) (fp : List Addr) : Ok (X.blk s H scope (compEnvC scope cl' C X.env) fp) g (inner p scope) cl c n where
  N := ok.N
  sc := by
    show relS scope X.env.scope = relS scope p.sc
    rw [ok.sc]
  fn := rfl
  calm := ok.calm
  nd := ok.nd
  xe := rfl
  room := ok.room
  gd := ok.gd
  fns := ok.fns
  ms := ok.ms
  ctr := ok.ctr
  na := ok.na
  fv := ok.fv
  bl := ok.bl
  ct := ok.ct
/-- plain expressions: the test is the value's -/
theorem Good.plain {X : Cx} {pe : Expr} {e : E} (h : PE X pe (tI X.K cl c e)) (hb : isBO pe = false) (hf : fresh e = false) (he : ∀ whole, PySem.isTrue pe X.env whole = (do let v ← whole; standAt pe.pos; holding [v] (truthy v))) : Good X cl c pe e :=
  ⟨h, t_val h he, (fun q => absurd (hf.symm.trans q) (by decide)), (fun q => absurd (hb.symm.trans q) (by decide))⟩
theorem Good.fr {X : Cx} {pe : Expr} {e : E} (h : PE X pe (tJ X.K cl c e)) (hb : isBO pe = false) (he : ∀ whole, PySem.isTrue pe X.env whole = (do let v ← whole; standAt pe.pos; holding [v] (truthy v))) : Good X cl c pe e :=
  have h' : PE X pe (tI X.K cl c e) := PE.imp h fun _ _ _ q => tI_tJ q
  ⟨h', t_val h' he, (fun _ => h), (fun q => absurd (hb.symm.trans q) (by decide))⟩
theorem itShape_inv {p : Pl} {k : ItK} {ptg piter : Expr} {pes : List Expr} (h : itShape g p k ptg piter = some pes) :
    (k = .seq ∧ notSet piter = true ∧ pes = [piter]) ∨ (∃ p0 pos, piter = .Call (.Name k.nm p0) pes [] pos ∧ glob p.sc k.nm = true ∧ g.bl.contains k.nm = true ∧ (match k with
        | .seq => False
        | .range => 1 ≤ pes.length ∧ pes.length ≤ 3
        | .enum => pes.length = 1 ∧ ∃ a b d, ptg = .Tuple a b d
        | .zips => False
        | .zip => pes.length = 2 ∧ ∃ a b d, ptg = .Tuple a b d)) ∨ (k = .zips ∧ ∃ p0 pos kw, piter = .Call (.Name "zip" p0) pes [kw] pos ∧ isStrict kw = true ∧ glob p.sc "zip" = true ∧ g.bl.contains (Str.ofString "zip") = true ∧ pes.length = 2 ∧ ∃ a b d, ptg = .Tuple a b d) := by
  have tup : ∀ {e : Expr}, isTup e = true → ∃ a b d, e = .Tuple a b d := by
    intro e h
    cases e <;> first | exact ⟨_, _, _, rfl⟩ | cases h
  unfold itShape at h
  by_cases hk : k = .seq
  · rw [if_pos (decide_eq_true hk)] at h
    by_cases q : notSet piter = true
    · rw [if_pos q] at h
      cases h; exact .inl ⟨hk, q, rfl⟩
    · rw [if_neg q] at h
      cases h
  · rw [if_neg (by simpa using hk)] at h
    split at h
    · split at h
      · rename_i hcd
        cases h
        simp only [Bool.and_eq_true] at hcd
        obtain ⟨⟨⟨⟨⟨q0, q5⟩, q1⟩, q2⟩, q3⟩, q4⟩ := hcd
        have ek := of_decide_eq_true q0
        subst ek
        have ex := of_decide_eq_true q1
        subst ex
        simp only [itCond, Bool.and_eq_true] at q4
        exact .inr (.inr ⟨rfl, _, _, _, rfl, q5, q2, q3, of_decide_eq_true q4.1, tup q4.2⟩)
      · cases h
    · split at h
      · rename_i hcd
        cases h
        simp only [Bool.and_eq_true] at hcd
        obtain ⟨⟨⟨⟨q0, q1⟩, q2⟩, q3⟩, q4⟩ := hcd
        have ex := of_decide_eq_true q1
        subst ex
        refine .inr (.inl ⟨_, _, rfl, q2, q3, ?_⟩)
        cases k with
        | seq => cases q4
        | zips => exact absurd rfl (of_decide_eq_true q0)
        | range =>
          simp only [itCond, Bool.and_eq_true] at q4
          exact ⟨of_decide_eq_true q4.1, of_decide_eq_true q4.2⟩
        | enum =>
          simp only [itCond, Bool.and_eq_true] at q4
          exact ⟨of_decide_eq_true q4.1, tup q4.2⟩
        | zip =>
          simp only [itCond, Bool.and_eq_true] at q4
          exact ⟨of_decide_eq_true q4.1, tup q4.2⟩
      · cases h
    · cases h
theorem c_none {X : Cx} : PTs X [] (tC' X.K cl c .none) := by
  refine PTs.imp pts_nil ?_
  rintro σ H Q ⟨μ, Z, S, ρ, v, S', sm, re, ev, k⟩
  unfold evC at ev; cases ev
  exact k μ H (Stp.refl sm)
theorem itShape_notSet {p : Pl} {k : ItK} {ptg piter : Expr} {pes : List Expr} (h : itShape g p k ptg piter = some pes) : notSet piter = true := by
  rcases itShape_inv h with ⟨_, hn, _⟩ | ⟨p0, pos, e, _⟩ | ⟨_, p0, pos, kw, e, _⟩
  · exact hn
  · rw [e]; rfl
  · rw [e]; rfl
theorem wk_zipS {K : PySem.W.Frag} {a b : Addr} {x y : Val} : Wk K cl (ItS K a b) .zips [x, y] [.ref a, .ref b] := by
  intro i Z μ S H xs sm rl hi
  cases rl with
  | cons r1 rl =>
    cases rl with
    | cons r2 _ =>
      rw [items_zips] at hi
      obtain ⟨us, e1, hi⟩ := Option.bind_eq_some_iff.mp hi
      obtain ⟨ws, e2, hi⟩ := Option.bind_eq_some_iff.mp hi
      split at hi
      rotate_left
      · cases hi
      rename_i hlen
      cases hi
      obtain ⟨a', vs, e, ha, rv⟩ := lst_at sm r1 e1
      cases e
      obtain ⟨b', vs', e, hb, rv'⟩ := lst_at sm r2 e2
      cases e
      have qa : SqL K H a vs := .inl (.inl ha)
      have qb : SqL K H b vs' := .inl (.inl hb)
      refine ⟨fun z hz => ?_, fun hl => ⟨vs, vs', qa, qb, ?_⟩⟩
      · obtain ⟨z1, z2, hz1, hz2, rfl⟩ := zip_get hz
        obtain ⟨w1, hw1, rw1⟩ := rv.get hz1
        obtain ⟨w2, hw2, rw2⟩ := rv'.get hz2
        refine ⟨⟨vs, vs', w1, w2, qa, qb, hw1, hw2⟩, fun w' H' hy' => ?_⟩
        obtain ⟨T, x1, x2, rfl, hT, rfl, f1, f2⟩ := hy'
        have e := f1 vs qa
        rw [hw1] at e; cases e
        have e := f2 vs' qb
        rw [hw2] at e; cases e
        exact ⟨Stp.laid sm hT, .tup (sm.free hT).1 (sm.free hT).2 upd_same (RelL.laid (.cons rw1 (.cons rw2 .nil)) hT)⟩
      · rw [zip_len] at hl
        rw [← rv.length, ← rv'.length]
        omega
theorem zips_ok {X : Cx} {p : Pl} {es : EL} {pe pe2 : Expr} {kw : Keyword} {elts : List Expr} {k0 : Nat} {tpos p0 pos : Pos} (ok : Ok X g p cl c n) (hs : isStrict kw = true) (hg : glob p.sc "zip" = true) (hb : g.bl.contains (Str.ofString "zip") = true) (hc : chkL g p es [pe, pe2] = true) (h : PA X [pe, pe2] (tA X.K cl c es)) :
    PI X (.Tuple elts k0 tpos) (.Call (.Name "zip" p0) [pe, pe2] [kw] pos) (tW X.K cl c .zips es) := by
  obtain ⟨hn, e0, es0, e1, q1, q2⟩ := chkL_hd hc
  obtain ⟨an, av, ap⟩ := kw
  simp only [isStrict, Bool.and_eq_true] at hs
  have hnm : an = some "strict" := of_decide_eq_true hs.1
  subst hnm
  have hv : PE X av (tI X.K cl c (.con (.bl true))) := by
    have hv0 : isTrueC av = true := hs.2
    cases av <;> first | cases hv0 | skip
    rename_i cv _ _
    cases cv <;> first | cases hv0 | skip
    rename_i bv
    cases bv <;> first | cases hv0 | skip
    exact s_con (g := g) (p := p) (by unfold chkE; rfl)
  have pk : PK X [⟨some "strict", av, ap⟩] (tCons (tI X.K cl c (.con (.bl true))) tNil) := pk_cons hv pk_nil
  have hal := star_any (pos := pos) (env := X.env) hc
  refine PI.imp (pi_zipS (glob_of ok hg) (ok.bl _ hb) h pk (by rw [starEach_cons hn]; rfl) hal rfl rfl rfl) ?_
  rintro σ H R ⟨μ, Z, S, ρ, vs, S', xs, sm, re, ev, hi, k⟩
  have hl := evL_len hc ev
  match vs, hl with
  | [v, w], _ =>
    refine ⟨μ, Z, S, ρ, _, _, sm, re, ev, fun μ1 H1 ws st r => ?_⟩
    refine ⟨μ1, Z, S', ρ, .bl true, S', st.sm, st.env re, by unfold evE; rfl, fun μ2 H2 w2 st2 r2 => ?_⟩
    cases r2
    have hi0 := hi
    have hi : ((lstOf S' v).bind fun xs => (lstOf S' w).bind fun ys => if xs.length = ys.length then some (zipV xs ys) else none) = some xs := hi
    obtain ⟨us, e1, hi⟩ := Option.bind_eq_some_iff.mp hi
    obtain ⟨ws', e2, hi⟩ := Option.bind_eq_some_iff.mp hi
    have st12 := st.trans st2
    have r' := st2.rels r
    cases r' with
    | cons r1 rr =>
      cases rr with
      | cons r3 rr =>
        cases rr
        obtain ⟨a', va, rfl, ha, rv⟩ := lst_at st2.sm r1 e1
        obtain ⟨b', vb, rfl, hb, rv'⟩ := lst_at st2.sm r3 e2
        exact ⟨a', b', va, vb, rfl, rfl, .inl (.inl ha), .inl (.inl hb), k μ2 H2 _ _ st12 (.cons r1 (.cons r3 .nil)) wk_zipS⟩
theorem it_ok {X : Cx} {p : Pl} {k : ItK} {es : EL} {ptg piter : Expr} {pes : List Expr} (ok : Ok X g p cl c n) (h : itShape g p k ptg piter = some pes) (hc : chkL g p es pes = true) (ha : PA X pes (tA X.K cl c es)) (hv : ∀ e x, es = .cons e .nil → pes = [x] → PE X x (tI X.K cl c e)) :
    PI X ptg piter (tW X.K cl c k es) ∧ notSet piter = true := by
  rcases itShape_inv h with ⟨rfl, hns, rfl⟩ | ⟨p0, pos, rfl, q2, q3, q4⟩ | ⟨rfl, p0, pos, kw, rfl, q5, q2, q3, hl, a, b, d, rfl⟩
  · obtain ⟨hn, e0, es0, rfl, h1, h2⟩ := chkL_hd hc
    cases es0 with
    | nil => exact ⟨itp_seq (hv e0 piter rfl rfl), hns⟩
    | cons e1 es1 => unfold chkL at h2; cases h2
  · refine ⟨?_, rfl⟩
    cases k with
    | seq => exact q4.elim
    | zips => exact q4.elim
    | range => exact itp_range ok q2 q3 q4.1 q4.2 hc ha
    | enum =>
      obtain ⟨hl, a, b, d, rfl⟩ := q4
      match pes, hl with
      | [pe], _ => exact itp_enum ok q2 q3 hc ha
    | zip =>
      obtain ⟨hl, a, b, d, rfl⟩ := q4
      match pes, hl with
      | [pe, pe2], _ => exact itp_zip ok q2 q3 hc ha
  · refine ⟨?_, rfl⟩
    match pes, hl with
    | [pe, pe2], _ => exact zips_ok ok q5 q2 q3 hc ha
mutual
theorem E_ok : ∀ (e : E) {X : Cx} {p : Pl} {pe : Expr}, Ok X g p cl c n → chkE g p e pe = true → Good X cl c pe e
  | .var i, X, p, pe, ok, h => by
    have q := s_var ok h
    unfold chkE at h
    split at h
    · exact .plain q rfl rfl (fun _ => rfl)
    · cases h
  | .con v, X, p, pe, ok, h => by
    have q := s_con (X := X) (cl := cl) (c := c) h
    unfold chkE at h
    split at h
    · exact .plain q rfl rfl (fun _ => rfl)
    · cases h
  | .glo x v, X, p, pe, ok, h => by
    have q := s_glo ok h
    unfold chkE at h
    split at h
    · exact .plain q rfl rfl (fun _ => rfl)
    · cases h
  | .bin o a b, X, p, pe, ok, h => by
    unfold chkE at h
    split at h
    · simp only [Bool.and_eq_true] at h
      have e := of_decide_eq_true h.1.1
      subst e
      exact .fr (s_bin (E_ok a ok h.1.2).v (E_ok b ok h.2).v) rfl (fun _ => rfl)
    · cases h
  | .neg a, X, p, pe, ok, h => by
    unfold chkE at h
    split at h
    · exact .plain (s_neg (E_ok a ok h).v) rfl rfl (fun _ => rfl)
    · cases h
  | .cmp o a b, X, p, pe, ok, h => by
    unfold chkE at h
    split at h
    · simp only [Bool.and_eq_true] at h
      have e := of_decide_eq_true h.1.1.1
      subst e
      have q := fun pos => s_cmp (pos := pos) ok (o := o) h.1.1.2 (E_ok a ok h.1.2).v (E_ok b ok h.2).v
      exact ⟨(q _).1, (q _).2, (fun q => nomatch q), (fun q => nomatch q)⟩
    · cases h
  | .chain o o' a b d, X, p, pe, ok, h => by
    unfold chkE at h
    split at h
    · simp only [Bool.and_eq_true] at h
      have e := of_decide_eq_true h.1.1.1.1.1
      subst e
      have e := of_decide_eq_true h.1.1.1.1.2
      subst e
      have q := fun pos => s_chain (pos := pos) ok (o := o) (o' := o') h.1.1.1.2 (E_ok a ok h.1.1.2).v (E_ok b ok h.1.2).v (E_ok d ok h.2).v
      exact ⟨(q _).1, (q _).2, (fun q => nomatch q), (fun q => nomatch q)⟩
    · cases h
  | .chain4 o1 o2 o3 o4 a b d u f, X, p, pe, ok, h => by
    unfold chkE at h
    split at h
    · simp only [Bool.and_eq_true] at h
      obtain ⟨⟨⟨⟨⟨⟨⟨⟨⟨q1, q2⟩, q3⟩, q4⟩, q5⟩, q6⟩, q7⟩, q8⟩, q9⟩, q10⟩ := h
      have e := of_decide_eq_true q1
      subst e
      have e := of_decide_eq_true q2
      subst e
      have e := of_decide_eq_true q3
      subst e
      have e := of_decide_eq_true q4
      subst e
      have q := fun pos => s_chain4 (pos := pos) ok (o1 := o1) (o2 := o2) (o3 := o3) (o4 := o4) q5 (E_ok a ok q6).v (E_ok b ok q7).v (E_ok d ok q8).v (E_ok u ok q9).v (E_ok f ok q10).v
      exact ⟨(q _).1, (q _).2, (fun q => nomatch q), (fun q => nomatch q)⟩
    · cases h
  | .and a b, X, p, pe, ok, h => by
    unfold chkE at h
    split at h
    · simp only [Bool.and_eq_true] at h
      have qa := E_ok a ok h.1
      have qb := E_ok b ok h.2
      have w := s_andW qa.t (qb.w rfl)
      exact ⟨s_and qa.v qb.v, w.pt, (fun q => nomatch q), fun _ => w⟩
    · cases h
  | .or a b, X, p, pe, ok, h => by
    unfold chkE at h
    split at h
    · simp only [Bool.and_eq_true] at h
      have qa := E_ok a ok h.1
      have qb := E_ok b ok h.2
      have w := s_orW qa.t (qb.w rfl)
      exact ⟨s_or qa.v qb.v, w.pt, (fun q => nomatch q), fun _ => w⟩
    · cases h
  | .one a, X, p, pe, ok, h => by
    unfold chkE at h
    split at h
    · have qa := E_ok a ok h
      have w := fun op pos => s_oneW (op := op) (pos := pos) qa.t
      exact ⟨s_one qa.v, (w _ _).pt, (fun q => nomatch q), fun _ => w _ _⟩
    · cases h
  | .not a, X, p, pe, ok, h => by
    unfold chkE at h
    split at h
    · have qa := E_ok a ok h
      exact ⟨s_not qa.v, s_notT qa.t, (fun q => nomatch q), (fun q => nomatch q)⟩
    · cases h
  | .ifx t a b, X, p, pe, ok, h => by
    unfold chkE at h
    split at h
    · simp only [Bool.and_eq_true] at h
      have qt := E_ok t ok h.1.1
      have qa := E_ok a ok h.1.2
      have qb := E_ok b ok h.2
      exact ⟨s_ifx qt.t qa.v qb.v, s_ifxT qt.t qa.t qb.t, (fun q => nomatch q), (fun q => nomatch q)⟩
    · cases h
  | .lst es, X, p, pe, ok, h => by
    unfold chkE at h
    split at h
    · exact .fr (s_lst (L_ok es ok h).1) rfl (fun _ => rfl)
    · cases h
  | .tup es, X, p, pe, ok, h => by
    unfold chkE at h
    split at h
    · exact .plain (s_tup (L_ok es ok h).1) rfl rfl (fun _ => rfl)
    · cases h
  | .idx a i, X, p, pe, ok, h => by
    unfold chkE at h
    split at h
    · simp only [Bool.and_eq_true] at h
      exact .plain (s_idx h.1.1 (E_ok a ok h.1.2).v (E_ok i ok h.2).v) rfl rfl (fun _ => rfl)
    · cases h
  | .slc a lo hi, X, p, pe, ok, h => by
    unfold chkE at h
    split at h
    · simp only [Bool.and_eq_true] at h
      exact .fr (s_slc (E_ok a ok h.1.1).v (O_ok lo ok h.1.2) (O_ok hi ok h.2)) rfl (fun _ => rfl)
    · cases h
  | .blt b es, X, p, pe, ok, h => by
    unfold chkE at h
    split at h
    · simp only [Bool.and_eq_true] at h
      have e := of_decide_eq_true h.1.1.1
      subst e
      exact .fr (s_blt ok h.1.1.2 h.1.2 h.2 (L_ok es ok h.2).1) rfl (fun _ => rfl)
    · cases h
  | .isa e ts, X, p, pe, ok, h => by
    unfold chkE at h
    split at h
    · simp only [Bool.and_eq_true] at h
      have e1 := of_decide_eq_true h.1.1.1.1.1.1
      subst e1
      exact .plain (s_isa ok h.1.1.1.1.1.2 h.1.1.1.1.2 h.1.1.1.2 (of_decide_eq_true h.1.2.1) (of_decide_eq_true h.1.2.2) h.2 (E_ok e ok h.1.1.2).v) rfl rfl (fun _ => rfl)
    · simp only [Bool.and_eq_true] at h
      have e1 := of_decide_eq_true h.1.1.1.1.1.1
      subst e1
      have hl := of_decide_eq_true h.1.2
      match ts, hl with
      | [t], _ => exact .plain (s_isa1 ok h.1.1.1.1.1.2 h.1.1.1.1.2 h.1.1.1.2 h.2 (E_ok e ok h.1.1.2).v) rfl rfl (fun _ => rfl)
    · cases h
  | .call raw f es, X, p, pe, ok, h => by
    unfold chkE at h
    split at h
    · simp only [Bool.and_eq_true] at h
      obtain ⟨⟨⟨h1, h2⟩, h3⟩, h4⟩ := h
      split at h1
      · rename_i y ps hf
        simp only [Bool.and_eq_true] at h1
        have e1 := of_decide_eq_true h1.1
        subst e1
        exact .plain (s_call ok hf (of_decide_eq_true h1.2) h2 h3 h4 (L_ok es ok h4).1) rfl rfl (fun _ => rfl)
      · cases h1
    · cases h
  | .callK raw f es ks pm, X, p, pe, ok, h => by
    unfold chkE at h
    split at h
    · simp only [Bool.and_eq_true, decide_eq_true_eq, List.all_eq_true] at h
      obtain ⟨⟨⟨⟨⟨⟨⟨h1, h2⟩, h3⟩, h4⟩, h5⟩, h6⟩, h7⟩, h8⟩ := h
      split at h1
      · rename_i y ps hf
        simp only [Bool.and_eq_true, decide_eq_true_eq] at h1
        obtain ⟨e1, e2⟩ := h1
        subst e1
        exact .plain (s_callK ok hf e2 h2 h3 h4 h5 (List.all_eq_true.mpr h6) h7 h8 (L_ok es ok h4).1 (K_ok ks ok h5)) rfl rfl (fun _ => rfl)
      · cases h1
    · cases h
  | .lc own t k es cd e, X, p, pe, ok, h => by
    unfold chkE at h
    split at h
    · rename_i pelt ptg piter pifs scope pos
      simp only [Bool.and_eq_true, List.all_eq_true] at h
      obtain ⟨⟨⟨⟨⟨⟨h1, h2⟩, h3⟩, h4⟩, h5⟩, h6⟩, h7⟩ := h
      have hsl : ∀ i ∈ t.slots, i ∈ own := fun i hi => by simpa using h3 i hi
      have hmap : (own.map fun i => (p.N.getD i "", i)).map (·.2) = own := by
        rw [List.map_map]
        show List.map (fun i => i) own = own
        exact List.map_id' own
      have hsh : ∃ pes, itShape g p k ptg piter = some pes ∧ chkL g p es pes = true := by
        split at h4
        · rename_i pes e; exact ⟨pes, e, h4⟩
        · cases h4
      obtain ⟨pes, hs1, hs2⟩ := hsh
      have hpa := L_ok es ok hs2
      have hI := it_ok ok hs1 hs2 hpa.1 hpa.2
      have hb : BlkOk X.N X.env.scope scope (own.map fun i => (p.N.getD i "", i)) := by
        rw [ok.N, ok.sc]; exact blkOk_by h1
      have hsi : ∀ x, foldedSetIterable piter X.env x = pure x := by
        intro x
        have := hI.2
        cases piter <;> first | rfl | cases this
      have key := pe_lc (pos := pos) (g := tG X.K cl c t) (tt := tC' X.K cl c cd) (te := tI X.K cl c e) ok.calm ok.nd hI.1 hb (fun s H C cl' fp => T_ok t (ok.blk s H scope cl' C fp) h5) (fun s H C cl' fp => C_ok cd (ok.blk s H scope cl' C fp) h6) (fun s H C cl' fp => (E_ok e (ok.blk s H scope cl' C fp) h7).v) hsi
      rw [hmap] at key
      exact .fr (PE.imp key fun σ H Q q => lc_body (wi := tW X.K cl c k es) hsl q) rfl (fun _ => rfl)
    · cases h
  | .ixof a y, X, p, pe, ok, h => by
    unfold chkE at h
    split at h
    · simp only [Bool.and_eq_true] at h
      obtain ⟨⟨⟨⟨⟨h1, h2⟩, h3⟩, h4⟩, h5⟩, h6⟩ := h
      have e := of_decide_eq_true h1
      subst e
      exact .plain (s_ixof ok h2 h3 h4 (E_ok a ok h5).v (E_ok y ok h6).v) rfl rfl (fun _ => rfl)
    · cases h
  | .revT a, X, p, pe, ok, h => by
    unfold chkE at h
    split at h
    · simp only [Bool.and_eq_true] at h
      have e := of_decide_eq_true h.1
      subst e
      exact .plain (s_revT (E_ok a ok h.2).v) rfl rfl (fun _ => rfl)
    · cases h
  | .rev a, X, p, pe, ok, h => by
    unfold chkE at h
    split at h
    · simp only [Bool.and_eq_true] at h
      have e := of_decide_eq_true h.1
      subst e
      exact .fr (s_rev (E_ok a ok h.2).v) rfl (fun _ => rfl)
    · cases h
  | .strI a, X, p, pe, ok, h => by
    unfold chkE at h
    split at h
    · simp only [Bool.and_eq_true] at h
      obtain ⟨⟨⟨⟨q1, q2⟩, q3⟩, q4⟩, q5⟩ := h
      have e := of_decide_eq_true q1
      subst e
      exact .plain (s_strI ok q2 q3 q4 (E_ok a ok q5).v) rfl rfl (fun _ => rfl)
    · cases h
  | .lset a, X, p, pe, ok, h => by
    unfold chkE at h
    split at h
    · simp only [Bool.and_eq_true] at h
      obtain ⟨⟨⟨⟨⟨⟨⟨q1, q2⟩, q3⟩, q4⟩, q5⟩, q6⟩, q7⟩, q8⟩ := h
      have e := of_decide_eq_true q1
      subst e
      have e := of_decide_eq_true q2
      subst e
      exact .plain (s_lset ok q3 q4 q5 q6 q7 (E_ok a ok q8).v) rfl rfl (fun _ => rfl)
    · cases h
  | .lc2 own t k es own1 t1 k1 es1 e, X, p, pe, ok, h => by
    unfold chkE at h
    split at h
    · rename_i pelt ptg piter ptg1 piter1 scope pos
      simp only [Bool.and_eq_true, List.all_eq_true] at h
      obtain ⟨⟨⟨⟨⟨⟨⟨⟨⟨h1, h2⟩, h3⟩, h4⟩, h5⟩, h6⟩, h7⟩, h8⟩, h9⟩, h10⟩ := h
      have hsl : ∀ i ∈ t.slots, i ∈ own := fun i hi => by simpa using h3 i hi
      have hsl1 : ∀ i ∈ t1.slots, i ∈ own1 := fun i hi => by simpa using h4 i hi
      have hmap : (own.map fun i => (p.N.getD i "", i)).map (·.2) = own := by
        rw [List.map_map]
        show List.map (fun i => i) own = own
        exact List.map_id' own
      have hv : ∀ i ∈ own1, i ∈ (own.map fun i => (p.N.getD i "", i)).map (·.2) := fun i hi => by rw [hmap]; simpa using h5 i hi
      have hsh : ∃ pes, itShape g p k ptg piter = some pes ∧ chkL g p es pes = true := by
        split at h6
        · rename_i pes e; exact ⟨pes, e, h6⟩
        · cases h6
      obtain ⟨pes, hs1, hs2⟩ := hsh
      have hsh1 : ∃ pes, itShape g (inner p scope) k1 ptg1 piter1 = some pes ∧ chkL g (inner p scope) es1 pes = true := by
        split at h7
        · rename_i pes e; exact ⟨pes, e, h7⟩
        · cases h7
      obtain ⟨pes1, hs3, hs4⟩ := hsh1
      have hpa := L_ok es ok hs2
      have hI := it_ok ok hs1 hs2 hpa.1 hpa.2
      have hI1 := fun (s : Shared) (H : Hp) (C : Addr) (cl' : List (Str × Addr)) (fp : List Addr) => it_ok (ok.blk s H scope cl' C fp) hs3 hs4 (L_ok es1 (ok.blk s H scope cl' C fp) hs4).1 (L_ok es1 (ok.blk s H scope cl' C fp) hs4).2
      have hb : BlkOk X.N X.env.scope scope (own.map fun i => (p.N.getD i "", i)) := by
        rw [ok.N, ok.sc]; exact blkOk_by h1
      have hsi : ∀ x, foldedSetIterable piter X.env x = pure x := by
        intro x
        have := hI.2
        cases piter <;> first | rfl | cases this
      have hsi1 : ∀ env x, foldedSetIterable piter1 env x = pure x := by
        intro env x
        have := itShape_notSet hs3
        cases piter1 <;> first | rfl | cases this
      have key := pe_lc2 (pos := pos) (wi1 := tW X.K cl c k1 es1) (g := tG X.K cl c t) (tt := tC' X.K cl c .none) (g1 := tG X.K cl c t1) (tt1 := tC' X.K cl c .none) (te := tI X.K cl c e) ok.calm ok.nd hI.1 hb hv (fun s H C cl' fp => T_ok t (ok.blk s H scope cl' C fp) h8) (fun s H C cl' fp => c_none) (fun s H C cl' fp => (hI1 s H C cl' fp).1) (fun s H C cl' fp => T_ok t1 (ok.blk s H scope cl' C fp) h9) (fun s H C cl' fp => c_none) (fun s H C cl' fp => (E_ok e (ok.blk s H scope cl' C fp) h10).v) hsi hsi1
      rw [hmap] at key
      exact .fr (PE.imp key fun σ H Q q => lc2_body hsl hsl1 q) rfl (fun _ => rfl)
    · cases h
  | .sdc own t k es cd e, X, p, pe, ok, h => by
    unfold chkE at h
    split at h
    · rename_i x0 p0 pk pv ptg piter pifs scope pos pos2
      simp only [Bool.and_eq_true, List.all_eq_true] at h
      obtain ⟨⟨⟨⟨⟨⟨⟨⟨⟨⟨hx0, hg0⟩, hb0⟩, hv0⟩, h1⟩, h2⟩, h3⟩, h4⟩, h5⟩, h6⟩, h7⟩ := h
      have ex := of_decide_eq_true hx0
      subst ex
      have hsl : ∀ i ∈ t.slots, i ∈ own := fun i hi => by simpa using h3 i hi
      have hmap : (own.map fun i => (p.N.getD i "", i)).map (·.2) = own := by
        rw [List.map_map]
        show List.map (fun i => i) own = own
        exact List.map_id' own
      have hsh : ∃ pes, itShape g p k ptg piter = some pes ∧ chkL g p es pes = true := by
        split at h4
        · rename_i pes e; exact ⟨pes, e, h4⟩
        · cases h4
      obtain ⟨pes, hs1, hs2⟩ := hsh
      have hpa := L_ok es ok hs2
      have hI := it_ok ok hs1 hs2 hpa.1 hpa.2
      have hb : BlkOk X.N X.env.scope scope (own.map fun i => (p.N.getD i "", i)) := by
        rw [ok.N, ok.sc]; exact blkOk_by h1
      have hsi : ∀ x, foldedSetIterable piter X.env x = pure x := by
        intro x
        have := hI.2
        cases piter <;> first | rfl | cases this
      have hvv : ∀ {X' : Cx}, PE X' pv (tI X'.K cl c (.con (.bl true))) := by
        intro X'
        cases pv <;> first | cases hv0 | skip
        rename_i cv _ _
        cases cv <;> first | cases hv0 | skip
        rename_i bv
        cases bv <;> first | cases hv0 | skip
        exact s_con (g := g) (p := p) (by unfold chkE; rfl)
      have key := pe_dc (pos := pos) (g := tG X.K cl c t) (tt := tC' X.K cl c cd) (tk := tI X.K cl c e) (tv := tI X.K cl c (.con (.bl true))) ok.calm ok.nd hI.1 hb (fun s H C cl' fp => T_ok t (ok.blk s H scope cl' C fp) h5) (fun s H C cl' fp => C_ok cd (ok.blk s H scope cl' C fp) h6) (fun s H C cl' fp => (E_ok e (ok.blk s H scope cl' C fp) h7).v) (fun s H C cl' fp => hvv) hsi
      rw [hmap] at key
      have call := pe_callB (p := p0) (pos := pos2) (call_sortedDI ok.calm) (glob_of ok hg0) (ok.bl _ hb0) (show bootBuiltins (Str.ofString "sorted") = some (.builtin "sorted") by decide +kernel) (pa_cons key pa_nil rfl) (by decide) (by decide) rfl rfl
      exact .fr (PE.imp call fun σ H Q q => dc_body (wi := tW X.K cl c k es) hsl q) rfl (fun _ => rfl)
    · cases h
  | .new e, X, p, pe, ok, h => by
    unfold chkE at h
    simp only [Bool.and_eq_true] at h
    have q := E_ok e ok h.2
    have hb : isBO pe = false ∧ ∀ whole, PySem.isTrue pe X.env whole = (do let v ← whole; standAt pe.pos; holding [v] (truthy v)) := by
      have h1 := h.1
      have h2 := h.2
      unfold fresh at h1
      split at h1 <;> first | (unfold chkE at h2; split at h2 <;> first | exact ⟨rfl, fun _ => rfl⟩ | cases h2) | cases h1
    exact .plain (s_new (q.f h.1)) hb.1 rfl hb.2
  | .attr ks a f, X, p, pe, ok, h => by
    unfold chkE at h
    split at h
    · simp only [Bool.and_eq_true] at h
      have e := of_decide_eq_true h.1.1.1
      subst e
      exact .plain (s_attr ok h.1.1.2 h.1.2 (E_ok a ok h.2).v) rfl rfl (fun _ => rfl)
    · cases h
  | .meth raw k m f a es, X, p, pe, ok, h => by
    unfold chkE at h
    split at h
    · simp only [Bool.and_eq_true] at h
      obtain ⟨⟨⟨⟨⟨⟨h1, h2⟩, h3⟩, h4⟩, h5⟩, h6⟩, h7⟩ := h
      have e := of_decide_eq_true h2
      subst e
      split at h1
      · rename_i k' m'' ps hf
        simp only [Bool.and_eq_true, decide_eq_true_eq] at h1
        obtain ⟨⟨e1, e2⟩, e3⟩ := h1
        subst e1
        subst e2
        exact .plain (s_meth ok hf e3 h3 h4 (of_decide_eq_true h5) h7 (E_ok a ok h6).v (L_ok es ok h7).1) rfl rfl (fun _ => rfl)
      · cases h1
    · cases h
  | .make k f es, X, p, pe, ok, h => by
    unfold chkE at h
    split at h
    · simp only [Bool.and_eq_true] at h
      obtain ⟨⟨⟨h1, h2⟩, h3⟩, h4⟩ := h
      split at h1
      · rename_i k' y ps hf
        simp only [Bool.and_eq_true, decide_eq_true_eq] at h1
        obtain ⟨⟨e1, e2⟩, e3⟩ := h1
        subst e1
        subst e2
        exact .plain (s_make ok hf e3 h2 h3 h4 (L_ok es ok h4).1) rfl rfl (fun _ => rfl)
      · cases h1
    · cases h
  | .dct, X, p, pe, ok, h => by
    unfold chkE at h
    split at h
    · exact .plain s_dct rfl rfl (fun _ => rfl)
    · cases h
  | .dget d k, X, p, pe, ok, h => by
    unfold chkE at h
    split at h
    · simp only [Bool.and_eq_true] at h
      exact .plain (s_dget ok h.1.1 (E_ok d ok h.1.2).v (E_ok k ok h.2).v) rfl rfl (fun _ => rfl)
    · cases h
  | .dkd ks es, X, p, pe, ok, h => by
    unfold chkE at h
    split at h
    · simp only [Bool.and_eq_true, decide_eq_true_eq] at h
      exact .plain (s_dkd g p h.1.1.1.1 h.1.1.1.2 h.1.1.2 h.1.2 (V_ok es ok h.2)) rfl rfl (fun _ => rfl)
    · cases h
  | .kget d k, X, p, pe, ok, h => by
    unfold chkE at h
    split at h
    · simp only [Bool.and_eq_true] at h
      exact .plain (s_kget ok h.1.1 (E_ok d ok h.1.2).v (E_ok k ok h.2).v) rfl rfl (fun _ => rfl)
    · cases h
  | .din neg k d, X, p, pe, ok, h => by
    unfold chkE at h
    split at h
    · simp only [Bool.and_eq_true] at h
      have e := of_decide_eq_true h.1.1.1.1
      subst e
      have q := fun pos => s_din (pos := pos) (neg := neg) ok h.1.1.1.2 h.1.1.2 (E_ok k ok h.1.2).v (E_ok d ok h.2).v
      exact ⟨(q _).1, (q _).2, (fun q => nomatch q), (fun q => nomatch q)⟩
    · cases h
  | .mind a, X, p, pe, ok, h => by
    unfold chkE at h
    split at h
    · simp only [Bool.and_eq_true] at h
      have e := of_decide_eq_true h.1.1.1.1.1
      subst e
      exact .plain (s_mind ok h.1.1.1.1.2 h.1.1.1.2 h.1.1.2 h.1.2 (E_ok a ok h.2).v) rfl rfl (fun _ => rfl)
    · cases h
  | .sset a, X, p, pe, ok, h => by
    unfold chkE at h
    split at h
    · simp only [Bool.and_eq_true] at h
      obtain ⟨⟨⟨⟨⟨⟨⟨q1, q2⟩, q3⟩, q4⟩, q5⟩, q6⟩, q7⟩, q8⟩ := h
      have e := of_decide_eq_true q1
      subst e
      have e := of_decide_eq_true q2
      subst e
      exact .fr (s_sset ok q3 q4 q5 q6 q7 (E_ok a ok q8).v) rfl (fun _ => rfl)
    · cases h
  | .rep a, X, p, pe, ok, h => by
    unfold chkE at h
    split at h
    · simp only [Bool.and_eq_true] at h
      have e := of_decide_eq_true h.1.1.1.1
      subst e
      exact .plain (s_rep ok h.1.1.1.2 h.1.1.2 h.1.2 (E_ok a ok h.2).v) rfl rfl (fun _ => rfl)
    · cases h
  | .dfn f, X, p, pe, ok, h => by
    unfold chkE at h
    split at h
    · simp only [Bool.and_eq_true] at h
      obtain ⟨⟨⟨h1, h2⟩, h3⟩, h4⟩ := h
      split at h4
      · rename_i y ps hf
        have e := of_decide_eq_true h4
        subst e
        exact .plain (s_dfn ok hf (of_decide_eq_true h1) h2 h3) rfl rfl (fun _ => rfl)
      · cases h4
    · cases h
  | .callV raw fs i es, X, p, pe, ok, h => by
    unfold chkE at h
    split at h
    · simp only [Bool.and_eq_true, List.all_eq_true] at h
      obtain ⟨⟨⟨⟨h1, h2⟩, h3⟩, h4⟩, h5⟩ := h
      refine .plain (s_callV ok (of_decide_eq_true h1) h2 h3 (fun f hf => ?_) h5 (L_ok es ok h5).1) rfl rfl (fun _ => rfl)
      have q := h4 f hf
      refine ⟨by simpa using q.1, ?_⟩
      have q2 := q.2
      split at q2
      · rename_i y ps e
        exact ⟨y, ps, e, of_decide_eq_true q2⟩
      · cases q2
    · cases h
theorem O_ok : ∀ (e : EO) {X : Cx} {p : Pl} {pe : Option Expr}, Ok X g p cl c n → chkO g p e pe = true → PO X pe (tP X.K cl c e)
  | .none, X, p, pe, ok, h => by
    unfold chkO at h
    split at h
    · exact s_pnone
    · cases h
  | .some e, X, p, pe, ok, h => by
    unfold chkO at h
    split at h
    · exact s_psome (E_ok e ok h).v
    · cases h
theorem C_ok : ∀ (e : EO) {X : Cx} {p : Pl} {pe : List Expr}, Ok X g p cl c n → chkC g p e pe = true → PTs X pe (tC' X.K cl c e)
  | .none, X, p, pe, ok, h => by
    unfold chkC at h
    split at h
    · refine PTs.imp pts_nil ?_
      rintro σ H Q ⟨μ, Z, S, ρ, v, S', sm, re, ev, k⟩
      unfold evC at ev; cases ev
      exact k μ H (Stp.refl sm)
    · cases h
  | .some e, X, p, pe, ok, h => by
    unfold chkC at h
    split at h
    · refine PTs.imp (pts_one (E_ok e ok h).t) ?_
      rintro σ H Q ⟨μ, Z, S, ρ, v, S', sm, re, ev, k⟩
      unfold evC at ev
      obtain ⟨⟨x, S1⟩, e1, ev⟩ := Option.bind_eq_some_iff.mp ev
      dsimp only at ev
      split at ev
      · cases ev
        exact ⟨μ, Z, S, ρ, _, _, sm, re, e1, k⟩
      · cases ev
    · cases h
theorem L_ok : ∀ (es : EL) {X : Cx} {p : Pl} {pes : List Expr}, Ok X g p cl c n → chkL g p es pes = true → PA X pes (tA X.K cl c es) ∧ (∀ e x, es = .cons e .nil → pes = [x] → PE X x (tI X.K cl c e))
  | .nil, X, p, pes, ok, h => by
    unfold chkL at h
    split at h
    · exact ⟨s_nil, fun _ _ q => nomatch q⟩
    · cases h
  | .cons e es, X, p, pes, ok, h => by
    unfold chkL at h
    split at h
    · simp only [Bool.and_eq_true] at h
      have q := (E_ok e ok h.1.2).v
      refine ⟨s_cons q (L_ok es ok h.2).1 h.1.1, fun e' x' h1 h2 => ?_⟩
      cases h1; cases h2
      exact q
    · cases h
theorem V_ok : ∀ (es : EL) {X : Cx} {p : Pl} {pes : List Expr}, Ok X g p cl c n → chkL g p es pes = true → PVs X cl c es pes
  | .nil, X, p, pes, ok, h => by
    unfold chkL at h
    split at h
    · exact True.intro
    · cases h
  | .cons e es, X, p, pes, ok, h => by
    unfold chkL at h
    split at h
    · simp only [Bool.and_eq_true] at h
      exact ⟨(E_ok e ok h.1.2).v, V_ok es ok h.2⟩
    · cases h
theorem K_ok : ∀ (es : EL) {X : Cx} {p : Pl} {kws : List Keyword}, Ok X g p cl c n → chkL g p es (kws.map kwVal) = true → PK X kws (tA X.K cl c es)
  | .nil, X, p, [], ok, h => by
    refine ⟨fun pos pins s σ H Q I q => pk_nil.run pos pins s σ H Q I ?_⟩
    obtain ⟨μ, Z, S, ρ, v, S', sm, re, ev, k⟩ := q
    unfold evL at ev; cases ev
    exact k μ H [] (Stp.refl sm) .nil
  | .nil, X, p, _ :: _, ok, h => by unfold chkL at h; cases h
  | .cons e es, X, p, [], ok, h => by unfold chkL at h; cases h
  | .cons e es, X, p, ⟨a, v, q⟩ :: kws, ok, h => by
    unfold chkL at h
    simp only [List.map_cons, Bool.and_eq_true] at h
    have h1 := (E_ok e ok h.1.2).v
    have h2 := K_ok es ok h.2
    refine ⟨fun pos pins s σ H Q I qq => (pk_cons (nm := a) (kpos := q) h1 h2).run pos pins s σ H Q I ?_⟩
    obtain ⟨μ, Z, S, ρ, v, S', sm, re, ev, k⟩ := qq
    unfold evL at ev
    obtain ⟨⟨x, S1⟩, e1, ev⟩ := Option.bind_eq_some_iff.mp ev
    obtain ⟨⟨xs, S2⟩, e2, ev⟩ := Option.map_eq_some_iff.mp ev
    cases ev
    exact ⟨μ, Z, S, ρ, x, S1, sm, re, e1, fun μ1 H1 w st1 r1 => ⟨μ1, Z, S1, ρ, xs, _, st1.sm, st1.env re, e2, fun μ2 H2 ws st2 r2 => k μ2 H2 _ (st1.trans st2) (.cons (st2.rel r1) r2)⟩⟩
theorem T_ok : ∀ (t : T) {X : Cx} {p : Pl} {pe : Expr}, Ok X g p cl c n → chkT g p t pe = true → PG X pe (tG X.K cl c t)
  | .nm i, X, p, pe, ok, h => g_nm ok h
  | .tp ts, X, p, pe, ok, h => by
    unfold chkT at h
    split at h
    · exact g_tp ok h (Ts_ok ts ok h)
    · cases h
  | .sub o i, X, p, pe, ok, h => by
    unfold chkT at h
    split at h
    · simp only [Bool.and_eq_true] at h
      exact g_sub h.1.1 (E_ok o ok h.1.2).v (E_ok i ok h.2).v
    · cases h
  | .fld ks o f, X, p, pe, ok, h => by
    unfold chkT at h
    split at h
    · simp only [Bool.and_eq_true] at h
      have e := of_decide_eq_true h.1.1
      subst e
      exact g_fld ok h.1.2 (E_ok o ok h.2).v
    · cases h
  | .ksub d k, X, p, pe, ok, h => by
    unfold chkT at h
    split at h
    · simp only [Bool.and_eq_true] at h
      exact g_ksub ok h.1.1 (E_ok d ok h.1.2).v (E_ok k ok h.2).v
    · cases h
  | .dsub d k, X, p, pe, ok, h => by
    unfold chkT at h
    split at h
    · simp only [Bool.and_eq_true] at h
      exact g_dsub ok h.1.1 (E_ok d ok h.1.2).v (E_ok k ok h.2).v
    · cases h
theorem Ts_ok : ∀ (ts : TL) {X : Cx} {p : Pl} {pes : List Expr}, Ok X g p cl c n → chkTs g p ts pes = true → PGs X pes (tGs X.K cl c ts)
  | .nil, X, p, pes, ok, h => by
    unfold chkTs at h
    split at h
    · exact g_nil
    · cases h
  | .cons t ts, X, p, pes, ok, h => by
    unfold chkTs at h
    split at h
    · simp only [Bool.and_eq_true] at h
      exact g_cons h.1.1 (T_ok t ok h.1.2) (Ts_ok ts ok h.2)
    · cases h
end
end
end Itp

namespace Itp
open PySem L2

/-! ### statements: the check -/
def isNameE : Expr → Bool
  | .Name .. => true
  | _ => false
/-- the names that a swapped store would bind -/
def swNames (sc : Scope) (ts : List Expr) : List Str :=
  ts.filterMap fun
    | .Name id pos => if sc.names.lookup id == some .local && pos.line == (ts.head?.map (·.pos.line)).getD 0 then some id else none
    | _ => none
/-- no swapped store -/
def noSwap (sc : Scope) (tg e : Expr) : Bool :=
  match tg, e with
  | .Tuple ts _ _, .Tuple vs _ _ => !(ts.length == 2 || ts.length == 3) || vs.length != ts.length || (swNames sc ts).length != ts.length || vs.all (foldedForSure 8)
  | .List _ _, _ => false
  | _, _ => true
/-- names alone -/
def namesAre (p : Pl) : List Nat → List Expr → Bool
  | [], [] => true
  | i :: is, .Name x _ :: es => decide (p.N[i]? = some x) && decide (p.sc.names.lookup x = some .local) && namesAre p is es
  | _, _ => false
def namesOf (ts : List Expr) : List Str := ts.map fun
  | .Name x _ => x
  | _ => ""
def swapOk (p : Pl) (ts vs : List Expr) : Bool :=
  (ts.length == 2 || ts.length == 3) && vs.length == ts.length && decide (p.sc.kind = .function) && (vs.all notStar) && decide (swNames p.sc ts = namesOf ts) && decide ((swNames p.sc ts).eraseDups.length = (swNames p.sc ts).length) && !vs.all (foldedForSure 8) && !vs.all (constantsAlone 8)
/-- name = [..] whose store lies within the comprehension -/
def compSwaps (p : Pl) (x : Str) (line : Nat) (e : Expr) : Bool :=
  match e with
  | .ListComp _ _ scope pos => decide (p.sc.kind = .function) && decide (p.sc.names.lookup x = some .local) && (line == pos.line) && !(scope.names.any fun (n, k) => n == x && (k == .local || k == .cell))
  | _ => false
def notLocal (p : Pl) (x : Str) : Bool := !decide (p.sc.names.lookup x = some .local)
def cellName (p : Pl) : Expr → Bool
  | .Name x _ => notLocal p x
  | _ => false
def isLc : E → Bool
  | .lc .. => true
  | .new (.lc ..) => true
  | _ => false
def asgOk (g : G) (p : Pl) (t : T) (e : E) (tg pe : Expr) : Bool :=
  chkT g p t tg && chkE g p e pe && notStar tg && ((noSwap p.sc tg pe && (notComp pe || !isNameE tg || cellName p tg)) || (match tg with
    | .Name x pos => isLc e && compSwaps p x pos.line pe
    | _ => false))

mutual
def chkS (g : G) (p : Pl) : St → Stmt → Bool
  | .asg t e, ps => match ps with
    | .Assign [tg] pe _ => asgOk g p t e tg pe
    | _ => false
  | .par is es, ps => match ps with
    | .Assign [.Tuple ts _ _] (.Tuple vs _ _) _ => namesAre p is ts && decide (is.Nodup) && swapOk p ts vs && chkL g p es vs
    | _ => false
  | .aug i o e, ps => match ps with
    | .AugAssign (.Name x _) op pe _ => decide (op = o.py) && (decide (o = .add) || decide (o = .sub)) && chkT g p (.nm i) (.Name x ⟨0, 0, 0, 0⟩) && chkE g p e pe
    | _ => false
  | .app o e, ps => match ps with
    | .Expr (.Call (.Attribute po m apos) [pe] [] cpos) _ => decide (m = "append") && notBareCall po && (apos.endLine == cpos.line) && notStar pe && chkE g p o po && chkE g p e pe
    | _ => false
  | .lop op o es, ps => match ps with
    | .Expr (.Call (.Attribute po m apos) pes [] cpos) _ => decide (m = op.nm) && decide (pes.length = op.ar) && notBareCall po && (apos.endLine == cpos.line) && chkE g p o po && chkL g p es pes
    | _ => false
  | .drop e, ps => match ps with
    | .Expr pe _ => notComp pe && chkE g p e pe
    | _ => false
  | .ret e, ps => match ps with
    | .Return (some pe) _ => chkE g p e pe
    | _ => false
  | .retN, ps => match ps with
    | .Return none _ => true
    | _ => false
  | .ite c a b, ps => match ps with
    | .If pc pa pb _ => chkE g p c pc && chkSs g p a pa && chkSs g p b pb
    | _ => false
  | .whl c b, ps => match ps with
    | .While pc pb [] _ => chkE g p c pc && chkSs g p b pb
    | _ => false
  | .for t k es b, ps => match ps with
    | .For tg it pb [] _ => chkT g p t tg && (match itShape g p k tg it with | some pes => chkL g p es pes | none => false) && chkSs g p b pb
    | _ => false
  | .pass, ps => match ps with
    | .Pass _ => true
    | _ => false
  | .brk, ps => match ps with
    | .Break _ => true
    | _ => false
  | .cont, ps => match ps with
    | .Continue _ => true
    | _ => false
  | .bad, _ => true
  | .augF ks o f e, ps => match ps with
    | .AugAssign (.Attribute po f' _) .Add pe _ => decide (f = f') && (ks.all fun k => g.na k f) && chkE g p o po && chkE g p e pe
    | _ => false
  | .dput d k e, ps => match ps with
    | .Assign [.Subscript pd pk _] pe _ => notSlice pk && notComp pe && chkE g p d pd && chkE g p k pk && chkE g p e pe
    | _ => false
  | .augL i e, ps => match ps with
    | .AugAssign (.Name x _) .Add pe _ => chkT g p (.nm i) (.Name x ⟨0, 0, 0, 0⟩) && chkE g p e pe
    | _ => false
def chkSs (g : G) (p : Pl) : SL → List Stmt → Bool
  | .nil, ps => match ps with
    | [] => true
    | _ => false
  | .cons s ss, ps => match ps with
    | x :: xs => chkS g p s x && chkSs g p ss xs
    | _ => false
end

section
variable (K : PySem.W.Frag) (cl : Nat → Addr) (c : Oracle)
def KO (Z : Addr → Prop) (μ : List Addr) (H : Hp) (D : Ends) : Out → Prop
  | .nx ρ S => ∀ μ' H' σ', Stp K cl Z μ H μ' S H' → RelE K cl μ' Z H' ρ σ' → D.nx σ' H'
  | .bk ρ S => ∀ μ' H' σ', Stp K cl Z μ H μ' S H' → RelE K cl μ' Z H' ρ σ' → D.bk σ' H'
  | .ct ρ S => ∀ μ' H' σ', Stp K cl Z μ H μ' S H' → RelE K cl μ' Z H' ρ σ' → D.ct σ' H'
  | .rt v S => ∀ μ' H' w, Stp K cl Z μ H μ' S H' → Rel K cl μ' Z H' v w → D.rt w H'
def tSt (s : St) : TS := fun D σ H => ∃ μ Z S ρ o, Sim K cl μ Z S H ∧ RelE K cl μ Z H ρ σ ∧ exS c s ρ S = some o ∧ KO K cl Z μ H D o
def tSl (s : SL) : TS := fun D σ H => ∃ μ Z S ρ o, Sim K cl μ Z S H ∧ RelE K cl μ Z H ρ σ ∧ exL c s ρ S = some o ∧ KO K cl Z μ H D o
end
theorem KO.step {K : PySem.W.Frag} {cl : Nat → Addr} {Z : Addr → Prop} {μ μ1 : List Addr} {S1 : Store} {H H1 : Hp} {D : Ends} {o : Out} (k : KO K cl Z μ H D o) (st : Stp K cl Z μ H μ1 S1 H1) : KO K cl Z μ1 H1 D o := by
  cases o with
  | nx ρ S => exact fun μ' H' σ' st' re => k μ' H' σ' (st.trans st') re
  | bk ρ S => exact fun μ' H' σ' st' re => k μ' H' σ' (st.trans st') re
  | ct ρ S => exact fun μ' H' σ' st' re => k μ' H' σ' (st.trans st') re
  | rt v S => exact fun μ' H' w st' r => k μ' H' w (st.trans st') r

section
variable {X : Cx} {cl : Nat → Addr} {c : Oracle} {g : G} {p : Pl} {n : Nat}
theorem sw_notComp {e : Expr} {t : Option Expr} {l : Nat} {env : PySem.Env} (h : notComp e = true) : swapsWith e t l env = pure false := by
  cases e <;> first | rfl | cases h
theorem sw_notName {e tg : Expr} {l : Nat} {env : PySem.Env} (h : isNameE tg = false) : swapsWith e (some tg) l env = pure false := by
  cases tg <;> first | (cases e <;> rfl) | cases h
def isStar : Expr → Bool
  | .Starred .. => true
  | _ => false
theorem sw_eq {ts vs : List Expr} {kt kv : Nat} {pt pv : Pos} {env : PySem.Env} : swappedStores [.Tuple ts kt pt] (.Tuple vs kv pv) env =
    (if (!(ts.length == 2 || ts.length == 3) || vs.length != ts.length || env.blockKind != .function) = true then pure none else
     if vs.any isStar = true then pure none else
     if ((swNames env.scope ts).length != ts.length || (swNames env.scope ts).eraseDups.length != (swNames env.scope ts).length) = true then pure none else
     if vs.all (foldedForSure 8) = true then pure none else
     if vs.all (constantsAlone 8) = true then (do unsupported "assign.tuple-of-constant-expressions:order-of-the-stores"; return some (swNames env.scope ts)) else
     pure (some (swNames env.scope ts))) := by
  rfl
theorem noSwap_of (ok : Ok X g p cl c n) {tg e : Expr} (h : noSwap p.sc tg e = true) : swappedStores [tg] e X.env = pure none := by
  cases tg with
  | Tuple ts kt pt =>
    cases e with
    | Tuple vs kv pv =>
      unfold noSwap at h
      rw [sw_eq, ok.sc]
      simp only [Bool.or_eq_true] at h
      split
      · rfl
      · rename_i h1
        split
        · rfl
        · split
          · rfl
          · rename_i h3
            split
            · rfl
            · rename_i h4
              exfalso
              rcases h with ((h | h) | h) | h
              · exact h1 (by simp [h])
              · exact h1 (by simp [h])
              · exact h3 (by simp [h])
              · exact h4 h
    | _ => rfl
  | List ts pt => cases h
  | _ => cases e <;> rfl
theorem swap_of (ok : Ok X g p cl c n) {ts vs : List Expr} {kt kv : Nat} {pt pv : Pos} (h : swapOk p ts vs = true) : swappedStores [.Tuple ts kt pt] (.Tuple vs kv pv) X.env = pure (some (swNames p.sc ts)) := by
  unfold swapOk at h
  simp only [Bool.and_eq_true, decide_eq_true_eq, beq_iff_eq, Bool.not_eq_true'] at h
  obtain ⟨⟨⟨⟨⟨⟨⟨h1, h2⟩, h3⟩, h4⟩, h5⟩, h6⟩, h7⟩, h8⟩ := h
  have hb : X.env.blockKind = .function := by
    unfold Env.blockKind
    rw [ok.sc, h3]
    rfl
  have hst : vs.any isStar = false := by
    rw [List.any_eq_false]
    intro x hx
    have := List.all_eq_true.mp h4 x hx
    cases x <;> first | exact Bool.false_ne_true | cases this
  rw [sw_eq, ok.sc]
  rw [if_neg (by rw [hb, h2, h1]; simp), if_neg (by rw [hst]; decide), if_neg (by rw [h5] at h6 ⊢; rw [h6]; simp [namesOf]), if_neg (by rw [h7]; decide), if_neg (by rw [h8]; decide)]
theorem sw_cell (ok : Ok X g p cl c n) {e tg : Expr} {l : Nat} (h : cellName p tg = true) (hf : p.sc.kind = .function ∨ True) : swapsWith e (some tg) l X.env = pure false := by
  cases tg with
  | Name x q =>
    have hk : (X.env.kindOf x == some NameKind.local) = false := by
      show (X.env.scope.names.lookup x == some NameKind.local) = false
      rw [ok.sc]
      unfold cellName notLocal at h
      simp only [Bool.not_eq_true', decide_eq_false_iff_not] at h
      exact beq_eq_false_iff_ne.mpr h
    cases e with
    | ListComp a b s pos =>
      show (pure (X.env.blockKind == .function && X.env.kindOf x == some .local && q.line == pos.line && !(s.names.any fun (n, k) => n == x && (k == .local || k == .cell))) : Sem Bool) = pure false
      rw [hk, Bool.and_false]; rfl
    | SetComp a b s pos =>
      show (pure (X.env.blockKind == .function && X.env.kindOf x == some .local && q.line == pos.line && !(s.names.any fun (n, k) => n == x && (k == .local || k == .cell))) : Sem Bool) = pure false
      rw [hk, Bool.and_false]; rfl
    | DictComp a b d s pos =>
      show (pure (X.env.blockKind == .function && X.env.kindOf x == some .local && q.line == pos.line && !(s.names.any fun (n, k) => n == x && (k == .local || k == .cell))) : Sem Bool) = pure false
      rw [hk, Bool.and_false]; rfl
    | _ => rfl
  | _ => cases h
theorem s_asg {t : T} {e : E} {tg pe : Expr} {pos : Pos} (he : PE X pe (tI X.K cl c e)) (hg : PG X tg (tG X.K cl c t)) (hn : notStar tg = true) (hs : swapsWithSole [tg] pe pos.line X.env = pure false) (hw : swappedStores [tg] pe X.env = pure none) :
    PS X (.Assign [tg] pe pos) (tSt X.K cl c (.asg t e)) := by
  refine PS.imp (ps_asg he hg hs hw (by rw [assignEach_cons hn]; rfl)) ?_
  rintro D σ H ⟨μ, Z, S, ρ, o, sm, re, ev, k⟩
  unfold exS at ev
  obtain ⟨⟨v, S1⟩, e1, ev⟩ := Option.bind_eq_some_iff.mp ev
  obtain ⟨⟨ρ1, S2⟩, e2, ev⟩ := Option.map_eq_some_iff.mp ev
  cases ev
  exact ⟨μ, Z, S, ρ, v, S1, sm, re, e1, fun μ1 H1 w st1 r1 => ⟨μ1, Z, S1, ρ, v, ρ1, S2, st1.sm, st1.env re, r1, e2, fun μ2 H2 σ2 st2 re2 _ => k μ2 H2 σ2 (st1.trans st2) re2⟩⟩
/-- name = [..] of a comprehension, by value and into the store -/
theorem s_asgLc {i : Nat} {own : List Nat} {t : T} {k : ItK} {es : EL} {cd : EO} {e : E} {st : Stmt} (hsl : ∀ i ∈ t.slots, i ∈ own) (h : PS X st (tAsg (tLc (tW X.K cl c k es) (tG X.K cl c t) (tC' X.K cl c cd) (tI X.K cl c e) own) (gName i))) :
    PS X st (tSt X.K cl c (.asg (.nm i) (.lc own t k es cd e))) ∧ PS X st (tSt X.K cl c (.asg (.nm i) (.new (.lc own t k es cd e)))) := by
  constructor
  · refine PS.imp h ?_
    rintro D σ H ⟨μ, Z, S, ρ, o, sm, re, ev, kk⟩
    unfold exS at ev
    obtain ⟨⟨v, S1⟩, e1, ev⟩ := Option.bind_eq_some_iff.mp ev
    obtain ⟨⟨ρ1, S2⟩, e2, ev⟩ := Option.map_eq_some_iff.mp ev
    cases ev
    unfold bindT at e2
    cases e2
    refine lc_body (wi := tW X.K cl c k es) hsl ⟨μ, Z, S, ρ, v, S1, sm, re, e1, fun μ1 H1 w st1 r1 _ => ?_⟩
    exact kk μ1 H1 _ st1 ((st1.env re).set r1)
  · refine PS.imp h ?_
    rintro D σ H ⟨μ, Z, S, ρ, o, sm, re, ev, kk⟩
    unfold exS at ev
    obtain ⟨⟨v, S1⟩, e1, ev⟩ := Option.bind_eq_some_iff.mp ev
    obtain ⟨⟨ρ1, S2⟩, e2, ev⟩ := Option.map_eq_some_iff.mp ev
    cases ev
    unfold bindT at e2
    cases e2
    unfold evE at e1
    obtain ⟨⟨x, S0⟩, e0, e1⟩ := Option.bind_eq_some_iff.mp e1
    refine lc_body (wi := tW X.K cl c k es) hsl ⟨μ, Z, S, ρ, x, S0, sm, re, e0, fun μ1 H1 w st1 r1 f1 => ?_⟩
    dsimp only at e1
    split at e1
    · cases e1
      obtain ⟨q, vs, rfl, h1, h2, h3, h4, h5⟩ := f1 _ rfl
      have sm2 := h4.adopt h2 h3 h5
      obtain ⟨nw, e, hnw⟩ := st1.gr
      have st2 : Stp X.K cl Z μ H (μ1 ++ [q]) _ H1 := ⟨⟨nw ++ [q], by rw [e, List.append_assoc], fun a ha => by
        rcases List.mem_append.mp ha with z | z
        · exact hnw a z
        · simp at z; subst z; exact h1⟩, st1.fr, sm2⟩
      refine kk (μ1 ++ [q]) H1 _ st2 ((st2.env re).set (.ref ?_))
      rw [← st1.sm.len, List.getElem?_append_right (Nat.le_refl _), Nat.sub_self]; rfl
    · cases e1
theorem namesAre_inv : ∀ {is : List Nat} {ts : List Expr}, namesAre p is ts = true → ts.length = is.length
  | [], [], _ => rfl
  | [], _ :: _, h => nomatch h
  | i :: is, ts, h => by
    unfold namesAre at h
    split at h
    · rename_i he; cases he
    · rename_i he
      cases he
      simp only [Bool.and_eq_true] at h
      simp [namesAre_inv h.2]
    · cases h
theorem namesAre_cons {i : Nat} {is : List Nat} {ts : List Expr} (h : namesAre p (i :: is) ts = true) : ∃ x px ts', ts = .Name x px :: ts' ∧ p.N[i]? = some x ∧ p.sc.names.lookup x = some .local ∧ namesAre p is ts' = true := by
  unfold namesAre at h
  split at h
  · rename_i he; cases he
  · rename_i he
    cases he
    simp only [Bool.and_eq_true, decide_eq_true_eq] at h
    exact ⟨_, _, _, rfl, h.1.1, h.1.2, h.2⟩
  · cases h
theorem namesAre_nil {ts : List Expr} (h : namesAre p [] ts = true) : ts = [] := by
  cases ts with
  | nil => rfl
  | cons t ts => cases h
theorem s_par (ok : Ok X g p cl c n) {is : List Nat} {es : EL} {ts vs : List Expr} {kt kv : Nat} {pt pv pos : Pos} (h1 : namesAre p is ts = true) (hnd : is.Nodup) (h2 : swapOk p ts vs = true) (ha : PA X vs (tA X.K cl c es)) :
    PS X (.Assign [.Tuple ts kt pt] (.Tuple vs kv pv) pos) (tSt X.K cl c (.par is es)) := by
  have hsw := swap_of (kt := kt) (kv := kv) (pt := pt) (pv := pv) ok h2
  have hl := namesAre_inv h1
  have hlv : (ts.length = 2 ∨ ts.length = 3) ∧ vs.length = ts.length := by
    unfold swapOk at h2
    simp only [Bool.and_eq_true, Bool.or_eq_true, beq_iff_eq] at h2
    exact ⟨h2.1.1.1.1.1.1.1, h2.1.1.1.1.1.1.2⟩
  have hsn : swNames p.sc ts = namesOf ts := by
    unfold swapOk at h2
    simp only [Bool.and_eq_true, decide_eq_true_eq] at h2
    exact h2.1.1.1.2
  rw [hsn] at hsw
  have key : ∀ {D : Ends} {σ : L2.St} {H : Hp}, tSt X.K cl c (.par is es) D σ H → tA X.K cl c es σ H fun ws H1 => ws.length = is.length ∧ ∀ σ', (∀ μ Z (ρ : Env) (us : List Val), RelE X.K cl μ Z H1 ρ σ → RelL X.K cl μ Z H1 us ws → RelE X.K cl μ Z H1 (setAll ρ is us) σ') → D.nx σ' H1 := by
    rintro D σ H ⟨μ, Z, S, ρ, o, sm, re, ev, k⟩
    unfold exS at ev
    obtain ⟨⟨us, S1⟩, e1, ev⟩ := Option.bind_eq_some_iff.mp ev
    dsimp only at ev
    split at ev
    · rename_i hlen
      cases ev
      exact ⟨μ, Z, S, ρ, us, _, sm, re, e1, fun μ1 H1 ws st1 r1 => ⟨by rw [← r1.length]; exact hlen, fun σ' hσ => k μ1 H1 σ' st1 (hσ μ1 Z ρ us (st1.env re) r1)⟩⟩
    · cases ev
  have fin : ∀ {σ : L2.St} {D : Ends} {H1 : Hp} {is : List Nat} {f : List V → L2.St}, True := trivial
  rcases hlv.1 with h22 | h33
  · match is, hl.symm.trans h22 with
    | [i, j], _ =>
      obtain ⟨x, px, ts1, rfl, q1, q2, h1⟩ := namesAre_cons h1
      obtain ⟨y, py, ts2, rfl, q3, q4, h1⟩ := namesAre_cons h1
      obtain rfl := namesAre_nil h1
      match vs, hlv.2 with
      | [a, b], _ =>
        have hij : i ≠ j := by simpa using hnd
        refine PS.imp (ps_par ok.calm ok.nd (i := i) (j := j) (by rw [ok.N]; exact q1) (by rw [ok.N]; exact q3) hij (by rw [ok.sc]; exact q2) (by rw [ok.sc]; exact q4) ha hsw rfl) ?_
        intro D σ H q
        obtain ⟨μ, Z, S, ρ, us, S1, sm, re, e1, k⟩ := key q
        refine ⟨μ, Z, S, ρ, us, S1, sm, re, e1, fun μ1 H1 ws st1 r1 => ?_⟩
        obtain ⟨hwl, hk⟩ := k μ1 H1 ws st1 r1
        match ws, hwl with
        | [v, w], _ =>
          refine ⟨v, w, rfl, hk _ fun μ Z ρ us re r => ?_⟩
          cases r with
          | cons r rr =>
            cases rr with
            | cons r' rr =>
              cases rr
              exact (re.set r).set r'
  · match is, hl.symm.trans h33 with
    | [i, j, l], _ =>
      obtain ⟨x, px, ts1, rfl, q1, q2, h1⟩ := namesAre_cons h1
      obtain ⟨y, py, ts2, rfl, q3, q4, h1⟩ := namesAre_cons h1
      obtain ⟨z, pz, ts3, rfl, q5, q6, h1⟩ := namesAre_cons h1
      obtain rfl := namesAre_nil h1
      match vs, hlv.2 with
      | [a, b, d], _ =>
        have hij : i ≠ j ∧ i ≠ l ∧ j ≠ l := by
          simp at hnd
          exact ⟨hnd.1.1, hnd.1.2, hnd.2⟩
        refine PS.imp (ps_par3 ok.calm ok.nd (i := i) (j := j) (l := l) (by rw [ok.N]; exact q1) (by rw [ok.N]; exact q3) (by rw [ok.N]; exact q5) hij.1 hij.2.1 hij.2.2 (by rw [ok.sc]; exact q2) (by rw [ok.sc]; exact q4) (by rw [ok.sc]; exact q6) ha hsw rfl) ?_
        intro D σ H q
        obtain ⟨μ, Z, S, ρ, us, S1, sm, re, e1, k⟩ := key q
        refine ⟨μ, Z, S, ρ, us, S1, sm, re, e1, fun μ1 H1 ws st1 r1 => ?_⟩
        obtain ⟨hwl, hk⟩ := k μ1 H1 ws st1 r1
        match ws, hwl with
        | [v, w, u], _ =>
          refine ⟨v, w, u, rfl, hk _ fun μ Z ρ us re r => ?_⟩
          cases r with
          | cons r rr =>
            cases rr with
            | cons r' rr =>
              cases rr with
              | cons r'' rr =>
                cases rr
                exact ((re.set r).set r').set r''
theorem s_aug (ok : Ok X g p cl c n) {i : Nat} {o : BOp} {e : E} {x : Str} {pe : Expr} {p0 pos : Pos} (ho : o = .add ∨ o = .sub) (ht : chkT g p (.nm i) (.Name x ⟨0, 0, 0, 0⟩) = true) (he : PE X pe (tI X.K cl c e)) : PS X (.AugAssign (.Name x p0) o.py pe pos) (tSt X.K cl c (.aug i o e)) := by
  unfold chkT at ht
  simp only [Bool.and_eq_true] at ht
  have hl : L2.Loc X.env.scope x ∧ (X.fn x = true ∨ X.env.scope.names.lookup x = some .local) := by
    rw [ok.sc, ok.fn]
    have h2 := ht.2
    unfold loc at h2
    split at h2
    · rename_i q; exact ⟨.inl q, .inr q⟩
    · rename_i q; exact ⟨.inr q, .inl h2⟩
    · cases h2
  have hN : X.N[i]? = some x := by rw [ok.N]; exact of_decide_eq_true ht.1
  rcases ho with rfl | rfl
  · refine PS.imp (ps_aug ok.nd hN hl.1 he ip_add hl.2) ?_
    rintro D σ H ⟨μ, Z, S, ρ, o, sm, re, ev, k⟩
    unfold exS at ev
    split at ev
    · rename_i v hv
      obtain ⟨⟨y, S1⟩, e1, ev1⟩ := Option.bind_eq_some_iff.mp ev
      clear ev
      obtain ⟨w, hw, rw'⟩ := re.2 _ _ hv
      refine ⟨w, hw, μ, Z, S, ρ, y, S1, sm, re, e1, fun μ1 H1 w1 st1 r1 => ?_⟩
      have ev := ev1
      clear ev1
      dsimp only at ev
      split at ev
      · rename_i a b _
        cases ev; cases rw'; cases r1
        exact ⟨_, _, rfl, rfl, k μ1 H1 _ st1 ((st1.env re).set (.int _))⟩
      · rename_i hh; cases hh
      · cases ev
    · cases ev
  · refine PS.imp (ps_aug ok.nd hN hl.1 he ip_sub hl.2) ?_
    rintro D σ H ⟨μ, Z, S, ρ, o, sm, re, ev, k⟩
    unfold exS at ev
    split at ev
    · rename_i v hv
      obtain ⟨⟨y, S1⟩, e1, ev1⟩ := Option.bind_eq_some_iff.mp ev
      clear ev
      obtain ⟨w, hw, rw'⟩ := re.2 _ _ hv
      refine ⟨w, hw, μ, Z, S, ρ, y, S1, sm, re, e1, fun μ1 H1 w1 st1 r1 => ?_⟩
      have ev := ev1
      clear ev1
      dsimp only at ev
      split at ev
      · rename_i hh; cases hh
      · rename_i a b _
        cases ev; cases rw'; cases r1
        exact ⟨_, _, rfl, rfl, k μ1 H1 _ st1 ((st1.env re).set (.int _))⟩
      · cases ev
    · cases ev
theorem s_app {o e : E} {po pe : Expr} {apos cpos pos : Pos} (hb : notBareCall po = true) (hl : (apos.endLine == cpos.line) = true) (hn : notStar pe = true) (ho : PE X po (tI X.K cl c o)) (he : PE X pe (tI X.K cl c e)) :
    PS X (.Expr (.Call (.Attribute po "append" apos) [pe] [] cpos) pos) (tSt X.K cl c (.app o e)) := by
  have hs : starEach [pe] X.env = (false, eval pe X.env) :: starEach [] X.env := starEach_cons hn
  refine PS.imp (ps_expr (pe_bm PySem.F.plainAttrs_list PySem.F.slot_list_append PySem.F.type_list_append mt_append ho (pa_cons he pa_nil hs) (base_of hb) (by rw [hs]; rfl) hl hs rfl) rfl) ?_
  rintro D σ H ⟨μ, Z, S, ρ, o, sm, re, ev, k⟩
  unfold exS at ev
  obtain ⟨⟨x, S1⟩, e1, ev1⟩ := Option.bind_eq_some_iff.mp ev
  clear ev
  obtain ⟨l0, e0, ev2⟩ := Option.bind_eq_some_iff.mp ev1
  clear ev1
  obtain ⟨⟨v, S2⟩, e2, ev⟩ := Option.bind_eq_some_iff.mp ev2
  clear ev2
  dsimp only at ev e0 e2
  split at ev
  · rename_i m
    split at ev
    · rename_i xs hxs
      split at ev
      · rename_i hlen
        cases ev
        refine ⟨μ, Z, S, ρ, _, S1, sm, re, e1, fun μ1 H1 w st1 r1 => ?_⟩
        obtain ⟨a0, vs0, rfl, q0, _⟩ := lst_at st1.sm r1 e0
        refine ⟨.inl ⟨rfl, vs0, .inl (.inl q0)⟩, μ1, Z, S1, ρ, v, S2, st1.sm, st1.env re, e2, fun μ2 H2 w2 st2 r2 => ?_⟩
        cases r1 with
        | ref h1 =>
          have h2 := st2.keep.1 _ _ h1
          obtain ⟨vs, q1, q2⟩ := st2.sm.ob _ _ _ h2 hxs
          have hme := List.mem_of_getElem? h2
          have st3 := Stp.set (o := .lst (vs ++ [w2])) (ob := .lst (xs ++ [v])) st2.sm h2 ⟨_, upd_same, ((q2.append (.cons r2 .nil)).move (fun _ _ q => q) (set_keep hme))⟩
          have st13 := (st1.trans st2).trans st3
          exact ⟨a0, vs, w2, rfl, rfl, q1, by rw [← q2.length]; exact hlen, k μ2 _ σ st13 (st13.env re)⟩
      · cases ev
    · cases ev
  · cases ev
theorem s_augF (ok : Ok X g p cl c n) {ks : List Nat} {o e : E} {f : Str} {po pe : Expr} {tpos pos : Pos} (hk : (ks.all fun k => g.na k f) = true) (ho : PE X po (tI X.K cl c o)) (he : PE X pe (tI X.K cl c e)) :
    PS X (.AugAssign (.Attribute po f tpos) .Add pe pos) (tSt X.K cl c (.augF ks o f e)) := by
  refine PS.imp (ps_fldaug ho he in_add) ?_
  rintro D σ H ⟨μ, Z, S, ρ, ou, sm, re, ev, k⟩
  unfold exS at ev
  obtain ⟨⟨x, S1⟩, e1, ev1⟩ := Option.bind_eq_some_iff.mp ev
  clear ev
  obtain ⟨⟨k', ns, xs⟩, e2, ev2⟩ := Option.bind_eq_some_iff.mp ev1
  clear ev1
  dsimp only at ev2
  split at ev2
  · rename_i hc
    obtain ⟨u, e3, ev3⟩ := Option.bind_eq_some_iff.mp ev2
    clear ev2
    obtain ⟨⟨y, S2⟩, e4, ev⟩ := Option.bind_eq_some_iff.mp ev3
    clear ev3
    dsimp only at ev
    split at ev
    · rename_i i j
      obtain ⟨⟨k2, ns2, xs2⟩, e6, ev5⟩ := Option.bind_eq_some_iff.mp ev
      clear ev
      dsimp only at ev5
      split at ev5
      rotate_left
      · cases ev5
      rename_i ek
      rw [ek] at e6
      obtain ⟨S3, e5, ev⟩ := Option.map_eq_some_iff.mp ev5
      clear ev5
      cases ev
      refine ⟨μ, Z, S, ρ, x, S1, sm, re, e1, fun μ1 H1 w st1 r1 => ?_⟩
      obtain ⟨a0, dx, vs, rfl, q1, q2, q3⟩ := ins_at st1.sm r1 e2
      obtain ⟨uu, q4, q5⟩ := fld_at q3 e3
      have hm : k' ∈ ks := by simpa using hc
      have na := ok.na k' f (List.all_eq_true.mp hk k' hm)
      refine ⟨a0, cl k', dx, _, uu, rfl, q1, na.1, na.2, q4, μ1, Z, S1, ρ, _, S2, st1.sm, st1.env re, e4, fun μ2 H2 w2 st2 r2 => ?_⟩
      cases q5
      cases r2
      obtain ⟨a1, k3, dx2, fs2, e7, q6, q7, q8, st3⟩ := fldSet_ok st2.sm (st2.rel r1) (.int (i + j)) e5
      cases e7
      obtain ⟨a2, dx4, vs4, e8, t1, _⟩ := ins_at st2.sm (st2.rel r1) e6
      cases e8
      have ec : cl k3 = cl k' := by
        rw [q6] at t1
        injection t1 with t1
        injection t1
      have st := (st1.trans st2).trans st3
      exact ⟨_, _, rfl, rfl, dx2, fs2, by rw [← ec]; exact q6, q8, by rw [← ec]; exact k μ2 _ σ st (st.env re)⟩
    · cases ev
  · cases ev2
theorem s_dput (ok : Ok X g p cl c n) {d k e : E} {pd pk pe : Expr} {pos' pos : Pos} (hn : notSlice pk = true) (hs : notComp pe = true) (hd : PE X pd (tI X.K cl c d)) (hk : PE X pk (tI X.K cl c k)) (he : PE X pe (tI X.K cl c e)) :
    PS X (.Assign [.Subscript pd pk pos'] pe pos) (tSt X.K cl c (.dput d k e)) := by
  have hu := ok.room.units
  refine PS.imp (ps_dput (by omega) hd hk he (sw_notComp hs)) ?_
  rintro D σ H ⟨μ, Z, S, ρ, ou, sm, re, ev, kk⟩
  unfold exS at ev
  obtain ⟨⟨v, S1⟩, e1, ev⟩ := Option.bind_eq_some_iff.mp ev
  obtain ⟨⟨x, S2⟩, e2, ev⟩ := Option.bind_eq_some_iff.mp ev
  obtain ⟨⟨y, S3⟩, e3, ev⟩ := Option.bind_eq_some_iff.mp ev
  obtain ⟨S4, e4, ev⟩ := Option.map_eq_some_iff.mp ev
  cases ev
  refine ⟨μ, Z, S, ρ, v, S1, sm, re, e1, fun μ1 H1 w st1 r1 => ⟨μ1, Z, S1, ρ, x, S2, st1.sm, st1.env re, e2, fun μ2 H2 w2 st2 r2 => ⟨μ2, Z, S2, ρ, y, S3, st2.sm, (st1.trans st2).env re, e3, fun μ3 H3 w3 st3 r3 => ?_⟩⟩⟩
  obtain ⟨a, H4, q1, q2, st4⟩ := dicSet_ok st3.sm (st3.rel r2) r3 ((st2.trans st3).rel r1) e4
  have st := ((st1.trans st2).trans st3).trans st4
  exact ⟨a, H4, q1, q2, kk μ3 H4 σ st (st.env re)⟩
theorem s_augL (ok : Ok X g p cl c n) {i : Nat} {e : E} {x : Str} {pe : Expr} {p0 pos : Pos} (ht : chkT g p (.nm i) (.Name x ⟨0, 0, 0, 0⟩) = true) (he : PE X pe (tI X.K cl c e)) : PS X (.AugAssign (.Name x p0) .Add pe pos) (tSt X.K cl c (.augL i e)) := by
  unfold chkT at ht
  simp only [Bool.and_eq_true] at ht
  have hl : L2.Loc X.env.scope x ∧ (X.fn x = true ∨ X.env.scope.names.lookup x = some .local) := by
    rw [ok.sc, ok.fn]
    have h2 := ht.2
    unfold loc at h2
    split at h2
    · rename_i q; exact ⟨.inl q, .inr q⟩
    · rename_i q; exact ⟨.inr q, .inl h2⟩
    · cases h2
  have hN : X.N[i]? = some x := by rw [ok.N]; exact of_decide_eq_true ht.1
  refine PS.imp (ps_aug ok.nd hN hl.1 he (show PIp X .Add rExt2 from iop_ext) hl.2) ?_
  rintro D σ H ⟨μ, Z, S, ρ, o, sm, re, ev, k⟩
  unfold exS at ev
  split at ev
  · rename_i m hv
    obtain ⟨⟨y, S1⟩, e1, ev1⟩ := Option.bind_eq_some_iff.mp ev
    clear ev
    obtain ⟨w, hw, rw'⟩ := re.2 _ _ hv
    refine ⟨w, hw, μ, Z, S, ρ, y, S1, sm, re, e1, fun μ1 H1 w1 st1 r1 => ?_⟩
    dsimp only at ev1
    split at ev1
    · rename_i xs hx
      obtain ⟨ys, e2, ev2⟩ := Option.bind_eq_some_iff.mp ev1
      clear ev1
      split at ev2
      · rename_i hc
        cases ev2
        have rr := st1.rel rw'
        cases rr with
        | ref h1 =>
          obtain ⟨vs, q1, q2⟩ := st1.sm.ob _ _ _ h1 hx
          obtain ⟨b, ws, rfl, q3, q4⟩ := lst_at st1.sm r1 e2
          have hme := List.mem_of_getElem? h1
          refine ⟨_, b, vs, ws, rfl, rfl, q1, q3, by rw [← q2.length, ← q4.length]; omega, ?_⟩
          have st2 := Stp.set (o := .lst (vs ++ ws)) (ob := .lst (xs ++ ys)) st1.sm h1 ⟨_, upd_same, ((q2.append q4).move (fun _ _ q => q) (set_keep hme))⟩
          have st := st1.trans st2
          have re2 := (st.env re).set (i := i) (v := .ref m) (.ref h1)
          have same : ρ.set i (some (.ref m)) = ρ := by
            apply List.ext_getElem?
            intro j
            by_cases hj : i = j
            · subst hj
              rw [hv, List.getElem?_set_self (List.getElem?_eq_some_iff.mp hv).1]
            · rw [List.getElem?_set_ne hj]
          rw [same] at re2
          exact k μ1 _ _ st re2
      · cases ev2
    · cases ev1
  · cases ev
end
end Itp

namespace Itp
open PySem L2
/-! ### statements that change a list -/
section
variable {K : PySem.W.Frag} {cl : Nat → Addr} {μ : List Addr} {Z : Addr → Prop} {H : Hp}
theorem RelL.erase : ∀ {xs : List Val} {vs : List V} (n : Nat), RelL K cl μ Z H xs vs → RelL K cl μ Z H (xs.eraseIdx n) (vs.eraseIdx n)
  | _, _, _, .nil => .nil
  | _, _, 0, .cons _ r => r
  | _, _, n + 1, .cons h r => .cons h (RelL.erase n r)
theorem RelL.rev : ∀ {xs : List Val} {vs : List V}, RelL K cl μ Z H xs vs → RelL K cl μ Z H xs.reverse vs.reverse
  | _, _, .nil => .nil
  | _, _, .cons h r => by rw [List.reverse_cons, List.reverse_cons]; exact (RelL.rev r).append (.cons h .nil)
end
theorem ins_inv {S : Store} {n : Nat} {xs as ys : List Val} (h : lopSem S n .ins xs as = some ys) : ∃ i v, as = [.int i, v] ∧ xs.length < sizeLine ∧ 0 ≤ i ∧ i < 2 ^ 63 ∧ ys = xs.take i.toNat ++ [v] ++ xs.drop i.toNat := by
  unfold lopSem at h
  split at h
  · split at h
    · rename_i hc
      cases h
      exact ⟨_, _, rfl, hc.1, hc.2.1, hc.2.2, rfl⟩
    · cases h
  all_goals first | contradiction | cases h
theorem pop_inv {S : Store} {n : Nat} {xs as ys : List Val} (h : lopSem S n .pop xs as = some ys) : ∃ i k, as = [.int i] ∧ -(2 ^ 63) ≤ i ∧ i < 2 ^ 63 ∧ ixN xs.length i = some k ∧ ys = xs.eraseIdx k := by
  unfold lopSem at h
  split at h
  all_goals first
    | contradiction
    | cases h
    | (split at h
       · rename_i hc
         obtain ⟨k, hk, rfl⟩ := Option.map_eq_some_iff.mp h
         exact ⟨_, k, rfl, hc.1, hc.2, hk, rfl⟩
       · cases h)
theorem ext_inv {S : Store} {n : Nat} {xs as ys : List Val} (h : lopSem S n .ext xs as = some ys) : ∃ y zs, as = [y] ∧ lstOf S y = some zs ∧ xs.length + zs.length ≤ sizeLine ∧ ys = xs ++ zs := by
  unfold lopSem at h
  split at h
  all_goals first
    | contradiction
    | cases h
    | (obtain ⟨zs, e, h⟩ := Option.bind_eq_some_iff.mp h
       split at h
       · rename_i hc
         cases h
         exact ⟨_, zs, rfl, e, hc.1, rfl⟩
       · cases h)
theorem rev_inv {S : Store} {n : Nat} {xs as ys : List Val} (h : lopSem S n .rev xs as = some ys) : as = [] ∧ ys = xs.reverse := by
  unfold lopSem at h
  split at h
  all_goals first
    | contradiction
    | (cases h; exact ⟨rfl, rfl⟩)
    | cases h
theorem clr_inv {S : Store} {n : Nat} {xs as ys : List Val} (h : lopSem S n .clr xs as = some ys) : as = [] ∧ ys = [] := by
  unfold lopSem at h
  split at h
  all_goals first
    | contradiction
    | (cases h; exact ⟨rfl, rfl⟩)
    | cases h
/-- what the interpreter tells of a method is what its rule wants -/
def Lk (K : PySem.W.Frag) (cl : Nat → Addr) (op : LOp) (r : V → List V → Hp → VK → Prop) : Prop := ∀ {μ : List Addr} {Z : Addr → Prop} {S : Store} {H : Hp} {n : Nat} {l : Addr} {xs as ys : List Val} {vs ws : List V}, Sim K cl μ Z S H → H l = some (.lst vs) → RelL K cl μ Z H xs vs → RelL K cl μ Z H as ws → lopSem S n op xs as = some ys →
  ∃ zs, RelL K cl μ Z H ys zs ∧ ∀ Q : VK, (∀ y, Q y (upd H l (.lst zs))) → r (.ref l) ws H Q
theorem lk_ins {K : PySem.W.Frag} {cl : Nat → Addr} : Lk K cl .ins (fun x vs H Q => ∃ (l : Addr) (xs : List V) (i : Int) (y : V), x = .ref l ∧ vs = [.int i, y] ∧ H l = some (.lst xs) ∧ xs.length < sizeLine ∧ 0 ≤ i ∧ i < 2 ^ 63 ∧ Q .non (upd H l (.lst (xs.take i.toNat ++ [y] ++ xs.drop i.toNat)))) := by
  intro μ Z S H n l xs as ys vs ws sm hl hx ha he
  obtain ⟨i, v, rfl, h1, h2, h3, rfl⟩ := ins_inv he
  cases ha with
  | cons r1 ha =>
    cases ha with
    | cons r2 ha =>
      cases ha
      cases r1
      exact ⟨_, ((hx.take _).append (.cons r2 .nil)).append (hx.drop _), fun Q q => ⟨_, _, _, _, rfl, rfl, hl, by rw [← hx.length]; exact h1, h2, h3, q _⟩⟩
theorem lk_pop {K : PySem.W.Frag} {cl : Nat → Addr} : Lk K cl .pop rPopAt := by
  intro μ Z S H n l xs as ys vs ws sm hl hx ha he
  obtain ⟨i, k, rfl, h1, h2, h3, rfl⟩ := pop_inv he
  cases ha with
  | cons r1 ha =>
    cases ha
    cases r1
    have hk : k < xs.length := (ixN_seq h3).2.1
    obtain ⟨y, hy, _⟩ := hx.get (List.getElem?_eq_getElem hk)
    exact ⟨_, hx.erase k, fun Q q => ⟨_, _, _, k, y, rfl, rfl, hl, h1, h2, by rw [← hx.length]; exact (ixN_seq h3).1, hy, q _⟩⟩
theorem lk_ext {K : PySem.W.Frag} {cl : Nat → Addr} : Lk K cl .ext rExtend := by
  intro μ Z S H n l xs as ys vs ws sm hl hx ha he
  obtain ⟨y, zs, rfl, h1, h2, rfl⟩ := ext_inv he
  cases ha with
  | cons r1 ha =>
    cases ha
    obtain ⟨b, us, rfl, hb, rb⟩ := lst_at sm r1 h1
    exact ⟨_, hx.append rb, fun Q q => ⟨_, _, _, _, rfl, rfl, hl, hb, by rw [← hx.length, ← rb.length]; exact h2, q _⟩⟩
theorem lk_rev {K : PySem.W.Frag} {cl : Nat → Addr} : Lk K cl .rev rReverse := by
  intro μ Z S H n l xs as ys vs ws sm hl hx ha he
  obtain ⟨rfl, rfl⟩ := rev_inv he
  cases ha
  exact ⟨_, hx.rev, fun Q q => ⟨_, _, rfl, rfl, hl, q _⟩⟩
theorem lk_clr {K : PySem.W.Frag} {cl : Nat → Addr} : Lk K cl .clr rClear := by
  intro μ Z S H n l xs as ys vs ws sm hl hx ha he
  obtain ⟨rfl, rfl⟩ := clr_inv he
  cases ha
  exact ⟨_, .nil, fun Q q => ⟨_, _, rfl, rfl, hl, q _⟩⟩
section
variable {X : Cx} {cl : Nat → Addr} {c : Oracle} {g : G} {p : Pl} {n : Nat}
theorem lop_core {op : LOp} {r : V → List V → Hp → VK → Prop} (lk : Lk X.K cl op r) {o : E} {es : EL} {D : Ends} {σ : L2.St} {H : Hp} (h : tSt X.K cl c (.lop op o es) D σ H) :
    tBM X.K "list" r (tI X.K cl c o) (tA X.K cl c es) σ H (fun _ H1 => D.nx σ H1) := by
  obtain ⟨μ, Z, S, ρ, ou, sm, re, ev, k⟩ := h
  unfold exS at ev
  obtain ⟨⟨x, S1⟩, e1, ev⟩ := Option.bind_eq_some_iff.mp ev
  obtain ⟨l0, e0, ev⟩ := Option.bind_eq_some_iff.mp ev
  obtain ⟨⟨vs, S2⟩, e2, ev⟩ := Option.bind_eq_some_iff.mp ev
  dsimp only at ev e0 e2
  split at ev
  · rename_i m
    split at ev
    · rename_i xs hxs
      obtain ⟨ys, e3, ev⟩ := Option.map_eq_some_iff.mp ev
      cases ev
      refine ⟨μ, Z, S, ρ, _, S1, sm, re, e1, fun μ1 H1 w st1 r1 => ?_⟩
      obtain ⟨a0, vs0, rfl, q0, _⟩ := lst_at st1.sm r1 e0
      refine ⟨.inl ⟨rfl, vs0, .inl (.inl q0)⟩, μ1, Z, S1, ρ, vs, S2, st1.sm, st1.env re, e2, fun μ2 H2 ws st2 r2 => ?_⟩
      cases r1 with
      | ref h1 =>
        have h2 := st2.keep.1 _ _ h1
        obtain ⟨us, q1, q2⟩ := st2.sm.ob _ _ _ h2 hxs
        have hme := List.mem_of_getElem? h2
        obtain ⟨zs, rz, hr⟩ := lk st2.sm q1 q2 r2 e3
        have st3 := Stp.set (o := .lst zs) (ob := .lst ys) st2.sm h2 ⟨_, upd_same, rz.move (fun _ _ q => q) (set_keep hme)⟩
        have st13 := (st1.trans st2).trans st3
        exact hr _ fun y => k μ2 _ σ st13 (st13.env re)
    · cases ev
  · cases ev
theorem few_of {pos : Pos} {env : PySem.Env} {es : EL} {args : List Expr} (hc : chkL g p es args = true) (hl : args.length < 30) : ((backTo pos (starEach args env)).all (fun x => !x.1) && (backToKw pos (keywordEach [] env)).all (fun x => x.1.isSome)
      && decide (args.length + ([] : List Keyword).length + (if ([] : List Keyword).isEmpty then 0 else 1) < 30)) = true := by
  have h1 := star_any (pos := pos) (env := env) hc
  have h2 : (backTo pos (starEach args env)).all (fun x => !x.1) = true := by
    rw [List.all_eq_true]
    intro x hx
    have := List.any_eq_false.mp h1 x hx
    simpa using this
  have h3 : (backToKw pos (keywordEach [] env)).all (fun x => x.1.isSome) = true := rfl
  rw [h2, h3, Bool.true_and, Bool.true_and]
  exact decide_eq_true (by simpa using hl)
theorem s_lop {op : LOp} {o : E} {es : EL} {po : Expr} {pes : List Expr} {apos cpos pos : Pos} (ha : pes.length = op.ar) (hb : notBareCall po = true) (hl : (apos.endLine == cpos.line) = true) (hc : chkL g p es pes = true) (ho : PE X po (tI X.K cl c o)) (h : PA X pes (tA X.K cl c es)) :
    PS X (.Expr (.Call (.Attribute po op.nm apos) pes [] cpos) pos) (tSt X.K cl c (.lop op o es)) := by
  have two : ∀ {id : String} {name : Str} {r : V → List V → Hp → VK → Prop} (slot : Slot "list" name id) (hty : typeOf (.builtin id) = pure (.type "method_descriptor")) (hm : MtR X id r) (lk : Lk X.K cl op r) {pe : Expr} {rest : List Expr} (e : pes = pe :: rest) (nm : op.nm = name), PS X (.Expr (.Call (.Attribute po op.nm apos) pes [] cpos) pos) (tSt X.K cl c (.lop op o es)) := by
    intro id name r slot hty hm lk pe rest e nm
    subst e
    rw [nm]
    obtain ⟨hn, e0, es0, e1, q1, q2⟩ := chkL_hd hc
    exact PS.imp (ps_expr (pe_bm PySem.F.plainAttrs_list slot hty hm ho h (base_of hb) (few_of hc (by rw [ha]; cases op <;> decide)) hl (starEach_cons hn) (star_any q2)) rfl) fun D σ H q => lop_core lk q
  have zero : ∀ {id : String} {name : Str} {r : V → List V → Hp → VK → Prop} (slot : Slot "list" name id) (hty : typeOf (.builtin id) = pure (.type "method_descriptor")) (hm : MtR X id r) (lk : Lk X.K cl op r) (e : pes = []) (nm : op.nm = name), PS X (.Expr (.Call (.Attribute po op.nm apos) pes [] cpos) pos) (tSt X.K cl c (.lop op o es)) := by
    intro id name r slot hty hm lk e nm
    subst e
    rw [nm]
    refine PS.imp (ps_expr (pe_bm0 PySem.F.plainAttrs_list slot hty hm ho (base_of hb) hl) rfl) fun D σ H q => ?_
    obtain rfl : es = .nil := by cases es with
      | nil => rfl
      | cons _ _ => unfold chkL at hc; cases hc
    obtain ⟨μ, Z, S, ρ, v, S', a1, a2, a3, a4⟩ := lop_core lk q
    refine ⟨μ, Z, S, ρ, v, S', a1, a2, a3, fun μ1 H1 w st1 r1 => ?_⟩
    obtain ⟨b1, μ2, Z2, S2, ρ2, vs, S3, b2, b3, b4, b5⟩ := a4 μ1 H1 w st1 r1
    unfold evL at b4
    cases b4
    exact ⟨b1, b5 μ2 H1 [] (Stp.refl b2) .nil⟩
  match op, pes, ha with
  | .ins, [_, _], _ => exact two PySem.F.slot_list_insert PySem.F.type_list_insert mt_insert lk_ins rfl rfl
  | .pop, [_], _ => exact two PySem.F.slot_list_pop PySem.F.type_list_pop mt_popAt lk_pop rfl rfl
  | .ext, [_], _ => exact two PySem.F.slot_list_extend PySem.F.type_list_extend mt_extend lk_ext rfl rfl
  | .rev, [], _ => exact zero PySem.F.slot_list_reverse PySem.F.type_list_reverse mt_reverse lk_rev rfl rfl
  | .clr, [], _ => exact zero PySem.F.slot_list_clear PySem.F.type_list_clear mt_clear lk_clr rfl rfl
end
end Itp

namespace Itp
open PySem L2
section
variable {X : Cx} {cl : Nat → Addr} {c : Oracle} {g : G} {p : Pl} {n : Nat}
theorem s_drop {e : E} {pe : Expr} {pos : Pos} (hn : notComp pe = true) (h : PE X pe (tI X.K cl c e)) : PS X (.Expr pe pos) (tSt X.K cl c (.drop e)) := by
  refine PS.imp (ps_expr h (sw_notComp hn)) ?_
  rintro D σ H ⟨μ, Z, S, ρ, o, sm, re, ev, k⟩
  unfold exS at ev
  obtain ⟨⟨v, S1⟩, e1, ev⟩ := Option.map_eq_some_iff.mp ev
  cases ev
  exact ⟨μ, Z, S, ρ, v, S1, sm, re, e1, fun μ1 H1 w st1 r1 => k μ1 H1 σ st1 (st1.env re)⟩
theorem s_ret {e : E} {pe : Expr} {pos : Pos} (h : PE X pe (tI X.K cl c e)) : PS X (.Return (some pe) pos) (tSt X.K cl c (.ret e)) := by
  refine PS.imp (ps_ret h) ?_
  rintro D σ H ⟨μ, Z, S, ρ, o, sm, re, ev, k⟩
  unfold exS at ev
  obtain ⟨⟨v, S1⟩, e1, ev⟩ := Option.map_eq_some_iff.mp ev
  cases ev
  exact ⟨μ, Z, S, ρ, v, S1, sm, re, e1, fun μ1 H1 w st1 r1 => k μ1 H1 w st1 r1⟩
theorem s_retN {pos : Pos} : PS X (.Return none pos) (tSt X.K cl c .retN) := by
  refine PS.imp ps_retN ?_
  rintro D σ H ⟨μ, Z, S, ρ, o, sm, re, ev, k⟩
  unfold exS at ev
  cases ev
  exact k μ H .non (Stp.refl sm) .non
theorem s_pass {pos : Pos} : PS X (.Pass pos) (tSt X.K cl c .pass) := by
  refine PS.imp ps_pass ?_
  rintro D σ H ⟨μ, Z, S, ρ, o, sm, re, ev, k⟩
  unfold exS at ev
  cases ev
  exact k μ H σ (Stp.refl sm) re
theorem s_brk {pos : Pos} : PS X (.Break pos) (tSt X.K cl c .brk) := by
  refine PS.imp ps_break ?_
  rintro D σ H ⟨μ, Z, S, ρ, o, sm, re, ev, k⟩
  unfold exS at ev
  cases ev
  exact k μ H σ (Stp.refl sm) re
theorem s_cont {pos : Pos} : PS X (.Continue pos) (tSt X.K cl c .cont) := by
  refine PS.imp ps_continue ?_
  rintro D σ H ⟨μ, Z, S, ρ, o, sm, re, ev, k⟩
  unfold exS at ev
  cases ev
  exact k μ H σ (Stp.refl sm) re
theorem s_bad {st : Stmt} : PS X st (tSt X.K cl c .bad) := by
  refine PS.imp ps_never ?_
  rintro D σ H ⟨μ, Z, S, ρ, o, sm, re, ev, k⟩
  unfold exS at ev
  cases ev
theorem s_ite {t : E} {a b : SL} {pt : Expr} {pa pb : List Stmt} {pos : Pos} (ht : PT X pt (tT X.K cl c t)) (ha : PSs X pa (tSl X.K cl c a)) (hb : PSs X pb (tSl X.K cl c b)) : PS X (.If pt pa pb pos) (tSt X.K cl c (.ite t a b)) := by
  refine PS.imp (ps_if ht ha hb) ?_
  rintro D σ H ⟨μ, Z, S, ρ, o, sm, re, ev, k⟩
  unfold exS at ev
  obtain ⟨⟨x, S1⟩, e1, ev⟩ := Option.bind_eq_some_iff.mp ev
  dsimp only at ev
  split at ev
  · refine ⟨μ, Z, S, ρ, _, S1, sm, re, e1, fun μ1 H1 st1 => ?_⟩
    refine iteT ?_
    exact ⟨μ1, Z, S1, ρ, o, st1.sm, st1.env re, ev, k.step st1⟩
  · refine ⟨μ, Z, S, ρ, _, S1, sm, re, e1, fun μ1 H1 st1 => ?_⟩
    refine iteF ?_
    exact ⟨μ1, Z, S1, ρ, o, st1.sm, st1.env re, ev, k.step st1⟩
  · cases ev
theorem ss_nil : PSs X [] (tSl X.K cl c .nil) := by
  refine PSs.imp pss_nil ?_
  rintro D σ H ⟨μ, Z, S, ρ, o, sm, re, ev, k⟩
  unfold exL at ev
  cases ev
  exact k μ H σ (Stp.refl sm) re
theorem ss_cons {s : St} {ss : SL} {st : Stmt} {sts : List Stmt} (h : PS X st (tSt X.K cl c s)) (hs : PSs X sts (tSl X.K cl c ss)) : PSs X (st :: sts) (tSl X.K cl c (.cons s ss)) := by
  refine PSs.imp (pss_cons h hs) ?_
  rintro D σ H ⟨μ, Z, S, ρ, o, sm, re, ev, k⟩
  unfold exL at ev
  obtain ⟨o1, e1, ev⟩ := Option.bind_eq_some_iff.mp ev
  refine ⟨μ, Z, S, ρ, o1, sm, re, e1, ?_⟩
  cases o1 with
  | nx ρ1 S1 => exact fun μ1 H1 σ1 st1 re1 => ⟨μ1, Z, S1, ρ1, o, st1.sm, re1, ev, k.step st1⟩
  | bk ρ1 S1 => cases ev; exact k
  | ct ρ1 S1 => cases ev; exact k
  | rt v S1 => cases ev; exact k
theorem pown (ok : Ok X g p cl c n) : PassesOwn (model X.prog X.w) X.A X.env X.xe := by
  rw [ok.xe]; exact PassesOwn.never
theorem s_for (ok : Ok X g p cl c n) {t : T} {k : ItK} {es : EL} {b : SL} {ptg piter : Expr} {pb : List Stmt} {pos : Pos} (hi : PI X ptg piter (tW X.K cl c k es)) (hns : notSet piter = true) (hg : PG X ptg (tG X.K cl c t)) (hb : PSs X pb (tSl X.K cl c b)) : PS X (.For ptg piter pb [] pos) (tSt X.K cl c (.for t k es b)) := by
  refine PS.imp (ps_for (pown ok) ok.calm hi hg hb (by intro x; cases piter <;> first | rfl | cases hns)) ?_
  rintro D σ H ⟨μ, Z, S, ρ, o, sm, re, ev, ko⟩
  unfold exS at ev
  obtain ⟨⟨vals, S1⟩, e1, ev1⟩ := Option.bind_eq_some_iff.mp ev
  clear ev
  obtain ⟨xs, e2, ev⟩ := Option.bind_eq_some_iff.mp ev1
  clear ev1
  refine ⟨μ, Z, S, ρ, vals, S1, xs, sm, re, e1, e2, fun μ1 H1 ws J st1 rl wk => ?_⟩
  let W : Nat → Nat → L2.St → Hp → Prop := fun i m σi Hi => m = xs.length - i ∧ i ≤ xs.length ∧ ∃ μi Si ρi, Stp X.K cl Z μ1 H1 μi Si Hi ∧ RelE X.K cl μi Z Hi ρi σi ∧ itemsOf Si k vals = some xs ∧
    forG (refsOf vals) (fun x ρ S => bindT c t x ρ S) (fun ρ S => exL c b ρ S) (xs.drop i) ρi Si = some o
  refine ⟨W, ⟨xs.length, by simp, Nat.zero_le _, μ1, S1, ρ, Stp.refl st1.sm, st1.env re, e2, by simpa using ev⟩, ?_⟩
  rintro i m σi Hi ⟨rfl, hle, μi, Si, ρi, sti, rei, it, ef⟩
  have hw := wk i Z μi Si Hi xs sti.sm (sti.rels rl) it
  by_cases hlt : i < xs.length
  · right
    obtain ⟨hgo, hyl⟩ := hw.1 _ (List.getElem?_eq_getElem hlt)
    rw [List.drop_eq_getElem_cons hlt] at ef
    unfold forG at ef
    obtain ⟨⟨ρ1, Sa⟩, b1, ef1⟩ := Option.bind_eq_some_iff.mp ef
    clear ef
    obtain ⟨o1, b2, ef⟩ := Option.bind_eq_some_iff.mp ef1
    clear ef1
    try dsimp only at ef
    try dsimp only at b1
    try dsimp only at b2
    refine ⟨hgo, W (i + 1) (xs.length - (i + 1)), fun σ' H' q => ⟨_, by omega, q⟩, fun w H' hy => ?_⟩
    obtain ⟨sty, rx⟩ := hyl w H' hy
    refine ⟨μi, Z, Si, ρi, _, ρ1, Sa, sty.sm, sty.env rei, rx, b1, fun μ2 H2 σ2 st2 re2 _ => ?_⟩
    have st02 := (sti.trans sty).trans st2
    refine ⟨μ2, Z, Sa, ρ1, o1, st2.sm, re2, b2, ?_⟩
    cases o1 with
    | nx ρ2 S2 =>
      dsimp only at ef
      split at ef
      · rename_i hk
        exact fun μ3 H3 σ3 st3 re3 => ⟨rfl, hlt, μ3, S2, ρ2, st02.trans st3, re3, (items_kept hk).trans it, ef⟩
      · cases ef
    | ct ρ2 S2 =>
      dsimp only at ef
      split at ef
      · rename_i hk
        exact fun μ3 H3 σ3 st3 re3 => ⟨rfl, hlt, μ3, S2, ρ2, st02.trans st3, re3, (items_kept hk).trans it, ef⟩
      · cases ef
    | bk ρ2 S2 =>
      cases ef
      exact fun μ3 H3 σ3 st3 re3 => ko μ3 H3 σ3 (st1.trans (st02.trans st3)) re3
    | rt v S2 =>
      cases ef
      exact fun μ3 H3 w st3 r3 => ko μ3 H3 w (st1.trans (st02.trans st3)) r3
  · left
    have hie : i = xs.length := by omega
    rw [hie, List.drop_length] at ef
    unfold forG at ef
    cases ef
    exact ⟨hw.2 (by omega), ko μi Hi σi (st1.trans sti) rei⟩
theorem s_whl (ok : Ok X g p cl c n) {t : E} {b : SL} {pt : Expr} {pb : List Stmt} {pos : Pos} (ht : PT X pt (tT X.K cl c t)) (hb : PSs X pb (tSl X.K cl c b)) : PS X (.While pt pb [] pos) (tSt X.K cl c (.whl t b)) := by
  refine PS.imp (ps_while (pown ok) ht hb) ?_
  rintro D σ H ⟨μ, Z, S, ρ, o, sm, re, ev, ko⟩
  unfold exS at ev
  let W : Nat → L2.St → Hp → Prop := fun m σi Hi => ∃ μi Si ρi, Stp X.K cl Z μ H μi Si Hi ∧ RelE X.K cl μi Z Hi ρi σi ∧
    whileG (fun ρ S => (evE c t ρ S).bind fun (x, S1) => match x with
      | .bl b => some (b, S1)
      | _ => none) (fun ρ S => exL c b ρ S) m ρi Si = some o
  refine ⟨W, ⟨fuel, μ, S, ρ, Stp.refl sm, re, ev⟩, ?_⟩
  rintro m σi Hi ⟨μi, Si, ρi, sti, rei, ew⟩
  cases m with
  | zero => unfold whileG at ew; cases ew
  | succ m =>
    unfold whileG at ew
    obtain ⟨⟨bb, Sa⟩, b1, ew1⟩ := Option.bind_eq_some_iff.mp ew
    clear ew
    obtain ⟨⟨x, Sb⟩, b2, b3⟩ := Option.bind_eq_some_iff.mp b1
    clear b1
    dsimp only at b3 ew1
    split at b3
    · cases b3
      refine ⟨μi, Z, Si, ρi, bb, _, sti.sm, rei, b2, fun μ1 H1 st1 => ?_⟩
      have st01 := sti.trans st1
      cases bb with
      | true =>
        refine iteT ?_
        rw [if_pos rfl] at ew1
        obtain ⟨o1, b4, ew⟩ := Option.bind_eq_some_iff.mp ew1
        clear ew1
        refine ⟨W m, fun σ' H' q => ⟨m, by omega, q⟩, μ1, Z, Sa, ρi, o1, st1.sm, st1.env rei, b4, ?_⟩
        cases o1 with
        | nx ρ2 S2 => exact fun μ3 H3 σ3 st3 re3 => ⟨μ3, S2, ρ2, st01.trans st3, re3, ew⟩
        | ct ρ2 S2 => exact fun μ3 H3 σ3 st3 re3 => ⟨μ3, S2, ρ2, st01.trans st3, re3, ew⟩
        | bk ρ2 S2 => cases ew; exact fun μ3 H3 σ3 st3 re3 => ko μ3 H3 σ3 (st01.trans st3) re3
        | rt v S2 => cases ew; exact fun μ3 H3 w st3 r3 => ko μ3 H3 w (st01.trans st3) r3
      | false =>
        refine iteF ?_
        rw [if_neg Bool.false_ne_true] at ew1
        cases ew1
        exact ko μ1 H1 σi st01 (st1.env rei)
    · cases b3
theorem s_asgAll (ok : Ok X g p cl c n) {t : T} {e : E} {tg pe : Expr} {pos : Pos} (h : asgOk g p t e tg pe = true) : PS X (.Assign [tg] pe pos) (tSt X.K cl c (.asg t e)) := by
  unfold asgOk at h
  simp only [Bool.and_eq_true, Bool.or_eq_true] at h
  obtain ⟨⟨⟨h1, h2⟩, h3⟩, h4⟩ := h
  rcases h4 with ⟨h4, h5⟩ | h4
  · refine s_asg (E_ok e ok h2).v (T_ok t ok h1) h3 ?_ (noSwap_of ok h4)
    rcases h5 with (h5 | h5) | h5
    · exact sw_notComp h5
    · exact sw_notName (by simpa using h5)
    · exact sw_cell ok h5 (.inr trivial)
  · split at h4
    · rename_i x px
      simp only [Bool.and_eq_true] at h4
      obtain ⟨h5, h6⟩ := h4
      unfold compSwaps at h6
      split at h6
      · rename_i elt gens scope cpos
        simp only [Bool.and_eq_true, decide_eq_true_eq] at h6
        obtain ⟨⟨⟨q1, q2⟩, q3⟩, q4⟩ := h6
        have hsw : swapsWith (.ListComp elt gens scope cpos) (some (.Name x px)) pos.line X.env = pure true := by
          have hk : X.env.kindOf x = some .local := by show X.env.scope.names.lookup x = _; rw [ok.sc]; exact q2
          have hb : X.env.blockKind = .function := by
            unfold Env.blockKind
            rw [ok.sc, q1]
            rfl
          show (pure (X.env.blockKind == .function && X.env.kindOf x == some .local && px.line == cpos.line && !(scope.names.any fun (n, k) => n == x && (k == .local || k == .cell))) : Sem Bool) = pure true
          rw [hk, hb, q3, q4]
          rfl
        obtain ⟨i, rfl⟩ : ∃ i, t = .nm i := by
          unfold chkT at h1
          split at h1
          · exact ⟨_, rfl⟩
          · cases h1
          · cases h1
          · cases h1
          · cases h1
          · cases h1
        have hN : X.N[i]? = some x := by
          unfold chkT at h1
          simp only [Bool.and_eq_true] at h1
          rw [ok.N]; exact of_decide_eq_true h1.1
        have hloc : X.env.scope.names.lookup x = some .local := by rw [ok.sc]; exact q2
        have lc : ∀ {own : List Nat} {t : T} {k : ItK} {es : EL} {cd : EO} {e : E}, chkE g p (.lc own t k es cd e) (.ListComp elt gens scope cpos) = true →
            (∀ i ∈ t.slots, i ∈ own) ∧ PS X (.Assign [.Name x px] (.ListComp elt gens scope cpos) pos) (tAsg (tLc (tW X.K cl c k es) (tG X.K cl c t) (tC' X.K cl c cd) (tI X.K cl c e) own) (gName i)) := by
          intro own t k es cd e h
          unfold chkE at h
          split at h
          · rename_i pelt ptg piter pifs scope' pos' heq
            cases heq
            simp only [Bool.and_eq_true, List.all_eq_true] at h
            obtain ⟨⟨⟨⟨⟨⟨h1, h2⟩, h3⟩, h4⟩, h5⟩, h6⟩, h7⟩ := h
            have hsl : ∀ i ∈ t.slots, i ∈ own := fun i hi => by simpa using h3 i hi
            have hmap : (own.map fun i => (p.N.getD i "", i)).map (·.2) = own := by
              rw [List.map_map]
              show List.map (fun i => i) own = own
              exact List.map_id' own
            have hsh : ∃ pes, itShape g p k ptg piter = some pes ∧ chkL g p es pes = true := by
              split at h4
              · rename_i pes e; exact ⟨pes, e, h4⟩
              · cases h4
            obtain ⟨pes, hs1, hs2⟩ := hsh
            have hpa := L_ok es ok hs2
            have hI := it_ok ok hs1 hs2 hpa.1 hpa.2
            have hb : BlkOk X.N X.env.scope scope (own.map fun i => (p.N.getD i "", i)) := by
              rw [ok.N, ok.sc]; exact blkOk_by h1
            have hsi : ∀ x, foldedSetIterable piter X.env x = pure x := by
              intro x
              have := hI.2
              cases piter <;> first | rfl | cases this
            have key := ps_setLc (pos := cpos) (spos := pos) (py := px) (g := tG X.K cl c t) (tt := tC' X.K cl c cd) (te := tI X.K cl c e) ok.calm ok.nd hN hloc hsw hI.1 hb (fun s H C cl' fp => T_ok t (ok.blk s H scope cl' C fp) h5) (fun s H C cl' fp => C_ok cd (ok.blk s H scope cl' C fp) h6) (fun s H C cl' fp => (E_ok e (ok.blk s H scope cl' C fp) h7).v) hsi
            rw [hmap] at key
            exact ⟨hsl, key⟩
          · cases h
        unfold isLc at h5
        split at h5
        · exact (s_asgLc (lc h2).1 (lc h2).2).1
        · have h2' := h2
          unfold chkE at h2'
          simp only [Bool.and_eq_true] at h2'
          exact (s_asgLc (lc h2'.2).1 (lc h2'.2).2).2
        · cases h5
      · cases h6
    · cases h4
mutual
theorem St_ok : ∀ (s : St) {X : Cx} {p : Pl} {ps : Stmt}, Ok X g p cl c n → chkS g p s ps = true → PS X ps (tSt X.K cl c s)
  | .asg t e, X, p, ps, ok, h => by
    unfold chkS at h
    split at h
    · exact s_asgAll ok h
    · cases h
  | .par is es, X, p, ps, ok, h => by
    unfold chkS at h
    split at h
    · simp only [Bool.and_eq_true] at h
      exact s_par ok h.1.1.1 (of_decide_eq_true h.1.1.2) h.1.2 (L_ok es ok h.2).1
    · cases h
  | .aug i o e, X, p, ps, ok, h => by
    unfold chkS at h
    split at h
    · simp only [Bool.and_eq_true, Bool.or_eq_true, decide_eq_true_eq] at h
      obtain ⟨⟨⟨h1, h2⟩, h3⟩, h4⟩ := h
      subst h1
      exact s_aug ok h2 h3 (E_ok e ok h4).v
    · cases h
  | .lop op o es, X, p, ps, ok, h => by
    unfold chkS at h
    split at h
    · simp only [Bool.and_eq_true] at h
      obtain ⟨⟨⟨⟨⟨h1, h2⟩, h3⟩, h4⟩, h5⟩, h6⟩ := h
      have e1 := of_decide_eq_true h1
      subst e1
      exact s_lop (of_decide_eq_true h2) h3 h4 h6 (E_ok o ok h5).v (L_ok es ok h6).1
    · cases h
  | .app o e, X, p, ps, ok, h => by
    unfold chkS at h
    split at h
    · simp only [Bool.and_eq_true] at h
      obtain ⟨⟨⟨⟨⟨h1, h2⟩, h3⟩, h4⟩, h5⟩, h6⟩ := h
      have e1 := of_decide_eq_true h1
      subst e1
      exact s_app h2 h3 h4 (E_ok o ok h5).v (E_ok e ok h6).v
    · cases h
  | .drop e, X, p, ps, ok, h => by
    unfold chkS at h
    split at h
    · simp only [Bool.and_eq_true] at h
      exact s_drop h.1 (E_ok e ok h.2).v
    · cases h
  | .ret e, X, p, ps, ok, h => by
    unfold chkS at h
    split at h
    · exact s_ret (E_ok e ok h).v
    · cases h
  | .retN, X, p, ps, ok, h => by
    unfold chkS at h
    split at h
    · exact s_retN
    · cases h
  | .ite t a b, X, p, ps, ok, h => by
    unfold chkS at h
    split at h
    · simp only [Bool.and_eq_true] at h
      exact s_ite (E_ok t ok h.1.1).t (Sl_ok a ok h.1.2) (Sl_ok b ok h.2)
    · cases h
  | .whl t b, X, p, ps, ok, h => by
    unfold chkS at h
    split at h
    · simp only [Bool.and_eq_true] at h
      exact s_whl ok (E_ok t ok h.1).t (Sl_ok b ok h.2)
    · cases h
  | .for t k es b, X, p, ps, ok, h => by
    unfold chkS at h
    split at h
    · simp only [Bool.and_eq_true] at h
      obtain ⟨⟨h1, h2⟩, h3⟩ := h
      split at h2
      · rename_i pes hs
        have hpa := L_ok es ok h2
        have hI := it_ok ok hs h2 hpa.1 hpa.2
        exact s_for ok hI.1 hI.2 (T_ok t ok h1) (Sl_ok b ok h3)
      · cases h2
    · cases h
  | .pass, X, p, ps, ok, h => by
    unfold chkS at h
    split at h
    · exact s_pass
    · cases h
  | .brk, X, p, ps, ok, h => by
    unfold chkS at h
    split at h
    · exact s_brk
    · cases h
  | .cont, X, p, ps, ok, h => by
    unfold chkS at h
    split at h
    · exact s_cont
    · cases h
  | .bad, X, p, ps, ok, h => s_bad
  | .augF ks o f e, X, p, ps, ok, h => by
    unfold chkS at h
    split at h
    · simp only [Bool.and_eq_true] at h
      have e1 := of_decide_eq_true h.1.1.1
      subst e1
      exact s_augF ok h.1.1.2 (E_ok o ok h.1.2).v (E_ok e ok h.2).v
    · cases h
  | .dput d k e, X, p, ps, ok, h => by
    unfold chkS at h
    split at h
    · simp only [Bool.and_eq_true] at h
      exact s_dput ok h.1.1.1.1 h.1.1.1.2 (E_ok d ok h.1.1.2).v (E_ok k ok h.1.2).v (E_ok e ok h.2).v
    · cases h
  | .augL i e, X, p, ps, ok, h => by
    unfold chkS at h
    split at h
    · simp only [Bool.and_eq_true] at h
      exact s_augL ok h.1 (E_ok e ok h.2).v
    · cases h
theorem Sl_ok : ∀ (s : SL) {X : Cx} {p : Pl} {ps : List Stmt}, Ok X g p cl c n → chkSs g p s ps = true → PSs X ps (tSl X.K cl c s)
  | .nil, X, p, ps, ok, h => by
    unfold chkSs at h
    split at h
    · exact ss_nil
    · cases h
  | .cons s ss, X, p, ps, ok, h => by
    unfold chkSs at h
    split at h
    · simp only [Bool.and_eq_true] at h
      exact ss_cons (St_ok s ok h.1) (Sl_ok ss ok h.2)
    · cases h
end
end
end Itp

namespace Itp
open PySem L2
/-! ### defs of the text keep what the interpreter tells -/
structure DefOk (K : PySem.W.Frag) (Δ : Table) (g : G) (f : Nat) (x qx : Str) (ps : List Str) (a : Addr) (fd : FuncData) (st : Stmt) (N : List Str) (d : Def) : Prop where
  fn : Fun K x qx st a fd
  bd : Binds K fd ps []
  sc : FnScope N ps (defScope st)
  df : Δ f = some d
  ck : chkSs g ⟨N, defScope st, fun _ => true⟩ d.body (defBody st) = true
  np : d.np = ps.length
  ns : d.ns = N.length
  kw : KwOk g f ps fd
theorem start_rel {K : PySem.W.Frag} {cl : Nat → Addr} {μ : List Addr} {Z : Addr → Prop} {H : Hp} {xs : List Val} {vs : List V} {N : List Str} (r : RelL K cl μ Z H xs vs) : RelE K cl μ Z H (startE N.length xs) (L2.start N vs) := by
  unfold startE L2.start
  refine ⟨by simp [r.length], fun i v e => ?_⟩
  by_cases hi : i < xs.length
  · rw [List.getElem?_append_left (by simpa using hi), List.getElem?_map] at e
    cases q : xs[i]? with
    | none => rw [q] at e; cases e
    | some x =>
      rw [q] at e
      cases e
      obtain ⟨w, h1, h2⟩ := r.get q
      refine ⟨w, ?_, h2⟩
      rw [List.getElem?_append_left (by simpa [← r.length] using hi), List.getElem?_map, h1]
      rfl
  · rw [List.getElem?_append_right (by simpa using hi), List.getElem?_replicate] at e
    split at e <;> cases e
/-- what the text has: its defs, methods, classes -/
structure AllOk (K : PySem.W.Frag) (mg : Str → Option Value) (cl : Nat → Addr) (Δ : Table) (g : G) : Prop where
  hd : ∀ f x ps, g.fn f = some (x, ps) → ∃ a fd st N d, mg x = some (.ref a) ∧ DefOk K Δ g f x x ps a fd st N d
  hm : ∀ f k m ps, g.ms f = some (k, m, ps) → Cls K (cl k) ∧ ∃ a fd st N d q, Meth K (cl k) m a ∧ DefOk K Δ g f m q ps a fd st N d
  hk : ∀ f k x ps, g.ctr f = some (k, x, ps) → mg x = some (.ref (cl k)) ∧ ∃ a fd st N d q, Mk K (cl k) a ∧ DefOk K Δ g f "__init__" q ps a fd st N d
  hn : ∀ k f, g.na k f = true → Cls K (cl k) ∧ NoAttr K (cl k) f
  hb : ∀ x, g.bl.contains x = true → mg x = none
  hv : ∀ f ∈ g.fv, ∀ x ps, g.fn f = some (x, ps) → mg x = some (.ref (cl (1000 + f)))
  hc : ∀ q ∈ g.ct, ∃ u w, mg q.1 = some u ∧ RelV w u ∧ conV q.2 = some w
theorem fns_ok {P : Program} {w : World} {K : PySem.W.Frag} {mg : Str → Option Value} {base : Heap} {Δ : Table} {g : G} {cl : Nat → Addr} (T : AllOk K mg cl Δ g) (n : Nat) :
    ∀ {f : Nat} {x q : Str} {ps : List Str} {a : Addr} {fd : FuncData} {st : Stmt} {N : List Str} {d : Def}, DefOk K Δ g f x q ps a fd st N d → GFn P w K mg base n a fd ps (spC K cl (orc Δ n) f ps) := by
  induction n using Nat.strongRecOn with
  | ind n ih =>
    intro f x q ps a fd st N d h
    cases n with
    | zero => exact ⟨fun vs H Q E q => q.1, fun A outer s H args us vs Q E hr hgd he hbd hv hs => by
        obtain ⟨_, μ, Z, S, xs, v, S', sm, rl, ev, _⟩ := hs
        rw [orc_false, run_zero] at ev
        cases ev⟩
    | succ n =>
      refine GFn.by h.fn h.sc (fun vs H Q E q => q.1) fun cdv A outer s H vs Q E hr hgd hs => ?_
      refine ⟨tSl K cl (orc Δ n) d.body, Sl_ok (g := g) (cl := cl) (c := orc Δ n) (n := n) d.body (p := ⟨N, defScope st, fun _ => true⟩) ?_ h.ck, ?_⟩
      · refine ⟨rfl, rfl, rfl, rfl, h.sc.nd, rfl, hr, hgd, fun f' x' ps' hf' => ?_, fun f' k' m' ps' hf' => ?_, fun f' k' x' ps' hf' => ?_, T.hn, T.hv, T.hb, T.hc⟩
        · obtain ⟨a', fd', st', N', d', hmg, h'⟩ := T.hd f' x' ps' hf'
          exact ⟨a', fd', hmg, h'.fn.kp, h'.bd, ih n (Nat.lt_succ_self n) h', h'.kw⟩
        · obtain ⟨hcl, a', fd', st', N', d', q', hmt, h'⟩ := T.hm f' k' m' ps' hf'
          exact ⟨hcl, a', fd', hmt, h'.bd, ih n (Nat.lt_succ_self n) h'⟩
        · obtain ⟨hmg, a', fd', st', N', d', q', hmk, h'⟩ := T.hk f' k' x' ps' hf'
          refine ⟨hmg, a', fd', hmk, h'.bd, ?_⟩
          cases n with
          | zero => exact .inr fun vs S => rfl
          | succ n => exact .inl ⟨n, rfl, ih n (by omega) h'⟩
      · obtain ⟨hl, μ, Z, S, xs, v, S', sm, rl, ev, k⟩ := hs
        rw [orc_false, run_succ] at ev
        unfold runB at ev
        rw [h.df] at ev
        dsimp only at ev
        split at ev
        · obtain ⟨o, e1, ev⟩ := Option.bind_eq_some_iff.mp ev
          rw [h.ns] at e1
          refine ⟨μ, Z, S, startE N.length xs, o, sm, start_rel rl, e1, ?_⟩
          cases o with
          | rt u S1 => cases ev; exact fun μ' H' w st r => k μ' H' w st r
          | nx ρ S1 => cases ev; exact fun μ' H' σ' st r => k μ' H' .non st .non
          | bk ρ S1 => cases ev
          | ct ρ S1 => cases ev
        · cases ev
/-- the law's own promise, from its run -/
theorem law_sp {K : PySem.W.Frag} {cl : Nat → Addr} {Δ : Table} {n f : Nat} {x : Str} {H : Hp} {a : Addr} {ns : List Int} (hq : SqL K H a (ns.map V.int)) (h : ∃ S', run Δ n f [.sl (ns.map Val.int)] [] = some (.bl true, S')) :
    spC K cl (orc Δ n) f [x] [.ref a] H (fun v _ => v = .bl true) fun _ _ _ => False := by
  obtain ⟨S', h⟩ := h
  refine ⟨rfl, [], fun _ => False, [], [.sl (ns.map Val.int)], .bl true, S', ⟨rfl, List.nodup_nil, fun n a o h => by simp at h, fun a z => z.elim, fun a z => z.elim⟩, .cons (.sl (vs := ns.map V.int) ?_ ?_) .nil, h, fun μ' H' w st r => by cases r; rfl⟩
  · rcases hq with q | q
    · exact .inl ⟨by simp, fun z => z, q⟩
    · exact .inr q
  · have : ∀ ns : List Int, RelL K cl [] (fun _ => False) H (ns.map Val.int) (ns.map V.int) := by
      intro ns
      induction ns with
      | nil => exact .nil
      | cons m ns ih => exact .cons (.int m) ih
    exact this ns
/-- whatever addresses the classes have -/
def spL (K : PySem.W.Frag) (Δ : Table) (n f : Nat) (ps : List Str) : Sp := fun vs H Q E => ∀ cl : Nat → Addr, spC K cl (orc Δ n) f ps vs H Q E
theorem fn_all {P : Program} {w : World} {K : PySem.W.Frag} {mg : Str → Option Value} {base : Heap} {Δ : Table} {n f : Nat} {ps : List Str} {a : Addr} {fd : FuncData} {cl : Nat → Addr} (F : GFn P w K mg base n a fd ps (spC K cl (orc Δ n) f ps)) : GFn P w K mg base n a fd ps (spL K Δ n f ps) :=
  ⟨fun vs H Q E q => F.1 vs H Q E (q cl), fun A outer s H args us vs Q E hr hgd he hbd hv hs => F.2 A outer s H args us vs Q E hr hgd he hbd hv (hs cl)⟩
end Itp

namespace Itp
open PySem L2
/-! ### rules for runs of the interpreter -/
section
variable {c : Oracle} {ρ ρ1 ρ2 : Env} {S S0 S1 S2 S3 : Store} {a b d t e : E} {v w x y z : Val} {i j : Int}
theorem ev_var {k : Nat} (h : ρ[k]? = some (some v)) : evE c (.var k) ρ S = some (v, S) := by unfold evE; rw [h]
theorem ev_con : evE c (.con v) ρ S = some (v, S) := by unfold evE; rfl
theorem ev_glo {n : Str} : evE c (.glo n v) ρ S = some (v, S) := by unfold evE; rfl
theorem ev_bin {o : BOp} (ha : evE c a ρ S = some (x, S1)) (hb : evE c b ρ S1 = some (y, S2)) (h : binSem S2 o x y = some z) : evE c (.bin o a b) ρ S = some (z, S2) := by
  unfold evE; rw [ha, Option.bind_some]; show (evE c b ρ S1).bind _ = _; rw [hb, Option.bind_some]; show (binSem S2 o x y).map _ = _; rw [h]; rfl
theorem ev_neg (ha : evE c a ρ S = some (.int i, S1)) : evE c (.neg a) ρ S = some (.int (-i), S1) := by unfold evE; rw [ha]; rfl
theorem ev_cmp {o : COp} {k : Bool} (ha : evE c a ρ S = some (x, S1)) (hb : evE c b ρ S1 = some (y, S2)) (h : cmpSem S2 o x y = some k) : evE c (.cmp o a b) ρ S = some (.bl k, S2) := by
  unfold evE; rw [ha, Option.bind_some]; show (evE c b ρ S1).bind _ = _; rw [hb, Option.bind_some]; show (cmpSem S2 o x y).map _ = _; rw [h]; rfl
/-- a chain of comparisons of ints whose third part is evaluated in any case -/
theorem ev_chain {o o' : COp} {k k' : Bool} (ha : evE c a ρ S = some (x, S1)) (hb : evE c b ρ S1 = some (y, S2)) (h : cmpSem S2 o x y = some k) (hd : evE c d ρ S2 = some (z, S2)) (h' : cmpSem S2 o' y z = some k') : evE c (.chain o o' a b d) ρ S = some (.bl (k && k'), S2) := by
  unfold evE; rw [ha, Option.bind_some]; show (evE c b ρ S1).bind _ = _; rw [hb, Option.bind_some]; show (cmpSem S2 o x y).bind _ = _; rw [h, Option.bind_some]
  cases k with
  | true => rw [if_pos rfl, hd, Option.bind_some]; show (cmpSem S2 o' y z).map _ = _; rw [h']; rfl
  | false => rfl
theorem ev_and {k k' : Bool} (ha : evE c a ρ S = some (.bl k, S1)) (hb : k = true → evE c b ρ S1 = some (.bl k', S1)) : evE c (.and a b) ρ S = some (.bl (k && k'), S1) := by
  unfold evE; rw [ha, Option.bind_some]
  cases k with
  | true => exact hb rfl
  | false => rfl
theorem ev_or {k k' : Bool} (ha : evE c a ρ S = some (.bl k, S1)) (hb : k = false → evE c b ρ S1 = some (.bl k', S1)) : evE c (.or a b) ρ S = some (.bl (k || k'), S1) := by
  unfold evE; rw [ha, Option.bind_some]
  cases k with
  | true => rfl
  | false => exact hb rfl
theorem ev_one (ha : evE c a ρ S = some (v, S1)) : evE c (.one a) ρ S = some (v, S1) := by unfold evE; exact ha
theorem ev_not {k : Bool} (ha : evE c a ρ S = some (.bl k, S1)) : evE c (.not a) ρ S = some (.bl (!k), S1) := by unfold evE; rw [ha]; rfl
theorem ev_ifT (ht : evE c t ρ S = some (.bl true, S1)) (ha : evE c a ρ S1 = some (v, S2)) : evE c (.ifx t a b) ρ S = some (v, S2) := by unfold evE; rw [ht]; exact ha
theorem ev_ifF (ht : evE c t ρ S = some (.bl false, S1)) (hb : evE c b ρ S1 = some (v, S2)) : evE c (.ifx t a b) ρ S = some (v, S2) := by unfold evE; rw [ht]; exact hb
theorem ev_if {k : Bool} (ht : evE c t ρ S = some (.bl k, S1)) (ha : k = true → evE c a ρ S1 = some (v, S1)) (hb : k = false → evE c b ρ S1 = some (w, S1)) : evE c (.ifx t a b) ρ S = some (if k = true then v else w, S1) := by
  cases k with
  | true => rw [if_pos rfl]; exact ev_ifT ht (ha rfl)
  | false => rw [if_neg Bool.false_ne_true]; exact ev_ifF ht (hb rfl)
theorem el_nil : evL c .nil ρ S = some ([], S) := by unfold evL; rfl
theorem el_cons {es : EL} {vs : List Val} (h : evE c e ρ S = some (v, S1)) (hs : evL c es ρ S1 = some (vs, S2)) : evL c (.cons e es) ρ S = some (v :: vs, S2) := by
  unfold evL; rw [h, Option.bind_some]; show (evL c es ρ S1).map _ = _; rw [hs]; rfl
theorem ev_lst {es : EL} {vs : List Val} (h : evL c es ρ S = some (vs, S1)) (hl : vs.length ≤ sizeLine) : evE c (.lst es) ρ S = some (.lv vs, S1) := by unfold evE; rw [h, Option.bind_some]; exact if_pos hl
theorem ev_tup {es : EL} {vs : List Val} (h : evL c es ρ S = some (vs, S1)) (hl : vs.length ≤ sizeLine) : evE c (.tup es) ρ S = some (.tup vs, S1) := by unfold evE; rw [h, Option.bind_some]; exact if_pos hl
theorem ev_idx (ha : evE c a ρ S = some (x, S1)) (hb : evE c b ρ S1 = some (y, S2)) (h : idxSem S2 x y = some z) : evE c (.idx a b) ρ S = some (z, S2) := by
  unfold evE; rw [ha, Option.bind_some]; show (evE c b ρ S1).bind _ = _; rw [hb, Option.bind_some]; show (idxSem S2 x y).map _ = _; rw [h]; rfl
theorem eo_none : evO c .none ρ S = some (none, S) := by unfold evO; rfl
theorem eo_some (h : evE c e ρ S = some (.int i, S1)) : evO c (.some e) ρ S = some (some i, S1) := by unfold evO; rw [h]; rfl
theorem ev_slc {lo hi : EO} {l h : Option Int} (ha : evE c a ρ S = some (x, S1)) (hl : evO c lo ρ S1 = some (l, S2)) (hh : evO c hi ρ S2 = some (h, S3)) (hz : slcSem S3 x l h = some z) : evE c (.slc a lo hi) ρ S = some (z, S3) := by
  unfold evE; rw [ha, Option.bind_some]; show (evO c lo ρ S1).bind _ = _; rw [hl, Option.bind_some]; show (evO c hi ρ S2).bind _ = _; rw [hh, Option.bind_some]; show (slcSem S3 x l h).map _ = _; rw [hz]; rfl
theorem ev_blt {k : Blt} {es : EL} {vs : List Val} (h : evL c es ρ S = some (vs, S1)) (hz : bltSem S1 k vs = some z) : evE c (.blt k es) ρ S = some (z, S1) := by
  unfold evE; rw [h, Option.bind_some]; show (bltSem S1 k vs).map _ = _; rw [hz]; rfl
theorem ev_isa {ts : List Ty} {k : Bool} (h : evE c e ρ S = some (x, S1)) (hz : isTys S1 x ts = some k) : evE c (.isa e ts) ρ S = some (.bl k, S1) := by
  unfold evE; rw [h, Option.bind_some]; show (isTys S1 x ts).map _ = _; rw [hz]; rfl
theorem ev_call {f : Nat} {es : EL} {vs : List Val} (h : evL c es ρ S = some (vs, S1)) (hc : c false f vs S1 = some (v, S2)) (hg : gc S1 v S2 = some (w, S3)) : evE c (.call false f es) ρ S = some (w, S3) := by
  unfold evE; rw [h, Option.bind_some]; show (c false f vs S1).bind _ = _; rw [hc, Option.bind_some]; exact hg
theorem ev_callR {f : Nat} {es : EL} {vs : List Val} (h : evL c es ρ S = some (vs, S1)) (hc : c false f vs S1 = some (v, S2)) : evE c (.call true f es) ρ S = some (v, S2) := by
  unfold evE; rw [h, Option.bind_some]; show (c false f vs S1).bind _ = _; rw [hc, Option.bind_some]; rfl
theorem ev_callK {f : Nat} {es ks : EL} {vs zs : List Val} {pm : List Nat} (h : evL c es ρ S = some (vs, S0)) (hk : evL c ks ρ S0 = some (zs, S1)) (hc : c false f (permL (vs ++ zs) pm) S1 = some (v, S2)) (hg : gc S1 v S2 = some (w, S3)) : evE c (.callK false f es ks pm) ρ S = some (w, S3) := by
  unfold evE; rw [h, Option.bind_some]; show (evL c ks ρ S0).bind _ = _; rw [hk, Option.bind_some]; show (c false f _ S1).bind _ = _; rw [hc, Option.bind_some]; exact hg
theorem ev_new {xs : List Val} (h : evE c e ρ S = some (.lv xs, S1)) : evE c (.new e) ρ S = some (.ref S1.length, S1 ++ [.lst xs]) := by unfold evE; rw [h]; rfl
/-- a comprehension whose parts leave the store as it is -/
theorem ev_lc {own : List Nat} {tg : T} {k : ItK} {es : EL} {cd : EO} {vs xs : List Val} (f : Val → List Val) (h : evL c es ρ S = some (vs, S1)) (hi : itemsOf S1 k vs = some xs)
    (hf : ∀ x ∈ xs, ∃ ρ' kk, bindT c tg x (wipeE ρ own) S1 = some (ρ', S1) ∧ evC c cd ρ' S1 = some (kk, S1) ∧ (if kk = true then ∃ y, evE c e ρ' S1 = some (y, S1) ∧ f x = [y] else f x = [])) (hl : (xs.flatMap f).length ≤ 1000000) :
    evE c (.lc own tg k es cd e) ρ S = some (.lv (xs.flatMap f), S1) := by
  unfold evE
  rw [h, Option.bind_some]
  show (itemsOf S1 k vs).bind _ = _
  rw [hi, Option.bind_some]
  have key : ∀ xs : List Val, (∀ x ∈ xs, ∃ ρ' kk, bindT c tg x (wipeE ρ own) S1 = some (ρ', S1) ∧ evC c cd ρ' S1 = some (kk, S1) ∧ (if kk = true then ∃ y, evE c e ρ' S1 = some (y, S1) ∧ f x = [y] else f x = [])) →
      mapG (refsOf vs) (fun x S' => (bindT c tg x (wipeE ρ own) S').bind fun (ρ', S2) => (evC c cd ρ' S2).bind fun (b, S3) =>
        if b = true then (evE c e ρ' S3).map fun (y, S4) => ([y], S4) else some ([], S3)) xs S1 = some (xs.flatMap f, S1) := by
    intro xs
    induction xs with
    | nil => intro _; rfl
    | cons x xs ih =>
      intro h
      obtain ⟨ρ', kk, h1, h2, h3⟩ := h x List.mem_cons_self
      unfold mapG
      rw [h1, Option.bind_some]
      have hk : Kept (refsOf vs) S1 S1 := fun _ _ => rfl
      have ih := ih fun x hx => h x (List.mem_cons_of_mem _ hx)
      cases kk with
      | true =>
        rw [if_pos rfl] at h3
        obtain ⟨y, h4, h5⟩ := h3
        simp only [h2, Option.bind_some, if_true, h4, Option.map_some, if_pos hk, ih, List.flatMap_cons, h5]
      | false =>
        rw [if_neg Bool.false_ne_true] at h3
        simp only [h2, Option.bind_some, Bool.false_eq_true, if_false, if_pos hk, ih, Option.map_some, List.flatMap_cons, h3]
  rw [key xs hf, Option.bind_some]
  exact if_pos hl
/-- a comprehension that may change the store -/
theorem ev_lcP {own : List Nat} {tg : T} {k : ItK} {es : EL} {cd : EO} {vs xs : List Val} (f : Nat → List Val) (P : Nat → Store → Prop) (h : evL c es ρ S = some (vs, S1)) (hi : itemsOf S1 k vs = some xs) (hr : refsOf vs = []) (h0 : P 0 S1)
    (hf : ∀ n x S', xs[n]? = some x → P n S' → ∃ ρ' S2 kk S3, bindT c tg x (wipeE ρ own) S' = some (ρ', S2) ∧ evC c cd ρ' S2 = some (kk, S3) ∧ (if kk = true then ∃ y S4, evE c e ρ' S3 = some (y, S4) ∧ f n = [y] ∧ P (n + 1) S4 else f n = [] ∧ P (n + 1) S3)) (hl : ((List.range xs.length).flatMap f).length ≤ 1000000) :
    ∃ S', evE c (.lc own tg k es cd e) ρ S = some (.lv ((List.range xs.length).flatMap f), S') ∧ P xs.length S' := by
  have key : ∀ (m n : Nat) S', m = xs.length - n → n ≤ xs.length → P n S' →
      ∃ S2, mapG (refsOf vs) (fun x S' => (bindT c tg x (wipeE ρ own) S').bind fun (ρ', S2) => (evC c cd ρ' S2).bind fun (b, S3) =>
        if b = true then (evE c e ρ' S3).map fun (y, S4) => ([y], S4) else some ([], S3)) (xs.drop n) S' = some ((List.range' n (xs.length - n)).flatMap f, S2) ∧ P xs.length S2 := by
    intro m
    induction m with
    | zero =>
      intro n S' hm hn p
      have e : n = xs.length := by omega
      subst e
      rw [List.drop_length, Nat.sub_self]
      exact ⟨S', by unfold mapG; rfl, p⟩
    | succ m ih =>
      intro n S' hm hn p
      have hlt : n < xs.length := by omega
      rw [List.drop_eq_getElem_cons hlt]
      obtain ⟨ρ', S2, kk, S3, h1, h2, h3⟩ := hf n _ S' (List.getElem?_eq_getElem hlt) p
      have hk : ∀ S3, Kept (refsOf vs) S' S3 := fun S3 k hk => by rw [hr] at hk; cases hk
      have hrg : List.range' n (xs.length - n) = n :: List.range' (n + 1) (xs.length - (n + 1)) := by
        rw [show xs.length - n = (xs.length - (n + 1)) + 1 by omega, List.range'_succ]
      cases kk with
      | true =>
        rw [if_pos rfl] at h3
        obtain ⟨y, S4, h4, h5, h6⟩ := h3
        obtain ⟨S5, h7, h8⟩ := ih (n + 1) S4 (by omega) (by omega) h6
        refine ⟨S5, ?_, h8⟩
        unfold mapG
        simp only [h1, Option.bind_some, h2, if_true, h4, Option.map_some, if_pos (hk S4), h7, hrg, List.flatMap_cons, h5]
      | false =>
        rw [if_neg Bool.false_ne_true] at h3
        obtain ⟨h5, h6⟩ := h3
        obtain ⟨S5, h7, h8⟩ := ih (n + 1) S3 (by omega) (by omega) h6
        refine ⟨S5, ?_, h8⟩
        unfold mapG
        simp only [h1, Option.bind_some, h2, Bool.false_eq_true, if_false, Option.map_some, if_pos (hk S3), h7, hrg, List.flatMap_cons, h5]
  obtain ⟨S2, h1, h2⟩ := key xs.length 0 S1 (by simp) (Nat.zero_le _) h0
  refine ⟨S2, ?_, h2⟩
  rw [List.drop_zero, Nat.sub_zero, ← List.range_eq_range'] at h1
  unfold evE
  rw [h, Option.bind_some]
  show (itemsOf S1 k vs).bind _ = _
  rw [hi, Option.bind_some, h1, Option.bind_some]
  exact if_pos hl
theorem ec_none : evC c .none ρ S = some (true, S) := by unfold evC; rfl
theorem ec_some {k : Bool} (h : evE c e ρ S = some (.bl k, S1)) : evC c (.some e) ρ S = some (k, S1) := by unfold evC; rw [h]; rfl
theorem bt_nm {k : Nat} : bindT c (.nm k) v ρ S = some (ρ.set k (some v), S) := by unfold bindT; rfl
theorem bt_tp {ts : TL} {xs : List Val} (h : unpack S ts.len v = some xs) (hs : bindTs c ts xs ρ S = some (ρ1, S1)) : bindT c (.tp ts) v ρ S = some (ρ1, S1) := by unfold bindT; rw [h]; exact hs
theorem bt_sub (ha : evE c a ρ S = some (x, S1)) (hb : evE c b ρ S1 = some (y, S2)) (h : setSem S2 x y v = some S3) : bindT c (.sub a b) v ρ S = some (ρ, S3) := by
  unfold bindT; rw [ha, Option.bind_some]; show (evE c b ρ S1).bind _ = _; rw [hb, Option.bind_some]; show (setSem S2 x y v).map _ = _; rw [h]; rfl
theorem bts_nil : bindTs c .nil [] ρ S = some (ρ, S) := by unfold bindTs; rfl
theorem bts_cons {tg : T} {ts : TL} {vs : List Val} (h : bindT c tg v ρ S = some (ρ1, S1)) (hs : bindTs c ts vs ρ1 S1 = some (ρ2, S2)) : bindTs c (.cons tg ts) (v :: vs) ρ S = some (ρ2, S2) := by unfold bindTs; rw [h]; exact hs

/-! operators by their operands -/
theorem bs_add : binSem S .add (.int i) (.int j) = some (.int (i + j)) := rfl
theorem bs_sub : binSem S .sub (.int i) (.int j) = some (.int (i - j)) := rfl
theorem bs_mul (h : MulOk i j) : binSem S .mul (.int i) (.int j) = some (.int (i * j)) := if_pos h
theorem bs_fdiv (h : CDivW i j) : binSem S .fdiv (.int i) (.int j) = some (.int (i / j)) := if_pos h
theorem bs_mod (h : 0 < j) : binSem S .mod (.int i) (.int j) = some (.int (i % j)) := if_pos h
theorem bs_pow (h : CPow i j) : binSem S .pow (.int i) (.int j) = some (.int (i ^ j.toNat)) := if_pos h
theorem bs_cat {xs ys : List Val} (h : xs.length + ys.length ≤ sizeLine) : binSem S .add (.lv xs) (.lv ys) = some (.lv (xs ++ ys)) := if_pos h
theorem bs_rep {xs : List Val} {k : Int} (h : -2 ^ 63 ≤ k ∧ k < 2 ^ 63 ∧ xs.length * k.toNat ≤ sizeLine) : binSem S .mul (.lv xs) (.int k) = some (.lv (List.replicate k.toNat xs).flatten) := if_pos h
theorem idx_ref {m : Nat} {xs : List Val} {k : Int} (h : S[m]? = some (.lst xs)) (ha : atI xs k = some v) : idxSem S (.ref m) (.int k) = some v := by
  unfold idxSem seqOf; simp only [h, Option.bind_some]; exact ha
theorem idx_tup {xs : List Val} {k : Int} (ha : atI xs k = some v) : idxSem S (.tup xs) (.int k) = some v := ha
theorem idx_lv {xs : List Val} {k : Int} (ha : atI xs k = some v) : idxSem S (.lv xs) (.int k) = some v := ha
theorem set_ref {m j : Nat} {xs : List Val} {k : Int} (h : S[m]? = some (.lst xs)) (ha : ixN xs.length k = some j) : setSem S (.ref m) (.int k) v = some (S.set m (.lst (xs.set j v))) := by
  unfold setSem; simp only [h, ha, Option.map_some]
theorem cs_lt : cmpSem S .lt (.int i) (.int j) = some (decide (i < j)) := rfl
theorem cs_le : cmpSem S .le (.int i) (.int j) = some (decide (i ≤ j)) := rfl
theorem cs_gt : cmpSem S .gt (.int i) (.int j) = some (decide (j < i)) := rfl
theorem cs_ge : cmpSem S .ge (.int i) (.int j) = some (decide (j ≤ i)) := rfl
theorem cs_eqI : cmpSem S .eq (.int i) (.int j) = some (decide (i = j)) := rfl
theorem cs_neI : cmpSem S .ne (.int i) (.int j) = some (!decide (i = j)) := rfl
theorem cs_eqB {k l : Bool} : cmpSem S .eq (.bl k) (.bl l) = some (decide (k = l)) := rfl
theorem cs_neB {k l : Bool} : cmpSem S .ne (.bl k) (.bl l) = some (!decide (k = l)) := rfl
theorem cs_isI : cmpSem S .is (.int i) .non = some false := rfl
theorem cs_isN : cmpSem S .is .non .non = some true := rfl
theorem cs_notI : cmpSem S .isnot (.int i) .non = some true := rfl
theorem cs_notN : cmpSem S .isnot .non .non = some false := rfl

/-! ### statements: what holds behind a block -/
def Runs (c : Oracle) (ss : SL) (ρ : Env) (S : Store) (Q : Out → Prop) : Prop := ∃ o, exL c ss ρ S = some o ∧ Q o
variable {Q : Out → Prop} {ss : SL}
theorem r_nil (h : Q (.nx ρ S)) : Runs c .nil ρ S Q := ⟨_, by unfold exL; rfl, h⟩
theorem r_st {s : St} {ρ1 : Env} (hs : exS c s ρ S = some (.nx ρ1 S1)) (h : Runs c ss ρ1 S1 Q) : Runs c (.cons s ss) ρ S Q := by
  obtain ⟨o, h1, h2⟩ := h
  exact ⟨o, by unfold exL; rw [hs]; exact h1, h2⟩
theorem r_asg {tg : T} (he : evE c e ρ S = some (v, S1)) (hb : bindT c tg v ρ S1 = some (ρ1, S2)) (h : Runs c ss ρ1 S2 Q) : Runs c (.cons (.asg tg e) ss) ρ S Q :=
  r_st (by unfold exS; rw [he, Option.bind_some]; show (bindT c tg v ρ S1).map _ = _; rw [hb]; rfl) h
theorem r_set {k : Nat} (he : evE c e ρ S = some (v, S1)) (h : Runs c ss (ρ.set k (some v)) S1 Q) : Runs c (.cons (.asg (.nm k) e) ss) ρ S Q := r_asg he bt_nm h
theorem r_par {is : List Nat} {es : EL} {vs : List Val} (he : evL c es ρ S = some (vs, S1)) (hl : vs.length = is.length) (h : Runs c ss (setAll ρ is vs) S1 Q) : Runs c (.cons (.par is es) ss) ρ S Q :=
  r_st (by unfold exS; rw [he, Option.bind_some]; exact if_pos hl) h
theorem r_augA {k : Nat} (hx : ρ[k]? = some (some (.int i))) (he : evE c e ρ S = some (.int j, S1)) (h : Runs c ss (ρ.set k (some (.int (i + j)))) S1 Q) : Runs c (.cons (.aug k .add e) ss) ρ S Q :=
  r_st (by unfold exS; rw [hx]; show (evE c e ρ S).bind _ = _; rw [he]; rfl) h
theorem r_augS {k : Nat} (hx : ρ[k]? = some (some (.int i))) (he : evE c e ρ S = some (.int j, S1)) (h : Runs c ss (ρ.set k (some (.int (i - j)))) S1 Q) : Runs c (.cons (.aug k .sub e) ss) ρ S Q :=
  r_st (by unfold exS; rw [hx]; show (evE c e ρ S).bind _ = _; rw [he]; rfl) h
theorem r_app {n : Nat} {xs : List Val} (ha : evE c a ρ S = some (.ref n, S1)) (h1 : ∃ ys, S1[n]? = some (.lst ys)) (he : evE c e ρ S1 = some (v, S2)) (h2 : S2[n]? = some (.lst xs)) (hl : xs.length < sizeLine) (h : Runs c ss ρ (S2.set n (.lst (xs ++ [v]))) Q) : Runs c (.cons (.app a e) ss) ρ S Q := by
  refine r_st ?_ h
  obtain ⟨ys, h1⟩ := h1
  unfold exS; rw [ha, Option.bind_some]
  show (lstOf S1 (.ref n)).bind _ = _
  have : lstOf S1 (.ref n) = some ys := by unfold lstOf; simp only [h1]
  rw [this, Option.bind_some]
  show (evE c e ρ S1).bind _ = _
  rw [he, Option.bind_some]
  simp only [h2, if_pos hl]
theorem r_ret (he : evE c e ρ S = some (v, S1)) (h : Q (.rt v S1)) : Runs c (.cons (.ret e) ss) ρ S Q :=
  ⟨_, by unfold exL exS; rw [he]; rfl, h⟩
theorem r_retN (h : Q (.rt .non S)) : Runs c (.cons .retN ss) ρ S Q := ⟨_, by unfold exL exS; rfl, h⟩
theorem r_pass (h : Runs c ss ρ S Q) : Runs c (.cons .pass ss) ρ S Q := r_st (by unfold exS; rfl) h
/-- what follows a block -/
def Then (c : Oracle) (ss : SL) (Q : Out → Prop) : Out → Prop
  | .nx ρ S => Runs c ss ρ S Q
  | o => Q o
theorem r_sub {s : St} {A B : SL} (hs : ∀ o, exL c A ρ S = some o → exS c s ρ S0 = some o) (h : Runs c A ρ S (Then c ss Q)) : Runs c (.cons s ss) ρ S0 Q := by
  obtain ⟨o, h1, h2⟩ := h
  have h3 := hs o h1
  cases o with
  | nx ρ1 S1 =>
    obtain ⟨o', h4, h5⟩ := h2
    exact ⟨o', by unfold exL; rw [h3]; exact h4, h5⟩
  | bk ρ1 S1 => exact ⟨_, by unfold exL; rw [h3]; rfl, h2⟩
  | ct ρ1 S1 => exact ⟨_, by unfold exL; rw [h3]; rfl, h2⟩
  | rt w S1 => exact ⟨_, by unfold exL; rw [h3]; rfl, h2⟩
theorem r_ite {k : Bool} {A B : SL} (ht : evE c t ρ S = some (.bl k, S1)) (h1 : k = true → Runs c A ρ S1 (Then c ss Q)) (h2 : k = false → Runs c B ρ S1 (Then c ss Q)) : Runs c (.cons (.ite t A B) ss) ρ S Q := by
  cases k with
  | true => exact r_sub (B := .nil) (fun o h => by unfold exS; rw [ht]; exact h) (h1 rfl)
  | false => exact r_sub (B := .nil) (fun o h => by unfold exS; rw [ht]; exact h) (h2 rfl)
/-- a target bound, then a block -/
def RunsB (c : Oracle) (tg : T) (x : Val) (B : SL) (ρ : Env) (S : Store) (Q : Out → Prop) : Prop := ∃ ρ2 S2, bindT c tg x ρ S = some (ρ2, S2) ∧ Runs c B ρ2 S2 Q
theorem rb {tg : T} {B : SL} (hb : bindT c tg x ρ S = some (ρ2, S2)) (h : Runs c B ρ2 S2 Q) : RunsB c tg x B ρ S Q := ⟨ρ2, S2, hb, h⟩
/-- a for whose walked things are values: an invariant by the number of items gone through -/
theorem r_for {tg : T} {k : ItK} {es : EL} {B : SL} {vs xs : List Val} (P : Nat → Env → Store → Prop) (he : evL c es ρ S = some (vs, S1)) (hi : itemsOf S1 k vs = some xs) (hr : refsOf vs = []) (h0 : P 0 ρ S1)
    (hs : ∀ n x ρ' S', xs[n]? = some x → P n ρ' S' → RunsB c tg x B ρ' S' (fun o => match o with
      | .nx ρ3 S3 => P (n + 1) ρ3 S3
      | .ct ρ3 S3 => P (n + 1) ρ3 S3
      | .bk ρ3 S3 => Runs c ss ρ3 S3 Q
      | .rt v S3 => Q (.rt v S3)))
    (hd : ∀ ρ' S', P xs.length ρ' S' → Runs c ss ρ' S' Q) : Runs c (.cons (.for tg k es B) ss) ρ S Q := by
  have key : ∀ (m n : Nat) ρ' S', m = xs.length - n → n ≤ xs.length → P n ρ' S' → ∃ o, forG (refsOf vs) (fun x ρ S => bindT c tg x ρ S) (fun ρ S => exL c B ρ S) (xs.drop n) ρ' S' = some o ∧ Then c ss Q o := by
    intro m
    induction m with
    | zero =>
      intro n ρ' S' hm hn p
      have e : n = xs.length := by omega
      subst e
      rw [List.drop_length]
      exact ⟨.nx ρ' S', by unfold forG; rfl, hd ρ' S' p⟩
    | succ m ih =>
      intro n ρ' S' hm hn p
      have hlt : n < xs.length := by omega
      rw [List.drop_eq_getElem_cons hlt]
      obtain ⟨ρ2, S2, h1, o, h2, h3⟩ := hs n _ ρ' S' (List.getElem?_eq_getElem hlt) p
      unfold forG
      have hk : ∀ S3, Kept (refsOf vs) S' S3 := fun S3 k hk => by rw [hr] at hk; cases hk
      simp only [h1, Option.bind_some, h2]
      cases o with
      | nx ρ3 S3 => simp only [if_pos (hk S3)]; exact ih (n + 1) ρ3 S3 (by omega) (by omega) h3
      | ct ρ3 S3 => simp only [if_pos (hk S3)]; exact ih (n + 1) ρ3 S3 (by omega) (by omega) h3
      | bk ρ3 S3 => exact ⟨_, rfl, h3⟩
      | rt v S3 => exact ⟨_, rfl, h3⟩
  obtain ⟨o, h1, h2⟩ := key xs.length 0 ρ S1 (by simp) (Nat.zero_le _) h0
  rw [List.drop_zero] at h1
  have h3 : exS c (.for tg k es B) ρ S = some o := by
    unfold exS; rw [he, Option.bind_some]; show (itemsOf S1 k vs).bind _ = _; rw [hi, Option.bind_some]; exact h1
  cases o with
  | nx ρ1 S1 =>
    obtain ⟨o', h4, h5⟩ := h2
    exact ⟨o', by unfold exL; rw [h3]; exact h4, h5⟩
  | bk ρ1 S1 => exact ⟨_, by unfold exL; rw [h3]; rfl, h2⟩
  | ct ρ1 S1 => exact ⟨_, by unfold exL; rw [h3]; rfl, h2⟩
  | rt w S1 => exact ⟨_, by unfold exL; rw [h3]; rfl, h2⟩
/-- a while by a number that falls, below the fuel -/
theorem r_whl {B : SL} (P : Nat → Env → Store → Prop) (m0 : Nat) (hm : m0 < fuel) (h0 : P m0 ρ S)
    (hs : ∀ m ρ' S', P m ρ' S' → ∃ k S1, evE c t ρ' S' = some (.bl k, S1) ∧ (k = true → Runs c B ρ' S1 (fun o => match o with
      | .nx ρ3 S3 => ∃ m', m' < m ∧ P m' ρ3 S3
      | .ct ρ3 S3 => ∃ m', m' < m ∧ P m' ρ3 S3
      | .bk ρ3 S3 => Runs c ss ρ3 S3 Q
      | .rt v S3 => Q (.rt v S3))) ∧ (k = false → Runs c ss ρ' S1 Q)) : Runs c (.cons (.whl t B) ss) ρ S Q := by
  have key : ∀ (f m : Nat) ρ' S', m < f → P m ρ' S' → ∃ o, whileG (fun ρ S => (evE c t ρ S).bind fun (x, S1) => match x with
      | .bl b => some (b, S1)
      | _ => none) (fun ρ S => exL c B ρ S) f ρ' S' = some o ∧ Then c ss Q o := by
    intro f
    induction f with
    | zero => intro m _ _ h; omega
    | succ f ih =>
      intro m ρ' S' hmf p
      obtain ⟨k, S1, h1, h2, h3⟩ := hs m ρ' S' p
      unfold whileG
      simp only [h1, Option.bind_some]
      cases k with
      | true =>
        obtain ⟨o, h4, h5⟩ := h2 rfl
        simp only [if_true, h4, Option.bind_some]
        cases o with
        | nx ρ3 S3 => obtain ⟨m', h6, h7⟩ := h5; exact ih m' ρ3 S3 (by omega) h7
        | ct ρ3 S3 => obtain ⟨m', h6, h7⟩ := h5; exact ih m' ρ3 S3 (by omega) h7
        | bk ρ3 S3 => exact ⟨_, rfl, h5⟩
        | rt v S3 => exact ⟨_, rfl, h5⟩
      | false => exact ⟨_, rfl, h3 rfl⟩
  obtain ⟨o, h1, h2⟩ := key fuel m0 ρ S hm h0
  have h3 : exS c (.whl t B) ρ S = some o := by unfold exS; exact h1
  cases o with
  | nx ρ1 S1 =>
    obtain ⟨o', h4, h5⟩ := h2
    exact ⟨o', by unfold exL; rw [h3]; exact h4, h5⟩
  | bk ρ1 S1 => exact ⟨_, by unfold exL; rw [h3]; rfl, h2⟩
  | ct ρ1 S1 => exact ⟨_, by unfold exL; rw [h3]; rfl, h2⟩
  | rt w S1 => exact ⟨_, by unfold exL; rw [h3]; rfl, h2⟩
end
/-- a def's run by its body -/
theorem run_of {Δ : Table} {n f np ns : Nat} {body : SL} {vs : List Val} {S S' : Store} {v : Val} (hd : Δ f = some ⟨np, ns, body⟩) (hl : vs.length = np) (hn : Nat.ble np ns = true)
    (h : Runs (orc Δ n) body (startE ns vs) S (fun o => o = .rt v S')) : run Δ (n + 1) f vs S = some (v, S') := by
  obtain ⟨o, h1, rfl⟩ := h
  rw [run_succ]; unfold runB
  simp only [hd, if_pos (show vs.length = np ∧ np ≤ ns from ⟨hl, Nat.le_of_ble_eq_true hn⟩), h1, Option.bind_some]
/-- a def that falls off its end -/
theorem run_ofN {Δ : Table} {n f np ns : Nat} {body : SL} {vs : List Val} {S S' : Store} (hd : Δ f = some ⟨np, ns, body⟩) (hl : vs.length = np) (hn : Nat.ble np ns = true)
    (h : Runs (orc Δ n) body (startE ns vs) S (fun o => ∃ ρ, o = .nx ρ S')) : run Δ (n + 1) f vs S = some (.non, S') := by
  obtain ⟨o, h1, ρ, rfl⟩ := h
  rw [run_succ]; unfold runB
  simp only [hd, if_pos (show vs.length = np ∧ np ≤ ns from ⟨hl, Nat.le_of_ble_eq_true hn⟩), h1, Option.bind_some]
/-- a def's run, told by what holds of its end -/
theorem run_ex {Δ : Table} {n f np ns : Nat} {body : SL} {vs : List Val} {S : Store} {P : Val → Store → Prop} (hd : Δ f = some ⟨np, ns, body⟩) (hl : vs.length = np) (hn : Nat.ble np ns = true)
    (h : Runs (orc Δ n) body (startE ns vs) S (fun o => ∃ v S', o = .rt v S' ∧ P v S')) : ∃ v S', run Δ (n + 1) f vs S = some (v, S') ∧ P v S' := by
  obtain ⟨o, h1, v, S', rfl, hp⟩ := h
  refine ⟨v, S', ?_, hp⟩
  rw [run_succ]; unfold runB
  simp only [hd, if_pos (show vs.length = np ∧ np ≤ ns from ⟨hl, Nat.le_of_ble_eq_true hn⟩), h1, Option.bind_some]

/-! ### leaving a def -/
theorem gc_of {S S' : Store} {v : Val} (h : GcOk S S') (hf : v.fits S.length = true) : gc S v S' = some (v, S'.take S.length) := by
  unfold gc
  rw [if_pos h]
  have : reify S' S.length 8 v = some v := by unfold reify; rw [if_pos hf]
  rw [this]; rfl
theorem gc_same {S : Store} {v : Val} (hf : v.fits S.length = true) : gc S v S = some (v, S) := by
  rw [gc_of ⟨Nat.le_refl _, fun i o _ h => .inl h⟩ hf, List.take_length]
theorem gc_app {S G : Store} {v : Val} (hf : v.fits S.length = true) : gc S v (S ++ G) = some (v, S) := by
  rw [gc_of ⟨by simp, fun i o hi h => .inl (by rw [List.getElem?_append_left hi] at h; exact h)⟩ hf, List.take_left']
  rfl
theorem reify_fits {S : Store} {k f : Nat} {v : Val} (h : v.fits k = true) : reify S k f v = some v := by
  cases f <;> (unfold reify; rw [if_pos h])
theorem reifyL_fits {S : Store} {k f : Nat} : ∀ {xs : List Val}, fitsL k xs = true → reifyL S k (f + 1) xs = some xs
  | [], _ => by unfold reifyL; rfl
  | x :: xs, h => by
    unfold fitsL at h
    rw [Bool.and_eq_true] at h
    unfold reifyL
    rw [reify_fits h.1, Option.bind_some, reifyL_fits h.2]; rfl
/-- a list made in the def becomes a value -/
theorem gc_lst {S G : Store} {xs : List Val} {n : Nat} (hn : n = S.length) (hg : G[0]? = some (.lst xs)) (hf : fitsL S.length xs = true) : gc S (.ref n) (S ++ G) = some (.lv xs, S) := by
  subst hn
  unfold gc
  rw [if_pos ⟨by simp, fun i o hi h => .inl (by rw [List.getElem?_append_left hi] at h; exact h)⟩]
  have h1 : Val.fits S.length (.ref S.length) = false := by unfold Val.fits; exact decide_eq_false (Nat.lt_irrefl _)
  have h2 : (S ++ G)[S.length]? = some (.lst xs) := by rw [List.getElem?_append_right (Nat.le_refl _), Nat.sub_self]; exact hg
  have h3 : reify (S ++ G) S.length 8 (.ref S.length) = some (.lv xs) := by
    unfold reify
    rw [if_neg (by rw [h1]; decide)]
    simp only [h2]
    rw [reifyL_fits hf]; rfl
  rw [h3, List.take_left' rfl]; rfl
end Itp

namespace Itp
open PySem L2
/-! sizes -/
theorem mul_l {i j : Int} (h1 : -(2 ^ 64) < i) (h2 : i < 2 ^ 64) : MulOk i j := .inl (.inl ⟨h1, h2⟩)
theorem mul_r {i j : Int} (h1 : -(2 ^ 64) < j) (h2 : j < 2 ^ 64) : MulOk i j := .inl (.inr ⟨h1, h2⟩)
theorem log2_of {j : Int} {b : Nat} (h0 : 0 < b) (h : j.natAbs < 2 ^ b) : j.natAbs.log2 < b := PySem.Flt.log2_lt_of h0 h
theorem divw {i j : Int} (h : 0 < j) (h2 : j < 2 ^ 900) : CDivW i j := ⟨h, Nat.lt_of_lt_of_le (log2_of (b := 900) (by decide) (by
  have h3 : ((2 ^ 900 : Nat) : Int) = (2 : Int) ^ 900 := by norm_cast
  omega)) (by decide)⟩
theorem divp {i j : Int} (h : 0 < j) (h2 : j < 2 ^ 900) : CDivP i j := ⟨h, PyProof.noPylong_of_log2 (divw (i := i) h h2).2⟩
theorem mulw {i j : Int} (h1 : i.natAbs < 2 ^ 4000) (h2 : j.natAbs < 2 ^ 4000) : MulOk i j := .inr (wide_mul h1 h2 (by decide) (by decide) (by decide))
end Itp

namespace Itp
open PySem L2
/-! ### what holds behind an evaluation -/
def EV (c : Oracle) (e : E) (ρ : Env) (S : Store) (Q : Val → Store → Prop) : Prop := ∃ v S', evE c e ρ S = some (v, S') ∧ Q v S'
def EVL (c : Oracle) (e : EL) (ρ : Env) (S : Store) (Q : List Val → Store → Prop) : Prop := ∃ v S', evL c e ρ S = some (v, S') ∧ Q v S'
def EVO (c : Oracle) (e : EO) (ρ : Env) (S : Store) (Q : Option Int → Store → Prop) : Prop := ∃ v S', evO c e ρ S = some (v, S') ∧ Q v S'
def EVC (c : Oracle) (e : EO) (ρ : Env) (S : Store) (Q : Bool → Store → Prop) : Prop := ∃ v S', evC c e ρ S = some (v, S') ∧ Q v S'
def BT (c : Oracle) (t : T) (v : Val) (ρ : Env) (S : Store) (Q : Env → Store → Prop) : Prop := ∃ ρ' S', bindT c t v ρ S = some (ρ', S') ∧ Q ρ' S'
def BTs (c : Oracle) (t : TL) (v : List Val) (ρ : Env) (S : Store) (Q : Env → Store → Prop) : Prop := ∃ ρ' S', bindTs c t v ρ S = some (ρ', S') ∧ Q ρ' S'
def OP {α : Type} (o : Option α) (Q : α → Prop) : Prop := ∃ z, o = some z ∧ Q z
def CALL (c : Oracle) (f : Nat) (vs : List Val) (S : Store) (Q : Val → Store → Prop) : Prop := ∃ v S1 w S2, c false f vs S = some (v, S1) ∧ gc S v S1 = some (w, S2) ∧ Q w S2
def CALLR (c : Oracle) (f : Nat) (vs : List Val) (S : Store) (Q : Val → Store → Prop) : Prop := ∃ v S1, c false f vs S = some (v, S1) ∧ Q v S1
def BR (x : Val) (A B : Prop) : Prop := ∃ k, x = .bl k ∧ (k = true → A) ∧ (k = false → B)
def NEW (x : Val) (S1 : Store) (Q : Val → Store → Prop) : Prop := ∃ xs, x = .lv xs ∧ Q (.ref S1.length) (S1 ++ [.lst xs])
def PUT (S2 : Store) (n : Nat) (v : Val) (P : Store → Prop) : Prop := ∃ xs, S2[n]? = some (.lst xs) ∧ xs.length < sizeLine ∧ P (S2.set n (.lst (xs ++ [v])))
def NUM (x : Val) (A : Int → Prop) : Prop := ∃ k, x = .int k ∧ A k
section
variable {c : Oracle} {ρ ρ1 ρ2 : Env} {S S0 S1 S2 S3 : Store} {a b d t e : E} {v w x y z : Val} {i j : Int} {Q : Val → Store → Prop}
theorem w_var {k : Nat} (h : ρ[k]? = some (some v)) (q : Q v S) : EV c (.var k) ρ S Q := ⟨v, S, ev_var h, q⟩
theorem w_con (q : Q v S) : EV c (.con v) ρ S Q := ⟨v, S, ev_con, q⟩
theorem w_glo {n : Str} (q : Q v S) : EV c (.glo n v) ρ S Q := ⟨v, S, ev_glo, q⟩
theorem w_bin {o : BOp} (h : EV c a ρ S fun x S1 => EV c b ρ S1 fun y S2 => OP (binSem S2 o x y) fun z => Q z S2) : EV c (.bin o a b) ρ S Q := by
  obtain ⟨x, S1, h1, y, S2, h2, z, h3, h4⟩ := h
  exact ⟨z, S2, ev_bin h1 h2 h3, h4⟩
theorem w_neg (h : EV c a ρ S fun x S1 => NUM x fun i => Q (.int (-i)) S1) : EV c (.neg a) ρ S Q := by
  obtain ⟨x, S1, h1, i, rfl, h4⟩ := h
  exact ⟨_, S1, ev_neg h1, h4⟩
theorem w_cmp {o : COp} (h : EV c a ρ S fun x S1 => EV c b ρ S1 fun y S2 => OP (cmpSem S2 o x y) fun z => Q (.bl z) S2) : EV c (.cmp o a b) ρ S Q := by
  obtain ⟨x, S1, h1, y, S2, h2, z, h3, h4⟩ := h
  exact ⟨_, S2, ev_cmp h1 h2 h3, h4⟩
theorem w_chain {o o' : COp} (h : EV c a ρ S fun x S1 => EV c b ρ S1 fun y S2 => OP (cmpSem S2 o x y) fun k => EV c d ρ S2 fun z S3 => OP (cmpSem S2 o' y z) fun k' => S3 = S2 ∧ Q (.bl (k && k')) S2) : EV c (.chain o o' a b d) ρ S Q := by
  obtain ⟨x, S1, h1, y, S2, h2, k, h3, z, S3, h4, k', h5, rfl, h6⟩ := h
  exact ⟨_, _, ev_chain h1 h2 h3 h4 h5, h6⟩
theorem w_chain4 {o1 o2 o3 o4 : COp} {f : E} (h : EV c a ρ S fun x S1 => EV c b ρ S1 fun y S2 => OP (cmpSem S2 o1 x y) fun k1 => EV c d ρ S2 fun u S3 => S3 = S2 ∧ OP (cmpSem S2 o2 y u) fun k2 => EV c e ρ S2 fun v S4 => S4 = S2 ∧ OP (cmpSem S2 o3 u v) fun k3 => EV c f ρ S2 fun w S5 => S5 = S2 ∧ OP (cmpSem S2 o4 v w) fun k4 => Q (.bl (k1 && (k2 && (k3 && k4)))) S2) : EV c (.chain4 o1 o2 o3 o4 a b d e f) ρ S Q := by
  obtain ⟨x, S1, h1, y, S2, h2, k1, h3, u, S3, h4, rfl, k2, h5, v, S4, h6, rfl, k3, h7, w, S5, h8, rfl, k4, h9, q⟩ := h
  refine ⟨_, _, ?_, q⟩
  unfold evE
  simp only [h1, h2, h3, Option.bind_some]
  cases k1 with
  | false => rfl
  | true =>
    simp only [if_true, h4, h5, Option.bind_some, Bool.true_and]
    cases k2 with
    | false => rfl
    | true =>
      simp only [if_true, h6, h7, Option.bind_some, Bool.true_and]
      cases k3 with
      | false => rfl
      | true => simp only [if_true, h8, h9, Option.bind_some, Option.map_some, Bool.true_and]
theorem w_and (h : EV c a ρ S fun x S1 => BR x (EV c b ρ S1 Q) (Q (.bl false) S1)) : EV c (.and a b) ρ S Q := by
  obtain ⟨x, S1, h1, k, rfl, h2, h3⟩ := h
  cases k with
  | true =>
    obtain ⟨y, S2, h4, h5⟩ := h2 rfl
    exact ⟨y, S2, by unfold evE; rw [h1]; exact h4, h5⟩
  | false => exact ⟨_, S1, by unfold evE; rw [h1]; rfl, h3 rfl⟩
theorem w_or (h : EV c a ρ S fun x S1 => BR x (Q (.bl true) S1) (EV c b ρ S1 Q)) : EV c (.or a b) ρ S Q := by
  obtain ⟨x, S1, h1, k, rfl, h2, h3⟩ := h
  cases k with
  | false =>
    obtain ⟨y, S2, h4, h5⟩ := h3 rfl
    exact ⟨y, S2, by unfold evE; rw [h1]; exact h4, h5⟩
  | true => exact ⟨_, S1, by unfold evE; rw [h1]; rfl, h2 rfl⟩
theorem w_one (h : EV c a ρ S Q) : EV c (.one a) ρ S Q := by
  obtain ⟨x, S1, h1, q⟩ := h
  exact ⟨x, S1, ev_one h1, q⟩
theorem w_not (h : EV c a ρ S fun x S1 => BR x (Q (.bl false) S1) (Q (.bl true) S1)) : EV c (.not a) ρ S Q := by
  obtain ⟨x, S1, h1, k, rfl, h2, h3⟩ := h
  refine ⟨_, S1, ev_not h1, ?_⟩
  cases k with
  | true => exact h2 rfl
  | false => exact h3 rfl
/-- a not that stays one value -/
theorem w_notv (h : EV c a ρ S fun x S1 => ∃ k, x = .bl k ∧ Q (.bl (!k)) S1) : EV c (.not a) ρ S Q := by
  obtain ⟨x, S1, h1, k, rfl, h2⟩ := h
  exact ⟨_, S1, ev_not h1, h2⟩
theorem w_ifx (h : EV c t ρ S fun x S1 => BR x (EV c a ρ S1 Q) (EV c b ρ S1 Q)) : EV c (.ifx t a b) ρ S Q := by
  obtain ⟨x, S1, h1, k, rfl, h2, h3⟩ := h
  cases k with
  | true =>
    obtain ⟨y, S2, h4, h5⟩ := h2 rfl
    exact ⟨y, S2, ev_ifT h1 h4, h5⟩
  | false =>
    obtain ⟨y, S2, h4, h5⟩ := h3 rfl
    exact ⟨y, S2, ev_ifF h1 h4, h5⟩
variable {QL : List Val → Store → Prop}
theorem w_nil (q : QL [] S) : EVL c .nil ρ S QL := ⟨_, S, el_nil, q⟩
theorem w_cons {es : EL} (h : EV c e ρ S fun v S1 => EVL c es ρ S1 fun vs S2 => QL (v :: vs) S2) : EVL c (.cons e es) ρ S QL := by
  obtain ⟨x, S1, h1, y, S2, h2, q⟩ := h
  exact ⟨_, S2, el_cons h1 h2, q⟩
theorem w_lst {es : EL} (h : EVL c es ρ S fun vs S1 => vs.length ≤ sizeLine ∧ Q (.lv vs) S1) : EV c (.lst es) ρ S Q := by
  obtain ⟨x, S1, h1, h2, q⟩ := h
  exact ⟨_, S1, ev_lst h1 h2, q⟩
theorem w_tup {es : EL} (h : EVL c es ρ S fun vs S1 => vs.length ≤ sizeLine ∧ Q (.tup vs) S1) : EV c (.tup es) ρ S Q := by
  obtain ⟨x, S1, h1, h2, q⟩ := h
  exact ⟨_, S1, ev_tup h1 h2, q⟩
theorem w_idx (h : EV c a ρ S fun x S1 => EV c b ρ S1 fun y S2 => OP (idxSem S2 x y) fun z => Q z S2) : EV c (.idx a b) ρ S Q := by
  obtain ⟨x, S1, h1, y, S2, h2, z, h3, h4⟩ := h
  exact ⟨z, S2, ev_idx h1 h2 h3, h4⟩
theorem w_onone {QO : Option Int → Store → Prop} (q : QO none S) : EVO c .none ρ S QO := ⟨_, S, eo_none, q⟩
theorem w_osome {QO : Option Int → Store → Prop} (h : EV c e ρ S fun x S1 => NUM x fun i => QO (some i) S1) : EVO c (.some e) ρ S QO := by
  obtain ⟨x, S1, h1, i, rfl, q⟩ := h
  exact ⟨_, S1, eo_some h1, q⟩
theorem w_slc {lo hi : EO} (h : EV c a ρ S fun x S1 => EVO c lo ρ S1 fun l S2 => EVO c hi ρ S2 fun u S3 => OP (slcSem S3 x l u) fun z => Q z S3) : EV c (.slc a lo hi) ρ S Q := by
  obtain ⟨x, S1, h1, y, S2, h2, z, S3, h3, u, h4, q⟩ := h
  exact ⟨u, S3, ev_slc h1 h2 h3 h4, q⟩
theorem w_blt {k : Blt} {es : EL} (h : EVL c es ρ S fun vs S1 => OP (bltSem S1 k vs) fun z => Q z S1) : EV c (.blt k es) ρ S Q := by
  obtain ⟨x, S1, h1, z, h2, q⟩ := h
  exact ⟨z, S1, ev_blt h1 h2, q⟩
theorem w_isa {ts : List Ty} (h : EV c e ρ S fun v S1 => OP (isTys S1 v ts) fun k => Q (.bl k) S1) : EV c (.isa e ts) ρ S Q := by
  obtain ⟨x, S1, h1, z, h2, q⟩ := h
  exact ⟨_, S1, ev_isa h1 h2, q⟩
theorem w_call {f : Nat} {es : EL} (h : EVL c es ρ S fun vs S1 => CALL c f vs S1 Q) : EV c (.call false f es) ρ S Q := by
  obtain ⟨vs, S1, h1, v, S2, w, S3, h2, h3, q⟩ := h
  exact ⟨w, S3, ev_call h1 h2 h3, q⟩
theorem w_callR {f : Nat} {es : EL} (h : EVL c es ρ S fun vs S1 => CALLR c f vs S1 Q) : EV c (.call true f es) ρ S Q := by
  obtain ⟨vs, S1, h1, v, S2, h2, q⟩ := h
  exact ⟨v, S2, ev_callR h1 h2, q⟩
theorem w_callK {f : Nat} {es ks : EL} {pm : List Nat} (h : EVL c es ρ S fun vs S0 => EVL c ks ρ S0 fun zs S1 => CALL c f (permL (vs ++ zs) pm) S1 Q) : EV c (.callK false f es ks pm) ρ S Q := by
  obtain ⟨vs, S0, h0, zs, S1, h1, v, S2, w, S3, h2, h3, q⟩ := h
  exact ⟨w, S3, ev_callK h0 h1 h2 h3, q⟩
theorem w_new (h : EV c e ρ S fun x S1 => NEW x S1 Q) : EV c (.new e) ρ S Q := by
  obtain ⟨x, S1, h1, xs, rfl, q⟩ := h
  exact ⟨_, _, ev_new h1, q⟩
theorem w_newq {xs : List Val} (q : Q (.ref S1.length) (S1 ++ [.lst xs])) : NEW (.lv xs) S1 Q := ⟨xs, rfl, q⟩
theorem w_cnone {QC : Bool → Store → Prop} (q : QC true S) : EVC c .none ρ S QC := ⟨_, S, ec_none, q⟩
theorem w_csome {QC : Bool → Store → Prop} (h : EV c e ρ S fun x S1 => BR x (QC true S1) (QC false S1)) : EVC c (.some e) ρ S QC := by
  obtain ⟨x, S1, h1, k, rfl, h2, h3⟩ := h
  refine ⟨k, S1, ec_some h1, ?_⟩
  cases k with
  | true => exact h2 rfl
  | false => exact h3 rfl
variable {QE : Env → Store → Prop}
theorem w_nm {k : Nat} (q : QE (ρ.set k (some v)) S) : BT c (.nm k) v ρ S QE := ⟨_, _, bt_nm, q⟩
theorem w_tp {ts : TL} (h : OP (unpack S ts.len v) fun xs => BTs c ts xs ρ S QE) : BT c (.tp ts) v ρ S QE := by
  obtain ⟨xs, h1, ρ1, S1, h2, q⟩ := h
  exact ⟨_, _, bt_tp h1 h2, q⟩
theorem w_sub (h : EV c a ρ S fun x S1 => EV c b ρ S1 fun y S2 => OP (setSem S2 x y v) fun S3 => QE ρ S3) : BT c (.sub a b) v ρ S QE := by
  obtain ⟨x, S1, h1, y, S2, h2, S3, h3, q⟩ := h
  exact ⟨_, _, bt_sub h1 h2 h3, q⟩
theorem w_tnil (q : QE ρ S) : BTs c .nil [] ρ S QE := ⟨_, _, bts_nil, q⟩
theorem w_tcons {tg : T} {ts : TL} {vs : List Val} (h : BT c tg v ρ S fun ρ1 S1 => BTs c ts vs ρ1 S1 QE) : BTs c (.cons tg ts) (v :: vs) ρ S QE := by
  obtain ⟨ρ1, S1, h1, ρ2, S2, h2, q⟩ := h
  exact ⟨_, _, bts_cons h1 h2, q⟩
theorem w_ksub (h : EV c d ρ S fun x S1 => EV c b ρ S1 fun y S2 => OP (dikSet S2 x y v) fun S3 => QE ρ S3) : BT c (.ksub d b) v ρ S QE := by
  obtain ⟨x, S1, h1, y, S2, h2, S3, h3, k⟩ := h
  exact ⟨ρ, S3, by unfold bindT; simp only [h1, h2, h3, Option.bind_some, Option.map_some], k⟩
theorem w_dsub (h : EV c d ρ S fun x S1 => EV c b ρ S1 fun y S2 => OP (dicSet S2 x y v) fun S3 => QE ρ S3) : BT c (.dsub d b) v ρ S QE := by
  obtain ⟨x, S1, h1, y, S2, h2, S3, h3, q⟩ := h
  refine ⟨_, _, ?_, q⟩
  unfold bindT
  simp only [h1, h2, h3, Option.bind_some, Option.map_some]
/-! branches -/
variable {A B : Prop}
theorem br_true (h : A) : BR (.bl true) A B := ⟨true, rfl, fun _ => h, fun e => (nomatch e)⟩
theorem br_false (h : B) : BR (.bl false) A B := ⟨false, rfl, fun e => (nomatch e), fun _ => h⟩
theorem br_dec {p : Prop} [Decidable p] (h1 : p → A) (h2 : ¬ p → B) : BR (.bl (decide p)) A B := ⟨_, rfl, fun e => h1 (of_decide_eq_true e), fun e => h2 (of_decide_eq_false e)⟩
theorem br_decT {p : Prop} [Decidable p] (h : p) (h1 : A) : BR (.bl (decide p)) A B := br_dec (fun _ => h1) (fun n => absurd h n)
theorem br_decF {p : Prop} [Decidable p] (h : ¬ p) (h1 : B) : BR (.bl (decide p)) A B := br_dec (fun n => absurd n h) (fun _ => h1)
theorem br_not {k : Bool} (h : BR (.bl k) B A) : BR (.bl (!k)) A B := by
  obtain ⟨k', e, h1, h2⟩ := h
  cases e
  refine ⟨_, rfl, ?_, ?_⟩
  · cases k with
    | true => intro e; cases e
    | false => intro _; exact h2 rfl
  · cases k with
    | false => intro e; cases e
    | true => intro _; exact h1 rfl
theorem br_and {k k' : Bool} (h : BR (.bl k) (BR (.bl k') A B) B) : BR (.bl (k && k')) A B := by
  obtain ⟨l, e, h1, h2⟩ := h
  cases e
  cases k with
  | true => exact h1 rfl
  | false => exact br_false (h2 rfl)
theorem br_or {k k' : Bool} (h : BR (.bl k) A (BR (.bl k') A B)) : BR (.bl (k || k')) A B := by
  obtain ⟨l, e, h1, h2⟩ := h
  cases e
  cases k with
  | true => exact br_true (h1 rfl)
  | false => exact h2 rfl
theorem br_bool {k : Bool} (h1 : k = true → A) (h2 : k = false → B) : BR (.bl k) A B := ⟨k, rfl, h1, h2⟩
theorem num_i {A : Int → Prop} (h : A i) : NUM (.int i) A := ⟨i, rfl, h⟩
theorem op_of {α : Type} {o : Option α} {z : α} {Q : α → Prop} (h : o = some z) (q : Q z) : OP o Q := ⟨z, h, q⟩
theorem s_sz {vs : List Val} {P : Prop} (h : Nat.ble vs.length 1000 = true) (q : P) : vs.length ≤ sizeLine ∧ P := ⟨Nat.le_trans (Nat.le_of_ble_eq_true h) (by decide), q⟩
/-! operators -/
variable {R : Val → Prop} {RB : Bool → Prop}
theorem o_add (q : R (.int (i + j))) : OP (binSem S .add (.int i) (.int j)) R := ⟨_, rfl, q⟩
theorem o_addB {b : Bool} (q : R (.int (b2i b + j))) : OP (binSem S .add (.bl b) (.int j)) R := ⟨_, rfl, q⟩
theorem o_subB {b : Bool} (q : R (.int (i - b2i b))) : OP (binSem S .sub (.int i) (.bl b)) R := ⟨_, rfl, q⟩
theorem o_sub (q : R (.int (i - j))) : OP (binSem S .sub (.int i) (.int j)) R := ⟨_, rfl, q⟩
theorem o_mul (h : MulOk i j) (q : R (.int (i * j))) : OP (binSem S .mul (.int i) (.int j)) R := ⟨_, bs_mul h, q⟩
theorem o_fdiv (h : CDivW i j) (q : R (.int (i / j))) : OP (binSem S .fdiv (.int i) (.int j)) R := ⟨_, bs_fdiv h, q⟩
theorem o_mod (h : 0 < j) (q : R (.int (i % j))) : OP (binSem S .mod (.int i) (.int j)) R := ⟨_, bs_mod h, q⟩
theorem o_pow (h : CPow i j) (q : R (.int (i ^ j.toNat))) : OP (binSem S .pow (.int i) (.int j)) R := ⟨_, bs_pow h, q⟩
theorem o_cat {xs ys : List Val} (h : xs.length + ys.length ≤ sizeLine) (q : R (.lv (xs ++ ys))) : OP (binSem S .add (.lv xs) (.lv ys)) R := ⟨_, bs_cat h, q⟩
theorem o_rep {xs : List Val} {k : Int} (h : -2 ^ 63 ≤ k ∧ k < 2 ^ 63 ∧ xs.length * k.toNat ≤ sizeLine) (q : R (.lv (List.replicate k.toNat xs).flatten)) : OP (binSem S .mul (.lv xs) (.int k)) R := ⟨_, bs_rep h, q⟩
theorem o_lt (q : RB (decide (i < j))) : OP (cmpSem S .lt (.int i) (.int j)) RB := ⟨_, rfl, q⟩
theorem o_le (q : RB (decide (i ≤ j))) : OP (cmpSem S .le (.int i) (.int j)) RB := ⟨_, rfl, q⟩
theorem o_gt (q : RB (decide (j < i))) : OP (cmpSem S .gt (.int i) (.int j)) RB := ⟨_, rfl, q⟩
theorem o_ge (q : RB (decide (j ≤ i))) : OP (cmpSem S .ge (.int i) (.int j)) RB := ⟨_, rfl, q⟩
theorem o_eqI (q : RB (decide (i = j))) : OP (cmpSem S .eq (.int i) (.int j)) RB := ⟨_, rfl, q⟩
theorem o_neI (q : RB (!decide (i = j))) : OP (cmpSem S .ne (.int i) (.int j)) RB := ⟨_, rfl, q⟩
theorem o_eqB {k l : Bool} (q : RB (decide (k = l))) : OP (cmpSem S .eq (.bl k) (.bl l)) RB := ⟨_, rfl, q⟩
theorem o_neB {k l : Bool} (q : RB (!decide (k = l))) : OP (cmpSem S .ne (.bl k) (.bl l)) RB := ⟨_, rfl, q⟩
theorem o_isI (q : RB false) : OP (cmpSem S .is (.int i) .non) RB := ⟨_, rfl, q⟩
theorem o_isN (q : RB true) : OP (cmpSem S .is .non .non) RB := ⟨_, rfl, q⟩
theorem o_notI (q : RB true) : OP (cmpSem S .isnot (.int i) .non) RB := ⟨_, rfl, q⟩
theorem o_notN (q : RB false) : OP (cmpSem S .isnot .non .non) RB := ⟨_, rfl, q⟩
theorem o_isB {a b : Bool} (q : RB (decide (a = b))) : OP (cmpSem S .is (.bl a) (.bl b)) RB := ⟨_, rfl, q⟩
theorem o_notB {a b : Bool} (q : RB (!decide (a = b))) : OP (cmpSem S .isnot (.bl a) (.bl b)) RB := ⟨_, rfl, q⟩
theorem o_eqIN (q : RB false) : OP (cmpSem S .eq (.int i) .non) RB := ⟨_, rfl, q⟩
theorem o_eqNI (q : RB false) : OP (cmpSem S .eq .non (.int i)) RB := ⟨_, rfl, q⟩
theorem o_eqNN (q : RB true) : OP (cmpSem S .eq .non .non) RB := ⟨_, rfl, q⟩
theorem o_neIN (q : RB true) : OP (cmpSem S .ne (.int i) .non) RB := ⟨_, rfl, q⟩
theorem o_neNI (q : RB true) : OP (cmpSem S .ne .non (.int i)) RB := ⟨_, rfl, q⟩
theorem o_neNN (q : RB false) : OP (cmpSem S .ne .non .non) RB := ⟨_, rfl, q⟩
theorem o_len_lv {xs : List Val} (q : R (.int xs.length)) : OP (bltSem S .len (.lv xs :: [])) R := ⟨_, rfl, q⟩
theorem o_len_tup {xs : List Val} (q : R (.int xs.length)) : OP (bltSem S .len (.tup xs :: [])) R := ⟨_, rfl, q⟩
theorem o_len_sl {xs : List Val} (q : R (.int xs.length)) : OP (bltSem S .len (.sl xs :: [])) R := ⟨_, rfl, q⟩
theorem o_tyT {ts : List Ty} (h : isTys S v ts = some true) (q : RB true) : OP (isTys S v ts) RB := ⟨_, h, q⟩
theorem o_tyF {ts : List Ty} (h : isTys S v ts = some false) (q : RB false) : OP (isTys S v ts) RB := ⟨_, h, q⟩
theorem o_abs (q : R (.int (if i < 0 then -i else i))) : OP (bltSem S .abs (.int i :: [])) R := ⟨_, rfl, q⟩
theorem o_intB {k : Bool} (q : R (.int (if k = true then 1 else 0))) : OP (bltSem S .int (.bl k :: [])) R := ⟨_, rfl, q⟩
theorem o_list_lv {xs : List Val} (q : R (.lv xs)) : OP (bltSem S .list (.lv xs :: [])) R := ⟨_, rfl, q⟩
theorem o_list_tup {xs : List Val} (q : R (.lv xs)) : OP (bltSem S .list (.tup xs :: [])) R := ⟨_, rfl, q⟩
theorem o_tup_lv {xs : List Val} (q : R (.tup xs)) : OP (bltSem S .tuple (.lv xs :: [])) R := ⟨_, rfl, q⟩
theorem o_tup_tup {xs : List Val} (q : R (.tup xs)) : OP (bltSem S .tuple (.tup xs :: [])) R := ⟨_, rfl, q⟩
theorem o_max2 (q : R (.int (if j > i then j else i))) : OP (bltSem S .max (.int i :: .int j :: [])) R := ⟨_, rfl, q⟩
theorem o_min2 (q : R (.int (if j < i then j else i))) : OP (bltSem S .min (.int i :: .int j :: [])) R := ⟨_, rfl, q⟩
theorem o_divmod (h : CDivP i j) (q : R (.tup [.int (i / j), .int (i % j)])) : OP (bltSem S .divmod (.int i :: .int j :: [])) R := ⟨_, if_pos h, q⟩
theorem o_idx_tup {xs : List Val} {k : Int} (h : atI xs k = some v) (q : R v) : OP (idxSem S (.tup xs) (.int k)) R := ⟨_, h, q⟩
theorem o_idx_lv {xs : List Val} {k : Int} (h : atI xs k = some v) (q : R v) : OP (idxSem S (.lv xs) (.int k)) R := ⟨_, h, q⟩
theorem o_idx_ref {xs : List Val} {k : Int} {m : Nat} (h0 : S[m]? = some (.lst xs)) (h : atI xs k = some v) (q : R v) : OP (idxSem S (.ref m) (.int k)) R := ⟨_, idx_ref h0 h, q⟩
theorem o_set_ref {xs : List Val} {k : Int} {m n : Nat} {R : Store → Prop} (h0 : S[m]? = some (.lst xs)) (h : ixN xs.length k = some n) (q : R (S.set m (.lst (xs.set n v)))) : OP (setSem S (.ref m) (.int k) v) R := ⟨_, set_ref h0 h, q⟩
theorem o_slc_tup {xs : List Val} {l u : Option Int} (q : R (.tup (cutL xs l u))) : OP (slcSem S (.tup xs) l u) R := ⟨_, rfl, q⟩
theorem o_slc_lv {xs : List Val} {l u : Option Int} (q : R (.lv (cutL xs l u))) : OP (slcSem S (.lv xs) l u) R := ⟨_, rfl, q⟩
/-! statements -/
variable {P : Out → Prop} {ss : SL}
theorem x_asg {tg : T} (h : EV c e ρ S fun v S1 => BT c tg v ρ S1 fun ρ1 S2 => Runs c ss ρ1 S2 P) : Runs c (.cons (.asg tg e) ss) ρ S P := by
  obtain ⟨v, S1, h1, ρ1, S2, h2, h3⟩ := h
  exact r_asg h1 h2 h3
theorem x_par {is : List Nat} {es : EL} (h : EVL c es ρ S fun vs S1 => vs.length = is.length ∧ Runs c ss (setAll ρ is vs) S1 P) : Runs c (.cons (.par is es) ss) ρ S P := by
  obtain ⟨v, S1, h1, h2, h3⟩ := h
  exact r_par h1 h2 h3
theorem x_augA {k : Nat} (hx : ρ[k]? = some (some (.int i))) (h : EV c e ρ S fun v S1 => NUM v fun j => Runs c ss (ρ.set k (some (.int (i + j)))) S1 P) : Runs c (.cons (.aug k .add e) ss) ρ S P := by
  obtain ⟨v, S1, h1, j, rfl, h3⟩ := h
  exact r_augA hx h1 h3
theorem x_augS {k : Nat} (hx : ρ[k]? = some (some (.int i))) (h : EV c e ρ S fun v S1 => NUM v fun j => Runs c ss (ρ.set k (some (.int (i - j)))) S1 P) : Runs c (.cons (.aug k .sub e) ss) ρ S P := by
  obtain ⟨v, S1, h1, j, rfl, h3⟩ := h
  exact r_augS hx h1 h3
theorem x_lop {op : LOp} {es : EL} (h : EV c a ρ S fun x S1 => ∃ n ys, x = .ref n ∧ S1[n]? = some (.lst ys) ∧ EVL c es ρ S1 fun vs S2 => ∃ xs zs, S2[n]? = some (.lst xs) ∧ lopSem S2 n op xs vs = some zs ∧ Runs c ss ρ (S2.set n (.lst zs)) P) : Runs c (.cons (.lop op a es) ss) ρ S P := by
  obtain ⟨x, S1, h1, n, ys, rfl, h2, vs, S2, h3, xs, zs, h4, h5, h6⟩ := h
  refine r_st ?_ h6
  unfold exS
  have h2' : lstOf S1 (.ref n) = some ys := by unfold lstOf; simp only [h2]
  simp only [h1, h2', h3, h4, h5, Option.bind_some, Option.map_some]
theorem x_app (h : EV c a ρ S fun x S1 => ∃ n ys, x = .ref n ∧ S1[n]? = some (.lst ys) ∧ EV c e ρ S1 fun v S2 => PUT S2 n v fun S3 => Runs c ss ρ S3 P) : Runs c (.cons (.app a e) ss) ρ S P := by
  obtain ⟨x, S1, h1, n, ys, rfl, h2, v, S2, h3, xs, h4, h5, h6⟩ := h
  exact r_app h1 ⟨ys, h2⟩ h3 h4 h5 h6
theorem x_drop (h : EV c e ρ S fun _ S1 => Runs c ss ρ S1 P) : Runs c (.cons (.drop e) ss) ρ S P := by
  obtain ⟨v, S1, h1, h2⟩ := h
  exact r_st (by unfold exS; rw [h1]; rfl) h2
theorem x_ret (h : EV c e ρ S fun v S1 => P (.rt v S1)) : Runs c (.cons (.ret e) ss) ρ S P := by
  obtain ⟨v, S1, h1, h2⟩ := h
  exact r_ret h1 h2
theorem x_ite {A B : SL} (h : EV c t ρ S fun x S1 => BR x (Runs c A ρ S1 (Then c ss P)) (Runs c B ρ S1 (Then c ss P))) : Runs c (.cons (.ite t A B) ss) ρ S P := by
  obtain ⟨v, S1, h1, k, rfl, h2, h3⟩ := h
  exact r_ite h1 h2 h3
theorem t_nx (h : Runs c ss ρ S P) : Then c ss P (.nx ρ S) := h
theorem t_rt (h : P (.rt v S)) : Then c ss P (.rt v S) := h
theorem t_bk (h : P (.bk ρ S)) : Then c ss P (.bk ρ S) := h
theorem t_ct (h : P (.ct ρ S)) : Then c ss P (.ct ρ S) := h
theorem x_brk (h : P (.bk ρ S)) : Runs c (.cons .brk ss) ρ S P := ⟨_, by unfold exL exS; rfl, h⟩
theorem x_cont (h : P (.ct ρ S)) : Runs c (.cons .cont ss) ρ S P := ⟨_, by unfold exL exS; rfl, h⟩
/-- a for over what is walked -/
theorem x_for {tg : T} {k : ItK} {es : EL} {B : SL} (h : EVL c es ρ S fun vs S1 => refsOf vs = [] ∧ OP (itemsOf S1 k vs) fun xs => ∃ I : Nat → Env → Store → Prop, I 0 ρ S1 ∧
      (∀ n x ρ' S', xs[n]? = some x → I n ρ' S' → BT c tg x ρ' S' fun ρ2 S2 => Runs c B ρ2 S2 (fun o => match o with
      | .nx ρ3 S3 => I (n + 1) ρ3 S3
      | .ct ρ3 S3 => I (n + 1) ρ3 S3
      | .bk ρ3 S3 => Runs c ss ρ3 S3 P
      | .rt v S3 => P (.rt v S3))) ∧ ∀ ρ' S', I xs.length ρ' S' → Runs c ss ρ' S' P) : Runs c (.cons (.for tg k es B) ss) ρ S P := by
  obtain ⟨vs, S1, h1, h2, xs, h3, I, h4, h5, h6⟩ := h
  refine r_for I h1 h3 h2 h4 ?_ h6
  intro n x ρ' S' hx hI
  obtain ⟨ρ2, S2, h7, h8⟩ := h5 n x ρ' S' hx hI
  exact ⟨ρ2, S2, h7, h8⟩
theorem x_whl {B : SL} (I : Nat → Env → Store → Prop) (m0 : Nat) (hm : m0 < fuel) (h0 : I m0 ρ S)
    (hs : ∀ m ρ' S', I m ρ' S' → EV c t ρ' S' fun x S1 => BR x (Runs c B ρ' S1 (fun o => match o with
      | .nx ρ3 S3 => ∃ m', m' < m ∧ I m' ρ3 S3
      | .ct ρ3 S3 => ∃ m', m' < m ∧ I m' ρ3 S3
      | .bk ρ3 S3 => Runs c ss ρ3 S3 P
      | .rt v S3 => P (.rt v S3))) (Runs c ss ρ' S1 P)) : Runs c (.cons (.whl t B) ss) ρ S P := by
  refine r_whl I m0 hm h0 fun m ρ' S' hI => ?_
  obtain ⟨x, S1, h1, k, rfl, h2, h3⟩ := hs m ρ' S' hI
  exact ⟨k, S1, h1, h2, h3⟩
end
/-! calls -/
theorem call_pure {c : Oracle} {f : Nat} {vs : List Val} {S : Store} {v : Val} {Q : Val → Store → Prop} (h : c false f vs S = some (v, S)) (hf : v.fits S.length = true) (q : Q v S) : CALL c f vs S Q := ⟨v, S, v, S, h, gc_same hf, q⟩
/-- a def's own end -/
def RUN (Δ : Table) (n f : Nat) (vs : List Val) (S : Store) (P : Val → Store → Prop) : Prop := ∃ v S', run Δ n f vs S = some (v, S') ∧ P v S'
theorem RUN.mk {Δ : Table} {n f np ns : Nat} {body : SL} {vs : List Val} {S : Store} {P : Val → Store → Prop} (hd : Δ f = some ⟨np, ns, body⟩) (hl : vs.length = np) (hn : Nat.ble np ns = true)
    (h : Runs (orc Δ n) body (startE ns vs) S (fun o => ∃ v S', o = .rt v S' ∧ P v S')) : RUN Δ (n + 1) f vs S P := run_ex hd hl hn h
theorem RUN.eq {Δ : Table} {n f : Nat} {vs : List Val} {S S' : Store} {w : Val} (h : RUN Δ n f vs S fun v S2 => v = w ∧ S2 = S') : run Δ n f vs S = some (w, S') := by
  obtain ⟨v, S2, h, rfl, rfl⟩ := h
  exact h
theorem RUN.call {Δ : Table} {n f : Nat} {vs : List Val} {S : Store} {P Q : Val → Store → Prop} (h : RUN Δ n f vs S P) (q : ∀ v S1, P v S1 → ∃ w S2, gc S v S1 = some (w, S2) ∧ Q w S2) : CALL (orc Δ n) f vs S Q := by
  obtain ⟨v, S1, h, hp⟩ := h
  obtain ⟨w, S2, h1, h2⟩ := q v S1 hp
  exact ⟨v, S1, w, S2, h, h1, h2⟩
theorem e_rt {v : Val} {S : Store} {P : Val → Store → Prop} (h : P v S) : ∃ v' S', Out.rt v S = .rt v' S' ∧ P v' S' := ⟨v, S, rfl, h⟩
/-! comprehensions -/
section
variable {c : Oracle} {ρ : Env} {S S1 : Store} {own : List Nat} {tg : T} {k : ItK} {es : EL} {cd : EO} {e : E} {Q : Val → Store → Prop} {QL : List Val → Store → Prop}
noncomputable def itemF (c : Oracle) (own : List Nat) (tg : T) (cd : EO) (e : E) (ρ : Env) : Val → Store → Option (List Val × Store) := fun x S' => (bindT c tg x (wipeE ρ own) S').bind fun (ρ', S2) => (evC c cd ρ' S2).bind fun (b, S3) =>
        if b = true then (evE c e ρ' S3).map fun (y, S4) => ([y], S4) else some ([], S3)
def MW (c : Oracle) (own : List Nat) (tg : T) (cd : EO) (e : E) (ρ : Env) (ks : List Nat) (xs : List Val) (S : Store) (QL : List Val → Store → Prop) : Prop := ∃ ys S', mapG ks (itemF c own tg cd e ρ) xs S = some (ys, S') ∧ QL ys S'
theorem w_lc (h : EVL c es ρ S fun vs S1 => OP (itemsOf S1 k vs) fun xs => MW c own tg cd e ρ (refsOf vs) xs S1 fun ys S2 => ys.length ≤ 1000000 ∧ Q (.lv ys) S2) : EV c (.lc own tg k es cd e) ρ S Q := by
  obtain ⟨vs, S1, h1, xs, h2, ys, S2, h3, h4, q⟩ := h
  refine ⟨_, S2, ?_, q⟩
  unfold evE
  rw [h1, Option.bind_some]
  show (itemsOf S1 k vs).bind _ = _
  rw [h2, Option.bind_some]
  show (mapG (refsOf vs) (itemF c own tg cd e ρ) xs S1).bind _ = _
  rw [h3, Option.bind_some]
  exact if_pos h4
theorem m_nil {ks : List Nat} (q : QL [] S) : MW c own tg cd e ρ ks [] S QL := ⟨[], S, by unfold mapG; rfl, q⟩
theorem m_cons {ks : List Nat} {x : Val} {xs : List Val} (h : BT c tg x (wipeE ρ own) S fun ρ' S2 => EVC c cd ρ' S2 fun b S3 =>
    (b = true → EV c e ρ' S3 fun y S4 => Kept ks S S4 ∧ MW c own tg cd e ρ ks xs S4 fun zs S5 => QL (y :: zs) S5) ∧ (b = false → Kept ks S S3 ∧ MW c own tg cd e ρ ks xs S3 QL)) : MW c own tg cd e ρ ks (x :: xs) S QL := by
  obtain ⟨ρ', S2, h1, b, S3, h2, h3, h4⟩ := h
  cases b with
  | true =>
    obtain ⟨y, S4, h5, h6, zs, S5, h7, q⟩ := h3 rfl
    refine ⟨y :: zs, S5, ?_, q⟩
    unfold mapG
    have : itemF c own tg cd e ρ x S = some ([y], S4) := by
      unfold itemF
      simp only [h1, h2, h5, Option.bind_some, Option.map_some, if_true]
    rw [this, Option.bind_some]
    simp only [if_pos h6, h7, Option.map_some]
    rfl
  | false =>
    obtain ⟨h6, zs, S5, h7, q⟩ := h4 rfl
    refine ⟨zs, S5, ?_, q⟩
    unfold mapG
    have : itemF c own tg cd e ρ x S = some ([], S3) := by
      unfold itemF
      simp only [h1, h2, Option.bind_some, Bool.false_eq_true, if_false]
    rw [this, Option.bind_some]
    simp only [if_pos h6, h7, Option.map_some]
    rfl
theorem m_t {A B : Prop} (h : A) : (true = true → A) ∧ (true = false → B) := ⟨fun _ => h, fun e => (nomatch e)⟩
theorem m_f {A B : Prop} (h : B) : (false = true → A) ∧ (false = false → B) := ⟨fun e => (nomatch e), fun _ => h⟩
theorem k_nil {S S' : Store} {P : Prop} (q : P) : Kept [] S S' ∧ P := ⟨fun _ h => (nomatch h), q⟩
theorem k_same {ks : List Nat} {P : Prop} (q : P) : Kept ks S S ∧ P := ⟨fun _ _ => rfl, q⟩
/-- each item gives one value, the store stays -/
theorem m_map {ks : List Nat} {xs : List Val} (g : Val → Val) (h : ∀ x ∈ xs, BT c tg x (wipeE ρ own) S fun ρ' S2 => EVC c cd ρ' S2 fun b S3 => b = true ∧ EV c e ρ' S3 fun y S4 => y = g x ∧ S4 = S) (q : QL (xs.map g) S) : MW c own tg cd e ρ ks xs S QL := by
  have key : ∀ xs : List Val, (∀ x ∈ xs, BT c tg x (wipeE ρ own) S fun ρ' S2 => EVC c cd ρ' S2 fun b S3 => b = true ∧ EV c e ρ' S3 fun y S4 => y = g x ∧ S4 = S) → ∀ QL : List Val → Store → Prop, QL (xs.map g) S → MW c own tg cd e ρ ks xs S QL := by
    intro xs
    induction xs with
    | nil => intro _ QL q; exact m_nil q
    | cons x xs ih =>
      intro h QL q
      apply m_cons
      obtain ⟨ρ', S2, h1, b, S3, h2, rfl, y, S4, h3, rfl, rfl⟩ := h x List.mem_cons_self
      exact ⟨ρ', S2, h1, true, S3, h2, m_t ⟨_, _, h3, k_same (ih (fun x hx => h x (List.mem_cons_of_mem _ hx)) _ q)⟩⟩
  exact key xs h QL q
/-- each item gives a value or none, the store stays -/
theorem m_flat {ks : List Nat} {xs : List Val} (g : Val → Option Val) (h : ∀ x ∈ xs, BT c tg x (wipeE ρ own) S fun ρ' S2 => EVC c cd ρ' S2 fun b S3 => (b = true → EV c e ρ' S3 fun y S4 => g x = some y ∧ S4 = S) ∧ (b = false → g x = none ∧ S3 = S)) (q : QL (xs.filterMap g) S) : MW c own tg cd e ρ ks xs S QL := by
  have key : ∀ xs : List Val, (∀ x ∈ xs, BT c tg x (wipeE ρ own) S fun ρ' S2 => EVC c cd ρ' S2 fun b S3 => (b = true → EV c e ρ' S3 fun y S4 => g x = some y ∧ S4 = S) ∧ (b = false → g x = none ∧ S3 = S)) → ∀ QL : List Val → Store → Prop, QL (xs.filterMap g) S → MW c own tg cd e ρ ks xs S QL := by
    intro xs
    induction xs with
    | nil => intro _ QL q; exact m_nil q
    | cons x xs ih =>
      intro h QL q
      apply m_cons
      obtain ⟨ρ', S2, h1, b, S3, h2, h3, h4⟩ := h x List.mem_cons_self
      refine ⟨ρ', S2, h1, b, S3, h2, ?_, ?_⟩
      · intro hb
        obtain ⟨y, S4, h5, h6, rfl⟩ := h3 hb
        rw [List.filterMap_cons_some h6] at q
        exact ⟨_, _, h5, k_same (ih (fun x hx => h x (List.mem_cons_of_mem _ hx)) _ q)⟩
      · intro hb
        obtain ⟨h6, rfl⟩ := h4 hb
        rw [List.filterMap_cons_none h6] at q
        exact k_same (ih (fun x hx => h x (List.mem_cons_of_mem _ hx)) _ q)
  exact key xs h QL q
variable {R : List Val → Prop}
theorem i_lv {xs : List Val} (q : R xs) : OP (itemsOf S .seq [.lv xs]) R := ⟨_, rfl, q⟩
theorem i_tup {xs : List Val} (q : R xs) : OP (itemsOf S .seq [.tup xs]) R := ⟨_, rfl, q⟩
theorem i_ref {xs : List Val} {m : Nat} (h : S[m]? = some (.lst xs)) (q : R xs) : OP (itemsOf S .seq [.ref m]) R := ⟨xs, by unfold itemsOf seqOf; simp only [h], q⟩
theorem i_range {n : Int} (h : n < 2 ^ 62 ∧ -2 ^ 62 ≤ n) (q : R (rangeOf 0 n.toNat)) : OP (itemsOf S .range [.int n]) R := ⟨_, if_pos h, q⟩
theorem i_range2 {a b : Int} (_ : (-2 ^ 62 ≤ a ∧ a < 2 ^ 62) ∧ -2 ^ 62 ≤ b ∧ b < 2 ^ 62) (q : R (rangeOf a (b - a).toNat)) : OP (itemsOf S .range [.int a, .int b]) R := ⟨_, rfl, q⟩
theorem i_rangeB {a b : Int} (q : R (rangeOf a (b - a).toNat)) : OP (itemsOf S .range [.int a, .int b]) R := ⟨_, rfl, q⟩
theorem i_enum_lv {xs : List Val} (q : R (enumFrom 0 xs)) : OP (itemsOf S .enum [.lv xs]) R := ⟨_, rfl, q⟩
theorem i_enum_tup {xs : List Val} (q : R (enumFrom 0 xs)) : OP (itemsOf S .enum [.tup xs]) R := ⟨_, rfl, q⟩
theorem i_zip_lv {xs ys : List Val} (q : R (zipV xs ys)) : OP (itemsOf S .zip [.lv xs, .lv ys]) R := ⟨_, rfl, q⟩
theorem u_tup {n : Nat} {xs : List Val} (h : xs.length = n) (q : R xs) : OP (unpack S n (.tup xs)) R := ⟨xs, by unfold unpack seqOf; simp [h], q⟩
theorem u_lv {n : Nat} {xs : List Val} (h : xs.length = n) (q : R xs) : OP (unpack S n (.lv xs)) R := ⟨xs, by unfold unpack seqOf; simp [h], q⟩
end
/-! envs written out -/
section
variable {c : Oracle} {ρ ρ' : Env} {S : Store} {v : Val} {a x : Option Val} {l l' l'' : Env}
theorem si0 : List.set (a :: l) 0 x = x :: l := rfl
theorem sis {n : Nat} (h : List.set l n x = l') : List.set (a :: l) (n + 1) x = a :: l' := congrArg _ h
theorem sa0 : setAll l [] [] = l := rfl
theorem sas {i : Nat} {is : List Nat} {vs : List Val} (h : List.set l i (some v) = l') (h2 : setAll l' is vs = l'') : setAll l (i :: is) (v :: vs) = l'' := by unfold setAll; rw [h, h2]
theorem we0 : wipeE l [] = l := rfl
theorem wes {i : Nat} {r : List Nat} (h : wipeE l r = l') (h2 : List.set l' i none = l'') : wipeE l (i :: r) = l'' := by unfold wipeE; rw [h, h2]
theorem se0 : startE 0 [] = [] := rfl
theorem sen {n : Nat} (h : startE n [] = l) : startE (n + 1) [] = none :: l := by rw [← h]; rfl
theorem ses {n : Nat} {vs : List Val} (h : startE n vs = l) : startE (n + 1) (v :: vs) = some v :: l := by
  rw [← h]; unfold startE; simp only [List.map_cons, List.length_cons, List.cons_append, Nat.add_sub_add_right]
theorem w_nm' {k : Nat} {QE : Env → Store → Prop} (h : List.set ρ k (some v) = ρ') (q : QE ρ' S) : BT c (.nm k) v ρ S QE := by subst h; exact w_nm q
theorem x_par' {is : List Nat} {es : EL} {ss : SL} {P : Out → Prop} (h : EVL c es ρ S fun vs S1 => vs.length = is.length ∧ ∃ ρ', setAll ρ is vs = ρ' ∧ Runs c ss ρ' S1 P) : Runs c (.cons (.par is es) ss) ρ S P := by
  obtain ⟨vs, S1, h1, h2, ρ', rfl, h3⟩ := h
  exact x_par ⟨vs, S1, h1, h2, h3⟩
theorem x_par2 {is : List Nat} {vs : List Val} {P : Env → Prop} (h : vs.length = is.length) (h2 : setAll ρ is vs = ρ') (q : P ρ') : vs.length = is.length ∧ ∃ ρ', setAll ρ is vs = ρ' ∧ P ρ' := ⟨h, ρ', h2, q⟩
theorem x_augA' {k : Nat} {e : E} {i : Int} {ss : SL} {P : Out → Prop} (hx : ρ[k]? = some (some (.int i))) (h : EV c e ρ S fun v S1 => NUM v fun j => ∃ ρ', List.set ρ k (some (.int (i + j))) = ρ' ∧ Runs c ss ρ' S1 P) : Runs c (.cons (.aug k .add e) ss) ρ S P := by
  obtain ⟨v, S1, h1, j, rfl, ρ', rfl, h3⟩ := h
  exact r_augA hx h1 h3
theorem x_augS' {k : Nat} {e : E} {i : Int} {ss : SL} {P : Out → Prop} (hx : ρ[k]? = some (some (.int i))) (h : EV c e ρ S fun v S1 => NUM v fun j => ∃ ρ', List.set ρ k (some (.int (i - j))) = ρ' ∧ Runs c ss ρ' S1 P) : Runs c (.cons (.aug k .sub e) ss) ρ S P := by
  obtain ⟨v, S1, h1, j, rfl, ρ', rfl, h3⟩ := h
  exact r_augS hx h1 h3
theorem x_set2 {k : Nat} {P : Env → Prop} (h2 : List.set ρ k x = ρ') (q : P ρ') : ∃ ρ', List.set ρ k x = ρ' ∧ P ρ' := ⟨ρ', h2, q⟩
theorem RUN.mk' {Δ : Table} {n f np ns : Nat} {body : SL} {vs : List Val} {S : Store} {P : Val → Store → Prop} (hd : Δ f = some ⟨np, ns, body⟩) (hl : vs.length = np) (hn : Nat.ble np ns = true) (he : startE ns vs = ρ)
    (h : Runs (orc Δ n) body ρ S (fun o => ∃ v S', o = .rt v S' ∧ P v S')) : RUN Δ (n + 1) f vs S P := by subst he; exact run_ex hd hl hn h
theorem m_cons' {own : List Nat} {tg : T} {cd : EO} {e : E} {QL : List Val → Store → Prop} {ks : List Nat} {x : Val} {xs : List Val} (hw : wipeE ρ own = ρ') (h : BT c tg x ρ' S fun ρ' S2 => EVC c cd ρ' S2 fun b S3 =>
    (b = true → EV c e ρ' S3 fun y S4 => Kept ks S S4 ∧ MW c own tg cd e ρ ks xs S4 fun zs S5 => QL (y :: zs) S5) ∧ (b = false → Kept ks S S3 ∧ MW c own tg cd e ρ ks xs S3 QL)) : MW c own tg cd e ρ ks (x :: xs) S QL := by
  subst hw; exact m_cons h
end
section
variable {c : Oracle} {ρ ρ' : Env} {S : Store} {own : List Nat} {tg : T} {cd : EO} {e : E} {QL : List Val → Store → Prop} {ks : List Nat} {xs : List Val}
theorem m_map' (g : Val → Val) (hw : wipeE ρ own = ρ') (h : ∀ x ∈ xs, BT c tg x ρ' S fun ρ' S2 => EVC c cd ρ' S2 fun b S3 => b = true ∧ EV c e ρ' S3 fun y S4 => y = g x ∧ S4 = S) (q : QL (xs.map g) S) : MW c own tg cd e ρ ks xs S QL := by subst hw; exact m_map g h q
theorem m_flat' (g : Val → Option Val) (hw : wipeE ρ own = ρ') (h : ∀ x ∈ xs, BT c tg x ρ' S fun ρ' S2 => EVC c cd ρ' S2 fun b S3 => (b = true → EV c e ρ' S3 fun y S4 => g x = some y ∧ S4 = S) ∧ (b = false → g x = none ∧ S3 = S)) (q : QL (xs.filterMap g) S) : MW c own tg cd e ρ ks xs S QL := by subst hw; exact m_flat g h q
theorem m_tt {A : Prop} (h : A) : true = true ∧ A := ⟨rfl, h⟩
/-- items one by one, the store may change -/
theorem m_inv {f : Nat → List Val} (I : Nat → Store → Prop) (hw : wipeE ρ own = ρ') (hk : ks = []) (h0 : I 0 S)
    (h : ∀ n x S', xs[n]? = some x → I n S' → BT c tg x ρ' S' fun ρ2 S2 => EVC c cd ρ2 S2 fun b S3 => (b = true → EV c e ρ2 S3 fun y S4 => f n = [y] ∧ I (n + 1) S4) ∧ (b = false → f n = [] ∧ I (n + 1) S3))
    (q : ∀ S', I xs.length S' → QL ((List.range xs.length).flatMap f) S') : MW c own tg cd e ρ ks xs S QL := by
  subst hw
  subst hk
  have key : ∀ (m n : Nat) S', m = xs.length - n → n ≤ xs.length → I n S' → ∀ QL : List Val → Store → Prop, (∀ S', I xs.length S' → QL ((List.range' n (xs.length - n)).flatMap f) S') → MW c own tg cd e ρ [] (xs.drop n) S' QL := by
    intro m
    induction m with
    | zero =>
      intro n S' hm hn hI QL q
      have e : n = xs.length := by omega
      subst e
      rw [List.drop_length]
      apply m_nil
      have := q S' hI
      rw [Nat.sub_self] at this
      exact this
    | succ m ih =>
      intro n S' hm hn hI QL q
      have hlt : n < xs.length := by omega
      rw [List.drop_eq_getElem_cons hlt]
      have hrg : List.range' n (xs.length - n) = n :: List.range' (n + 1) (xs.length - (n + 1)) := by
        rw [show xs.length - n = (xs.length - (n + 1)) + 1 by omega, List.range'_succ]
      rw [hrg] at q
      apply m_cons
      obtain ⟨ρ', S2, h1, b, S3, h2, h3, h4⟩ := h n _ S' (List.getElem?_eq_getElem hlt) hI
      refine ⟨ρ', S2, h1, b, S3, h2, ?_, ?_⟩
      · intro hb
        obtain ⟨y, S4, h5, h6, h7⟩ := h3 hb
        refine ⟨y, S4, h5, fun _ h => (nomatch h), ih (n + 1) S4 (by omega) (by omega) h7 _ fun S5 h8 => ?_⟩
        have := q S5 h8
        rw [List.flatMap_cons, h6] at this
        exact this
      · intro hb
        obtain ⟨h6, h7⟩ := h4 hb
        refine ⟨fun _ h => (nomatch h), ih (n + 1) S3 (by omega) (by omega) h7 _ fun S5 h8 => ?_⟩
        have := q S5 h8
        rw [List.flatMap_cons, h6] at this
        exact this
  have := key xs.length 0 S (by simp) (Nat.zero_le _) h0 QL (by rw [Nat.sub_zero, ← List.range_eq_range']; exact q)
  rw [List.drop_zero] at this
  exact this
end
section
variable {c : Oracle} {ρ ρ' : Env} {S : Store} {own : List Nat} {tg : T} {k : ItK} {es : EL} {cd : EO} {e : E} {Q : Val → Store → Prop} {QL : List Val → Store → Prop} {ks : List Nat} {α : Type}
theorem w_sdc (h : EVL c es ρ S fun vs S1 => OP (itemsOf S1 k vs) fun xs => MW c own tg cd e ρ (refsOf vs) xs S1 fun ys S2 => OP (intsOf ys) fun ns => (ys.length ≤ 1000000 ∧ (keysI ns).length < 64) ∧ Q (.lv ((sortI (keysI ns)).map Val.int)) S2) : EV c (.sdc own tg k es cd e) ρ S Q := by
  obtain ⟨vs, S1, h1, xs, h2, ys, S2, h3, ns, h4, h5, q⟩ := h
  refine ⟨_, S2, ?_, q⟩
  unfold evE
  rw [h1, Option.bind_some]
  show (itemsOf S1 k vs).bind _ = _
  rw [h2, Option.bind_some]
  show (mapG (refsOf vs) (itemF c own tg cd e ρ) xs S1).bind _ = _
  rw [h3, Option.bind_some]
  show (intsOf ys).bind _ = _
  rw [h4, Option.bind_some]
  exact if_pos h5
/-- a comprehension of two parts that changes nothing -/
theorem itemF_none {own : List Nat} {tg : T} : itemF c own tg .none e ρ = fun x S' => (bindT c tg x (wipeE ρ own) S').bind fun (ρ2, S5) => (evE c e ρ2 S5).map fun (z, S6) => ([z], S6) := by
  funext x S'
  unfold itemF
  cases bindT c tg x (wipeE ρ own) S' with
  | none => rfl
  | some r =>
    obtain ⟨ρ2, S5⟩ := r
    simp only [Option.bind_some]
    unfold evC
    simp only [Option.bind_some, if_true]
theorem w_lc2P {own1 : List Nat} {t1 : T} {k1 : ItK} {es1 : EL} (h : EVL c es ρ S fun vs S1 => OP (itemsOf S1 k vs) fun xs => ∃ g : Val → List Val, (∀ x ∈ xs, BT c tg x (wipeE ρ own) S1 fun ρ' S2 => EVL c es1 ρ' S2 fun ws S3 => OP (itemsOf S3 k1 ws) fun ys => MW c own1 t1 .none e ρ' (refsOf ws) ys S3 fun zs S4 => zs = g x ∧ S4 = S1) ∧ (xs.flatMap g).length ≤ 1000000 ∧ Q (.lv (xs.flatMap g)) S1) : EV c (.lc2 own tg k es own1 t1 k1 es1 e) ρ S Q := by
  obtain ⟨vs, S1, h1, xs, h2, g, h3, h4, q⟩ := h
  refine ⟨_, S1, ?_, q⟩
  unfold evE
  rw [h1, Option.bind_some]
  show (itemsOf S1 k vs).bind _ = _
  rw [h2, Option.bind_some]
  generalize hf : (fun (x : Val) (S' : Store) => (bindT c tg x (wipeE ρ own) S').bind fun (ρ', S2) => (evL c es1 ρ' S2).bind fun (ws, S3) => (itemsOf S3 k1 ws).bind fun ys =>
        mapG (refsOf ws) (fun y S4 => (bindT c t1 y (wipeE ρ' own1) S4).bind fun (ρ2, S5) => (evE c e ρ2 S5).map fun (z, S6) => ([z], S6)) ys S3) = f
  have one : ∀ x ∈ xs, f x S1 = some (g x, S1) := by
    intro x hx
    obtain ⟨ρ', S2, b1, ws, S3, b2, ys, b3, zs, S4, b4, rfl, rfl⟩ := h3 x hx
    rw [← hf]
    show (bindT c tg x (wipeE ρ own) _).bind _ = _
    rw [b1, Option.bind_some]
    show (evL c es1 ρ' S2).bind _ = _
    rw [b2, Option.bind_some]
    show (itemsOf S3 k1 ws).bind _ = _
    rw [b3, Option.bind_some, ← itemF_none]
    exact b4
  have all : ∀ ys : List Val, (∀ x ∈ ys, f x S1 = some (g x, S1)) → mapG (refsOf vs) f ys S1 = some (ys.flatMap g, S1) := by
    intro ys
    induction ys with
    | nil => intro _; unfold mapG; rfl
    | cons y ys ih =>
      intro h
      unfold mapG
      rw [h y List.mem_cons_self, Option.bind_some]
      dsimp only
      rw [if_pos (show Kept (refsOf vs) S1 S1 from fun _ _ => rfl), ih fun x hx => h x (List.mem_cons_of_mem _ hx)]
      rfl
  rw [all xs one, Option.bind_some]
  exact if_pos h4
/-- items told by a list of things: those that are kept, what each gives -/
theorem m_list (ys : List α) (mk : α → Val) (p : α → Bool) (f : α → Val) (hw : wipeE ρ own = ρ')
    (h : ∀ a ∈ ys, BT c tg (mk a) ρ' S fun ρ2 S2 => EVC c cd ρ2 S2 fun b S3 => (b = true → p a = true ∧ EV c e ρ2 S3 fun y S4 => y = f a ∧ S4 = S) ∧ (b = false → p a = false ∧ S3 = S)) (q : QL ((ys.filter p).map f) S) : MW c own tg cd e ρ ks (ys.map mk) S QL := by
  subst hw
  have key : ∀ ys : List α, (∀ a ∈ ys, BT c tg (mk a) (wipeE ρ own) S fun ρ2 S2 => EVC c cd ρ2 S2 fun b S3 => (b = true → p a = true ∧ EV c e ρ2 S3 fun y S4 => y = f a ∧ S4 = S) ∧ (b = false → p a = false ∧ S3 = S)) → ∀ QL : List Val → Store → Prop, QL ((ys.filter p).map f) S → MW c own tg cd e ρ ks (ys.map mk) S QL := by
    intro ys
    induction ys with
    | nil => intro _ QL q; exact m_nil q
    | cons x xs ih =>
      intro h QL q
      rw [List.map_cons]
      apply m_cons
      obtain ⟨ρ', S2, h1, b, S3, h2, h3, h4⟩ := h x List.mem_cons_self
      refine ⟨ρ', S2, h1, b, S3, h2, ?_, ?_⟩
      · intro hb
        obtain ⟨hp, y, S4, h5, rfl, rfl⟩ := h3 hb
        rw [List.filter_cons, if_pos hp, List.map_cons] at q
        exact ⟨_, _, h5, k_same (ih (fun x hx => h x (List.mem_cons_of_mem _ hx)) _ q)⟩
      · intro hb
        obtain ⟨hp, rfl⟩ := h4 hb
        rw [List.filter_cons, if_neg (by rw [hp]; decide)] at q
        exact k_same (ih (fun x hx => h x (List.mem_cons_of_mem _ hx)) _ q)
  exact key ys h QL q
theorem m_mapL (ys : List α) (mk : α → Val) (f : α → Val) (hw : wipeE ρ own = ρ')
    (h : ∀ a ∈ ys, BT c tg (mk a) ρ' S fun ρ2 S2 => EVC c cd ρ2 S2 fun b S3 => b = true ∧ EV c e ρ2 S3 fun y S4 => y = f a ∧ S4 = S) (q : QL (ys.map f) S) : MW c own tg cd e ρ ks (ys.map mk) S QL := by
  refine m_list ys mk (fun _ => true) f hw (fun a ha => ?_) (by rw [List.filter_eq_self.mpr fun _ _ => rfl]; exact q)
  obtain ⟨ρ2, S2, h1, b, S3, h2, rfl, y, S4, h3, h4⟩ := h a ha
  exact ⟨ρ2, S2, h1, true, S3, h2, m_t ⟨rfl, y, S4, h3, h4⟩⟩
end
/-! objects, dicts -/
def MADE (c : Oracle) (k f : Nat) (vs : List Val) (S : Store) (Q : Val → Store → Prop) : Prop := ∃ S2, c true f (.ref S.length :: vs) (S ++ [.ins k [] []]) = some (.non, S2) ∧ Q (.ref S.length) S2
section
variable {c : Oracle} {ρ : Env} {S S1 S2 : Store} {a b d e : E} {x y v : Val} {Q : Val → Store → Prop} {R : Val → Prop}
theorem w_attr {ks : List Nat} {f : Str} (h : EV c a ρ S fun x S1 => ∃ k ns xs, insOf S1 x = some (k, ns, xs) ∧ ks.contains k = true ∧ OP (fldOf ns xs f) fun z => Q z S1) : EV c (.attr ks a f) ρ S Q := by
  obtain ⟨x, S1, h1, k, ns, xs, h2, h3, z, h4, q⟩ := h
  refine ⟨z, S1, ?_, q⟩
  unfold evE
  simp only [h1, Option.bind_some, h2, h3, if_true, h4, Option.map_some]
theorem w_meth {k f : Nat} {m : Str} {es : EL} (h : EV c a ρ S fun x S1 => ∃ ns xs, insOf S1 x = some (k, ns, xs) ∧ fldOf ns xs m = none ∧ EVL c es ρ S1 fun vs S2 => CALL c f (x :: vs) S2 Q) : EV c (.meth false k m f a es) ρ S Q := by
  obtain ⟨x, S1, h1, ns, xs, h2, h3, vs, S2, h4, v, S3, w, S4, h5, h6, q⟩ := h
  refine ⟨w, S4, ?_, q⟩
  unfold evE
  simp only [h1, Option.bind_some, h2, h3, and_self, if_true, h4, h5, Bool.false_eq_true, if_false]
  exact h6
theorem w_make {k f : Nat} {es : EL} (h : EVL c es ρ S fun vs S1 => MADE c k f vs S1 Q) : EV c (.make k f es) ρ S Q := by
  obtain ⟨vs, S1, h1, S2, h2, q⟩ := h
  refine ⟨_, S2, ?_, q⟩
  unfold evE
  simp only [h1, Option.bind_some, h2]
theorem w_dkd {ks : List Int} {es : EL} (h : EVL c es ρ (S ++ [.dik [] []]) fun vs S1 => OP (dikMk S.length ks vs S1) fun S2 => Q (.ref S.length) S2) : EV c (.dkd ks es) ρ S Q := by
  obtain ⟨vs, S1, e1, S2, e2, q⟩ := h
  refine ⟨_, S2, ?_, q⟩
  unfold evE
  rw [e1, Option.bind_some]
  show (dikMk S.length ks vs S1).map _ = _
  rw [e2]; rfl
theorem w_kget (h : EV c d ρ S fun x S1 => EV c e ρ S1 fun y S2 => ∃ ks xs q, dikOf S2 x = some (ks, xs) ∧ keyIv y = some q ∧ OP (dval ks xs q) fun z => Q z S2) : EV c (.kget d e) ρ S Q := by
  obtain ⟨x, S1, h1, y, S2, h2, ks, xs, q, h3, h4, z, h5, k⟩ := h
  exact ⟨z, S2, by unfold evE; simp only [h1, h2, h3, h4, h5, Option.bind_some, Option.map_some], k⟩
theorem w_dct (q : Q (.ref S.length) (S ++ [.dic [] []])) : EV c .dct ρ S Q := ⟨_, _, by unfold evE; rfl, q⟩
theorem w_dget (h : EV c d ρ S fun x S1 => EV c e ρ S1 fun y S2 => ∃ ks xs q, dicOf S2 x = some (ks, xs) ∧ keyV y = some q ∧ OP (dval ks xs q) fun z => Q z S2) : EV c (.dget d e) ρ S Q := by
  obtain ⟨x, S1, h1, y, S2, h2, ks, xs, k, h3, h4, z, h5, q⟩ := h
  refine ⟨z, S2, ?_, q⟩
  unfold evE
  simp only [h1, h2, h3, h4, h5, Option.bind_some, Option.map_some]
theorem w_din {neg : Bool} (h : EV c e ρ S fun y S1 => EV c d ρ S1 fun x S2 => ∃ ks xs q, dicOf S2 x = some (ks, xs) ∧ keyV y = some q ∧ Q (.bl (if neg = true then !(dval ks xs q).isSome else (dval ks xs q).isSome)) S2) : EV c (.din neg e d) ρ S Q := by
  obtain ⟨y, S1, h1, x, S2, h2, ks, xs, k, h3, h4, q⟩ := h
  refine ⟨_, S2, ?_, q⟩
  unfold evE
  simp only [h1, h2, h3, h4, Option.bind_some, Option.map_some]
theorem w_ixof {y : E} (h : EV c a ρ S fun x S1 => (∃ l, lstOf S1 x = some l) ∧ EV c y ρ S1 fun w S2 => ∃ xs ds d, lstOf S2 x = some xs ∧ toDatas S2 20 xs = some ds ∧ toData S2 20 w = some d ∧ (SeqAt.shaped (.list ds) = true ∧ SeqAt.shaped d = true) ∧ ∃ j : Nat, (ds.findIdx? fun z => PyData.eqv z d) = some j ∧ Q (.int j) S2) : EV c (.ixof a y) ρ S Q := by
  obtain ⟨x, S1, h1, ⟨l, h2⟩, w, S2, h3, xs, ds, d, h4, h5, h6, h7, j, h8, q⟩ := h
  refine ⟨_, S2, ?_, q⟩
  unfold evE
  simp only [h1, h2, h3, h4, h5, h6, h7, h8, and_self, if_true, Option.bind_some, Option.map_some]
theorem w_rev (h : EV c a ρ S fun x S1 => ∃ xs, lstOf S1 x = some xs ∧ Q (.lv xs.reverse) S1) : EV c (.rev a) ρ S Q := by
  obtain ⟨x, S1, h1, xs, h2, q⟩ := h
  refine ⟨_, S1, ?_, q⟩
  unfold evE
  simp only [h1, h2, Option.bind_some, Option.map_some]
theorem w_revT (h : EV c a ρ S fun x S1 => ∃ xs, x = .tup xs ∧ Q (.tup xs.reverse) S1) : EV c (.revT a) ρ S Q := by
  obtain ⟨x, S1, h1, xs, rfl, q⟩ := h
  refine ⟨_, S1, ?_, q⟩
  unfold evE
  simp only [h1, Option.bind_some]
theorem w_strI (h : EV c a ρ S fun x S1 => ∃ i : Int, x = .int i ∧ i.natAbs.log2 < 1920 ∧ Q (.str (toString i)) S1) : EV c (.strI a) ρ S Q := by
  obtain ⟨x, S1, h1, i, rfl, h2, q⟩ := h
  refine ⟨_, S1, ?_, q⟩
  unfold evE
  simp only [h1, h2, if_true, Option.bind_some]
theorem w_strB {k : Bool} (h : EV c a ρ S fun x S1 => x = .bl k ∧ Q (.str (if k then "True" else "False")) S1) : EV c (.strI a) ρ S Q := by
  obtain ⟨x, S1, h1, rfl, q⟩ := h
  refine ⟨_, S1, ?_, q⟩
  unfold evE
  simp only [h1, Option.bind_some]
theorem w_lset (h : EV c a ρ S fun x S1 => ∃ xs rs, lstOf S1 x = some xs ∧ rowsOf xs = some rs ∧ rs.length < 64 ∧ Q (.int ((keysR rs).length : Nat)) S1) : EV c (.lset a) ρ S Q := by
  obtain ⟨x, S1, h1, xs, rs, h2, h3, h4, q⟩ := h
  refine ⟨_, S1, ?_, q⟩
  unfold evE
  simp only [h1, h2, h3, h4, if_true, Option.bind_some]
theorem w_sset (h : EV c a ρ S fun x S1 => ∃ xs ns, lstOf S1 x = some xs ∧ intsOf xs = some ns ∧ ns.length < 64 ∧ Q (.lv ((sortI (keysI ns)).map Val.int)) S1) : EV c (.sset a) ρ S Q := by
  obtain ⟨x, S1, h1, xs, ns, h2, h3, h4, q⟩ := h
  refine ⟨_, S1, ?_, q⟩
  unfold evE
  simp only [h1, h2, h3, Option.bind_some, if_pos h4]
theorem w_mind (h : EV c a ρ S fun x S1 => OP (minD S1 x) fun z => Q z S1) : EV c (.mind a) ρ S Q := by
  obtain ⟨x, S1, h1, z, h2, q⟩ := h
  refine ⟨z, S1, ?_, q⟩
  unfold evE
  simp only [h1, h2, Option.bind_some, Option.map_some]
theorem w_fld {ks : List Nat} {f : Str} {QE : Env → Store → Prop} (h : EV c a ρ S fun x S1 => OP (fldSet S1 ks x f v) fun S2 => QE ρ S2) : BT c (.fld ks a f) v ρ S QE := by
  obtain ⟨x, S1, h1, S2, h2, q⟩ := h
  refine ⟨ρ, S2, ?_, q⟩
  unfold bindT
  simp only [h1, h2, Option.bind_some, Option.map_some]
theorem x_augF {ks : List Nat} {f : Str} {ss : SL} {P : Out → Prop} (h : EV c a ρ S fun x S1 => ∃ k ns xs i, insOf S1 x = some (k, ns, xs) ∧ ks.contains k = true ∧ fldOf ns xs f = some (.int i) ∧ EV c e ρ S1 fun y S2 => NUM y fun j =>
    ∃ ns2 xs2, insOf S2 x = some (k, ns2, xs2) ∧ OP (fldSet S2 ks x f (.int (i + j))) fun S3 => Runs c ss ρ S3 P) : Runs c (.cons (.augF ks a f e) ss) ρ S P := by
  obtain ⟨x, S1, h1, k, ns, xs, i, h2, h3, h4, y, S2, h5, j, rfl, ns2, xs2, h6, S3, h7, h8⟩ := h
  refine r_st ?_ h8
  unfold exS
  simp only [h1, h2, h3, h4, h5, h6, h7, Option.bind_some, Option.map_some, if_true]
theorem x_dput {ss : SL} {P : Out → Prop} (h : EV c e ρ S fun v S1 => EV c d ρ S1 fun x S2 => EV c a ρ S2 fun y S3 => OP (dicSet S3 x y v) fun S4 => Runs c ss ρ S4 P) : Runs c (.cons (.dput d a e) ss) ρ S P := by
  obtain ⟨v, S1, h1, x, S2, h2, y, S3, h3, S4, h4, h5⟩ := h
  refine r_st ?_ h5
  unfold exS
  simp only [h1, h2, h3, h4, Option.bind_some, Option.map_some]
end
end Itp

namespace Itp
open PySem PySem.Spec PyProof.Rows L2
/-! what repr tells, how long it is at most -/
theorem listText_le (ts : List Str) : (listText ts).length ≤ piled ts + 2 := by
  unfold listText
  rw [strLen_append]
  have e1 : ((("[" : String) : Str)).length = 1 := rfl
  have e2 : ((("]" : String) : Str)).length = 1 := rfl
  cases ts with
  | nil => show (("[" : String) : Str).length + _ ≤ _; rw [e1, e2]; omega
  | cons t r =>
    show (textFrom 1 _ r).length + _ ≤ _
    rw [textFrom_length_pos r 1 _ (by decide), e2, piled_cons]
    rw [strLen_append, strLen_append, e1]
    have e3 : (((if 0 > 0 then ", " else "" : String) : Str)).length = 0 := rfl
    rw [e3]
    omega
theorem tupText_le (ts : List Str) : (tupleText ts).length ≤ piled ts + 4 := Nat.le_trans (fmt_text ts) (by omega)
theorem piled_le {W : Nat} : ∀ {ts : List Str}, (∀ t ∈ ts, t.length ≤ W) → piled ts ≤ ts.length * (W + 2)
  | [], _ => Nat.zero_le _
  | t :: r, h => by
    have h1 := h t List.mem_cons_self
    have h2 := piled_le fun x hx => h x (List.mem_cons_of_mem _ hx)
    rw [piled_cons, List.length_cons, Nat.add_mul]
    omega
/-- a value whose repr is known: of data so deep, so long at most -/
def Shw (d W : Nat) (v : Val) : Prop := ∃ D, (∀ S k, toData S (k + 2 * d) v = some D) ∧ PyData.canLay0 D = true ∧ PyData.depth D ≤ 2 * d + 1 ∧ PyData.showable D = true ∧ D.shown.length ≤ W
def Shws (d W : Nat) (xs : List Val) : Prop := ∃ Ds, (∀ S k, toDatas S (k + 1 + 2 * d) xs = some Ds) ∧ PyData.canLayAll0 Ds = true ∧ PyData.depthAll Ds ≤ 2 * d + 1 ∧ PyData.showableAll Ds = true ∧ (∀ t ∈ PyData.shownAll Ds, t.length ≤ W) ∧ (PyData.shownAll Ds).length = xs.length
theorem Shw.mono {d W W' : Nat} {v : Val} (h : Shw d W v) (hw : W ≤ W') : Shw d W' v := by
  obtain ⟨D, h1, h2, h3, h4, h5⟩ := h
  exact ⟨D, h1, h2, h3, h4, Nat.le_trans h5 hw⟩
theorem shws_nil (d W : Nat) : Shws d W [] := ⟨[], fun S k => by simp [toDatas], by simp [PyData.canLayAll0], by simp [PyData.depthAll], by simp [PyData.showableAll], fun t h => (by simp [PyData.shownAll] at h), by simp [PyData.shownAll]⟩
theorem shws_cons {d W : Nat} {v : Val} {xs : List Val} (h : Shw d W v) (hs : Shws d W xs) : Shws d W (v :: xs) := by
  obtain ⟨D, a1, a2, a3, a4, a5⟩ := h
  obtain ⟨Ds, b1, b2, b3, b4, b5, b6⟩ := hs
  refine ⟨D :: Ds, fun S k => ?_, ?_, ?_, ?_, ?_, ?_⟩
  · have e1 := a1 S k
    have e2 := b1 S k
    rw [show k + 1 + 2 * d = k + 2 * d + 1 by omega] at e2 ⊢
    simp only [toDatas, e1, e2, Option.bind_some, Option.map_some]
  · simp [PyData.canLayAll0, a2, b2]
  · simp only [PyData.depthAll]; omega
  · simp [PyData.showableAll, a4, b4]
  · intro t ht
    rw [PyData.shownAll] at ht
    rcases List.mem_cons.mp ht with rfl | ht
    · exact a5
    · exact b5 t ht
  · rw [PyData.shownAll, List.length_cons, List.length_cons, b6]
theorem shws_of {d W : Nat} : ∀ {xs : List Val}, (∀ v ∈ xs, Shw d W v) → Shws d W xs
  | [], _ => shws_nil d W
  | v :: xs, h => shws_cons (h v List.mem_cons_self) (shws_of fun x hx => h x (List.mem_cons_of_mem _ hx))
theorem shw_tup {d W : Nat} {xs : List Val} (h : Shws d W xs) : Shw (d + 1) (xs.length * (W + 2) + 4) (.tup xs) := by
  obtain ⟨Ds, b1, b2, b3, b4, b5, b6⟩ := h
  refine ⟨.tuple Ds, fun S k => ?_, ?_, ?_, ?_, ?_⟩
  · have e := b1 S k
    rw [show k + 2 * (d + 1) = k + 1 + 2 * d + 1 by omega]
    simp only [toData, e, Option.map_some]
  · simp only [PyData.canLay0]; exact b2
  · simp only [PyData.depth]; omega
  · simp only [PyData.showable]; exact b4
  · simp only [PyData.shown]
    have := tupText_le (PyData.shownAll Ds)
    have := piled_le b5
    rw [b6] at this
    omega
theorem shw_lv {d W : Nat} {xs : List Val} (h : Shws d W xs) : Shw (d + 1) (xs.length * (W + 2) + 4) (.lv xs) := by
  obtain ⟨Ds, b1, b2, b3, b4, b5, b6⟩ := h
  refine ⟨.list Ds, fun S k => ?_, ?_, ?_, ?_, ?_⟩
  · have e := b1 S k
    rw [show k + 2 * (d + 1) = k + 1 + 2 * d + 1 by omega]
    simp only [toData, e, Option.map_some]
  · simp only [PyData.canLay0]; exact b2
  · simp only [PyData.depth]; omega
  · simp only [PyData.showable]; exact b4
  · simp only [PyData.shown]
    have := listText_le (PyData.shownAll Ds)
    have := piled_le b5
    rw [b6] at this
    omega
theorem shw_int {d : Nat} {i : Int} (h1 : -(2 ^ 1900) < i) (h2 : i < 2 ^ 1900) : Shw d 2000 (.int i) := by
  have lg : i.natAbs.log2 < 1920 := by
    by_cases z : i.natAbs = 0
    · rw [z]; decide
    · have : i.natAbs.log2 < 1900 := (Nat.log2_lt z).mpr (by omega)
      omega
  refine ⟨.int i, fun S k => by unfold toData; rfl, by simp [PyData.canLay0], by simp [PyData.depth], by simpa [PyData.showable] using lg, ?_⟩
  simp only [PyData.shown]
  have := int_text_length_le (k := 1920) (by decide) lg
  show (Str.ofString (toString i)).length ≤ 2000
  rw [PySem.ofString_length]
  omega
theorem shw_bl {d : Nat} (b : Bool) : Shw d 2000 (.bl b) := ⟨.bool b, fun S k => by unfold toData; rfl, by simp [PyData.canLay0], by simp [PyData.depth], by simp [PyData.showable], by cases b <;> simp only [PyData.shown] <;> decide +kernel⟩
theorem shw_non {d : Nat} : Shw d 2000 .non := ⟨.none, fun S k => by unfold toData; rfl, by simp [PyData.canLay0], by simp [PyData.depth], by simp [PyData.showable], by simp only [PyData.shown]; decide +kernel⟩
/-- the text that repr tells -/
theorem rep_any {d W : Nat} {v : Val} (h : Shw d W v) (hd : d ≤ 9) (hW : W ≤ sizeLine) : ∃ t : Str, ∀ S, repSem S v = some (.str t) := by
  obtain ⟨D, h1, h2, h3, h4, h5⟩ := h
  refine ⟨D.shown, fun S => ?_⟩
  have e := h1 S (20 - 2 * d)
  rw [show 20 - 2 * d + 2 * d = 20 by omega] at e
  have sh : SeqAt.shaped D = true := by
    unfold SeqAt.shaped
    rw [Bool.and_eq_true]
    exact ⟨h2, decide_eq_true (by omega)⟩
  unfold repSem
  rw [e]
  simp only [Option.bind_some]
  rw [if_pos]
  refine ⟨?_, h4, sh, Nat.le_trans h5 hW⟩
  cases D with
  | dict l => simp [PyData.canLay0] at h2
  | _ => rfl
theorem rep_of {d W : Nat} {v : Val} (h : Shw d W v) (hd : d ≤ 9) (hW : W ≤ sizeLine) (hv : (∃ xs, v = .tup xs) ∨ ∃ xs, v = .lv xs) : ∃ t : Str, ∀ S, repSem S v = some (.str t) := rep_any h hd hW
/-- a text whose repr is known -/
theorem shw_str {d : Nat} {x : Str} (h1 : PyData.canLay0 (.str x) = true) (h2 : PyData.showable (.str x) = true) (h3 : (PyData.str x).shown.length ≤ 2000) : Shw d 2000 (.str x) :=
  ⟨.str x, fun S k => by unfold toData; rfl, h1, by simp [PyData.depth], h2, h3⟩
section
variable {c : Oracle} {ρ : Env} {S : Store} {a : E} {Q : Val → Store → Prop}
theorem w_rep (h : EV c a ρ S fun x S1 => OP (repSem S1 x) fun z => Q z S1) : EV c (.rep a) ρ S Q := by
  obtain ⟨x, S1, h1, z, h2, q⟩ := h
  refine ⟨z, S1, ?_, q⟩
  unfold evE
  simp only [h1, h2, Option.bind_some, Option.map_some]
theorem w_dfn {f : Nat} (q : Q (.fn f) S) : EV c (.dfn f) ρ S Q := ⟨.fn f, S, by unfold evE; rfl, q⟩
theorem w_callV {f i : Nat} {fs : List Nat} {es : EL} (hi : ρ[i]? = some (some (.fn f))) (hf : fs.contains f = true) (h : EVL c es ρ S fun vs S1 => CALL c f vs S1 Q) : EV c (.callV false fs i es) ρ S Q := by
  obtain ⟨vs, S1, h1, v, S2, w, S3, h2, h3, q⟩ := h
  refine ⟨w, S3, ?_, q⟩
  unfold evE
  simp only [hi, hf, h1, h2, Option.bind_some]
  simpa using h3
theorem o_eqStr {S : Store} {t : Str} {R : Bool → Prop} (q : R true) : OP (cmpSem S .eq (.str t) (.str t)) R := ⟨true, by unfold cmpSem eqSem; simp, q⟩
theorem o_neStr {S : Store} {t : Str} {R : Bool → Prop} (q : R false) : OP (cmpSem S .ne (.str t) (.str t)) R := ⟨false, by unfold cmpSem eqSem; simp, q⟩
end
end Itp

namespace Itp
/-! ### steps around a ring -/
def Least (P : Int → Prop) : Option Int → Prop
  | some n => 0 ≤ n ∧ P n ∧ ∀ m, 0 ≤ m → m < n → ¬ P m
  | none => ∀ m, 0 ≤ m → ¬ P m
theorem Least.congr {P P' : Int → Prop} {r : Option Int} (h : Least P r) (e : ∀ n, 0 ≤ n → (P n ↔ P' n)) : Least P' r := by
  cases r with
  | none => exact fun m hm q => h m hm ((e m hm).mpr q)
  | some n => exact ⟨h.1, (e n h.1).mp h.2.1, fun m hm hl q => h.2.2 m hm hl ((e m hm).mpr q)⟩
theorem Least.uniq {P : Int → Prop} {r r' : Option Int} (h : Least P r) (h' : Least P r') : r = r' := by
  cases r with
  | none =>
    cases r' with
    | none => rfl
    | some n => exact absurd h'.2.1 (h n h'.1)
  | some m =>
    cases r' with
    | none => exact absurd h.2.1 (h' m h.1)
    | some n =>
      have h1 : ¬ m < n := fun q => h'.2.2 m h.1 q h.2.1
      have h2 : ¬ n < m := fun q => h.2.2 n h'.1 q h'.2.1
      rw [show m = n by omega]
/-- from 0, so many steps lead into the window -/
def Hit0 (s a l h n : Int) : Prop := l ≤ n * s % a ∧ n * s % a ≤ h
def Hit (b s a l h n : Int) : Prop := l ≤ (b + n * s) % a ∧ (b + n * s) % a ≤ h
theorem emod_is {a x q t : Int} (h : x = a * q + t) (h0 : 0 ≤ t) (h1 : t < a) : x % a = t ∧ x / a = q := by
  have ha : 0 < a := by omega
  have e := (Int.ediv_emod_unique (b := a) ha (a := x) (r := t) (q := q)).mpr ⟨by omega, h0, h1⟩
  exact ⟨e.2, e.1⟩
theorem hit0_iff {s a l h n : Int} (h0 : 0 < l) (h2 : h < a) : Hit0 s a l h n ↔ ∃ k, l + a * k ≤ n * s ∧ n * s ≤ h + a * k := by
  have ha : l ≤ h → 0 < a := by omega
  constructor
  · rintro ⟨q1, q2⟩
    refine ⟨n * s / a, ?_⟩
    have e := Int.mul_ediv_add_emod (n * s) a
    omega
  · rintro ⟨k, q1, q2⟩
    have e := (emod_is (a := a) (x := n * s) (q := k) (t := n * s - a * k) (by omega) (by omega) (by omega)).1
    unfold Hit0
    rw [e]
    omega
/-- rounding up -/
theorem ceil_is {x s : Int} (hs : 0 < s) : -(-x / s) * s = x + -x % s ∧ 0 ≤ -x % s ∧ -x % s < s := by
  have e := Int.mul_ediv_add_emod (-x) s
  have h1 := Int.emod_nonneg (-x) (show s ≠ 0 by omega)
  have h2 := Int.emod_lt_of_pos (-x) hs
  refine ⟨?_, h1, h2⟩
  rw [Int.neg_mul, Int.mul_comm]
  omega
theorem mul_lt_iff {m n s : Int} (hs : 0 < s) (h : m < n) : m * s + s ≤ n * s := by
  have : (m + 1) * s ≤ n * s := Int.mul_le_mul_of_nonneg_right (by omega) (by omega)
  rw [Int.add_mul, Int.one_mul] at this
  exact this
theorem pos_of_mul {n s : Int} (hs : 0 < s) (h : 0 < n * s) : 0 < n := by
  cases Int.lt_or_le 0 n with
  | inl q => exact q
  | inr q =>
    have : n * s ≤ 0 * s := Int.mul_le_mul_of_nonneg_right q (by omega)
    rw [Int.zero_mul] at this
    omega
theorem step_near {s a l h : Int} (hs : 0 < s) (h0 : 0 < l) (h1 : l ≤ h) (h2 : h < a) (hc : -(-l / s) * s ≤ h) : Least (Hit0 s a l h) (some (-(-l / s))) := by
  obtain ⟨e, r0, r1⟩ := ceil_is (x := l) hs
  have hp : 0 < -(-l / s) := pos_of_mul hs (by omega)
  refine ⟨by omega, (hit0_iff h0 h2).mpr ⟨0, by omega, by omega⟩, fun m hm hlt q => ?_⟩
  obtain ⟨k, k1, k2⟩ := (hit0_iff h0 h2).mp q
  have e2 := mul_lt_iff hs hlt
  have hms : 0 ≤ m * s := Int.mul_nonneg hm (by omega)
  have hk : 0 ≤ k := by
    cases Int.lt_or_le k 0 with
    | inr q => exact q
    | inl q =>
      have : a * k ≤ a * (-1) := Int.mul_le_mul_of_nonneg_left (by omega) (by omega)
      omega
  have : 0 ≤ a * k := Int.mul_nonneg (by omega) hk
  omega
theorem far_window {s l h : Int} (hs : 0 < s) (h0 : 0 < l) (h1 : l ≤ h) (hc : h < -(-l / s) * s) : -h % s = -l % s - (h - l) ∧ 0 < -h % s ∧ -h % s ≤ -l % s ∧ -l % s < s := by
  obtain ⟨e, r0, r1⟩ := ceil_is (x := l) hs
  have q := Int.mul_ediv_add_emod (-l) s
  have e2 := (emod_is (a := s) (x := -h) (q := -l / s) (t := -l % s - (h - l)) (by omega) (by omega) (by omega)).1
  rw [e2]
  omega
/-- a multiple of s lies in the k-th window -/
theorem win_iff {s a l h k : Int} (hs : 0 < s) (h0 : 0 < l) (h1 : l ≤ h) (hc : h < -(-l / s) * s) : Hit0 (a % s) s (-h % s) (-l % s) k ↔ -(-(l + k * a) / s) * s ≤ h + k * a := by
  obtain ⟨w1, w2, w3, w4⟩ := far_window hs h0 h1 hc
  obtain ⟨e, r0, r1⟩ := ceil_is (x := l + k * a) hs
  have et : k * (a % s) % s = k * a % s := by rw [Int.mul_emod, Int.emod_emod_of_dvd _ (Int.dvd_refl s), ← Int.mul_emod]
  have t0 := Int.emod_nonneg (k * a) (show s ≠ 0 by omega)
  have t1 := Int.emod_lt_of_pos (k * a) hs
  have q := Int.mul_ediv_add_emod (-l) s
  have qk := Int.mul_ediv_add_emod (k * a) s
  obtain ⟨el, l0, l1⟩ := ceil_is (x := l) hs
  unfold Hit0
  rw [et]
  by_cases ht : k * a % s ≤ -l % s
  · have er := (emod_is (a := s) (x := -(l + k * a)) (q := -l / s - k * a / s) (t := -l % s - k * a % s) (by rw [Int.mul_sub]; omega) (by omega) (by omega)).1
    rw [er] at e
    omega
  · have er := (emod_is (a := s) (x := -(l + k * a)) (q := -l / s - k * a / s - 1) (t := -l % s - k * a % s + s) (by rw [Int.mul_sub, Int.mul_sub, Int.mul_one]; omega) (by omega) (by omega)).1
    rw [er] at e
    omega
theorem step_far {s a l h : Int} {r : Option Int} (hs : 0 < s) (h0 : 0 < l) (h1 : l ≤ h) (h2 : h < a) (hc : h < -(-l / s) * s) (hr : Least (Hit0 (a % s) s (-h % s) (-l % s)) r) :
    Least (Hit0 s a l h) (r.map fun k => -(-(l + k * a) / s)) := by
  have back : ∀ m, 0 ≤ m → Hit0 s a l h m → ∃ k, 0 ≤ k ∧ l + a * k ≤ m * s ∧ m * s ≤ h + a * k ∧ Hit0 (a % s) s (-h % s) (-l % s) k := by
    intro m hm q
    obtain ⟨k, k1, k2⟩ := (hit0_iff h0 h2).mp q
    have hms : 0 ≤ m * s := Int.mul_nonneg hm (by omega)
    have hk : 0 ≤ k := by
      cases Int.lt_or_le k 0 with
      | inr q => exact q
      | inl q =>
        have : a * k ≤ a * (-1) := Int.mul_le_mul_of_nonneg_left (by omega) (by omega)
        omega
    refine ⟨k, hk, k1, k2, (win_iff hs h0 h1 hc).mpr ?_⟩
    obtain ⟨e, r0, r1⟩ := ceil_is (x := l + k * a) hs
    have hka : k * a = a * k := Int.mul_comm _ _
    -- the least multiple that is no less than l + k a is no more than m s
    have hle : -(-(l + k * a) / s) ≤ m := by
      cases Int.lt_or_le m (-(-(l + k * a) / s)) with
      | inr q => exact q
      | inl q =>
        have := mul_lt_iff hs q
        omega
    have := Int.mul_le_mul_of_nonneg_right hle (show 0 ≤ s by omega)
    omega
  cases r with
  | none =>
    intro m hm q
    obtain ⟨k, hk, _, _, hq⟩ := back m hm q
    exact hr k hk hq
  | some k =>
    obtain ⟨hk, hhit, hleast⟩ := hr
    have hw := (win_iff hs h0 h1 hc).mp hhit
    obtain ⟨e, r0, r1⟩ := ceil_is (x := l + k * a) hs
    have hka : k * a = a * k := Int.mul_comm _ _
    have hk0 : 0 ≤ a * k := Int.mul_nonneg (by omega) hk
    have hp : 0 < -(-(l + k * a) / s) := pos_of_mul hs (by omega)
    show Least (Hit0 s a l h) (some (-(-(l + k * a) / s)))
    refine ⟨by omega, (hit0_iff h0 h2).mpr ⟨k, by omega, by omega⟩, fun m hm hlt q => ?_⟩
    obtain ⟨k', hk', k1, k2, hq⟩ := back m hm q
    have hge : ¬ k' < k := fun z => hleast k' hk' z hq
    have hms := mul_lt_iff hs hlt
    by_cases hkk : k' = k
    · subst hkk; omega
    · have : a * (k + 1) ≤ a * k' := Int.mul_le_mul_of_nonneg_left (by omega) (by omega)
      rw [Int.mul_add, Int.mul_one] at this
      omega
/-- the least one is below the ring's size -/
theorem least_lt {s a l h n : Int} (ha : 0 < a) (hl : Least (Hit0 s a l h) (some n)) : n < a := by
  cases Int.lt_or_le n a with
  | inl q => exact q
  | inr q =>
    exfalso
    refine hl.2.2 (n - a) (by omega) (by omega) ?_
    have e : (n - a) * s % a = n * s % a := by
      rw [Int.sub_mul, Int.sub_emod, Int.mul_emod_right, Int.sub_zero, Int.emod_emod_of_dvd _ (Int.dvd_refl a)]
    have := hl.2.1
    unfold Hit0 at this ⊢
    rw [e]; exact this
theorem hit_shift {b s a l h n : Int} (ha : 0 < a) (h0 : 0 ≤ l) (h1 : l ≤ h) (h2 : h < a) (hn : 0 < (l - b) % a) (hf : (l - b) % a ≤ (h - b) % a) :
    Hit b s a l h n ↔ Hit0 (s % a) a ((l - b) % a) ((h - b) % a) n := by
  have et : n * (s % a) % a = n * s % a := by rw [Int.mul_emod, Int.emod_emod_of_dvd _ (Int.dvd_refl a), ← Int.mul_emod]
  have n1 := Int.emod_lt_of_pos (l - b) ha
  have f1 := Int.emod_lt_of_pos (h - b) ha
  have u0 := Int.emod_nonneg (n * s) (show a ≠ 0 by omega)
  have u1 := Int.emod_lt_of_pos (n * s) ha
  have x0 := Int.emod_nonneg (b + n * s) (show a ≠ 0 by omega)
  have x1 := Int.emod_lt_of_pos (b + n * s) ha
  have qn := Int.mul_ediv_add_emod (l - b) a
  have qf := Int.mul_ediv_add_emod (h - b) a
  have qu := Int.mul_ediv_add_emod (n * s) a
  have qx := Int.mul_ediv_add_emod (b + n * s) a
  -- whole arounds between the four
  generalize hA : (l - b) / a = A at *
  generalize hB : (h - b) / a = B at *
  generalize hC : n * s / a = C at *
  generalize hD : (b + n * s) / a = D at *
  unfold Hit Hit0
  rw [et]
  generalize (l - b) % a = near at *
  generalize (h - b) % a = far at *
  generalize n * s % a = u at *
  generalize (b + n * s) % a = x at *
  generalize n * s = ns at *
  -- far - near = h - l
  have hAB : A = B := by
    have e : a * (B - A) = h - l + near - far := by rw [Int.mul_sub]; omega
    have : B - A = 0 := by
      cases Int.lt_trichotomy (B - A) 0 with
      | inl q =>
        have : a * (B - A) ≤ a * (-1) := Int.mul_le_mul_of_nonneg_left (by omega) (by omega)
        omega
      | inr q =>
        cases q with
        | inl q => exact q
        | inr q =>
          have : a * 1 ≤ a * (B - A) := Int.mul_le_mul_of_nonneg_left (by omega) (by omega)
          omega
    omega
  subst hAB
  -- x = l + u - near + whole arounds
  have ex : a * (D - C + A) = l - near + u - x := by rw [Int.mul_add, Int.mul_sub]; omega
  generalize hE : D - C + A = E at ex
  have hE3 : E = -1 ∨ E = 0 ∨ E = 1 := by
    rcases Int.lt_or_le E (-1) with q | q
    · have : a * E ≤ a * (-2) := Int.mul_le_mul_of_nonneg_left (by omega) (by omega)
      omega
    · rcases Int.lt_or_le 1 E with q2 | q2
      · have : a * 2 ≤ a * E := Int.mul_le_mul_of_nonneg_left (by omega) (by omega)
        omega
      · omega
  rcases hE3 with q | q | q
  · subst q; constructor <;> intro z <;> omega
  · subst q; constructor <;> intro z <;> omega
  · subst q; constructor <;> intro z <;> omega
theorem hit_zero {b s a l h : Int} (ha : 0 < a) (h0 : 0 ≤ l) (h1 : l ≤ h) (h2 : h < a) (hn : (l - b) % a = 0 ∨ (h - b) % a < (l - b) % a) : Least (Hit b s a l h) (some 0) := by
  refine ⟨Int.le_refl _, ?_, fun m hm hlt => by omega⟩
  unfold Hit
  rw [Int.zero_mul, Int.add_zero]
  have n0 := Int.emod_nonneg (l - b) (show a ≠ 0 by omega)
  have n1 := Int.emod_lt_of_pos (l - b) ha
  have f0 := Int.emod_nonneg (h - b) (show a ≠ 0 by omega)
  have f1 := Int.emod_lt_of_pos (h - b) ha
  have x0 := Int.emod_nonneg b (show a ≠ 0 by omega)
  have x1 := Int.emod_lt_of_pos b ha
  have qn := Int.mul_ediv_add_emod (l - b) a
  have qf := Int.mul_ediv_add_emod (h - b) a
  have qx := Int.mul_ediv_add_emod b a
  generalize (l - b) / a = A at *
  generalize (h - b) / a = B at *
  generalize b / a = D at *
  generalize (l - b) % a = near at *
  generalize (h - b) % a = far at *
  generalize b % a = x at *
  have e1 : a * (A + D) = l - x - near := by rw [Int.mul_add]; omega
  have e2 : a * (B + D) = h - x - far := by rw [Int.mul_add]; omega
  generalize A + D = E at e1
  generalize B + D = F at e2
  have hE : E = -1 ∨ E = 0 := by
    rcases Int.lt_or_le E (-1) with q | q
    · have : a * E ≤ a * (-2) := Int.mul_le_mul_of_nonneg_left (by omega) (by omega)
      omega
    · rcases Int.lt_or_le 0 E with q2 | q2
      · have : a * 1 ≤ a * E := Int.mul_le_mul_of_nonneg_left (by omega) (by omega)
        omega
      · omega
  have hF : F = -1 ∨ F = 0 := by
    rcases Int.lt_or_le F (-1) with q | q
    · have : a * F ≤ a * (-2) := Int.mul_le_mul_of_nonneg_left (by omega) (by omega)
      omega
    · rcases Int.lt_or_le 0 F with q2 | q2
      · have : a * 1 ≤ a * F := Int.mul_le_mul_of_nonneg_left (by omega) (by omega)
        omega
      · omega
  rcases hE with q | q <;> rcases hF with q' | q' <;> subst q <;> subst q' <;> omega
/-- how deep the steps go -/
def Dep : Nat → Int → Int → Prop
  | 0, _, _ => False
  | n + 1, s, a => s = 0 ∨ (0 < s ∧ Dep n (a % s) s)
theorem Dep.mono : ∀ {n m : Nat} {s a : Int}, Dep n s a → n ≤ m → Dep m s a
  | 0, _, _, _, h, _ => h.elim
  | n + 1, 0, _, _, _, h => by omega
  | n + 1, m + 1, s, a, h, hm => by
    rcases h with h | ⟨h1, h2⟩
    · exact .inl h
    · exact .inr ⟨h1, h2.mono (by omega)⟩
/-- two Fibonacci numbers -/
def fp : Nat → Int × Int
  | 0 => (0, 1)
  | n + 1 => ((fp n).2, (fp n).1 + (fp n).2)
theorem fp_mono : ∀ n : Nat, 0 ≤ (fp n).1 ∧ (fp n).1 ≤ (fp n).2
  | 0 => by decide
  | n + 1 => by
    have h := fp_mono n
    show 0 ≤ (fp n).2 ∧ (fp n).2 ≤ (fp n).1 + (fp n).2
    omega
theorem dep_of : ∀ (n : Nat) {s a : Int}, 0 ≤ s → s < (fp n).1 → Dep n s a
  | 0, s, a, h0, h => by
    have : (fp 0).1 = 0 := rfl
    omega
  | 1, s, a, h0, h => .inl (by
    have : (fp 1).1 = 1 := rfl
    omega)
  | n + 2, s, a, h0, h => by
    have e2 : (fp (n + 2)).1 = (fp n).1 + (fp n).2 := rfl
    have e1 : (fp (n + 1)).1 = (fp n).2 := rfl
    have hm := fp_mono n
    by_cases hs : s = 0
    · exact .inl hs
    · refine .inr ⟨by omega, ?_⟩
      have r0 := Int.emod_nonneg a hs
      have r1 := Int.emod_lt_of_pos a (show 0 < s by omega)
      by_cases hr : a % s < (fp (n + 1)).1
      · exact dep_of (n + 1) r0 hr
      · have hr0 : 0 < a % s ∨ a % s = 0 := by omega
        rcases hr0 with hr0 | hr0
        · refine .inr ⟨hr0, dep_of n (Int.emod_nonneg _ (by omega)) ?_⟩
          generalize hq : a % s = r at *
          have e := Int.mul_ediv_add_emod s r
          have hd : 1 ≤ s / r := by
            rw [Int.le_ediv_iff_mul_le (by omega)]
            omega
          have : r * 1 ≤ r * (s / r) := Int.mul_le_mul_of_nonneg_left hd (by omega)
          omega
        · exact .inl hr0
theorem fp_big : (10 : Int) ^ 40 < (fp 195).1 := by decide +kernel
theorem fp_small : (1000 : Int) < (fp 20).1 := by decide +kernel
end Itp

namespace Itp
open PySem L2
abbrev i_year_drops : Nat := 519
abbrev i_ant_behind : Nat := 319
abbrev i_given_by : Nat := 341
abbrev i_is_open : Nat := 360
abbrev i_open_from : Nat := 487
abbrev i_day_of : Nat := 328
abbrev i_turn : Nat := 512
abbrev i_turns : Nat := 513
abbrev i_line_of : Nat := 463
abbrev i_ends_of : Nat := 331
abbrev i_next_end : Nat := 482
abbrev i_stretches : Nat := 510
abbrev i_lost_at : Nat := 470
abbrev i_led : Nat := 459
abbrev i_law_box : Nat := 77
abbrev i_law_take : Nat := 286
abbrev i_law_folded : Nat := 114
abbrev i_law_same : Nat := 260
abbrev i_law_nest_of : Nat := 156
abbrev i_law_told_right_k07 : Nat := 297
abbrev i_law_three_right_k07 : Nat := 289
abbrev i_law_one_evening_right : Nat := 162
abbrev i_law_lines_right : Nat := 142
abbrev i_law_k07 : Nat := 375

def d_year_drops : Def := ⟨1, 3, (.cons (.ret (.blt .sum (.cons (.lc [1, 2] (.tp (.cons (.nm 1) (.cons (.nm 2) .nil))) .seq (.cons (.idx (.var 0) (.con (.int 0))) .nil) .none (.var 1)) .nil))) .nil)⟩
def d_ant_behind : Def := ⟨3, 3, (.cons (.ret (.bin .mod (.bin .add (.var 1) (.var 2)) (.blt .len (.cons (.idx (.var 0) (.con (.int 1))) .nil)))) .nil)⟩
def d_given_by : Def := ⟨2, 6, (.cons (.asg (.tp (.cons (.nm 2) (.cons (.nm 3) .nil))) (.blt .divmod (.cons (.bin .add (.var 1) (.con (.int 1))) (.cons (.blt .len (.cons (.idx (.var 0) (.con (.int 0))) .nil)) .nil)))) (.cons (.ret (.bin .add (.bin .mul (.var 2) (.call false i_year_drops (.cons (.var 0) .nil))) (.blt .sum (.cons (.lc [4, 5] (.tp (.cons (.nm 4) (.cons (.nm 5) .nil))) .seq (.cons (.slc (.idx (.var 0) (.con (.int 0))) .none (.some (.var 3))) .nil) .none (.var 4)) .nil)))) .nil))⟩
def d_is_open : Def := ⟨2, 2, (.cons (.ret (.idx (.idx (.idx (.var 0) (.con (.int 0))) (.bin .mod (.var 1) (.blt .len (.cons (.idx (.var 0) (.con (.int 0))) .nil)))) (.con (.int 1)))) .nil)⟩
def d_open_from : Def := ⟨2, 2, (.cons (.whl (.not (.call false i_is_open (.cons (.var 0) (.cons (.var 1) .nil)))) (.cons (.aug 1 .add (.con (.int 1))) .nil)) (.cons (.ret (.var 1)) .nil))⟩
def d_day_of : Def := ⟨2, 3, (.cons (.asg (.nm 2) (.bin .mul (.bin .fdiv (.bin .sub (.var 1) (.con (.int 1))) (.call false i_year_drops (.cons (.var 0) .nil))) (.blt .len (.cons (.idx (.var 0) (.con (.int 0))) .nil)))) (.cons (.whl (.cmp .lt (.call false i_given_by (.cons (.var 0) (.cons (.var 2) .nil))) (.var 1)) (.cons (.aug 2 .add (.con (.int 1))) .nil)) (.cons (.ret (.call false i_open_from (.cons (.var 0) (.cons (.var 2) .nil)))) .nil)))⟩
def d_turn : Def := ⟨2, 8, (.cons (.asg (.tp (.cons (.nm 2) (.cons (.nm 3) (.cons (.nm 4) .nil)))) (.var 1)) (.cons (.asg (.nm 5) (.bin .sub (.idx (.idx (.var 0) (.con (.int 1))) (.var 3)) (.var 4))) (.cons (.asg (.nm 6) (.ifx (.cmp .le (.var 5) (.con (.int 0))) (.var 2) (.call false i_day_of (.cons (.var 0) (.cons (.bin .add (.call false i_given_by (.cons (.var 0) (.cons (.var 2) .nil))) (.var 5)) .nil))))) (.cons (.asg (.nm 7) (.bin .sub (.bin .sub (.call false i_given_by (.cons (.var 0) (.cons (.var 6) .nil))) (.call false i_given_by (.cons (.var 0) (.cons (.var 2) .nil)))) (.var 5))) (.cons (.ret (.tup (.cons (.tup (.cons (.var 6) (.cons (.call false i_ant_behind (.cons (.var 0) (.cons (.var 3) (.cons (.con (.int 1)) .nil)))) (.cons (.blt .min (.cons (.var 7) (.cons (.idx (.var 0) (.con (.int 2))) .nil))) .nil)))) (.cons (.blt .max (.cons (.con (.int 0)) (.cons (.bin .sub (.var 7) (.idx (.var 0) (.con (.int 2)))) .nil))) .nil)))) .nil)))))⟩
def d_turns : Def := ⟨3, 5, (.cons (.asg (.nm 3) (.new (.lst .nil))) (.cons (.for (.nm 4) .range (.cons (.var 2) .nil) (.cons (.app (.var 3) (.call false i_turn (.cons (.var 0) (.cons (.ifx (.cmp .gt (.var 4) (.con (.int 0))) (.idx (.idx (.var 3) (.neg (.con (.int 1)))) (.con (.int 0))) (.var 1)) .nil)))) .nil)) (.cons (.ret (.var 3)) .nil)))⟩
def d_line_of : Def := ⟨2, 5, (.cons (.asg (.tp (.cons (.nm 2) (.cons (.nm 3) (.cons (.nm 4) .nil)))) (.var 1)) (.cons (.ret (.bin .sub (.call false i_given_by (.cons (.var 0) (.cons (.var 2) .nil))) (.var 4))) .nil))⟩
def d_ends_of : Def := ⟨1, 5, (.cons (.asg (.nm 1) (.call false i_year_drops (.cons (.var 0) .nil))) (.cons (.ret (.sdc [2, 3, 4] (.tp (.cons (.nm 2) (.cons (.tp (.cons (.nm 3) (.cons (.nm 4) .nil))) .nil))) .enum (.cons (.idx (.var 0) (.con (.int 0))) .nil) (.some (.var 4)) (.bin .mod (.call false i_given_by (.cons (.var 0) (.cons (.var 2) .nil))) (.var 1)))) .nil))⟩
def d_next_end : Def := ⟨2, 7, (.cons (.par [2, 3] (.cons (.call false i_year_drops (.cons (.var 0) .nil)) (.cons (.call false i_ends_of (.cons (.var 0) .nil)) .nil))) (.cons (.asg (.tp (.cons (.nm 4) (.cons (.nm 5) .nil))) (.blt .divmod (.cons (.var 1) (.cons (.var 2) .nil)))) (.cons (.ret (.bin .add (.bin .mul (.var 4) (.var 2)) (.idx (.lc [6] (.nm 6) .seq (.cons (.bin .add (.var 3) (.lst (.cons (.bin .add (.idx (.var 3) (.con (.int 0))) (.var 2)) .nil))) .nil) (.some (.cmp .ge (.var 6) (.var 5))) (.var 6)) (.con (.int 0))))) .nil)))⟩
def d_stretches : Def := ⟨1, 8, (.cons (.par [1, 2, 3] (.cons (.call false i_year_drops (.cons (.var 0) .nil)) (.cons (.call false i_ends_of (.cons (.var 0) .nil)) (.cons (.new (.lst .nil)) .nil)))) (.cons (.for (.tp (.cons (.nm 4) (.cons (.nm 5) .nil))) .zips (.cons (.var 2) (.cons (.bin .add (.slc (.var 2) (.some (.con (.int 1))) .none) (.lst (.cons (.bin .add (.idx (.var 2) (.con (.int 0))) (.var 1)) .nil))) .nil)) (.cons (.par [6, 7] (.cons (.bin .add (.var 4) (.con (.int 1))) (.cons (.bin .sub (.bin .sub (.var 5) (.idx (.var 0) (.con (.int 2)))) (.con (.int 1))) .nil))) (.cons (.ite (.cmp .le (.var 6) (.var 7)) (.cons (.app (.var 3) (.tup (.cons (.bin .mod (.var 6) (.var 1)) (.cons (.bin .sub (.bin .add (.bin .mod (.var 6) (.var 1)) (.var 7)) (.var 6)) .nil)))) .nil) .nil) .nil))) (.cons (.ret (.new (.blt .sorted (.cons (.var 3) .nil)))) .nil)))⟩
def d_lost_at : Def := ⟨2, 2, (.cons (.ret (.blt .max (.cons (.con (.int 0)) (.cons (.bin .sub (.bin .sub (.call false i_next_end (.cons (.var 0) (.cons (.var 1) .nil))) (.idx (.var 0) (.con (.int 2)))) (.var 1)) .nil)))) .nil)⟩
def d_led : Def := ⟨3, 4, (.cons (.asg (.nm 3) (.bin .add (.var 2) (.idx (.idx (.var 0) (.con (.int 1))) (.var 1)))) (.cons (.ret (.bin .add (.var 3) (.call false i_lost_at (.cons (.var 0) (.cons (.var 3) .nil))))) .nil))⟩
def d_law_box : Def := ⟨2, 3, (.cons (.asg (.nm 2) (.ifx (.cmp .lt (.var 1) (.blt .len (.cons (.var 0) .nil))) (.idx (.var 0) (.var 1)) (.con (.int 0)))) (.cons (.ret (.new (.lst (.cons (.bin .mul (.blt .abs (.cons (.var 2) .nil)) (.blt .int (.cons (.cmp .ge (.blt .abs (.cons (.var 2) .nil)) (.bin .pow (.con (.int 10)) (.con (.int 18)))) .nil))) (.cons (.bin .mod (.bin .mul (.bin .add (.bin .add (.bin .mod (.var 2) (.con (.int 2147483629))) (.bin .mul (.con (.int 15485863)) (.var 1))) (.con (.int 43))) (.con (.int 48271))) (.con (.int 2147483647))) (.cons (.con (.int 0)) .nil)))))) .nil))⟩
def d_law_take : Def := ⟨2, 6, (.cons (.ite (.cmp .gt (.idx (.var 0) (.con (.int 0))) (.con (.int 0))) (.cons (.asg (.tp (.cons (.sub (.var 0) (.con (.int 0))) (.cons (.nm 2) .nil))) (.blt .divmod (.cons (.idx (.var 0) (.con (.int 0))) (.cons (.var 1) .nil)))) (.cons (.ret (.var 2)) .nil)) .nil) (.cons (.ite (.cmp .gt (.var 1) (.bin .pow (.con (.int 10)) (.con (.int 7)))) (.cons (.ret (.bin .mod (.bin .add (.call false i_law_take (.cons (.var 0) (.cons (.bin .pow (.con (.int 10)) (.con (.int 7))) .nil))) (.bin .mul (.bin .pow (.con (.int 10)) (.con (.int 7))) (.call false i_law_take (.cons (.var 0) (.cons (.bin .add (.bin .fdiv (.bin .sub (.var 1) (.con (.int 1))) (.bin .pow (.con (.int 10)) (.con (.int 7)))) (.con (.int 1))) .nil))))) (.var 1))) .nil) .nil) (.cons (.asg (.sub (.var 0) (.con (.int 2))) (.bin .add (.idx (.var 0) (.con (.int 2))) (.con (.int 1)))) (.cons (.asg (.nm 3) (.bin .add (.con (.int 69621)) (.bin .mul (.idx (.var 0) (.con (.int 2))) (.idx (.var 0) (.con (.int 2)))))) (.cons (.asg (.nm 4) (.bin .mod (.bin .mul (.bin .add (.idx (.var 0) (.con (.int 1))) (.bin .mul (.con (.int 39373)) (.idx (.var 0) (.con (.int 2))))) (.var 3)) (.con (.int 2147483587)))) (.cons (.asg (.nm 5) (.bin .mod (.bin .add (.bin .mul (.var 4) (.bin .add (.bin .mod (.var 4) (.con (.int 30011))) (.con (.int 5)))) (.idx (.var 0) (.con (.int 2)))) (.con (.int 2147483563)))) (.cons (.ret (.bin .mod (.bin .fdiv (.bin .mod (.bin .mul (.var 5) (.bin .add (.bin .mod (.var 5) (.con (.int 1013))) (.con (.int 3)))) (.con (.int 998244353))) (.con (.int 16))) (.var 1))) .nil)))))))⟩
def d_law_folded : Def := ⟨2, 5, (.cons (.asg (.nm 2) (.new (.blt .list (.cons (.slc (.var 0) .none (.some (.var 1))) .nil)))) (.cons (.for (.tp (.cons (.nm 3) (.cons (.nm 4) .nil))) .enum (.cons (.slc (.var 0) (.some (.var 1)) (.some (.con (.int 63)))) .nil) (.cons (.asg (.sub (.var 2) (.bin .mod (.var 3) (.var 1))) (.bin .add (.idx (.var 2) (.bin .mod (.var 3) (.var 1))) (.bin .mul (.var 4) (.bin .add (.var 3) (.con (.int 2)))))) .nil)) (.cons (.ret (.var 2)) .nil)))⟩
def d_law_same : Def := ⟨2, 4, (.cons (.ite (.isa (.var 1) [.list, .tuple]) (.cons (.ite (.or (.cmp .ne (.isa (.var 0) [.list]) (.isa (.var 1) [.list])) (.one (.cmp .ne (.isa (.var 0) [.tuple]) (.isa (.var 1) [.tuple])))) (.cons (.ret (.con (.bl false))) .nil) .nil) (.cons (.ret (.and (.cmp .eq (.blt .len (.cons (.var 0) .nil)) (.blt .len (.cons (.var 1) .nil))) (.one (.blt .all (.cons (.lc [2, 3] (.tp (.cons (.nm 2) (.cons (.nm 3) .nil))) .zip (.cons (.var 0) (.cons (.var 1) .nil)) .none (.call false i_law_same (.cons (.var 2) (.cons (.var 3) .nil)))) .nil))))) .nil)) .nil) (.cons (.ite (.or (.cmp .is (.var 1) (.con .non)) (.one (.isa (.var 1) [.str]))) (.cons (.ret (.and (.cmp .eq (.var 0) (.var 1)) (.one (.cmp .eq (.isa (.var 0) [.str]) (.isa (.var 1) [.str]))))) .nil) .nil) (.cons (.ret (.and (.isa (.var 0) [.int]) (.and (.cmp .eq (.isa (.var 0) [.bool]) (.isa (.var 1) [.bool])) (.one (.cmp .eq (.var 0) (.var 1)))))) .nil)))⟩
def d_law_nest_of : Def := ⟨4, 8, (.cons (.asg (.nm 4) (.blt .tuple (.cons (.lc [5, 6] (.tp (.cons (.nm 5) (.cons (.nm 6) .nil))) .seq (.cons (.var 1) .nil) .none (.tup (.cons (.bin .mul (.var 0) (.var 5)) (.cons (.cmp .eq (.var 6) (.con (.int 1))) .nil)))) .nil))) (.cons (.ret (.tup (.cons (.var 4) (.cons (.blt .tuple (.cons (.lc [7] (.nm 7) .seq (.cons (.var 2) .nil) .none (.bin .mul (.var 0) (.var 7))) .nil)) (.cons (.bin .mul (.var 0) (.var 3)) .nil))))) .nil))⟩
def d_law_told_right_k07 : Def := ⟨3, 6, (.cons (.asg (.nm 3) (.lc [4, 5] (.tp (.cons (.nm 4) (.cons (.nm 5) .nil))) .seq (.cons (.call false i_turns (.cons (.var 0) (.cons (.var 1) (.cons (.blt .len (.cons (.var 2) .nil)) .nil)))) .nil) .none (.tup (.cons (.idx (.var 4) (.con (.int 0))) (.cons (.idx (.var 4) (.con (.int 2))) (.cons (.var 5) .nil)))))) (.cons (.ret (.call false i_law_same (.cons (.var 3) (.cons (.var 2) .nil)))) .nil))⟩
def d_law_three_right_k07 : Def := ⟨2, 11, (.cons (.asg (.tp (.cons (.nm 2) (.cons (.nm 3) .nil))) (.tup (.cons (.lst (.cons (.tup (.cons (.con (.int 2)) (.cons (.con (.int 0)) .nil))) (.cons (.tup (.cons (.con (.int 0)) (.cons (.con (.int 1)) .nil))) (.cons (.tup (.cons (.con (.int 3)) (.cons (.con (.int 1)) .nil))) .nil)))) (.cons (.bin .mul (.con (.int 3)) (.var 1)) .nil)))) (.cons (.asg (.nm 4) (.dkd [0, 1] (.cons (.lst (.cons (.tup (.cons (.con (.int 2)) (.cons (.con (.int 0)) (.cons (.con (.int 1)) .nil)))) (.cons (.tup (.cons (.con (.int 4)) (.cons (.con (.int 0)) (.cons (.con (.int 0)) .nil)))) (.cons (.tup (.cons (.con (.int 5)) (.cons (.con (.int 0)) (.cons (.con (.int 1)) .nil)))) (.cons (.tup (.cons (.con (.int 7)) (.cons (.con (.int 0)) (.cons (.con (.int 0)) .nil)))) .nil))))) (.cons (.lst (.cons (.tup (.cons (.con (.int 2)) (.cons (.con (.int 1)) (.cons (.con (.int 0)) .nil)))) (.cons (.tup (.cons (.con (.int 4)) (.cons (.con (.int 1)) (.cons (.con (.int 0)) .nil)))) (.cons (.tup (.cons (.con (.int 5)) (.cons (.con (.int 1)) (.cons (.con (.int 1)) .nil)))) (.cons (.tup (.cons (.con (.int 7)) (.cons (.con (.int 1)) (.cons (.con (.int 0)) .nil)))) .nil))))) .nil)))) (.cons (.asg (.ksub (.var 4) (.con (.int 2))) (.lst (.cons (.tup (.cons (.con (.int 2)) (.cons (.con (.int 1)) (.cons (.con (.int 0)) .nil)))) (.cons (.tup (.cons (.con (.int 4)) (.cons (.con (.int 1)) (.cons (.con (.int 0)) .nil)))) (.cons (.tup (.cons (.con (.int 5)) (.cons (.con (.int 2)) (.cons (.con (.int 0)) .nil)))) (.cons (.tup (.cons (.con (.int 5)) (.cons (.con (.int 0)) (.cons (.con (.int 0)) .nil)))) .nil)))))) (.cons (.for (.nm 5) .seq (.cons (.tup (.cons (.con (.int 0)) (.cons (.con (.int 1)) (.cons (.con (.int 2)) .nil)))) .nil) (.cons (.asg (.nm 6) (.call false i_law_nest_of (.cons (.var 0) (.cons (.var 2) (.cons (.lst (.cons (.con (.int 2)) .nil)) (.cons (.var 5) .nil)))))) (.cons (.asg (.nm 7) (.lc [8, 9, 10] (.tp (.cons (.nm 8) (.cons (.nm 9) (.cons (.nm 10) .nil)))) .seq (.cons (.kget (.var 4) (.var 5)) .nil) .none (.tup (.cons (.bin .add (.var 3) (.var 8)) (.cons (.bin .mul (.var 0) (.var 9)) (.cons (.bin .mul (.var 0) (.var 10)) .nil)))))) (.cons (.ite (.not (.call false i_law_told_right_k07 (.cons (.var 6) (.cons (.tup (.cons (.bin .add (.var 3) (.con (.int 1))) (.cons (.con (.int 0)) (.cons (.con (.int 0)) .nil)))) (.cons (.var 7) .nil))))) (.cons (.ret (.con (.bl false))) .nil) .nil) (.cons (.ite (.not (.call false i_law_same (.cons (.call false i_line_of (.cons (.var 6) (.cons (.tup (.cons (.bin .add (.var 3) (.con (.int 1))) (.cons (.con (.int 0)) (.cons (.con (.int 0)) .nil)))) .nil))) (.cons (.bin .mul (.var 0) (.bin .add (.con (.int 2)) (.bin .mul (.con (.int 5)) (.var 1)))) .nil)))) (.cons (.ret (.con (.bl false))) .nil) .nil) .nil))))) (.cons (.ret (.con (.bl true))) .nil)))))⟩
def d_law_one_evening_right : Def := ⟨2, 6, (.cons (.asg (.nm 2) (.bin .mul (.con (.int 2)) (.var 1))) (.cons (.asg (.nm 3) (.call false i_law_nest_of (.cons (.var 0) (.cons (.lst (.cons (.tup (.cons (.con (.int 4)) (.cons (.con (.int 1)) .nil))) (.cons (.tup (.cons (.con (.int 3)) (.cons (.con (.int 0)) .nil))) .nil))) (.cons (.lst (.cons (.con (.int 1)) (.cons (.con (.int 3)) (.cons (.con (.int 3)) .nil)))) (.cons (.con (.int 5)) .nil)))))) (.cons (.asg (.nm 4) (.lst (.cons (.tup (.cons (.var 2) (.cons (.bin .mul (.con (.int 3)) (.var 0)) (.cons (.con (.int 0)) .nil)))) (.cons (.tup (.cons (.var 2) (.cons (.con (.int 0)) (.cons (.con (.int 0)) .nil)))) (.cons (.tup (.cons (.bin .add (.var 2) (.con (.int 2))) (.cons (.bin .mul (.con (.int 4)) (.var 0)) (.cons (.con (.int 0)) .nil)))) (.cons (.tup (.cons (.bin .add (.var 2) (.con (.int 2))) (.cons (.bin .mul (.con (.int 3)) (.var 0)) (.cons (.con (.int 0)) .nil)))) .nil)))))) (.cons (.ite (.not (.call false i_law_told_right_k07 (.cons (.var 3) (.cons (.tup (.cons (.var 2) (.cons (.con (.int 0)) (.cons (.bin .mul (.con (.int 4)) (.var 0)) .nil)))) (.cons (.var 4) .nil))))) (.cons (.ret (.con (.bl false))) .nil) .nil) (.cons (.asg (.nm 5) (.lst (.cons (.call false i_turn (.cons (.var 3) (.cons (.tup (.cons (.var 2) (.cons (.con (.int 1)) (.cons (.bin .mul (.con (.int 3)) (.var 0)) .nil)))) .nil))) (.cons (.call false i_turn (.cons (.var 3) (.cons (.tup (.cons (.var 2) (.cons (.con (.int 1)) (.cons (.bin .mul (.con (.int 2)) (.var 0)) .nil)))) .nil))) .nil)))) (.cons (.ret (.call false i_law_same (.cons (.var 5) (.cons (.lst (.cons (.tup (.cons (.tup (.cons (.var 2) (.cons (.con (.int 2)) (.cons (.con (.int 0)) .nil)))) (.cons (.con (.int 0)) .nil))) (.cons (.tup (.cons (.tup (.cons (.bin .add (.var 2) (.con (.int 2))) (.cons (.con (.int 2)) (.cons (.bin .mul (.con (.int 5)) (.var 0)) .nil)))) (.cons (.var 0) .nil))) .nil))) .nil)))) .nil))))))⟩
def d_law_lines_right : Def := ⟨2, 6, (.cons (.asg (.tp (.cons (.nm 2) (.cons (.nm 3) .nil))) (.tup (.cons (.call false i_law_nest_of (.cons (.var 0) (.cons (.lst (.cons (.tup (.cons (.con (.int 2)) (.cons (.con (.int 0)) .nil))) (.cons (.tup (.cons (.con (.int 0)) (.cons (.con (.int 1)) .nil))) (.cons (.tup (.cons (.con (.int 3)) (.cons (.con (.int 1)) .nil))) .nil)))) (.cons (.lst (.cons (.con (.int 2)) .nil)) (.cons (.con (.int 0)) .nil))))) (.cons (.bin .mul (.con (.int 5)) (.var 1)) .nil)))) (.cons (.asg (.nm 4) (.lc [5] (.nm 5) .seq (.cons (.tup (.cons (.con (.int 0)) (.cons (.con (.int 1)) (.cons (.con (.int 2)) (.cons (.con (.int 3)) (.cons (.con (.int 4)) (.cons (.con (.int 5)) .nil))))))) .nil) .none (.call false i_led (.cons (.var 2) (.cons (.con (.int 0)) (.cons (.bin .mul (.var 0) (.bin .add (.var 5) (.var 3))) .nil)))))) (.cons (.ite (.not (.call false i_law_same (.cons (.var 4) (.cons (.lc [5] (.nm 5) .seq (.cons (.tup (.cons (.con (.int 2)) (.cons (.con (.int 5)) (.cons (.con (.int 5)) (.cons (.con (.int 5)) (.cons (.con (.int 7)) (.cons (.con (.int 7)) .nil))))))) .nil) .none (.bin .mul (.var 0) (.bin .add (.var 5) (.var 3)))) .nil)))) (.cons (.ret (.con (.bl false))) .nil) .nil) (.cons (.ite (.cmp .gt (.var 0) (.con (.int 1))) (.cons (.ret (.cmp .eq (.call false i_stretches (.cons (.var 2) .nil)) (.lst (.cons (.tup (.cons (.con (.int 1)) (.cons (.bin .sub (.bin .mul (.con (.int 2)) (.var 0)) (.con (.int 1))) .nil))) (.cons (.tup (.cons (.bin .add (.bin .mul (.con (.int 2)) (.var 0)) (.con (.int 1))) (.cons (.bin .sub (.bin .mul (.con (.int 5)) (.var 0)) (.con (.int 1))) .nil))) .nil))))) .nil) .nil) (.cons (.ret (.cmp .eq (.call false i_stretches (.cons (.var 2) .nil)) (.lst (.cons (.tup (.cons (.con (.int 1)) (.cons (.con (.int 1)) .nil))) (.cons (.tup (.cons (.con (.int 3)) (.cons (.con (.int 4)) .nil))) .nil))))) .nil)))))⟩
def d_law_k07 : Def := ⟨1, 6, (.cons (.asg (.nm 1) (.call false i_law_folded (.cons (.var 0) (.cons (.con (.int 4)) .nil)))) (.cons (.for (.nm 2) .range (.cons (.blt .max (.cons (.con (.int 1)) (.cons (.blt .len (.cons (.var 1) .nil)) .nil))) .nil) (.cons (.asg (.nm 3) (.call true i_law_box (.cons (.var 1) (.cons (.var 2) .nil)))) (.cons (.par [4, 5] (.cons (.bin .add (.con (.int 1)) (.call false i_law_take (.cons (.var 3) (.cons (.idx (.lst (.cons (.con (.int 2)) (.cons (.bin .pow (.con (.int 10)) (.con (.int 10))) .nil))) (.call false i_law_take (.cons (.var 3) (.cons (.con (.int 2)) .nil)))) .nil)))) (.cons (.call false i_law_take (.cons (.var 3) (.cons (.bin .pow (.con (.int 10)) (.con (.int 12))) .nil))) .nil))) (.cons (.ite (.or (.not (.call false i_law_three_right_k07 (.cons (.var 4) (.cons (.var 5) .nil)))) (.one (.not (.call false i_law_one_evening_right (.cons (.var 4) (.cons (.var 5) .nil)))))) (.cons (.ret (.con (.bl false))) .nil) .nil) (.cons (.ite (.not (.call false i_law_lines_right (.cons (.var 4) (.cons (.var 5) .nil)))) (.cons (.ret (.con (.bl false))) .nil) .nil) .nil))))) (.cons (.ret (.con (.bl true))) .nil)))⟩

def Δ : Table := fun n => match n with
  | 519 => some d_year_drops
  | 319 => some d_ant_behind
  | 341 => some d_given_by
  | 360 => some d_is_open
  | 487 => some d_open_from
  | 328 => some d_day_of
  | 512 => some d_turn
  | 513 => some d_turns
  | 463 => some d_line_of
  | 331 => some d_ends_of
  | 482 => some d_next_end
  | 510 => some d_stretches
  | 470 => some d_lost_at
  | 459 => some d_led
  | 77 => some d_law_box
  | 286 => some d_law_take
  | 114 => some d_law_folded
  | 260 => some d_law_same
  | 156 => some d_law_nest_of
  | 297 => some d_law_told_right_k07
  | 289 => some d_law_three_right_k07
  | 162 => some d_law_one_evening_right
  | 142 => some d_law_lines_right
  | 375 => some d_law_k07
  | _ => none

/-! ints in lists; places; slices -/
theorem bl_len_lv {S : Store} {xs : List Val} : bltSem S .len (.lv xs :: []) = some (.int xs.length) := rfl
theorem bl_len_tup {S : Store} {xs : List Val} : bltSem S .len (.tup xs :: []) = some (.int xs.length) := rfl
theorem bl_len_sl {S : Store} {xs : List Val} : bltSem S .len (.sl xs :: []) = some (.int xs.length) := rfl
theorem bl_abs {S : Store} {i : Int} : bltSem S .abs (.int i :: []) = some (.int (if i < 0 then -i else i)) := rfl
theorem bl_intB {S : Store} {b : Bool} : bltSem S .int (.bl b :: []) = some (.int (if b = true then 1 else 0)) := rfl
theorem bl_list_lv {S : Store} {xs : List Val} : bltSem S .list (.lv xs :: []) = some (.lv xs) := rfl
theorem bl_list_tup {S : Store} {xs : List Val} : bltSem S .list (.tup xs :: []) = some (.lv xs) := rfl
theorem bl_tup_lv {S : Store} {xs : List Val} : bltSem S .tuple (.lv xs :: []) = some (.tup xs) := rfl
theorem bl_tup_tup {S : Store} {xs : List Val} : bltSem S .tuple (.tup xs :: []) = some (.tup xs) := rfl
theorem bl_max2 {S : Store} {i j : Int} : bltSem S .max (.int i :: .int j :: []) = some (.int (if j > i then j else i)) := rfl
theorem bl_min2 {S : Store} {i j : Int} : bltSem S .min (.int i :: .int j :: []) = some (.int (if j < i then j else i)) := rfl
theorem ints_map (ns : List Int) : intsOf (ns.map Val.int) = some ns := by
  induction ns with
  | nil => rfl
  | cons n ns ih => simp only [List.map_cons, intsOf, ih, Option.map_some]
theorem bls_map (ns : List Bool) : blsOf (ns.map Val.bl) = some ns := by
  induction ns with
  | nil => rfl
  | cons n ns ih => simp only [List.map_cons, blsOf, ih, Option.map_some]
theorem bl_sum {S : Store} {ns : List Int} : bltSem S .sum (.lv (ns.map Val.int) :: []) = some (.int ns.sum) := by
  simp only [bltSem, lstOf, Option.bind_some, ints_map, Option.map_some]
theorem bl_all {S : Store} {bs : List Bool} : bltSem S .all (.lv (bs.map Val.bl) :: []) = some (.bl (bs.all id)) := by
  show (blsOf (bs.map Val.bl)).map _ = _
  rw [bls_map]; rfl
theorem bl_any {S : Store} {bs : List Bool} : bltSem S .any (.lv (bs.map Val.bl) :: []) = some (.bl (bs.any id)) := by
  show (blsOf (bs.map Val.bl)).map _ = _
  rw [bls_map]; rfl
theorem fits_ints (k : Nat) (ns : List Int) : fitsL k (ns.map Val.int) = true := by
  induction ns with
  | nil => unfold fitsL; rfl
  | cons n ns ih => simp only [List.map_cons, fitsL, ih, Val.fits, Bool.and_self]
theorem fits_lvI (k : Nat) (ns : List Int) : Val.fits k (.lv (ns.map Val.int)) = true := by unfold Val.fits; exact fits_ints k ns
theorem fits_tupI (k : Nat) (ns : List Int) : Val.fits k (.tup (ns.map Val.int)) = true := by unfold Val.fits; exact fits_ints k ns
theorem cut_map {α β : Type} (f : α → β) (xs : List α) (lo hi : Option Int) : cutL (xs.map f) lo hi = (cutL xs lo hi).map f := by
  unfold cutL
  rw [List.length_map, List.map_take, List.map_drop]
theorem cut_to {α : Type} (xs : List α) (n : Nat) : cutL xs none (some (n : Int)) = xs.take n := by
  unfold cutL
  rw [HT.sIx_none, HT.sIx_nat, List.drop_zero, Nat.sub_zero]
  by_cases h : n ≤ xs.length
  · rw [Nat.min_eq_left h]
  · rw [Nat.min_eq_right (by omega), List.take_length, List.take_of_length_le (by omega)]
theorem cut_from {α : Type} (xs : List α) (n : Nat) : cutL xs (some (n : Int)) none = xs.drop n := by
  unfold cutL
  rw [HT.sIx_none, HT.sIx_nat]
  by_cases h : n ≤ xs.length
  · rw [Nat.min_eq_left h, List.take_of_length_le (by simp)]
  · rw [Nat.min_eq_right (by omega), List.drop_length, List.drop_of_length_le (by omega), List.take_nil]
theorem ixN_nat' {n j : Nat} (hj : j < n) : ixN n (j : Int) = some j := by
  unfold ixN
  rw [if_pos (by omega), if_pos (by omega)]
  simp
theorem atI_nat' {α : Type} {xs : List α} {j : Nat} (h : j < xs.length) : atI xs (j : Int) = xs[j]? := by
  unfold atI
  rw [ixN_nat' h]; rfl
theorem atI_int {α : Type} {xs : List α} {j : Int} (h0 : 0 ≤ j) (h : j < xs.length) : atI xs j = xs[j.toNat]? := by
  obtain ⟨k, rfl⟩ := Int.eq_ofNat_of_zero_le h0
  rw [atI_nat' (by omega)]; rfl
theorem ite01 (p : Prop) [Decidable p] : 0 ≤ (if p then (1 : Int) else 0) ∧ (if p then (1 : Int) else 0) ≤ 1 := by split <;> decide
theorem sz3 {n : Nat} (h : Nat.ble n 1000 = true) : n ≤ sizeLine := Nat.le_trans (Nat.le_of_ble_eq_true h) (by decide)
theorem flat_true {α : Type} (xs : List α) : (xs.flatMap fun _ => [Val.bl true]) = (List.replicate xs.length true).map Val.bl := by
  induction xs with
  | nil => rfl
  | cons x xs ih => simp [List.flatMap_cons, ih, List.replicate_succ]
theorem all_rep (n : Nat) : (List.replicate n true).all id = true := by simp

local macro_rules | `(tactic| walk_at "ev") => `(tactic| repeat (with_reducible first
  | exact ev_con | exact ev_glo | (apply ev_var; with_unfolding_all rfl) | exact el_nil | exact eo_none | exact ec_none
  | apply el_cons | apply ev_bin | apply ev_cmp | apply ev_idx | apply ev_neg | apply ev_not | apply ev_one
  | apply ev_blt | apply ev_isa | apply ev_tup | apply ev_lst | apply ev_slc | apply eo_some | apply ec_some | apply ev_chain | apply ev_new
  | exact bs_add | exact bs_sub | exact cs_lt | exact cs_le | exact cs_gt | exact cs_ge | exact cs_eqI | exact cs_neI | exact cs_eqB | exact cs_neB | exact cs_isI | exact cs_isN | exact cs_notI | exact cs_notN
  | exact bl_len_lv | exact bl_len_tup | exact bl_len_sl | exact bl_abs | exact bl_intB | exact bl_list_lv | exact bl_list_tup | exact bl_tup_lv | exact bl_tup_tup | exact bl_max2 | exact bl_min2
  | (apply idx_ref (by assumption); with_unfolding_all rfl) | (apply idx_tup; with_unfolding_all rfl) | (apply idx_lv; with_unfolding_all rfl)
  | (apply bs_pow; with_unfolding_all exact ⟨by decide, by decide, by decide⟩)
  | (apply bs_mod; with_unfolding_all first | decide | assumption | omega)
  | (apply bs_fdiv; with_unfolding_all exact divw (by first | decide | omega) (by first | decide | omega))
  | (apply bs_mul; with_unfolding_all first | exact mul_l (by omega) (by omega) | exact mul_r (by omega) (by omega))
  | (apply sz3; with_unfolding_all rfl)))

structure Bx where
  a : Int
  b : Int
  k : Int
def Bx.o (x : Bx) : Ob := .lst [.int x.a, .int x.b, .int x.k]
structure Bx.Ok (x : Bx) (T : Nat) : Prop where
  ha : 0 ≤ x.a
  hb0 : 0 ≤ x.b
  hb1 : x.b < 2147483647
  hk0 : 0 ≤ x.k
  hk1 : x.k ≤ T
theorem Bx.Ok.mono {x : Bx} {T T' : Nat} (h : x.Ok T) (h' : T ≤ T') : x.Ok T' := ⟨h.ha, h.hb0, h.hb1, h.hk0, by have := h.hk1; omega⟩
theorem Bx.fits (x : Bx) (k : Nat) : x.o.fits k = true := rfl
theorem set_at {S : Store} {m : Nat} {o o' : Ob} (h : S[m]? = some o) : (S.set m o')[m]? = some o' := List.getElem?_set_self (List.getElem?_eq_some_iff.mp h).1
theorem gc_set {S : Store} {m : Nat} {ob : Ob} {v : Val} (hf : ob.fits S.length = true) (hv : v.fits S.length = true) : gc S v (S.set m ob) = some (v, S.set m ob) := by
  rw [gc_of ⟨by simp, fun i o hi h => ?_⟩ hv]
  · rw [List.take_of_length_le (by simp)]
  · by_cases e : m = i
    · subst e
      rw [List.getElem?_set_self hi] at h
      cases h
      exact .inr hf
    · rw [List.getElem?_set_ne e] at h
      exact .inl h
theorem ten7 : (10 : Int) ^ (7 : Int).toNat = 10000000 := by decide
theorem take_run : ∀ (d n T m : Nat) (S : Store) (x : Bx) (z : Int), S[m]? = some x.o → x.Ok T → T + d < 2 ^ 30 → 0 < z → z ≤ 10 ^ (7 * (d + 1)) → d ≤ 12 → d < n →
    ∃ r x', run Δ n i_law_take [.ref m, .int z] S = some (.int r, S.set m x'.o) ∧ 0 ≤ r ∧ r < z ∧ Bx.Ok x' (T + d + 1)
  | d, 0, T, m, S, x, z, hS, ok, hT, h0, hz, hd, hn => by omega
  | d, n + 1, T, m, S, x, z, hS, ok, hT, h0, hz, hd, hn => by
    have hS' : S[m]? = some (.lst [.int x.a, .int x.b, .int x.k]) := hS
    obtain ⟨ha, hb0, hb1, hk0, hk1⟩ := ok
    have hzb : z < 2 ^ 900 := by
      have h1 : (10 : Int) ^ (7 * (d + 1)) ≤ 10 ^ 91 := by
        have := Nat.pow_le_pow_right (n := 10) (by decide) (show 7 * (d + 1) ≤ 91 by omega)
        exact_mod_cast this
      have h2 : (10 : Int) ^ 91 < 2 ^ 900 := by decide
      omega
    by_cases h1 : 0 < x.a
    · refine ⟨x.a % z, ⟨x.a / z, x.b, x.k⟩, ?_, Int.emod_nonneg _ (by omega), Int.emod_lt_of_pos _ h0, ⟨Int.ediv_nonneg ha (by omega), hb0, hb1, hk0, by show x.k ≤ _; omega⟩⟩
      apply run_of rfl rfl rfl
      apply r_ite
      · walk_at "ev"
      · intro _
        apply r_asg
        · apply ev_blt
          · walk_at "ev"
          · exact if_pos (divp h0 hzb)
        · apply bt_tp
          · rfl
          · apply bts_cons
            · apply bt_sub
              · walk_at "ev"
              · walk_at "ev"
              · exact set_ref hS' rfl
            · apply bts_cons bt_nm bts_nil
        · apply r_ret
          · walk_at "ev"
          · rfl
      · intro h; exact absurd (of_decide_eq_false h) (by simpa using h1)
    · by_cases h2 : 10000000 < z
      · -- two draws
        have hd0 : d ≠ 0 := by
          rintro rfl
          have : z ≤ 10000000 := by simpa using hz
          omega
        obtain ⟨d', rfl⟩ : ∃ d', d = d' + 1 := ⟨d - 1, by omega⟩
        obtain ⟨r1, x1, e1, a1, b1, ok1⟩ := take_run 0 n T m S x 10000000 hS ⟨ha, hb0, hb1, hk0, hk1⟩ (by omega) (by decide) (by decide) (by decide) (by omega)
        have hS1 : (S.set m x1.o)[m]? = some x1.o := set_at hS
        have hq : (z - 1) / 10000000 + 1 ≤ 10 ^ (7 * (d' + 1)) := by
          have e : (10 : Int) ^ (7 * (d' + 1 + 1)) = 10000000 * 10 ^ (7 * (d' + 1)) := by
            rw [show 7 * (d' + 1 + 1) = 7 + 7 * (d' + 1) by omega, Int.pow_add]
            rfl
          rw [e] at hz
          have h3 : (z - 1) / 10000000 < 10 ^ (7 * (d' + 1)) := Int.ediv_lt_of_lt_mul (by decide) (by rw [Int.mul_comm]; omega)
          omega
        obtain ⟨r2, x2, e2, a2, b2, ok2⟩ := take_run d' n (T + 0 + 1) m (S.set m x1.o) x1 ((z - 1) / 10000000 + 1) hS1 ok1 (by omega) (by
          have : 0 ≤ (z - 1) / 10000000 := Int.ediv_nonneg (by omega) (by decide)
          omega) hq (by omega) (by omega)
        rw [List.set_set] at e2
        refine ⟨(r1 + 10000000 * r2) % z, x2, ?_, Int.emod_nonneg _ (by omega), Int.emod_lt_of_pos _ h0, ok2.mono (by omega)⟩
        apply run_of rfl rfl rfl
        apply r_ite
        · walk_at "ev"
        · intro h; exact absurd (of_decide_eq_true h) h1
        · intro _
          apply r_nil
          apply r_ite
          · walk_at "ev"
          · intro _
            apply r_ret
            · apply ev_bin
              · apply ev_bin
                · apply ev_call
                  · walk_at "ev"
                  · exact e1
                  · exact gc_set (x1.fits _) rfl
                · apply ev_bin
                  · walk_at "ev"
                  · apply ev_call
                    · walk_at "ev"
                    · rw [ten7]; exact e2
                    · rw [show S.set m x2.o = (S.set m x1.o).set m x2.o by rw [List.set_set]]
                      exact gc_set (x2.fits _) rfl
                  · exact bs_mul (mul_l (by rw [ten7]; decide) (by rw [ten7]; decide))
                · exact bs_add
              · walk_at "ev"
              · exact bs_mod h0
            · rw [ten7, List.set_set]; rfl
          · intro h
            rw [ten7] at h
            exact absurd (of_decide_eq_false h) (by simpa using h2)
      · -- one draw
        have hS2 : ∀ o, (S.set m o)[m]? = some o := fun o => set_at hS
        have h3 : S.set m (.lst ([.int x.a, .int x.b, .int x.k].set 2 (.int (x.k + 1)))) = S.set m (Bx.o ⟨x.a, x.b, x.k + 1⟩) := rfl
        have hS3 : (S.set m (Bx.o ⟨x.a, x.b, x.k + 1⟩))[m]? = some (.lst [.int x.a, .int x.b, .int (x.k + 1)]) := set_at hS
        have main : ∀ (once twice : Int), once = (x.b + 39373 * (x.k + 1)) * (69621 + (x.k + 1) * (x.k + 1)) % 2147483587 → twice = (once * (once % 30011 + 5) + (x.k + 1)) % 2147483563 →
            run Δ (n + 1) i_law_take [.ref m, .int z] S = some (.int (twice * (twice % 1013 + 3) % 998244353 / 16 % z), S.set m (Bx.o ⟨x.a, x.b, x.k + 1⟩)) := by
          intro once twice ho ht
          have o1 : 0 ≤ once := by rw [ho]; exact Int.emod_nonneg _ (by decide)
          have o2 : once < 2147483587 := by rw [ho]; exact Int.emod_lt_of_pos _ (by decide)
          have t1 : 0 ≤ twice := by rw [ht]; exact Int.emod_nonneg _ (by decide)
          have t2 : twice < 2147483563 := by rw [ht]; exact Int.emod_lt_of_pos _ (by decide)
          apply run_of rfl rfl rfl
          apply r_ite
          · walk_at "ev"
          · intro h; exact absurd (of_decide_eq_true h) h1
          · intro _
            apply r_nil
            apply r_ite
            · walk_at "ev"
            · intro h
              rw [ten7] at h
              exact absurd (of_decide_eq_true h) h2
            · intro _
              apply r_nil
              apply r_asg
              · walk_at "ev"
              · apply bt_sub
                · walk_at "ev"
                · walk_at "ev"
                · exact set_ref hS' rfl
              · show Runs _ _ _ (S.set m (Bx.o ⟨x.a, x.b, x.k + 1⟩)) _
                apply r_set
                · walk_at "ev"
                · apply r_set
                  · walk_at "ev"
                  · rw [← ho]
                    apply r_set
                    · walk_at "ev"
                    · rw [← ht]
                      apply r_ret
                      · walk_at "ev"
                      · rfl
        refine ⟨_, ⟨x.a, x.b, x.k + 1⟩, main _ _ rfl rfl, Int.emod_nonneg _ (by omega), Int.emod_lt_of_pos _ h0, ⟨ha, hb0, hb1, by show 0 ≤ x.k + 1; omega, by show x.k + 1 ≤ _; omega⟩⟩

theorem ten18 : (10 : Int) ^ (18 : Int).toNat = 1000000000000000000 := by decide
theorem box_run (n : Nat) (cells : List Int) (k : Nat) (hk : k < 1000) (S : Store) : ∃ x, run Δ (n + 1) i_law_box [.lv (cells.map Val.int), .int k] S = some (.ref S.length, S ++ [Bx.o x]) ∧ x.Ok 0 := by
  have main : ∀ cell : Int, evE (orc Δ n) (.ifx (.cmp .lt (.var 1) (.blt .len (.cons (.var 0) .nil))) (.idx (.var 0) (.var 1)) (.con (.int 0))) (startE 3 [.lv (cells.map Val.int), .int k]) S = some (.int cell, S) →
      run Δ (n + 1) i_law_box [.lv (cells.map Val.int), .int k] S = some (.ref S.length, S ++ [Bx.o ⟨(if cell < 0 then -cell else cell) * (if decide ((10 : Int) ^ (18 : Int).toNat ≤ (if cell < 0 then -cell else cell)) = true then 1 else 0), (cell % 2147483629 + 15485863 * k + 43) * 48271 % 2147483647, 0⟩]) := by
    intro cell hc
    have h1 : 0 ≤ cell % 2147483629 := Int.emod_nonneg _ (by decide)
    have h2 : cell % 2147483629 < 2147483629 := Int.emod_lt_of_pos _ (by decide)
    apply run_of rfl rfl rfl
    apply r_set hc
    apply r_ret
    · apply ev_new
      apply ev_lst
      · apply el_cons
        · apply ev_bin
          · walk_at "ev"
          · walk_at "ev"
          · apply bs_mul
            have q := ite01 (decide ((10 : Int) ^ (18 : Int).toNat ≤ (if cell < 0 then -cell else cell)) = true)
            apply mul_r <;> omega
        · walk_at "ev"
      · exact sz3 rfl
    · rfl
  by_cases h : k < cells.length
  · refine ⟨_, main cells[k] ?_, ?_⟩
    · apply ev_ifT
      · apply ev_cmp
        · walk_at "ev"
        · walk_at "ev"
        · rw [cs_lt]
          simp [h]
      · apply ev_idx
        · walk_at "ev"
        · walk_at "ev"
        · apply idx_lv
          rw [atI_nat' (by simpa using h), List.getElem?_map, List.getElem?_eq_getElem h]; rfl
    · refine ⟨?_, Int.emod_nonneg _ (by decide), Int.emod_lt_of_pos _ (by decide), Int.le_refl _, Int.le_refl _⟩
      apply Int.mul_nonneg
      · split <;> omega
      · exact (ite01 _).1
  · refine ⟨_, main 0 ?_, ?_⟩
    · apply ev_ifF
      · apply ev_cmp
        · walk_at "ev"
        · walk_at "ev"
        · rw [cs_lt]
          simp at h
          simp [h]
      · walk_at "ev"
    · refine ⟨?_, Int.emod_nonneg _ (by decide), Int.emod_lt_of_pos _ (by decide), Int.le_refl _, Int.le_refl _⟩
      apply Int.mul_nonneg
      · split <;> omega
      · exact (ite01 _).1

theorem folded_run (n : Nat) (ns : List Int) (z : Nat) (hz : 0 < z) (hz2 : z ≤ 63) (S : Store) : ∃ cells : List Int, run Δ (n + 1) i_law_folded [.sl (ns.map Val.int), .int z] S = some (.ref S.length, S ++ [.lst (cells.map Val.int)]) ∧ cells.length = min ns.length z := by
  have key : ∃ v S', run Δ (n + 1) i_law_folded [.sl (ns.map Val.int), .int z] S = some (v, S') ∧ ∃ cells : List Int, v = .ref S.length ∧ S' = S ++ [.lst (cells.map Val.int)] ∧ cells.length = min ns.length z := by
    apply run_ex rfl rfl rfl
    apply r_set
    · apply ev_new
      apply ev_blt
      · apply el_cons
        · apply ev_slc
          · walk_at "ev"
          · walk_at "ev"
          · walk_at "ev"
          · show some (Val.lv (cutL (ns.map Val.int) none (some (z : Int)))) = some _
            rw [cut_map, cut_to]
        · walk_at "ev"
      · exact bl_list_lv
    · apply r_for (fun k ρ' S' => ∃ (cells : List Int) (y3 y4 : Option Val), ρ' = [some (.sl (ns.map Val.int)), some (.int z), some (.ref S.length), y3, y4] ∧ S' = S ++ [.lst (cells.map Val.int)] ∧ cells.length = min ns.length z)
      · apply el_cons
        · apply ev_slc
          · walk_at "ev"
          · walk_at "ev"
          · walk_at "ev"
          · show some (Val.lv (cutL (ns.map Val.int) (some (z : Int)) (some 63))) = some _
            rw [cut_map]
        · walk_at "ev"
      · rfl
      · rfl
      · exact ⟨ns.take z, none, none, rfl, rfl, by simp [Nat.min_comm]⟩
      · rintro k x ρ' S' hx ⟨cells, y3, y4, rfl, rfl, hl⟩
        obtain ⟨y, hy, rfl⟩ := enum_get hx
        rw [List.getElem?_map] at hy
        cases e : (cutL ns (some (z : Int)) (some 63))[k]? with
        | none => rw [e] at hy; cases hy
        | some w =>
          rw [e] at hy
          cases hy
          have hk : k < (cutL ns (some (z : Int)) (some 63)).length := (List.getElem?_eq_some_iff.mp e).1
          have hk2 : k < 63 ∧ z < ns.length := by
            unfold cutL at hk
            rw [HT.sIx_nat, show HT.sIx ns.length ns.length (some 63) = min 63 ns.length from HT.sIx_nat ns.length ns.length 63] at hk
            simp at hk
            omega
          have hcl : cells.length = z := by omega
          have hj : k % z < cells.length := by rw [hcl]; exact Nat.mod_lt _ hz
          have hS : (S ++ [.lst (cells.map Val.int)])[S.length]? = some (.lst (cells.map Val.int)) := by
            rw [List.getElem?_append_right (Nat.le_refl _), Nat.sub_self]; rfl
          have em : ((k : Int) % (z : Int)) = ((k % z : Nat) : Int) := (Int.natCast_emod k z).symm
          apply rb
          · apply bt_tp
            · rfl
            · exact bts_cons bt_nm (bts_cons bt_nm bts_nil)
          · apply r_asg
            · apply ev_bin
              · apply ev_idx
                · walk_at "ev"
                · apply ev_bin
                  · walk_at "ev"
                  · walk_at "ev"
                  · exact bs_mod (by omega)
                · apply idx_ref hS
                  rw [Nat.zero_add, em, atI_nat' (by simpa using hj), List.getElem?_map, List.getElem?_eq_getElem hj]; rfl
              · apply ev_bin
                · walk_at "ev"
                · walk_at "ev"
                · apply bs_mul
                  apply mul_r <;> omega
              · exact bs_add
            · apply bt_sub
              · walk_at "ev"
              · apply ev_bin
                · walk_at "ev"
                · walk_at "ev"
                · exact bs_mod (by omega)
              · apply set_ref hS
                rw [Nat.zero_add, em]
                exact ixN_nat' (by simpa using hj)
            · apply r_nil
              refine ⟨cells.set (k % z) (cells[k % z] + w * ((0 + k : Nat) + 2)), some (.int ((0 + k : Nat) : Int)), some (.int w), rfl, ?_, by simp [hl]⟩
              rw [List.set_append_right _ _ (Nat.le_refl _), Nat.sub_self, List.map_set]; rfl
      · rintro ρ' S' ⟨cells, y3, y4, rfl, rfl, hl⟩
        apply r_ret
        · walk_at "ev"
        · exact ⟨_, _, rfl, cells, rfl, rfl, hl⟩
  obtain ⟨v, S', h, cells, rfl, rfl, hl⟩ := key
  exact ⟨cells, h, hl⟩

/-- data by value, so deep -/
def dat : Nat → Val → Bool
  | _, .non => true
  | _, .bl _ => true
  | _, .int _ => true
  | _, .str _ => true
  | d + 1, .tup xs => decide (xs.length ≤ 100000) && xs.all (dat d)
  | d + 1, .lv xs => decide (xs.length ≤ 100000) && xs.all (dat d)
  | _, _ => false
/-- the same data, the first one perhaps a list of the store -/
def Alike (S : Store) (v w : Val) : Prop := v = w ∨ ∃ m xs, v = .ref m ∧ S[m]? = some (.lst xs) ∧ w = .lv xs
theorem mem_zipSame : ∀ {xs : List Val} {x : Val}, x ∈ zipV xs xs → ∃ y ∈ xs, x = .tup [y, y]
  | [], _, h => by simp [zipV] at h
  | a :: r, x, h => by
    simp only [zipV, List.mem_cons] at h
    rcases h with rfl | h
    · exact ⟨a, List.mem_cons_self, rfl⟩
    · obtain ⟨y, hy, e⟩ := mem_zipSame h
      exact ⟨y, List.mem_cons_of_mem _ hy, e⟩
theorem same_run : ∀ (d n : Nat) (v w : Val) (S : Store), dat d w = true → Alike S v w → d < n → run Δ n i_law_same [v, w] S = some (.bl true, S)
  | d, 0, _, _, _, _, _, h => by omega
  | d, n + 1, v, w, S, hd, ha, hn => by
    have scal : ∀ {x : Val}, (∀ ys, x ≠ .tup ys) → (∀ ys, x ≠ .lv ys) → v = x → w = x → isTys S x [.list, .tuple] = some false → run Δ (n + 1) i_law_same [v, w] S = some (.bl true, S) := by
      rintro x h1 h2 rfl rfl h3
      apply run_of rfl rfl rfl
      apply r_ite
      · apply ev_isa
        · walk_at "ev"
        · exact h3
      · intro h; cases h
      · intro _
        apply r_nil
        cases w with
        | non =>
          apply r_ite (k := true)
          · apply ev_or (k := true) (k' := true)
            · walk_at "ev"
            · intro h; cases h
          · intro _
            apply r_ret
            · apply ev_and (k := true) (k' := true)
              · apply ev_cmp
                · walk_at "ev"
                · walk_at "ev"
                · rfl
              · intro _
                apply ev_one
                apply ev_cmp
                · apply ev_isa
                  · walk_at "ev"
                  · rfl
                · apply ev_isa
                  · walk_at "ev"
                  · rfl
                · rfl
            · rfl
          · intro h; cases h
        | str z =>
          apply r_ite (k := true)
          · apply ev_or (k := false) (k' := true)
            · apply ev_cmp
              · walk_at "ev"
              · walk_at "ev"
              · rfl
            · intro _
              apply ev_one
              apply ev_isa
              · walk_at "ev"
              · rfl
          · intro _
            apply r_ret
            · apply ev_and (k := true) (k' := true)
              · apply ev_cmp
                · walk_at "ev"
                · walk_at "ev"
                · show some (decide (z = z)) = some true
                  simp
              · intro _
                apply ev_one
                apply ev_cmp
                · apply ev_isa
                  · walk_at "ev"
                  · rfl
                · apply ev_isa
                  · walk_at "ev"
                  · rfl
                · rfl
            · rfl
          · intro h; cases h
        | int i =>
          apply r_ite (k := false)
          · apply ev_or (k := false) (k' := false)
            · apply ev_cmp
              · walk_at "ev"
              · walk_at "ev"
              · rfl
            · intro _
              apply ev_one
              apply ev_isa
              · walk_at "ev"
              · rfl
          · intro h; cases h
          · intro _
            apply r_nil
            apply r_ret
            · apply ev_and (k := true) (k' := true)
              · apply ev_isa
                · walk_at "ev"
                · rfl
              · intro _
                apply ev_and (k := true) (k' := true)
                · apply ev_cmp
                  · apply ev_isa
                    · walk_at "ev"
                    · rfl
                  · apply ev_isa
                    · walk_at "ev"
                    · rfl
                  · rfl
                · intro _
                  apply ev_one
                  apply ev_cmp
                  · walk_at "ev"
                  · walk_at "ev"
                  · show some (decide (i = i)) = some true
                    simp
            · rfl
        | bl i =>
          apply r_ite (k := false)
          · apply ev_or (k := false) (k' := false)
            · apply ev_cmp
              · walk_at "ev"
              · walk_at "ev"
              · rfl
            · intro _
              apply ev_one
              apply ev_isa
              · walk_at "ev"
              · rfl
          · intro h; cases h
          · intro _
            apply r_nil
            apply r_ret
            · apply ev_and (k := true) (k' := true)
              · apply ev_isa
                · walk_at "ev"
                · rfl
              · intro _
                apply ev_and (k := true) (k' := true)
                · apply ev_cmp
                  · apply ev_isa
                    · walk_at "ev"
                    · rfl
                  · apply ev_isa
                    · walk_at "ev"
                    · rfl
                  · rfl
                · intro _
                  apply ev_one
                  apply ev_cmp
                  · walk_at "ev"
                  · walk_at "ev"
                  · show some (decide (i = i)) = some true
                    simp
            · rfl
        | tup ys => exact absurd rfl (h1 ys)
        | lv ys => exact absurd rfl (h2 ys)
        | sl ys => cases h3
        | iv c ns ys => cases h3
        | fn _ => cases h3
        | ref m => cases d <;> cases hd
    have many : ∀ {ys : List Val} {k1 k2 : Bool}, (∃ d', d = d' + 1 ∧ decide (ys.length ≤ 100000) = true ∧ ys.all (dat d') = true) → isTys S w [.list, .tuple] = some true → isTys S v [.list] = some k1 → isTys S w [.list] = some k1 → isTys S v [.tuple] = some k2 → isTys S w [.tuple] = some k2 →
        seqOf S v = some ys → seqOf S w = some ys → itemsOf S .zip [v, w] = some (zipV ys ys) → run Δ (n + 1) i_law_same [v, w] S = some (.bl true, S) := by
      rintro ys k1 k2 ⟨d', rfl, hl, hall⟩ t0 t1 t2 t3 t4 s1 s2 hz
      have hl := of_decide_eq_true hl
      apply run_of rfl rfl rfl
      apply r_ite (k := true)
      · apply ev_isa
        · walk_at "ev"
        · exact t0
      · intro _
        apply r_ite (k := false)
        · apply ev_or (k := false) (k' := false)
          · apply ev_cmp
            · apply ev_isa
              · walk_at "ev"
              · exact t1
            · apply ev_isa
              · walk_at "ev"
              · exact t2
            · rw [cs_neB]; simp
          · intro _
            apply ev_one
            apply ev_cmp
            · apply ev_isa
              · walk_at "ev"
              · exact t3
            · apply ev_isa
              · walk_at "ev"
              · exact t4
            · rw [cs_neB]; simp
        · intro h; cases h
        · intro _
          apply r_nil
          apply r_ret
          · apply ev_and (k := true) (k' := true)
            · apply ev_cmp
              · apply ev_blt
                · walk_at "ev"
                · show (seqOf S v).map _ = _
                  rw [s1]; rfl
              · apply ev_blt
                · walk_at "ev"
                · show (seqOf S w).map _ = _
                  rw [s2]; rfl
              · rw [cs_eqI]; simp
            · intro _
              apply ev_one
              apply ev_blt
              · apply el_cons
                · apply ev_lc (fun _ => [.bl true])
                  · walk_at "ev"
                  · exact hz
                  · intro x hx
                    obtain ⟨y, hy, rfl⟩ := mem_zipSame hx
                    refine ⟨_, true, bt_tp rfl (bts_cons bt_nm (bts_cons bt_nm bts_nil)), ec_none, ?_⟩
                    rw [if_pos rfl]
                    refine ⟨.bl true, ?_, rfl⟩
                    apply ev_call
                    · walk_at "ev"
                    · exact same_run d' n y y S (List.all_eq_true.mp hall y hy) (.inl rfl) (by omega)
                    · exact gc_same rfl
                  · rw [flat_true, List.length_map, List.length_replicate, zip_len]
                    omega
                · walk_at "ev"
              · rw [flat_true]
                have q := bl_all (S := S) (bs := List.replicate (zipV ys ys).length true)
                rw [all_rep] at q
                exact q
          · rfl
      · intro h; cases h
    rcases ha with rfl | ⟨m, xs, rfl, hm, rfl⟩
    · cases v with
      | non => exact scal (by intro _ h; cases h) (by intro _ h; cases h) rfl rfl rfl
      | bl b => exact scal (by intro _ h; cases h) (by intro _ h; cases h) rfl rfl rfl
      | int i => exact scal (by intro _ h; cases h) (by intro _ h; cases h) rfl rfl rfl
      | str i => exact scal (by intro _ h; cases h) (by intro _ h; cases h) rfl rfl rfl
      | tup ys =>
        cases d with
        | zero => cases hd
        | succ d' =>
          simp only [dat, Bool.and_eq_true] at hd
          exact many (k1 := false) (k2 := true) ⟨d', rfl, hd.1, hd.2⟩ rfl rfl rfl rfl rfl rfl rfl rfl
      | lv ys =>
        cases d with
        | zero => cases hd
        | succ d' =>
          simp only [dat, Bool.and_eq_true] at hd
          exact many (k1 := true) (k2 := false) ⟨d', rfl, hd.1, hd.2⟩ rfl rfl rfl rfl rfl rfl rfl rfl
      | sl ys => cases d <;> cases hd
      | iv c ns ys => cases d <;> cases hd
      | fn _ => cases d <;> cases hd
      | ref m => cases d <;> cases hd
    · cases d with
      | zero => cases hd
      | succ d' =>
        simp only [dat, Bool.and_eq_true] at hd
        have q1 : seqOf S (.ref m) = some xs := by unfold seqOf; simp only [hm]
        have q2 : lstOf S (.ref m) = some xs := by unfold lstOf; simp only [hm]
        refine many (k1 := true) (k2 := false) ⟨d', rfl, hd.1, hd.2⟩ rfl ?_ rfl ?_ rfl q1 rfl ?_
        · simp [isTys, isTy, hm]
        · simp [isTys, isTy, hm]
        · show (lstOf S (.ref m)).bind _ = _
          rw [q2]; rfl

theorem hit_lt {b s a l h n : Int} (ha : 0 < a) (hl : Least (Hit b s a l h) (some n)) : n < a := by
  cases Int.lt_or_le n a with
  | inl q => exact q
  | inr q =>
    exfalso
    refine hl.2.2 (n - a) (by omega) (by omega) ?_
    have e : (b + (n - a) * s) % a = (b + n * s) % a := by
      rw [Int.sub_mul, ← Int.add_sub_assoc, Int.sub_emod, Int.mul_emod_right, Int.sub_zero, Int.emod_emod_of_dvd _ (Int.dvd_refl a)]
    have := hl.2.1
    unfold Hit at this ⊢
    rw [e]; exact this
theorem hit_move {b s a l h p q n : Int} : Hit (b + a * p) (s + a * q) a l h n ↔ Hit b s a l h n := by
  have e : (b + a * p + n * (s + a * q)) % a = (b + n * s) % a := by
    rw [Int.mul_add, show b + a * p + (n * s + n * (a * q)) = b + n * s + a * (p + n * q) by rw [Int.mul_add, ← Int.mul_assoc, ← Int.mul_assoc, Int.mul_comm n a]; omega, Int.add_mul_emod_self_left]
  unfold Hit
  rw [e]

/-! the last one below a count -/
def Last (P : Int → Prop) (M : Int) : Option Int → Prop
  | some n => 0 ≤ n ∧ n < M ∧ P n ∧ ∀ m, n < m → m < M → ¬ P m
  | none => ∀ m, 0 ≤ m → m < M → ¬ P m
theorem Last.uniq {P : Int → Prop} {M : Int} {r r' : Option Int} (h : Last P M r) (h' : Last P M r') : r = r' := by
  cases r with
  | none =>
    cases r' with
    | none => rfl
    | some n => exact absurd h'.2.2.1 (h n h'.1 h'.2.1)
  | some n =>
    cases r' with
    | none => exact absurd h.2.2.1 (h' n h.1 h.2.1)
    | some m =>
      have : n = m := by
        cases Int.lt_or_le n m with
        | inl q => exact absurd h'.2.2.1 (h.2.2.2 m q h'.2.1)
        | inr q =>
          cases Int.lt_or_eq_of_le q with
          | inl q => exact absurd h.2.2.1 (h'.2.2.2 n q h.2.1)
          | inr q => exact q.symm
      rw [this]
@[reducible] def backOf (M : Int) : Option Int → Option Int
  | none => none
  | some k => if k < M then some (M - 1 - k) else none
theorem back_lt {M k : Int} (h : k < M) : backOf M (some k) = some (M - 1 - k) := if_pos h
theorem back_ge {M k : Int} (h : ¬ k < M) : backOf M (some k) = none := if_neg h
theorem hit_back {b s a l h M n : Int} : Hit (b + (M - 1) * s) (-s) a l h n ↔ Hit b s a l h (M - 1 - n) := by
  have e : b + (M - 1) * s + n * -s = b + (M - 1 - n) * s := by
    rw [Int.mul_neg, Int.sub_mul (M - 1) n s]; omega
  unfold Hit
  rw [e]
theorem last_of {b s a l h M : Int} {r : Option Int} (hr : Least (Hit (b + (M - 1) * s) (-s) a l h) r) : Last (Hit b s a l h) M (backOf M r) := by
  cases r with
  | none => exact fun m h0 h1 q => hr (M - 1 - m) (by omega) (hit_back.mpr (by rw [show M - 1 - (M - 1 - m) = m by omega]; exact q))
  | some k =>
    by_cases hk : k < M
    · rw [back_lt hk]
      refine ⟨by omega, by have := hr.1; omega, hit_back.mp hr.2.1, fun m h0 h1 q => hr.2.2 (M - 1 - m) (by omega) (by omega) (hit_back.mpr (by rw [show M - 1 - (M - 1 - m) = m by omega]; exact q))⟩
    · rw [back_ge hk]
      exact fun m h0 h1 q => hr.2.2 (M - 1 - m) (by omega) (by omega) (hit_back.mpr (by rw [show M - 1 - (M - 1 - m) = m by omega]; exact q))

/-! a store with the box, and own things behind -/
structure Bs where
  P : Store
  L : Store
def Bs.st (B : Bs) (x : Bx) : Store := B.P ++ x.o :: B.L
def Bs.m (B : Bs) : Nat := B.P.length
def Bs.n (B : Bs) : Nat := B.P.length + 1 + B.L.length
def Bs.push (B : Bs) (A : Store) : Bs := ⟨B.P, B.L ++ A⟩
theorem Bs.len (B : Bs) (x : Bx) : (B.st x).length = B.n := by unfold Bs.st Bs.n; simp; omega
theorem Bs.st_push (B : Bs) (x : Bx) (A : Store) : (B.push A).st x = B.st x ++ A := by unfold Bs.st Bs.push; simp
theorem Bs.m_push (B : Bs) (A : Store) : (B.push A).m = B.m := rfl
theorem Bs.n_push (B : Bs) (A : Store) : (B.push A).n = B.n + A.length := by unfold Bs.n Bs.push; simp; omega
theorem Bs.at_m (B : Bs) (x : Bx) (A : Store) : (B.st x ++ A)[B.m]? = some x.o := by
  unfold Bs.st Bs.m; rw [List.append_assoc, List.getElem?_append_right (Nat.le_refl _), Nat.sub_self]; rfl
theorem Bs.set_m (B : Bs) (x x' : Bx) (A : Store) : (B.st x ++ A).set B.m x'.o = B.st x' ++ A := by
  unfold Bs.st Bs.m; rw [List.append_assoc, List.append_assoc, List.set_append_right _ _ (Nat.le_refl _), Nat.sub_self]; rfl
theorem Bs.at_n (B : Bs) (x : Bx) (A : Store) (j : Nat) : (B.st x ++ A)[B.n + j]? = A[j]? := by
  rw [List.getElem?_append_right (by rw [B.len]; omega), B.len, Nat.add_sub_cancel_left]
theorem Bs.set_n (B : Bs) (x : Bx) (A : Store) (j : Nat) (o : Ob) : (B.st x ++ A).set (B.n + j) o = B.st x ++ A.set j o := by
  rw [List.set_append_right _ _ (by rw [B.len]; omega), B.len, Nat.add_sub_cancel_left]
theorem own_at (S A : Store) (j : Nat) : (S ++ A)[S.length + j]? = A[j]? := by
  rw [List.getElem?_append_right (by omega), Nat.add_sub_cancel_left]
theorem own_set (S A : Store) (j : Nat) (o : Ob) : (S ++ A).set (S.length + j) o = S ++ A.set j o := by
  rw [List.set_append_right _ _ (by omega), Nat.add_sub_cancel_left]
theorem gc_box {B : Bs} {x x' : Bx} {A : Store} {v : Val} (hv : v.fits B.n = true) : gc (B.st x) v (B.st x' ++ A) = some (v, B.st x') := by
  have : GcOk (B.st x) (B.st x' ++ A) := by
    refine ⟨by simp [B.len], fun i o hi h => ?_⟩
    rw [B.len] at hi
    rw [List.getElem?_append_left (by rw [B.len]; exact hi)] at h
    unfold Bs.st at h ⊢
    unfold Bs.n at hi
    by_cases e : i < B.P.length
    · rw [List.getElem?_append_left e] at h; rw [List.getElem?_append_left e]; exact .inl h
    · rw [List.getElem?_append_right (by omega)] at h; rw [List.getElem?_append_right (by omega)]
      by_cases e2 : i = B.P.length
      · subst e2
        rw [Nat.sub_self] at h
        cases h
        exact .inr (x'.fits _)
      · obtain ⟨k, hk⟩ : ∃ k, i - B.P.length = k + 1 := ⟨i - B.P.length - 1, by omega⟩
        rw [hk] at h ⊢
        exact .inl h
  rw [gc_of this (by rw [B.len]; exact hv), B.len, List.take_left' (B.len x')]
/-- a def that draws, as it is called -/
theorem call_box {n f : Nat} {vs : List Val} {B : Bs} {x : Bx} {A : Store} {Q : Val → Store → Prop} {R : Val → Bx → Prop}
    (h : RUN Δ n f vs ((B.push A).st x) fun v S1 => v.fits (B.n + A.length) = true ∧ ∃ x' G, S1 = (B.push A).st x' ++ G ∧ R v x') (q : ∀ v x', R v x' → Q v (B.st x' ++ A)) : CALL (orc Δ n) f vs (B.st x ++ A) Q := by
  rw [← B.st_push]
  refine h.call fun v S1 ⟨hv, x', G, e, hr⟩ => ?_
  subst e
  refine ⟨v, _, gc_box (by rw [B.n_push]; exact hv), ?_⟩
  rw [B.st_push]
  exact q v x' hr
theorem call_take {n T : Nat} {z : Int} {B : Bs} {x : Bx} {A : Store} {Q : Val → Store → Prop} (ok : x.Ok T) (hT : T < 2 ^ 29) (hn : 7 ≤ n) (h0 : 0 < z) (hz : z ≤ 10 ^ 49)
    (q : ∀ r x', 0 ≤ r → r < z → Bx.Ok x' (T + 7) → Q (.int r) (B.st x' ++ A)) : CALL (orc Δ n) i_law_take [.ref B.m, .int z] (B.st x ++ A) Q := by
  obtain ⟨r, x', e, r0, r1, ok'⟩ := take_run 6 n T B.m (B.st x ++ A) x z (B.at_m x A) ok (by omega) h0 hz (by decide) (by omega)
  exact ⟨_, _, _, _, e, gc_set (x'.fits _) rfl, by rw [B.set_m]; exact q r x' r0 r1 ok'⟩
theorem fits_mem {k : Nat} {v : Val} : ∀ {xs : List Val}, fitsL k xs = true → v ∈ xs → v.fits k = true
  | [], _, h => by cases h
  | y :: ys, h, hm => by
    unfold fitsL at h
    rw [Bool.and_eq_true] at h
    rcases List.mem_cons.mp hm with e | e
    · subst e; exact h.1
    · exact fits_mem h.2 e
/-- joins the ways of an expression -/
theorem w_is {c : Oracle} {e : E} {ρ : Env} {S S' : Store} {w : Val} {Q : Val → Store → Prop} (h : EV c e ρ S fun v S2 => v = w ∧ S2 = S') (q : Q w S') : EV c e ρ S Q := by
  obtain ⟨v, S2, h1, rfl, rfl⟩ := h
  exact ⟨_, _, h1, q⟩
theorem m_sz {vs : List Val} {P : Prop} (h : Nat.ble vs.length 1000 = true) (q : P) : vs.length ≤ 1000000 ∧ P := ⟨Nat.le_trans (Nat.le_of_ble_eq_true h) (by decide), q⟩
/-! own lists in the store -/
section
variable {B : Bs} {x : Bx} {S S1 S2 S3 A A' : Store} {o o' : Ob} {j n : Nat} {v : Val} {xs ys : List Val}
theorem bget (h : A[j]? = some o) : (B.st x ++ A)[B.n + j]? = some o := by rw [B.at_n]; exact h
theorem bput (h : A.set j o = A') : (B.st x ++ A).set (B.n + j) o = B.st x ++ A' := by rw [B.set_n, h]
theorem oget (h : A[j]? = some o) : (S ++ A)[S.length + j]? = some o := by rw [own_at]; exact h
theorem oput (h : A.set j o = A') : (S ++ A).set (S.length + j) o = S ++ A' := by rw [own_set, h]
theorem lget : (A ++ [o])[A.length]? = some o := by rw [List.getElem?_append_right (Nat.le_refl _), Nat.sub_self]; rfl
theorem lput : (A ++ [o]).set A.length o' = A ++ [o'] := by rw [List.set_append_right _ _ (Nat.le_refl _), Nat.sub_self]; rfl
theorem zget : (o :: A)[0]? = some o := rfl
theorem w_newB {Q : Val → Store → Prop} (q : Q (.ref (B.n + A.length)) (B.st x ++ (A ++ [.lst xs]))) : NEW (.lv xs) (B.st x ++ A) Q := ⟨xs, rfl, by rw [List.length_append, B.len, List.append_assoc]; exact q⟩
theorem w_newO {Q : Val → Store → Prop} (q : Q (.ref (S.length + A.length)) (S ++ (A ++ [.lst xs]))) : NEW (.lv xs) (S ++ A) Q := ⟨xs, rfl, by rw [List.length_append, List.append_assoc]; exact q⟩
theorem a_1 {P : Nat → Prop} (h : S1[n]? = some (.lst ys)) (q : P n) : ∃ n' ys', Val.ref n = .ref n' ∧ S1[n']? = some (.lst ys') ∧ P n' := ⟨n, ys, rfl, h, q⟩
theorem a_2 {P : Store → Prop} (h : S2[n]? = some (.lst xs)) (hl : xs.length < sizeLine) (hs : S2.set n (.lst (xs ++ [v])) = S3) (q : P S3) : PUT S2 n v P := ⟨xs, h, hl, by rw [hs]; exact q⟩
theorem sz_lt (h : Nat.ble xs.length 1000 = true) : xs.length < sizeLine := Nat.lt_of_le_of_lt (Nat.le_of_ble_eq_true h) (by decide)
end
theorem k_eq {S : Store} {P : Prop} (q : P) : S = S ∧ P := ⟨rfl, q⟩
theorem Runs.mono {c : Oracle} {A : SL} {ρ : Env} {S : Store} {P P' : Out → Prop} (h : Runs c A ρ S P) (q : ∀ o, P o → P' o) : Runs c A ρ S P' := by
  obtain ⟨o, h1, h2⟩ := h
  exact ⟨o, h1, q o h2⟩
/-- joins the two ways of a branch -/
theorem br_join {c : Oracle} {A B ss : SL} {ρ : Env} {S : Store} {v : Val} {P : Out → Prop} (J : Env → Store → Prop) (h : BR v (Runs c A ρ S (fun o => ∃ ρ' S', o = .nx ρ' S' ∧ J ρ' S')) (Runs c B ρ S (fun o => ∃ ρ' S', o = .nx ρ' S' ∧ J ρ' S'))) (q : ∀ ρ' S', J ρ' S' → Runs c ss ρ' S' P) :
    BR v (Runs c A ρ S (Then c ss P)) (Runs c B ρ S (Then c ss P)) := by
  obtain ⟨k, e, h1, h2⟩ := h
  have key : ∀ o, (∃ ρ' S', o = .nx ρ' S' ∧ J ρ' S') → Then c ss P o := by
    rintro o ⟨ρ', S', rfl, hj⟩
    exact q ρ' S' hj
  exact ⟨k, e, fun h => (h1 h).mono key, fun h => (h2 h).mono key⟩
theorem j_nx {ρ : Env} {S : Store} {J : Env → Store → Prop} (h : J ρ S) : ∃ ρ' S', Out.nx ρ S = .nx ρ' S' ∧ J ρ' S' := ⟨_, _, rfl, h⟩
/-- a def told by an equation, as it is called -/
theorem call_run {n f : Nat} {vs : List Val} {S : Store} {v : Val} {Q : Val → Store → Prop} (h : run Δ n f vs S = some (v, S)) (hf : v.fits S.length = true) (q : Q v S) : CALL (orc Δ n) f vs S Q := ⟨v, S, v, S, h, gc_same hf, q⟩

/-- the own comparison says so -/
theorem call_same {n : Nat} {v w : Val} {S : Store} {Q : Val → Store → Prop} (d : Nat) (h1 : dat d w = true) (h2 : Alike S v w) (h3 : d < n) (q : Q (.bl true) S) : CALL (orc Δ n) i_law_same [v, w] S Q :=
  call_pure (same_run d n v w S h1 h2 h3) rfl q

/-! tuples, or lists for them -/
def sq (b : Bool) (xs : List Val) : Val := match b with
  | true => .tup xs
  | false => .lv xs
section
variable {S : Store} {b : Bool} {xs : List Val} {v : Val} {R : Val → Prop} {RL : List Val → Prop}
theorem o_idx_sq {k : Int} (h : atI xs k = some v) (q : R v) : OP (idxSem S (sq b xs) (.int k)) R := by cases b <;> exact ⟨_, h, q⟩
theorem o_len_sq (q : R (.int xs.length)) : OP (bltSem S .len (sq b xs :: [])) R := by cases b <;> exact ⟨_, rfl, q⟩
theorem o_list_sq (q : R (.lv xs)) : OP (bltSem S .list (sq b xs :: [])) R := by cases b <;> exact ⟨_, rfl, q⟩
theorem o_tup_sq (q : R (.tup xs)) : OP (bltSem S .tuple (sq b xs :: [])) R := by cases b <;> exact ⟨_, rfl, q⟩
theorem i_sq (q : RL xs) : OP (itemsOf S .seq [sq b xs]) RL := by cases b <;> exact ⟨_, rfl, q⟩
theorem i_enum_sq (q : RL (enumFrom 0 xs)) : OP (itemsOf S .enum [sq b xs]) RL := by cases b <;> exact ⟨_, rfl, q⟩
theorem u_sq {n : Nat} (h : xs.length = n) (q : RL xs) : OP (unpack S n (sq b xs)) RL := by cases b <;> exact ⟨xs, by unfold unpack sq seqOf; simp [h], q⟩
theorem o_slc_sq {l u : Option Int} (q : R (sq b (cutL xs l u))) : OP (slcSem S (sq b xs) l u) R := by cases b <;> exact ⟨_, rfl, q⟩
theorem fits_sq {k : Nat} (h : fitsL k xs = true) : (sq b xs).fits k = true := by cases b <;> (unfold sq Val.fits; exact h)
theorem refs_sq : refsOf [sq b xs] = [] := by cases b <;> rfl
end
theorem o_sum {S : Store} {ns : List Int} {xs : List Val} {R : Val → Prop} (e : xs = ns.map Val.int) (q : R (.int ns.sum)) : OP (bltSem S .sum (.lv xs :: [])) R := by subst e; exact ⟨_, bl_sum, q⟩
theorem enum_map {α : Type} (mk : α → Val) : ∀ (ys : List α) (k : Nat), enumFrom k (ys.map mk) = (ys.zipIdx k).map fun p => Val.tup [.int (p.2 : Int), mk p.1]
  | [], _ => rfl
  | y :: ys, k => by simp only [List.map_cons, enumFrom, List.zipIdx_cons, enum_map mk ys (k + 1)]
theorem at_zero {α : Type} {x : α} {l : List α} : atI (x :: l) 0 = some x := by
  have := atI_nat' (xs := x :: l) (j := 0) (by simp)
  exact this
section
variable {S : Store} {xs : List Val} {m : Nat} {R : Val → Prop}
theorem o_len_ref (h : S[m]? = some (.lst xs)) (q : R (.int xs.length)) : OP (bltSem S .len (.ref m :: [])) R := ⟨_, by unfold bltSem seqOf; simp only [h, Option.map_some], q⟩
theorem o_tup_ref (h : S[m]? = some (.lst xs)) (q : R (.tup xs)) : OP (bltSem S .tuple (.ref m :: [])) R := ⟨_, by unfold bltSem lstOf; simp only [h, Option.map_some], q⟩
end
theorem range_getD {α : Type} (ds : List α) (d0 : α) : (List.range ds.length).map (fun i => ds.getD i d0) = ds := by
  apply List.ext_getElem
  · simp
  · intro i h1 h2
    simp only [List.getElem_map, List.getElem_range, List.getD_eq_getElem?_getD, List.getElem?_eq_getElem h2, Option.getD_some]
theorem o_set_ref2 {S S3 : Store} {v : Val} {xs : List Val} {k : Int} {m n : Nat} {R : Store → Prop} (h0 : S[m]? = some (.lst xs)) (h : ixN xs.length k = some n) (hs : S.set m (.lst (xs.set n v)) = S3) (q : R S3) : OP (setSem S (.ref m) (.int k) v) R := ⟨_, set_ref h0 h, by rw [hs]; exact q⟩
theorem k_nil' {ks : List Nat} {S S' : Store} {P : Prop} (h : ks = []) (q : P) : Kept ks S S' ∧ P := by subst h; exact ⟨fun _ h => (nomatch h), q⟩
theorem o_catT {S : Store} {xs ys : List Val} {R : Val → Prop} (h : xs.length + ys.length ≤ sizeLine ∧ xs ≠ []) (q : R (.tup (xs ++ ys))) : OP (binSem S .add (.tup xs) (.tup ys)) R := ⟨_, if_pos h.1, q⟩
theorem o_catT0 {S : Store} {xs ys : List Val} {R : Val → Prop} (h : xs.length + ys.length ≤ sizeLine) (q : R (.tup (xs ++ ys))) : OP (binSem S .add (.tup xs) (.tup ys)) R := ⟨_, if_pos h, q⟩

/-- a for over what is walked, which stays -/
theorem x_forK {c : Oracle} {ρ : Env} {S : Store} {ss : SL} {Q : Out → Prop} {tg : T} {k : ItK} {es : EL} {B : SL} (h : EVL c es ρ S fun vs S1 => OP (itemsOf S1 k vs) fun xs => ∃ I : Nat → Env → Store → Prop, (∀ n ρ' S', I n ρ' S' → Kept (refsOf vs) S1 S') ∧ I 0 ρ S1 ∧
      (∀ n x ρ' S', xs[n]? = some x → I n ρ' S' → BT c tg x ρ' S' fun ρ2 S2 => Runs c B ρ2 S2 (fun o => match o with
      | .nx ρ3 S3 => I (n + 1) ρ3 S3
      | .ct ρ3 S3 => I (n + 1) ρ3 S3
      | .bk ρ3 S3 => Runs c ss ρ3 S3 Q
      | .rt v S3 => Q (.rt v S3))) ∧ ∀ ρ' S', I xs.length ρ' S' → Runs c ss ρ' S' Q) : Runs c (.cons (.for tg k es B) ss) ρ S Q := by
  obtain ⟨vs, S1, he, xs, hi, P, hK, h0, hs, hd⟩ := h
  have key : ∀ (m n : Nat) ρ' S', m = xs.length - n → n ≤ xs.length → P n ρ' S' → ∃ o, forG (refsOf vs) (fun x ρ S => bindT c tg x ρ S) (fun ρ S => exL c B ρ S) (xs.drop n) ρ' S' = some o ∧ Then c ss Q o := by
    intro m
    induction m with
    | zero =>
      intro n ρ' S' hm hn p
      have e : n = xs.length := by omega
      subst e
      rw [List.drop_length]
      exact ⟨.nx ρ' S', by unfold forG; rfl, hd ρ' S' p⟩
    | succ m ih =>
      intro n ρ' S' hm hn p
      have hlt : n < xs.length := by omega
      rw [List.drop_eq_getElem_cons hlt]
      obtain ⟨ρ2, S2, h1, o, h2, h3⟩ := hs n _ ρ' S' (List.getElem?_eq_getElem hlt) p
      unfold forG
      have kp := hK n ρ' S' p
      simp only [h1, Option.bind_some, h2]
      cases o with
      | nx ρ3 S3 =>
        have kq := hK (n + 1) ρ3 S3 h3
        simp only [if_pos (show Kept (refsOf vs) S' S3 from fun k hk => (kq k hk).trans (kp k hk).symm)]; exact ih (n + 1) ρ3 S3 (by omega) (by omega) h3
      | ct ρ3 S3 =>
        have kq := hK (n + 1) ρ3 S3 h3
        simp only [if_pos (show Kept (refsOf vs) S' S3 from fun k hk => (kq k hk).trans (kp k hk).symm)]; exact ih (n + 1) ρ3 S3 (by omega) (by omega) h3
      | bk ρ3 S3 => exact ⟨_, rfl, h3⟩
      | rt v S3 => exact ⟨_, rfl, h3⟩
  obtain ⟨o, h1, h2⟩ := key xs.length 0 ρ S1 (by simp) (Nat.zero_le _) h0
  rw [List.drop_zero] at h1
  have h3 : exS c (.for tg k es B) ρ S = some o := by
    unfold exS; rw [he, Option.bind_some]; show (itemsOf S1 k vs).bind _ = _; rw [hi, Option.bind_some]; exact h1
  cases o with
  | nx ρ1 S1 =>
    obtain ⟨o', h4, h5⟩ := h2
    exact ⟨o', by unfold exL; rw [h3]; exact h4, h5⟩
  | bk ρ1 S1 => exact ⟨_, by unfold exL; rw [h3]; rfl, h2⟩
  | ct ρ1 S1 => exact ⟨_, by unfold exL; rw [h3]; rfl, h2⟩
  | rt w S1 => exact ⟨_, by unfold exL; rw [h3]; rfl, h2⟩
theorem seq_ref {S : Store} {n : Nat} {xs : List Val} (h : S[n]? = some (.lst xs)) : seqOf S (.ref n) = some xs := by unfold seqOf; simp only [h]
theorem lst_ref {S : Store} {n : Nat} {xs : List Val} (h : S[n]? = some (.lst xs)) : lstOf S (.ref n) = some xs := by unfold lstOf; simp only [h]
theorem seq_sq {S : Store} {b : Bool} {xs : List Val} : seqOf S (sq b xs) = some xs := by cases b <;> rfl
theorem i_enumS {S : Store} {v : Val} {xs : List Val} {R : List Val → Prop} (h : seqOf S v = some xs) (q : R (enumFrom 0 xs)) : OP (itemsOf S .enum [v]) R := ⟨_, by unfold itemsOf; simp only [h, Option.map_some], q⟩
theorem i_seqS {S : Store} {v : Val} {xs : List Val} {R : List Val → Prop} (h : seqOf S v = some xs) (q : R xs) : OP (itemsOf S .seq [v]) R := ⟨_, by unfold itemsOf; exact h, q⟩
theorem o_lenS {S : Store} {v : Val} {xs : List Val} {R : Val → Prop} (h : seqOf S v = some xs) (q : R (.int xs.length)) : OP (bltSem S .len (v :: [])) R := ⟨_, by unfold bltSem; simp only [h, Option.map_some], q⟩
theorem o_idxS {S : Store} {v w : Val} {xs : List Val} {k : Int} {R : Val → Prop} (h : seqOf S v = some xs) (ha : atI xs k = some w) (q : R w) : OP (idxSem S v (.int k)) R := ⟨_, by unfold idxSem; simp only [h, Option.bind_some, ha], q⟩
/-- an if whose ways come together -/
theorem x_iteJ {c : Oracle} {t : E} {A B ss : SL} {ρ : Env} {S : Store} {P : Out → Prop} (J : Env → Store → Prop) (h : EV c t ρ S fun x S1 => BR x (Runs c A ρ S1 (fun o => ∃ ρ' S', o = .nx ρ' S' ∧ J ρ' S')) (Runs c B ρ S1 (fun o => ∃ ρ' S', o = .nx ρ' S' ∧ J ρ' S'))) (q : ∀ ρ' S', J ρ' S' → Runs c ss ρ' S' P) : Runs c (.cons (.ite t A B) ss) ρ S P := by
  obtain ⟨v, S1, h1, h2⟩ := h
  exact x_ite ⟨v, S1, h1, br_join J h2 q⟩

local macro_rules | `(tactic| walk_at "get") => `(tactic| first | assumption | exact bget lget | exact bget (by with_unfolding_all rfl) | exact oget lget | exact oget (by with_unfolding_all rfl))
local macro_rules | `(tactic| walk_at "put") => `(tactic| first | exact bput lput | exact bput (by with_unfolding_all rfl) | exact oput lput | exact oput (by with_unfolding_all rfl))
local macro_rules | `(tactic| walk_at "ltsz") => `(tactic| first | exact sz_lt (by with_unfolding_all rfl))
local macro_rules | `(tactic| walk_at "set") => `(tactic| with_reducible (repeat apply sis) <;> exact si0)
local macro_rules | `(tactic| walk_at "setall") => `(tactic| with_reducible repeat (first | exact sa0 | exact si0 | apply sas | apply sis))
local macro_rules | `(tactic| walk_at "wipe") => `(tactic| with_reducible repeat (first | exact we0 | exact si0 | apply wes | apply sis))
local macro_rules | `(tactic| walk_at "start") => `(tactic| with_reducible repeat (first | exact se0 | apply ses | apply sen))
local macro_rules | `(tactic| walk_at "run") => `(tactic| apply RUN.mk' rfl rfl rfl (by walk_at "start"))
local macro_rules | `(tactic| walk_at "arith") => `(tactic| first | decide | assumption | omega)
local macro_rules | `(tactic| walk_at "mul") => `(tactic| first | exact mul_l (by first | decide | omega) (by first | decide | omega) | exact mul_r (by first | decide | omega) (by first | decide | omega) | exact mulB (by omega) (by omega) (by omega) (by omega))
local macro_rules | `(tactic| walk_at "div") => `(tactic| first | exact divw (by first | decide | omega) (by first | decide | omega))
local macro_rules | `(tactic| walk_at "wp1") => `(tactic| with_reducible first
  | apply w_con | (apply w_var (by with_unfolding_all rfl)) | apply w_nil | apply w_cons | apply w_bin | apply w_cmp | apply w_idx | apply w_one
  | apply w_call | apply o_add | apply o_sub | apply num_i | apply o_lt | apply o_le | apply o_gt | apply o_ge | apply o_eqI | apply o_neI
  | apply w_glo | apply w_neg | apply w_and | apply w_or | apply w_not | apply w_ifx | apply w_lst | apply w_tup | apply w_slc | apply w_onone | apply w_osome | apply w_blt | apply w_isa
  | apply w_callK | apply w_callR | apply w_rep | apply w_dfn | (apply w_callV (by with_unfolding_all rfl) (by with_unfolding_all rfl)) | apply o_eqStr | apply o_neStr | apply w_new | apply w_newB | apply w_newO | apply x_app | (apply a_1 (by walk_at "get")) | (apply a_2 (by walk_at "get") (by walk_at "ltsz") (by walk_at "put")) | (apply o_idx_ref (by walk_at "get") (by with_unfolding_all rfl)) | apply w_cnone | apply w_csome | apply w_chain
  | apply x_asg | apply x_par' | (apply x_par2 (by with_unfolding_all rfl) (by walk_at "setall")) | (apply x_set2 (by walk_at "set")) | (apply x_augA' (by with_unfolding_all rfl)) | (apply x_augS' (by with_unfolding_all rfl)) | apply x_ret | apply x_ite | apply t_nx | apply t_rt | apply t_bk | apply t_ct | apply r_nil | apply x_drop | apply x_brk | apply x_cont | apply r_retN | apply r_pass | apply e_rt
  | (apply w_nm' (by walk_at "set")) | apply w_tp | apply w_sub | apply w_tnil | apply w_tcons
  | apply br_true | apply br_false | apply br_not | apply br_and | apply br_or
  | apply o_isI | apply o_isN | apply o_notI | apply o_notN | apply o_eqIN | apply o_eqNI | apply o_eqNN | apply o_neIN | apply o_neNI | apply o_neNN | apply o_eqB | apply o_neB
  | apply o_len_lv | apply o_len_tup | apply o_len_sl | apply o_abs | apply o_intB | apply o_list_lv | apply o_list_tup | apply o_tup_lv | apply o_tup_tup | apply o_max2 | apply o_min2
  | apply o_slc_tup | apply o_slc_lv | apply w_lc | apply m_nil | (apply m_cons' (by walk_at "wipe")) | apply m_t | apply m_f | apply m_tt | apply j_nx | apply k_eq | apply k_nil | apply k_same | (apply k_nil' (by with_unfolding_all rfl)) | apply i_lv | apply i_tup | apply o_len_sq | apply o_list_sq | apply o_tup_sq | apply i_sq | apply i_enum_sq | apply o_slc_sq | apply w_sdc
  | (apply u_sq (by with_unfolding_all rfl)) | (apply o_idx_sq (by with_unfolding_all rfl))
  | (apply u_tup (by with_unfolding_all rfl)) | (apply u_lv (by with_unfolding_all rfl))
  | (apply o_tyT (by with_unfolding_all rfl)) | (apply o_tyF (by with_unfolding_all rfl))
  | (apply s_sz (by with_unfolding_all rfl)) | (apply m_sz (by with_unfolding_all rfl))
  | (apply o_idx_tup (by with_unfolding_all rfl)) | (apply o_idx_lv (by with_unfolding_all rfl))
  | (apply o_pow (by with_unfolding_all exact ⟨by decide, by decide, by decide⟩))
  | (apply o_mod (by with_unfolding_all walk_at "arith"))
  | (apply o_fdiv (by with_unfolding_all walk_at "div"))
  | (apply o_mul (by with_unfolding_all walk_at "mul")) | (apply o_divmod (by with_unfolding_all exact divp (by first | decide | omega) (by first | decide | omega)))
  | (apply br_decT (by with_unfolding_all first | omega | (simp only [List.length_cons, List.length_nil, List.length_map]; omega))) | (apply br_decF (by with_unfolding_all first | omega | (simp only [List.length_cons, List.length_nil, List.length_map]; omega))))
local macro_rules | `(tactic| walk_at "we1") => `(tactic| with_reducible first
  | apply w_con | (apply w_var (by with_unfolding_all rfl)) | apply w_nil | apply w_cons | apply w_bin | apply w_cmp | apply w_idx | apply w_one
  | apply w_call | apply o_add | apply o_sub | apply num_i | apply o_lt | apply o_le | apply o_gt | apply o_ge | apply o_eqI | apply o_neI
  | apply w_glo | apply w_neg | apply w_and | apply w_or | apply w_not | apply w_ifx | apply w_lst | apply w_tup | apply w_slc | apply w_onone | apply w_osome | apply w_blt | apply w_isa
  | apply w_callK | apply w_callR | apply w_rep | apply w_dfn | (apply w_callV (by with_unfolding_all rfl) (by with_unfolding_all rfl)) | apply o_eqStr | apply o_neStr | apply w_new | apply w_newB | apply w_newO | apply x_app | (apply a_1 (by walk_at "get")) | (apply a_2 (by walk_at "get") (by walk_at "ltsz") (by walk_at "put")) | (apply o_idx_ref (by walk_at "get") (by with_unfolding_all rfl)) | apply w_cnone | apply w_csome | apply w_chain
  | (apply x_par2 (by with_unfolding_all rfl) (by walk_at "setall")) | (apply x_set2 (by walk_at "set")) | apply t_nx | apply t_rt | apply t_bk | apply t_ct | apply r_nil | apply x_brk | apply x_cont | apply r_retN | apply r_pass | apply e_rt
  | (apply w_nm' (by walk_at "set")) | apply w_tp | apply w_sub | apply w_tnil | apply w_tcons
  | apply br_true | apply br_false | apply br_not | apply br_and | apply br_or
  | apply o_isI | apply o_isN | apply o_notI | apply o_notN | apply o_eqIN | apply o_eqNI | apply o_eqNN | apply o_neIN | apply o_neNI | apply o_neNN | apply o_eqB | apply o_neB
  | apply o_len_lv | apply o_len_tup | apply o_len_sl | apply o_abs | apply o_intB | apply o_list_lv | apply o_list_tup | apply o_tup_lv | apply o_tup_tup | apply o_max2 | apply o_min2
  | apply o_slc_tup | apply o_slc_lv | apply w_lc | apply m_nil | (apply m_cons' (by walk_at "wipe")) | apply m_t | apply m_f | apply m_tt | apply j_nx | apply k_eq | apply k_nil | apply k_same | (apply k_nil' (by with_unfolding_all rfl)) | apply i_lv | apply i_tup | apply o_len_sq | apply o_list_sq | apply o_tup_sq | apply i_sq | apply i_enum_sq | apply o_slc_sq | apply w_sdc
  | (apply u_sq (by with_unfolding_all rfl)) | (apply o_idx_sq (by with_unfolding_all rfl))
  | (apply u_tup (by with_unfolding_all rfl)) | (apply u_lv (by with_unfolding_all rfl))
  | (apply o_tyT (by with_unfolding_all rfl)) | (apply o_tyF (by with_unfolding_all rfl))
  | (apply s_sz (by with_unfolding_all rfl)) | (apply m_sz (by with_unfolding_all rfl))
  | (apply o_idx_tup (by with_unfolding_all rfl)) | (apply o_idx_lv (by with_unfolding_all rfl))
  | (apply o_pow (by with_unfolding_all exact ⟨by decide, by decide, by decide⟩))
  | (apply o_mod (by with_unfolding_all walk_at "arith"))
  | (apply o_fdiv (by with_unfolding_all walk_at "div"))
  | (apply o_mul (by with_unfolding_all walk_at "mul")) | (apply o_divmod (by with_unfolding_all exact divp (by first | decide | omega) (by first | decide | omega)))
  | (apply br_decT (by with_unfolding_all first | omega | (simp only [List.length_cons, List.length_nil, List.length_map]; omega))) | (apply br_decF (by with_unfolding_all first | omega | (simp only [List.length_cons, List.length_nil, List.length_map]; omega))))
local macro_rules | `(tactic| walk_at "we") => `(tactic| repeat walk_at "we1")
local macro_rules | `(tactic| walk_at "wq1") => `(tactic| with_reducible first
  | apply w_con | (apply w_var (by with_unfolding_all rfl)) | apply w_nil | apply w_cons | apply w_bin | apply w_cmp | apply w_idx | apply w_one
  | apply w_call | apply o_add | apply o_sub | apply num_i | apply o_lt | apply o_le | apply o_gt | apply o_ge | apply o_eqI | apply o_neI
  | apply w_glo | apply w_neg | apply w_and | apply w_or | apply w_not | apply w_ifx | apply w_lst | apply w_tup | apply w_slc | apply w_onone | apply w_osome | apply w_blt | apply w_isa
  | apply w_callK | apply w_callR | apply w_rep | apply w_dfn | (apply w_callV (by with_unfolding_all rfl) (by with_unfolding_all rfl)) | apply o_eqStr | apply o_neStr | apply w_new | apply w_newB | apply w_newO | apply x_app | (apply a_1 (by walk_at "get")) | (apply a_2 (by walk_at "get") (by walk_at "ltsz") (by walk_at "put")) | (apply o_idx_ref (by walk_at "get") (by with_unfolding_all rfl)) | apply w_cnone | apply w_csome | apply w_chain
  | apply x_asg | apply x_par' | (apply x_par2 (by with_unfolding_all rfl) (by walk_at "setall")) | (apply x_set2 (by walk_at "set")) | (apply x_augA' (by with_unfolding_all rfl)) | (apply x_augS' (by with_unfolding_all rfl)) | apply x_ret | apply t_nx | apply t_rt | apply t_bk | apply t_ct | apply r_nil | apply x_drop | apply x_brk | apply x_cont | apply r_retN | apply r_pass | apply e_rt
  | (apply w_nm' (by walk_at "set")) | apply w_tp | apply w_sub | apply w_tnil | apply w_tcons
  | apply br_true | apply br_false | apply br_not | apply br_and | apply br_or
  | apply o_isI | apply o_isN | apply o_notI | apply o_notN | apply o_eqIN | apply o_eqNI | apply o_eqNN | apply o_neIN | apply o_neNI | apply o_neNN | apply o_eqB | apply o_neB
  | apply o_len_lv | apply o_len_tup | apply o_len_sl | apply o_abs | apply o_intB | apply o_list_lv | apply o_list_tup | apply o_tup_lv | apply o_tup_tup | apply o_max2 | apply o_min2
  | apply o_slc_tup | apply o_slc_lv | apply w_lc | apply m_nil | (apply m_cons' (by walk_at "wipe")) | apply m_t | apply m_f | apply m_tt | apply j_nx | apply k_eq | apply k_nil | apply k_same | (apply k_nil' (by with_unfolding_all rfl)) | apply i_lv | apply i_tup | apply o_len_sq | apply o_list_sq | apply o_tup_sq | apply i_sq | apply i_enum_sq | apply o_slc_sq | apply w_sdc
  | (apply u_sq (by with_unfolding_all rfl)) | (apply o_idx_sq (by with_unfolding_all rfl))
  | (apply u_tup (by with_unfolding_all rfl)) | (apply u_lv (by with_unfolding_all rfl))
  | (apply o_tyT (by with_unfolding_all rfl)) | (apply o_tyF (by with_unfolding_all rfl))
  | (apply s_sz (by with_unfolding_all rfl)) | (apply m_sz (by with_unfolding_all rfl))
  | (apply o_idx_tup (by with_unfolding_all rfl)) | (apply o_idx_lv (by with_unfolding_all rfl))
  | (apply o_pow (by with_unfolding_all exact ⟨by decide, by decide, by decide⟩))
  | (apply o_mod (by with_unfolding_all walk_at "arith"))
  | (apply o_fdiv (by with_unfolding_all walk_at "div"))
  | (apply o_mul (by with_unfolding_all walk_at "mul")) | (apply o_divmod (by with_unfolding_all exact divp (by first | decide | omega) (by first | decide | omega)))
  | (apply br_decT (by with_unfolding_all first | omega | (simp only [List.length_cons, List.length_nil, List.length_map]; omega))) | (apply br_decF (by with_unfolding_all first | omega | (simp only [List.length_cons, List.length_nil, List.length_map]; omega))))
local macro_rules | `(tactic| walk_at "wq") => `(tactic| repeat walk_at "wq1")
local macro_rules | `(tactic| walk_at "wp") => `(tactic| repeat walk_at "wp1")
local macro_rules | `(tactic| walk_at "take") => `(tactic| (walk_at "wp"; apply call_take (by assumption) (by omega) (by omega) (by first | decide | omega) (by first | decide | omega)))
local macro_rules | `(tactic| walk_at "first") => `(tactic| (walk_at "wp"; apply call_first (by omega) (by first | decide | omega) (by first | decide | omega) (by first | decide | omega) (by first | decide | omega)))
local macro_rules | `(tactic| walk_at "last") => `(tactic| (walk_at "wp"; apply call_last (by omega) (by first | decide | omega) (by walk_at "mul") (by first | decide | omega) (by first | decide | omega) (by first | decide | omega) (by first | decide | omega)))

theorem items_range {S : Store} {K : Nat} (h : K < 2 ^ 62) : itemsOf S .range [.int (K : Int)] = some (rangeOf 0 K) := by
  unfold itemsOf
  simp only []
  rw [if_pos ⟨by omega, by omega⟩, Int.toNat_natCast]
def lawBody (ir : Nat) (z : Int) : SL := (.cons (.asg (.nm 1) (.call false i_law_folded (.cons (.var 0) (.cons (.con (.int z)) .nil)))) (.cons (.ret (.blt .all (.cons (.lc [2] (.nm 2) .range (.cons (.blt .max (.cons (.con (.int 1)) (.cons (.blt .len (.cons (.var 1) .nil)) .nil))) .nil) .none (.call false ir (.cons (.call true i_law_box (.cons (.var 1) (.cons (.var 2) .nil))) .nil))) .nil))) .nil))
theorem law_all (il ir z : Nat) (hz : 0 < z) (hz2 : z ≤ 63) (hd : Δ il = some ⟨1, 3, lawBody ir z⟩)
    (hr : ∀ (B : Bs) (x : Bx), Bx.Ok x 0 → RUN Δ 229 ir [.ref B.m] (B.st x) fun v S2 => v = .bl true ∧ ∃ x' G, S2 = B.st x' ++ G) (ns : List Int) (h : ns.length ≤ 63) : ∃ S, run Δ 230 il [.sl (ns.map Val.int)] [] = some (.bl true, S) := by
  obtain ⟨cells, ec, hc⟩ := folded_run 228 ns z hz hz2 []
  have key : ∃ v S2, run Δ (229 + 1) il [.sl (ns.map Val.int)] [] = some (v, S2) ∧ v = .bl true := by
    apply run_ex hd rfl rfl
    apply r_set
    · apply ev_call
      · walk_at "ev"
      · exact ec
      · exact gc_lst (G := [.lst (cells.map Val.int)]) rfl rfl (fits_ints _ _)
    obtain ⟨K, hK⟩ : ∃ K : Nat, (if ((cells.map Val.int).length : Int) > 1 then ((cells.map Val.int).length : Int) else 1) = (K : Int) ∧ K ≤ 63 := by
      refine ⟨if (cells.map Val.int).length > 1 then (cells.map Val.int).length else 1, ?_, ?_⟩
      · split <;> split <;> omega
      · rw [List.length_map]; split <;> omega
    have lc := ev_lcP (c := orc Δ 229) (ρ := List.set (startE 3 [.sl (ns.map Val.int)]) 1 (some (.lv (cells.map Val.int)))) (S := []) (S1 := []) (own := [2]) (tg := .nm 2) (k := .range) (es := .cons (.blt .max (.cons (.con (.int 1)) (.cons (.blt .len (.cons (.var 1) .nil)) .nil))) .nil) (cd := .none) (e := .call false ir (.cons (.call true i_law_box (.cons (.var 1) (.cons (.var 2) .nil))) .nil)) (vs := [.int K]) (xs := rangeOf 0 K) (fun _ => [.bl true]) (fun _ _ => True)
      (by
        rw [← hK.1]
        walk_at "ev") (items_range (by omega)) rfl trivial (by
        intro k x S' hx _
        obtain ⟨hk, rfl⟩ := range_get hx
        refine ⟨_, S', true, S', bt_nm, ec_none, ?_⟩
        rw [if_pos rfl]
        obtain ⟨xb, eb, okb⟩ := box_run 228 cells k (by omega) S'
        obtain ⟨v, S2, er, rfl, x', G, rfl⟩ := hr ⟨S', []⟩ xb okb
        refine ⟨.bl true, Bs.st ⟨S', []⟩ x', ?_, rfl, trivial⟩
        apply ev_call
        · apply el_cons
          · apply ev_callR
            · walk_at "ev"
            · rw [show (0 : Int) + (k : Int) = (k : Int) by omega]; exact eb
          · walk_at "ev"
        · exact er
        · exact gc_box (B := ⟨S', []⟩) (x := xb) (x' := x') (A := G) (v := .bl true) rfl) (by
        rw [flat_true, List.length_map, List.length_replicate, List.length_range, range_len]; omega)
    obtain ⟨S3, e3, _⟩ := lc
    apply r_ret
    · apply ev_blt
      · apply el_cons
        · exact e3
        · walk_at "ev"
      · rw [flat_true]
        exact bl_all
    · exact ⟨_, _, rfl, by rw [all_rep]⟩
  obtain ⟨v, S2, h1, rfl⟩ := key
  exact ⟨S2, h1⟩

/-! ### hills: days, what was given, the next end -/
structure Hill where
  year : List (Int × Bool)
  needs : List Int
  most : Int
namespace Hill
variable (H : Hill)
def L : Int := H.year.length
def yd : Int := (H.year.map (·.1)).sum
def pre (k : Nat) : Int := ((H.year.take k).map (·.1)).sum
def given (d : Int) : Int := (d + 1) / H.L * H.yd + H.pre ((d + 1) % H.L).toNat
def day (d : Int) : Int × Bool := H.year.getD (d % H.L).toNat (0, false)
def lit (d : Int) : Bool := (H.day d).2
def drip (d : Int) : Int := (H.day d).1
structure Ok : Prop where
  d0 : ∀ p ∈ H.year, 0 ≤ p.1
  y0 : 0 < H.yd
  op : ∃ p ∈ H.year, p.2 = true
  n0 : ∀ n ∈ H.needs, 1 ≤ n
  ne : 0 < H.needs.length
  m0 : 0 ≤ H.most
  len : H.year.length ≤ 60
  yb : H.yd ≤ 10 ^ 16
  nl : H.needs.length ≤ 60
  nb : ∀ n ∈ H.needs, n ≤ 10 ^ 17
  mb : H.most ≤ 10 ^ 17
variable {H}
theorem Ok.L0 (ok : H.Ok) : 0 < H.L := by
  obtain ⟨p, hp, _⟩ := ok.op
  have := List.length_pos_of_mem hp
  unfold L; omega
theorem day_mem (ok : H.Ok) (d : Int) : H.day d ∈ H.year := by
  have h0 := ok.L0
  have h1 := Int.emod_nonneg d (show H.L ≠ 0 by omega)
  have h2 := Int.emod_lt_of_pos d h0
  unfold L at h1 h2
  have h3 : (d % H.L).toNat < H.year.length := by unfold L; omega
  unfold day
  rw [List.getD_eq_getElem?_getD, List.getElem?_eq_getElem h3]
  exact List.getElem_mem h3
theorem drip0 (ok : H.Ok) (d : Int) : 0 ≤ H.drip d := ok.d0 _ (day_mem ok d)
theorem pre_succ {k : Nat} (h : k < H.year.length) : H.pre (k + 1) = H.pre k + (H.year[k]).1 := by
  unfold pre
  rw [List.take_add_one, List.getElem?_eq_getElem h, List.map_append, List.sum_append]
  simp only [Option.toList_some, List.map_cons, List.map_nil, List.sum_cons, List.sum_nil, Int.add_zero]
theorem pre_all : H.pre H.year.length = H.yd := by unfold pre yd; rw [List.take_length]
theorem pre_zero : H.pre 0 = 0 := by unfold pre; simp
theorem day_add (ok : H.Ok) (d k : Int) : H.day (d + k * H.L) = H.day d := by
  unfold day
  rw [Int.add_mul_emod_self_right]
theorem given_add (ok : H.Ok) (d k : Int) : H.given (d + k * H.L) = H.given d + k * H.yd := by
  have h0 := ok.L0
  unfold given
  rw [show d + k * H.L + 1 = d + 1 + k * H.L by omega, Int.add_mul_ediv_right _ _ (by omega), Int.add_mul_emod_self_right, Int.add_mul]
  omega
theorem given_succ (ok : H.Ok) (d : Int) : H.given (d + 1) = H.given d + H.drip (d + 1) := by
  have h0 := ok.L0
  have e1 := Int.emod_add_mul_ediv (d + 1) H.L
  have r0 := Int.emod_nonneg (d + 1) (show H.L ≠ 0 by omega)
  have r1 := Int.emod_lt_of_pos (d + 1) h0
  obtain ⟨k, hk⟩ : ∃ k : Nat, (d + 1) % H.L = k := ⟨((d + 1) % H.L).toNat, by omega⟩
  have hkl : k < H.year.length := by unfold L at r1; unfold L at hk; omega
  have hd : H.drip (d + 1) = (H.year[k]).1 := by
    unfold drip day
    rw [hk, Int.toNat_natCast, List.getD_eq_getElem?_getD, List.getElem?_eq_getElem hkl]; rfl
  rw [hd]
  unfold given
  rw [hk, Int.toNat_natCast]
  by_cases hl : k + 1 < H.year.length
  · have e2 := emod_is (a := H.L) (x := d + 1 + 1) (q := (d + 1) / H.L) (t := (k : Int) + 1) (by omega) (by omega) (by unfold L; omega)
    rw [e2.1, e2.2, show ((k : Int) + 1).toNat = k + 1 by omega, pre_succ hkl]; omega
  · have e3 : (k : Int) + 1 = H.L := by unfold L; omega
    have e2 := emod_is (a := H.L) (x := d + 1 + 1) (q := (d + 1) / H.L + 1) (t := 0) (by rw [Int.mul_add]; omega) (by omega) h0
    have e4 : H.pre k + (H.year[k]).1 = H.yd := by
      rw [← pre_succ hkl, show k + 1 = H.year.length by omega, pre_all]
    rw [e2.1, e2.2, show (0 : Int).toNat = 0 from rfl, pre_zero, Int.add_mul]; omega
theorem given_mono (ok : H.Ok) {d e : Int} (h : d ≤ e) : H.given d ≤ H.given e := by
  obtain ⟨k, rfl⟩ : ∃ k : Nat, e = d + k := ⟨(e - d).toNat, by omega⟩
  clear h
  induction k with
  | zero => simp
  | succ k ih =>
    have := given_succ ok (d + k)
    have := drip0 ok (d + k + 1)
    rw [show d + ((k + 1 : Nat) : Int) = d + k + 1 by omega]
    omega
theorem given_year (ok : H.Ok) (q : Int) : H.given (q * H.L - 1) = q * H.yd := by
  have h0 := ok.L0
  unfold given
  rw [show q * H.L - 1 + 1 = q * H.L by omega, Int.mul_ediv_cancel _ (by omega), Int.mul_emod_left]
  simp [pre_zero]
theorem given_full (ok : H.Ok) (d : Int) : H.given (d + H.L) = H.given d + H.yd := by
  have := given_add ok d 1
  rw [Int.one_mul, Int.one_mul] at this
  exact this
theorem lit_add (ok : H.Ok) (d k : Int) : H.lit (d + k * H.L) = H.lit d := by unfold lit; rw [day_add ok]
theorem drip_add (ok : H.Ok) (d k : Int) : H.drip (d + k * H.L) = H.drip d := by unfold drip; rw [day_add ok]
/-- an open day within a year -/
theorem lit_ex (ok : H.Ok) (d : Int) : ∃ e, d ≤ e ∧ e < d + H.L ∧ H.lit e = true := by
  have h0 := ok.L0
  obtain ⟨p, hp, hp2⟩ := ok.op
  obtain ⟨k, hk, rfl⟩ := List.getElem_of_mem hp
  have e0 : H.lit (k : Int) = true := by
    unfold lit day
    rw [Int.emod_eq_of_lt (by omega) (by unfold L; omega), Int.toNat_natCast, List.getD_eq_getElem?_getD, List.getElem?_eq_getElem hk]
    exact hp2
  refine ⟨d + ((k : Int) - d) % H.L, ?_, ?_, ?_⟩
  · have := Int.emod_nonneg ((k : Int) - d) (show H.L ≠ 0 by omega)
    omega
  · have := Int.emod_lt_of_pos ((k : Int) - d) h0
    omega
  · have e1 := Int.emod_add_mul_ediv ((k : Int) - d) H.L
    have : d + ((k : Int) - d) % H.L = (k : Int) + (-(((k : Int) - d) / H.L)) * H.L := by
      rw [Int.neg_mul, Int.mul_comm]; omega
    rw [this, lit_add ok]; exact e0
end Hill
/-! the first of some days -/
def IsFirst (P : Int → Prop) (e : Int) : Prop := P e ∧ ∀ d, d < e → ¬ P d
theorem IsFirst.uniq {P : Int → Prop} {e e' : Int} (h : IsFirst P e) (h' : IsFirst P e') : e = e' := by
  rcases Int.lt_trichotomy e e' with q | q | q
  · exact absurd h.1 (h'.2 e q)
  · exact q
  · exact absurd h'.1 (h.2 e' q)
theorem first_ex {P : Int → Prop} {lo hi : Int} (hl : ∀ d, d < lo → ¬ P d) (hh : ∃ e, e < hi ∧ P e) : ∃ e, lo ≤ e ∧ e < hi ∧ IsFirst P e := by
  obtain ⟨e, he, pe⟩ := hh
  have hle : lo ≤ e := by
    cases Int.lt_or_le e lo with
    | inl q => exact absurd pe (hl e q)
    | inr q => exact q
  obtain ⟨k, rfl⟩ : ∃ k : Nat, e = lo + k := ⟨(e - lo).toNat, by omega⟩
  clear hle
  induction k using Nat.strongRecOn with
  | ind k ih =>
    by_cases q : ∃ j : Nat, j < k ∧ P (lo + j)
    · obtain ⟨j, h1, h2⟩ := q
      exact ih j h1 (by omega) h2
    · refine ⟨lo + k, by omega, he, pe, fun d hd hp => ?_⟩
      by_cases z : d < lo
      · exact hl d z hp
      · exact q ⟨(d - lo).toNat, by omega, by rw [show lo + ((d - lo).toNat : Int) = d by omega]; exact hp⟩
namespace Hill
variable {H : Hill}
def Ev (H : Hill) (t d : Int) : Prop := H.lit d = true ∧ t ≤ H.given d
theorem day_ex (ok : H.Ok) (t : Int) : ∃ e, (t - 1) / H.yd * H.L ≤ e ∧ e < ((t - 1) / H.yd + 2) * H.L ∧ IsFirst (H.Ev t) e := by
  have h0 := ok.L0
  have y0 := ok.y0
  have e1 := Int.emod_add_mul_ediv (t - 1) H.yd
  have r0 := Int.emod_nonneg (t - 1) (show H.yd ≠ 0 by omega)
  have r1 := Int.emod_lt_of_pos (t - 1) y0
  refine first_ex ?_ ?_
  · intro d hd hp
    have h1 := given_mono ok (show d ≤ (t - 1) / H.yd * H.L - 1 by omega)
    rw [given_year ok, Int.mul_comm] at h1
    have := hp.2
    omega
  · obtain ⟨e, h1, h2, h3⟩ := lit_ex ok (((t - 1) / H.yd + 1) * H.L - 1)
    refine ⟨e, ?_, h3, ?_⟩
    · rw [Int.add_mul] at h2 ⊢; omega
    · have h4 := given_mono ok h1
      rw [given_year ok, Int.add_mul, Int.mul_comm _ H.yd] at h4
      omega
open Classical in
noncomputable def dayOf (H : Hill) (t : Int) : Int := if h : ∃ e, IsFirst (H.Ev t) e then h.choose else 0
theorem dayOf_is (ok : H.Ok) (t : Int) : IsFirst (H.Ev t) (H.dayOf t) := by
  obtain ⟨e, _, _, he⟩ := day_ex ok t
  have h : ∃ e, IsFirst (H.Ev t) e := ⟨e, he⟩
  unfold dayOf
  rw [dif_pos h]
  exact h.choose_spec
theorem dayOf_eq (ok : H.Ok) {t e : Int} (h : IsFirst (H.Ev t) e) : H.dayOf t = e := (dayOf_is ok t).uniq h
theorem dayOf_bd (ok : H.Ok) (t : Int) : (t - 1) / H.yd * H.L ≤ H.dayOf t ∧ H.dayOf t < ((t - 1) / H.yd + 2) * H.L := by
  obtain ⟨e, h1, h2, he⟩ := day_ex ok t
  rw [dayOf_eq ok he]; exact ⟨h1, h2⟩
/-- what is given by the first open evening by which so much was given -/
noncomputable def nxt (H : Hill) (t : Int) : Int := H.given (H.dayOf t)
theorem nxt_ge (ok : H.Ok) (t : Int) : t ≤ H.nxt t := (dayOf_is ok t).1.2
theorem nxt_le (ok : H.Ok) {t d : Int} (h1 : H.lit d = true) (h2 : t ≤ H.given d) : H.nxt t ≤ H.given d := by
  cases Int.lt_or_le d (H.dayOf t) with
  | inl q => exact absurd ⟨h1, h2⟩ ((dayOf_is ok t).2 d q)
  | inr q => exact given_mono ok q
theorem nxt_mono (ok : H.Ok) {t t' : Int} (h : t ≤ t') : H.nxt t ≤ H.nxt t' := by
  have q := dayOf_is ok t'
  exact nxt_le ok q.1.1 (Int.le_trans h q.1.2)
theorem nxt_same (ok : H.Ok) {t t' : Int} (h : t ≤ t') (h2 : t' ≤ H.nxt t) : H.nxt t' = H.nxt t := by
  have q := dayOf_is ok t
  exact Int.le_antisymm (nxt_le ok q.1.1 h2) (nxt_mono ok h)
theorem dayOf_add (ok : H.Ok) (t k : Int) : H.dayOf (t + k * H.yd) = H.dayOf t + k * H.L := by
  apply dayOf_eq ok
  have q := dayOf_is ok t
  refine ⟨⟨by rw [lit_add ok]; exact q.1.1, by rw [given_add ok]; have := q.1.2; omega⟩, fun d hd hp => ?_⟩
  refine q.2 (d + (-k) * H.L) (by rw [Int.neg_mul]; omega) ⟨by rw [lit_add ok]; exact hp.1, ?_⟩
  rw [given_add ok, Int.neg_mul]
  have := hp.2
  omega
theorem nxt_add (ok : H.Ok) (t k : Int) : H.nxt (t + k * H.yd) = H.nxt t + k * H.yd := by
  unfold nxt
  rw [dayOf_add ok, given_add ok]
theorem nxt_lt (ok : H.Ok) (t : Int) : H.nxt t < t + H.yd := by
  have y0 := ok.y0
  have h := nxt_add ok (t - 1) 1
  rw [Int.one_mul] at h
  have q := dayOf_is ok (t - 1)
  have h1 := nxt_ge ok (t - 1)
  by_cases e : H.nxt (t - 1) = t - 1
  · have : H.nxt t ≤ t - 1 + H.yd := by
      have h2 := nxt_le ok (t := t) (d := H.dayOf (t - 1) + 1 * H.L) (by rw [lit_add ok]; exact q.1.1) (by
        rw [given_add ok, Int.one_mul]
        have : H.given (H.dayOf (t - 1)) = t - 1 := e
        omega)
      rw [given_add ok, Int.one_mul] at h2
      have e' : H.given (H.dayOf (t - 1)) = t - 1 := e
      omega
    omega
  · have h2 : H.nxt t = H.nxt (t - 1) := nxt_same ok (by omega) (by omega)
    rw [h2]
    -- an end within a year below
    obtain ⟨k, hk⟩ : ∃ k : Int, k = -1 := ⟨_, rfl⟩
    cases Int.lt_or_le (H.nxt (t - 1)) (t + H.yd) with
    | inl z => exact z
    | inr z =>
      exfalso
      have h3 := nxt_le ok (t := t - 1) (d := H.dayOf (t - 1) + (-1) * H.L) (by rw [lit_add ok]; exact q.1.1) (by
        rw [given_add ok]
        have : H.given (H.dayOf (t - 1)) = H.nxt (t - 1) := rfl
        omega)
      rw [given_add ok] at h3
      have : H.given (H.dayOf (t - 1)) = H.nxt (t - 1) := rfl
      omega
/-- what is lost at a total, where it is led to -/
noncomputable def lostAt (H : Hill) (t : Int) : Int := if H.nxt t - H.most - t > 0 then H.nxt t - H.most - t else 0
noncomputable def to (H : Hill) (t : Int) : Int := t + H.lostAt t
theorem to_max (t : Int) : (H.to t = t ∨ H.to t = H.nxt t - H.most) ∧ t ≤ H.to t ∧ H.nxt t - H.most ≤ H.to t := by
  unfold to lostAt
  split <;> omega
theorem to_mono (ok : H.Ok) {t t' : Int} (h : t ≤ t') : H.to t ≤ H.to t' := by
  have m := ok.m0
  have h1 := to_max (H := H) t
  have h2 := to_max (H := H) t'
  have h3 := nxt_mono ok h
  have h4 := nxt_ge ok t
  omega
theorem to_add (ok : H.Ok) (t k : Int) : H.to (t + k * H.yd) = H.to t + k * H.yd := by
  unfold to lostAt
  rw [nxt_add ok]
  split <;> split <;> omega
theorem to_lt (ok : H.Ok) (t : Int) : t ≤ H.to t ∧ H.to t < t + H.yd := by
  have m := ok.m0
  have y := ok.y0
  have h1 := to_max (H := H) t
  have h2 := nxt_lt ok t
  omega
theorem lost_add (ok : H.Ok) (t k : Int) : H.lostAt (t + k * H.yd) = H.lostAt t := by
  have := to_add ok t k
  unfold to at this
  omega
end Hill

/-! ### hills as values; what hills.py and lines.py tell -/
@[reducible] def dayV (b : Bool) (d : Int × Bool) : Val := sq b [.int d.1, .bl d.2]
namespace Hill
@[reducible] def val (H : Hill) (b : Bool) : Val := sq b [sq b (H.year.map (dayV b)), sq b (H.needs.map Val.int), .int H.most]
end Hill
theorem fits_days (b : Bool) (k : Nat) (ys : List (Int × Bool)) : fitsL k (ys.map (dayV b)) = true := by
  induction ys with
  | nil => unfold fitsL; rfl
  | cons y ys ih =>
    have : (dayV b y).fits k = true := by unfold dayV; exact fits_sq rfl
    simp only [List.map_cons, fitsL, ih, this, Bool.and_self]
theorem Hill.fits (H : Hill) (b : Bool) (k : Nat) : (H.val b).fits k = true := by
  unfold Hill.val
  apply fits_sq
  have h1 : (sq b (H.year.map (dayV b))).fits k = true := fits_sq (fits_days b k _)
  have h2 : (sq b (H.needs.map Val.int)).fits k = true := fits_sq (fits_ints k _)
  simp only [fitsL, h1, h2, Val.fits, Bool.and_self]
theorem at_day {H : Hill} (ok : H.Ok) (b : Bool) (d : Int) : atI (H.year.map (dayV b)) (d % H.L) = some (dayV b (H.day d)) := by
  have h0 := ok.L0
  have h1 := Int.emod_nonneg d (show H.L ≠ 0 by omega)
  have h2 := Int.emod_lt_of_pos d h0
  have h3 : (d % H.L).toNat < H.year.length := by unfold Hill.L at h1 h2 ⊢; omega
  rw [atI_int h1 (by rw [List.length_map]; exact h2), List.getElem?_map, List.getElem?_eq_getElem h3]
  unfold Hill.day
  rw [List.getD_eq_getElem?_getD, List.getElem?_eq_getElem h3]; rfl
theorem fst_ints (ys : List (Int × Bool)) : (ys.map fun d => Val.int d.1) = (ys.map (·.1)).map Val.int := by rw [List.map_map]; rfl
theorem len_days {H : Hill} (b : Bool) : ((H.year.map (dayV b)).length : Int) = H.L := by rw [List.length_map]; rfl
theorem Hill.Ok.L60 {H : Hill} (ok : H.Ok) : H.L ≤ 60 := by have := ok.len; unfold Hill.L; omega
theorem cut_days {H : Hill} (b : Bool) {k : Int} (h : 0 ≤ k) : cutL (H.year.map (dayV b)) none (some k) = (H.year.take k.toNat).map (dayV b) := by
  obtain ⟨k, rfl⟩ := Int.eq_ofNat_of_zero_le h
  rw [cut_to, Int.toNat_natCast, List.map_take]
theorem given_f {H : Hill} (d : Int) (k : Nat) : (Val.int (H.given d)).fits k = true := rfl

theorem year_run {H : Hill} (ok : H.Ok) (b : Bool) (n : Nat) (S : Store) : run Δ (n + 1) i_year_drops [H.val b] S = some (.int H.yd, S) := by
  have hl := ok.len
  apply RUN.eq
  walk_at "run"
  walk_at "wp"
  apply m_mapL H.year (dayV b) (fun d => .int d.1) (by walk_at "wipe")
  · intro d hd
    walk_at "wp"
    exact ⟨rfl, rfl⟩
  refine ⟨by rw [List.length_map]; omega, ?_⟩
  walk_at "wp"
  apply o_sum (fst_ints _)
  walk_at "wp"
  exact ⟨rfl, rfl⟩

theorem given_run {H : Hill} (ok : H.Ok) (b : Bool) (n : Nat) (S : Store) (d : Int) : run Δ (n + 2) i_given_by [H.val b, .int d] S = some (.int (H.given d), S) := by
  have h0 := ok.L0
  have hl := ok.L60
  have hy := ok.yb
  have hy0 := ok.y0
  have hL := len_days (H := H) b
  have r0 := Int.emod_nonneg (d + 1) (show H.L ≠ 0 by omega)
  apply RUN.eq
  walk_at "run"
  walk_at "wp"
  apply call_pure (year_run ok b n S) rfl
  walk_at "wp"
  rw [hL, cut_days b r0]
  apply m_mapL (H.year.take ((d + 1) % H.L).toNat) (dayV b) (fun d => .int d.1) (by walk_at "wipe")
  · intro d hd
    walk_at "wp"
    exact ⟨rfl, rfl⟩
  refine ⟨by rw [List.length_map, List.length_take]; have := ok.len; omega, ?_⟩
  walk_at "wp"
  apply o_sum (fst_ints _)
  walk_at "wp"
  refine ⟨?_, rfl⟩
  rfl

theorem is_open_run {H : Hill} (ok : H.Ok) (b : Bool) (n : Nat) (S : Store) (d : Int) : run Δ (n + 1) i_is_open [H.val b, .int d] S = some (.bl (H.lit d), S) := by
  have h0 := ok.L0
  have hL := len_days (H := H) b
  apply RUN.eq
  walk_at "run"
  walk_at "wp"
  rw [hL]
  apply o_idx_sq (at_day ok b d)
  walk_at "wp"
  exact ⟨rfl, rfl⟩

/-- the first open day from one on -/
theorem open_from_run {H : Hill} (ok : H.Ok) (b : Bool) (n : Nat) (S : Store) (d e : Int) (he : IsFirst (fun x => H.lit x = true ∧ d ≤ x) e) : run Δ (n + 2) i_open_from [H.val b, .int d] S = some (.int e, S) := by
  have hl := ok.L60
  apply RUN.eq
  walk_at "run"
  have hed : e < d + H.L := by
    obtain ⟨x, h1, h2, h3⟩ := Hill.lit_ex ok d
    cases Int.lt_or_le x e with
    | inl q => exact absurd ⟨h3, h1⟩ (he.2 x q)
    | inr q => omega
  apply x_whl (fun m ρ' S' => ∃ x, ρ' = [some (H.val b), some (.int x)] ∧ S' = S ∧ d ≤ x ∧ x ≤ e ∧ m = (e - x).toNat) (e - d).toNat (by unfold fuel; omega)
  · exact ⟨d, rfl, rfl, Int.le_refl _, he.1.2, rfl⟩
  rintro m ρ' S' ⟨x, rfl, rfl, h1, h2, rfl⟩
  walk_at "we"
  apply call_pure (is_open_run ok b n _ x) rfl
  apply br_bool <;> intro hx
  · walk_at "wp"
    obtain rfl : x = e := by
      cases Int.lt_or_le x e with
      | inl q => exact absurd ⟨hx, h1⟩ (he.2 x q)
      | inr q => omega
    exact ⟨rfl, rfl⟩
  · walk_at "wp"
    have : x ≠ e := by
      rintro rfl
      have := he.1.1
      rw [hx] at this; cases this
    exact ⟨_, by omega, x + 1, rfl, rfl, by omega, by omega, rfl⟩

theorem day_of_run {H : Hill} (ok : H.Ok) (b : Bool) (n : Nat) (S : Store) (t : Int) : run Δ (n + 3) i_day_of [H.val b, .int t] S = some (.int (H.dayOf t), S) := by
  have h0 := ok.L0
  have hl := ok.L60
  have hy := ok.yb
  have hy0 := ok.y0
  have hL := len_days (H := H) b
  have bd := Hill.dayOf_bd ok t
  have is := Hill.dayOf_is ok t
  apply RUN.eq
  walk_at "run"
  walk_at "wp"
  apply call_pure (year_run ok b (n + 1) S) rfl
  walk_at "wp"
  rw [hL]
  rw [Int.add_mul] at bd
  generalize (t - 1) / H.yd * H.L = d0 at *
  apply x_whl (fun m ρ' S' => ∃ x, ρ' = [some (H.val b), some (.int t), some (.int x)] ∧ S' = S ∧ d0 ≤ x ∧ x ≤ H.dayOf t ∧ (∀ y, y < x → d0 ≤ y → H.given y < t) ∧ m = (H.dayOf t - x).toNat) (H.dayOf t - d0).toNat (by unfold fuel; omega)
  · exact ⟨d0, rfl, rfl, Int.le_refl _, bd.1, fun y h1 h2 => by omega, rfl⟩
  rintro m ρ' S' ⟨x, rfl, rfl, h1, h2, h3, rfl⟩
  walk_at "we"
  apply call_pure (given_run ok b n _ x) rfl
  walk_at "we"
  apply br_dec <;> intro hx
  · walk_at "wp"
    have : x ≠ H.dayOf t := by
      rintro rfl
      have := is.1.2
      omega
    refine ⟨_, by omega, x + 1, rfl, rfl, by omega, by omega, fun y q1 q2 => ?_, rfl⟩
    by_cases e : y = x
    · subst e; exact hx
    · exact h3 y (by omega) q2
  · have hf : IsFirst (fun y => H.lit y = true ∧ x ≤ y) (H.dayOf t) := ⟨⟨is.1.1, h2⟩, fun y q1 q2 => is.2 y q1 ⟨q2.1, by
      have := Hill.given_mono ok q2.2
      omega⟩⟩
    walk_at "wp"
    apply call_pure (open_from_run ok b n _ x (H.dayOf t) hf) rfl
    walk_at "wp"
    exact ⟨rfl, rfl⟩

/-! the ends of a year -/
theorem sortI_perm (ns : List Int) : (sortI ns).Perm ns := List.mergeSort_perm _ _
theorem sortI_le (ns : List Int) : (sortI ns).Pairwise (· ≤ ·) := by
  have := List.pairwise_mergeSort (le := fun (a b : Int) => decide (a ≤ b)) (fun a b c h1 h2 => by simp at h1 h2 ⊢; omega) (fun a b => by simp; omega) ns
  exact this.imp fun h => of_decide_eq_true h
theorem sortI_lt {ns : List Int} (h : ns.Nodup) : (sortI ns).Pairwise (· < ·) := by
  have h1 := sortI_le ns
  have h2 : (sortI ns).Nodup := (sortI_perm ns).nodup_iff.mpr h
  rw [List.pairwise_iff_getElem] at h1 ⊢
  intro i j hi hj hij
  have := h1 i j hi hj hij
  have ne : (sortI ns)[i] ≠ (sortI ns)[j] := List.pairwise_iff_getElem.mp h2 i j hi hj hij
  omega
/-- the first one of a rising list of which something is so -/
theorem head_least {l : List Int} {p : Int → Bool} {x : Int} (hs : l.Pairwise (· ≤ ·)) (h : (l.filter p).head? = some x) : x ∈ l ∧ p x = true ∧ ∀ z ∈ l, p z = true → x ≤ z := by
  induction l with
  | nil => cases h
  | cons a l ih =>
    rw [List.pairwise_cons] at hs
    rw [List.filter_cons] at h
    split at h
    · rename_i hp
      cases h
      refine ⟨List.mem_cons_self, hp, fun z hz _ => ?_⟩
      rcases List.mem_cons.mp hz with rfl | hz
      · exact Int.le_refl _
      · exact hs.1 z hz
    · rename_i hp
      obtain ⟨h1, h2, h3⟩ := ih hs.2 h
      refine ⟨List.mem_cons_of_mem _ h1, h2, fun z hz hpz => ?_⟩
      rcases List.mem_cons.mp hz with rfl | hz
      · exact absurd hpz hp
      · exact h3 z hz hpz
namespace Hill
variable {H : Hill}
/-- what open evenings bring to -/
def endsN (H : Hill) : List Int := ((H.year.zipIdx.filter fun p => p.1.2).map fun p => H.given (p.2 : Int) % H.yd)
def ends (H : Hill) : List Int := sortI (keysI H.endsN)
theorem ends_mem (ok : H.Ok) {x : Int} : x ∈ H.ends ↔ ∃ d, H.lit d = true ∧ H.given d % H.yd = x := by
  have h0 := ok.L0
  unfold ends
  rw [(sortI_perm _).mem_iff, keysI_mem]
  unfold endsN
  simp only [List.mem_map, List.mem_filter]
  constructor
  · rintro ⟨⟨d, k⟩, ⟨h1, h2⟩, rfl⟩
    obtain ⟨h3, h4⟩ := List.mem_zipIdx_iff_getElem?.mp h1 |> List.getElem?_eq_some_iff.mp
    refine ⟨(k : Int), ?_, rfl⟩
    have hk : k < H.year.length := h3
    unfold lit day
    rw [Int.emod_eq_of_lt (by omega) (by unfold L; omega), Int.toNat_natCast, List.getD_eq_getElem?_getD, List.getElem?_eq_getElem hk]
    have h4 : H.year[k] = d := h4
    rw [h4]; exact h2
  · rintro ⟨d, h1, rfl⟩
    have r0 := Int.emod_nonneg d (show H.L ≠ 0 by omega)
    have r1 := Int.emod_lt_of_pos d h0
    have e1 := Int.emod_add_mul_ediv d H.L
    obtain ⟨k, hk⟩ : ∃ k : Nat, d % H.L = k := ⟨(d % H.L).toNat, by omega⟩
    have hkl : k < H.year.length := by unfold L at r1 hk; omega
    have ed : d = (k : Int) + d / H.L * H.L := by rw [Int.mul_comm]; omega
    refine ⟨(H.year[k], k), ⟨List.mem_zipIdx_iff_getElem?.mpr (List.getElem?_eq_getElem hkl), ?_⟩, ?_⟩
    · rw [ed, lit_add ok] at h1
      unfold lit day at h1
      rw [Int.emod_eq_of_lt (by omega) (by unfold L; omega), Int.toNat_natCast, List.getD_eq_getElem?_getD, List.getElem?_eq_getElem hkl] at h1
      exact h1
    · show H.given (k : Int) % H.yd = _
      rw [ed, given_add ok, Int.add_mul_emod_self_right]
theorem ends_lt (H : Hill) : H.ends.Pairwise (· < ·) := sortI_lt (keysI_nd _)
theorem ends_bd (ok : H.Ok) {x : Int} (h : x ∈ H.ends) : 0 ≤ x ∧ x < H.yd := by
  obtain ⟨d, _, rfl⟩ := (ends_mem ok).mp h
  exact ⟨Int.emod_nonneg _ (by have := ok.y0; omega), Int.emod_lt_of_pos _ ok.y0⟩
theorem ends_ne (ok : H.Ok) : ∃ e r, H.ends = e :: r := by
  obtain ⟨d, _, _, h⟩ := lit_ex ok 0
  have : H.given d % H.yd ∈ H.ends := (ends_mem ok).mpr ⟨d, h, rfl⟩
  cases e : H.ends with
  | nil => rw [e] at this; cases this
  | cons a r => exact ⟨a, r, rfl⟩
theorem endsN_len (H : Hill) : H.endsN.length ≤ H.year.length := by
  unfold endsN
  rw [List.length_map]
  exact Nat.le_trans (List.length_filter_le _ _) (by simp)
/-- an end, so many years on, is what an open evening brings to -/
theorem end_day (ok : H.Ok) {x k : Int} (h : x ∈ H.ends) : ∃ d, H.lit d = true ∧ H.given d = k * H.yd + x := by
  obtain ⟨d, h1, rfl⟩ := (ends_mem ok).mp h
  refine ⟨d + (k - H.given d / H.yd) * H.L, by rw [lit_add ok]; exact h1, ?_⟩
  rw [given_add ok, Int.sub_mul]
  have := Int.emod_add_mul_ediv (H.given d) H.yd
  rw [Int.mul_comm] at this
  omega
theorem next_end_is (ok : H.Ok) {e x : Int} {r : List Int} (he : H.ends = e :: r) {t : Int} (hx : ((H.ends ++ [e + H.yd]).filter fun z => decide (t % H.yd ≤ z)).head? = some x) : t / H.yd * H.yd + x = H.nxt t := by
  have y0 := ok.y0
  have t1 := Int.emod_add_mul_ediv t H.yd
  rw [Int.mul_comm] at t1
  have ee : e ∈ H.ends := by rw [he]; exact List.mem_cons_self
  have e0 := ends_bd ok ee
  have hs : (H.ends ++ [e + H.yd]).Pairwise (· ≤ ·) := by
    rw [List.pairwise_append]
    refine ⟨(ends_lt H).imp fun h => Int.le_of_lt h, by simp, fun a ha b hb => ?_⟩
    simp only [List.mem_singleton] at hb
    have := ends_bd ok ha
    omega
  have hmin : ∀ z ∈ H.ends, e ≤ z := by
    intro z hz
    have := ends_lt H
    rw [he, List.pairwise_cons] at this
    rw [he] at hz
    rcases List.mem_cons.mp hz with rfl | hz
    · exact Int.le_refl _
    · exact Int.le_of_lt (this.1 z hz)
  obtain ⟨h1, h2, h3⟩ := head_least hs hx
  have h2 := of_decide_eq_true h2
  apply Int.le_antisymm
  · -- no more than the next one
    have is := dayOf_is ok t
    have hy : H.nxt t % H.yd ∈ H.ends := (ends_mem ok).mpr ⟨_, is.1.1, rfl⟩
    have t2 := Int.emod_add_mul_ediv (H.nxt t) H.yd
    rw [Int.mul_comm] at t2
    have b2 := ends_bd ok hy
    have ge := nxt_ge ok t
    have b1 : t % H.yd < H.yd := Int.emod_lt_of_pos _ y0
    have hk : t / H.yd ≤ H.nxt t / H.yd := Int.ediv_le_ediv y0 ge
    by_cases q : H.nxt t / H.yd = t / H.yd
    · rw [q] at t2
      have := h3 _ (List.mem_append_left _ hy) (decide_eq_true (by omega))
      omega
    · have := h3 (e + H.yd) (by simp) (decide_eq_true (by omega))
      have := hmin _ hy
      have : (t / H.yd + 1) * H.yd ≤ H.nxt t / H.yd * H.yd := Int.mul_le_mul_of_nonneg_right (by omega) (by omega)
      rw [Int.add_mul] at this
      omega
  · rcases List.mem_append.mp h1 with h | h
    · obtain ⟨d, q1, q2⟩ := end_day ok (k := t / H.yd) h
      have := nxt_le ok q1 (t := t) (by omega)
      omega
    · simp only [List.mem_singleton] at h
      subst h
      obtain ⟨d, q1, q2⟩ := end_day ok (k := t / H.yd + 1) ee
      rw [Int.add_mul] at q2
      have := nxt_le ok q1 (t := t) (by omega)
      omega
theorem next_end_ex (ok : H.Ok) {e : Int} {r : List Int} (he : H.ends = e :: r) (t : Int) : ∃ x, ((H.ends ++ [e + H.yd]).filter fun z => decide (t % H.yd ≤ z)).head? = some x := by
  have y0 := ok.y0
  have b1 : t % H.yd < H.yd := Int.emod_lt_of_pos _ y0
  have e0 := ends_bd ok (show e ∈ H.ends by rw [he]; exact List.mem_cons_self)
  have : e + H.yd ∈ (H.ends ++ [e + H.yd]).filter fun z => decide (t % H.yd ≤ z) := List.mem_filter.mpr ⟨by simp, decide_eq_true (by omega)⟩
  cases q : (H.ends ++ [e + H.yd]).filter fun z => decide (t % H.yd ≤ z) with
  | nil => rw [q] at this; cases this
  | cons a l => exact ⟨a, rfl⟩
end Hill

theorem ends_run {H : Hill} (ok : H.Ok) (b : Bool) (n : Nat) (S : Store) : run Δ (n + 3) i_ends_of [H.val b] S = some (.lv (H.ends.map Val.int), S) := by
  have hl := ok.len
  have y0 := ok.y0
  apply RUN.eq
  walk_at "run"
  walk_at "wp"
  apply call_pure (year_run ok b (n + 1) S) rfl
  walk_at "wp"
  rw [enum_map]
  apply m_list H.year.zipIdx _ (fun p => p.1.2) (fun p => .int (H.given (p.2 : Int) % H.yd)) (by walk_at "wipe")
  · rintro ⟨d, k⟩ hd
    walk_at "wp"
    apply br_bool <;> intro hx
    · walk_at "wp"
      refine ⟨hx, ?_⟩
      walk_at "wp"
      apply call_pure (given_run ok b n _ (k : Int)) rfl
      walk_at "wp"
      exact ⟨rfl, rfl⟩
    · walk_at "wp"
      exact ⟨hx, rfl⟩
  have e : ((H.year.zipIdx.filter fun p => p.1.2).map fun p => Val.int (H.given (p.2 : Int) % H.yd)) = H.endsN.map Val.int := by
    unfold Hill.endsN
    rw [List.map_map]; rfl
  rw [e]
  have h1 := Hill.endsN_len H
  have h2 : (keysI H.endsN).length ≤ H.endsN.length := by
    have key : ∀ (ns ks : List Int), (ns.foldl keyI ks).length ≤ ks.length + ns.length := by
      intro ns
      induction ns with
      | nil => intro ks; simp
      | cons n ns ih =>
        intro ks
        have := ih (keyI ks n)
        have h : (keyI ks n).length ≤ ks.length + 1 := by unfold keyI; split <;> simp
        simp only [List.foldl_cons, List.length_cons]
        omega
    have := key H.endsN []
    simp only [List.length_nil, Nat.zero_add] at this
    exact this
  refine ⟨H.endsN, ints_map _, ⟨⟨by rw [List.length_map]; omega, by omega⟩, ?_⟩⟩
  walk_at "wp"
  exact ⟨rfl, rfl⟩

theorem next_run {H : Hill} (ok : H.Ok) (b : Bool) (n : Nat) (S : Store) (t : Int) : run Δ (n + 4) i_next_end [H.val b, .int t] S = some (.int (H.nxt t), S) := by
  have hl := ok.len
  have y0 := ok.y0
  have yb := ok.yb
  obtain ⟨e, r, he⟩ := Hill.ends_ne ok
  obtain ⟨x, hx⟩ := Hill.next_end_ex ok he t
  have nx := Hill.next_end_is ok he hx
  have hlen : H.ends.length ≤ 60 := by
    have h1 := Hill.endsN_len H
    have h2 : H.ends.length = (keysI H.endsN).length := (sortI_perm _).length_eq
    have h3 := keysI_len H.endsN
    omega
  apply RUN.eq
  walk_at "run"
  walk_at "wp"
  apply call_pure (year_run ok b (n + 2) S) rfl
  walk_at "wp"
  apply call_pure (ends_run ok b n S) (fits_lvI _ _)
  walk_at "wp"
  apply o_idx_lv (v := .int e) (by rw [he]; exact at_zero)
  walk_at "wp"
  apply o_cat (by simp only [List.length_map, List.length_singleton]; have : (100 : Nat) ≤ sizeLine := by decide
                  omega)
  rw [← List.map_singleton, ← List.map_append]
  walk_at "wp"
  apply m_list (H.ends ++ [e + H.yd]) Val.int (fun z => decide (t % H.yd ≤ z)) Val.int (by walk_at "wipe")
  · intro z hz
    walk_at "wp"
    apply br_dec <;> intro q
    · walk_at "wp"
      refine ⟨decide_eq_true q, ?_⟩
      walk_at "wp"
      exact ⟨rfl, rfl⟩
    · walk_at "wp"
      exact ⟨decide_eq_false q, rfl⟩
  refine ⟨?_, ?_⟩
  · rw [List.length_map]
    refine Nat.le_trans (List.length_filter_le _ _) ?_
    rw [List.length_append, List.length_singleton]; omega
  walk_at "wp"
  apply o_idx_lv (v := .int x)
  · cases q : (H.ends ++ [e + H.yd]).filter fun z => decide (t % H.yd ≤ z) with
    | nil => rw [q] at hx; cases hx
    | cons a l => rw [q] at hx; cases hx; exact at_zero
  walk_at "wp"
  exact ⟨by rw [nx], rfl⟩

theorem lost_run {H : Hill} (ok : H.Ok) (b : Bool) (n : Nat) (S : Store) (t : Int) : run Δ (n + 5) i_lost_at [H.val b, .int t] S = some (.int (H.lostAt t), S) := by
  apply RUN.eq
  walk_at "run"
  walk_at "wp"
  apply call_pure (next_run ok b n S t) rfl
  walk_at "wp"
  exact ⟨rfl, rfl⟩

theorem at_need {H : Hill} {a : Int} (h0 : 0 ≤ a) (h1 : a < H.needs.length) : ∃ w, H.needs[a.toNat]? = some w ∧ w ∈ H.needs ∧ atI (H.needs.map Val.int) a = some (.int w) := by
  have h : a.toNat < H.needs.length := by omega
  refine ⟨H.needs[a.toNat], List.getElem?_eq_getElem h, List.getElem_mem h, ?_⟩
  rw [atI_int h0 (by rw [List.length_map]; exact h1), List.getElem?_map, List.getElem?_eq_getElem h]; rfl
/-- the need of an ant -/
def Hill.need (H : Hill) (a : Int) : Int := H.needs.getD a.toNat 1
theorem need_at {H : Hill} {a : Int} (h0 : 0 ≤ a) (h1 : a < H.needs.length) : atI (H.needs.map Val.int) a = some (.int (H.need a)) := by
  obtain ⟨w, h2, h3, h4⟩ := at_need h0 h1
  rw [h4]
  unfold Hill.need
  rw [List.getD_eq_getElem?_getD, h2]; rfl
theorem need_bd {H : Hill} (ok : H.Ok) {a : Int} (h0 : 0 ≤ a) (h1 : a < H.needs.length) : 1 ≤ H.need a ∧ H.need a ≤ 10 ^ 17 := by
  obtain ⟨w, h2, h3, h4⟩ := at_need h0 h1
  have : H.need a = w := by
    unfold Hill.need
    rw [List.getD_eq_getElem?_getD, h2]; rfl
  rw [this]
  exact ⟨ok.n0 w h3, ok.nb w h3⟩

theorem led_run {H : Hill} (ok : H.Ok) (b : Bool) (n : Nat) (S : Store) (a l : Int) (h0 : 0 ≤ a) (h1 : a < H.needs.length) : run Δ (n + 6) i_led [H.val b, .int a, .int l] S = some (.int (H.to (l + H.need a)), S) := by
  apply RUN.eq
  walk_at "run"
  walk_at "wp"
  apply o_idx_sq (need_at h0 h1)
  walk_at "wp"
  apply call_pure (lost_run ok b n S _) rfl
  walk_at "wp"
  exact ⟨rfl, rfl⟩

/-! ### states, turns -/
structure St3 where
  day : Int
  ant : Int
  pot : Int
@[reducible] def stV (b : Bool) (s : St3) : Val := sq b [.int s.day, .int s.ant, .int s.pot]
structure StOk (H : Hill) (s : St3) : Prop where
  lit : H.lit s.day = true
  a0 : 0 ≤ s.ant
  a1 : s.ant < H.needs.length
  p0 : 0 ≤ s.pot
  p1 : s.pot ≤ H.most
namespace Hill
variable {H : Hill}
def line (H : Hill) (s : St3) : Int := H.given s.day - s.pot
def total (H : Hill) (s : St3) : Int := H.line s + H.need s.ant
noncomputable def sitDay (H : Hill) (s : St3) : Int := if H.dayOf (H.total s) > s.day then H.dayOf (H.total s) else s.day
noncomputable def over (H : Hill) (s : St3) : Int := H.given (H.sitDay s) - H.total s
noncomputable def next (H : Hill) (s : St3) : St3 := ⟨H.sitDay s, (s.ant + 1) % H.needs.length, if H.most < H.over s then H.most else H.over s⟩
noncomputable def spill (H : Hill) (s : St3) : Int := if H.over s - H.most > 0 then H.over s - H.most else 0
def Sits (H : Hill) (s : St3) (d : Int) : Prop := H.lit d = true ∧ H.total s ≤ H.given d ∧ s.day ≤ d
theorem sit_is (ok : H.Ok) {s : St3} (so : StOk H s) : IsFirst (H.Sits s) (H.sitDay s) := by
  have is := dayOf_is ok (H.total s)
  unfold sitDay
  split
  · rename_i h
    exact ⟨⟨is.1.1, is.1.2, by omega⟩, fun d hd hp => is.2 d hd ⟨hp.1, hp.2.1⟩⟩
  · rename_i h
    exact ⟨⟨so.lit, Int.le_trans is.1.2 (given_mono ok (by omega)), Int.le_refl _⟩, fun d hd hp => by have := hp.2.2; omega⟩
theorem over0 (ok : H.Ok) {s : St3} (so : StOk H s) : 0 ≤ H.over s := by
  have := (sit_is ok so).1.2.1
  unfold over; omega
/-- the line behind a turn; what is lost in it -/
theorem next_line (ok : H.Ok) {s : St3} (so : StOk H s) (n0 : 1 ≤ H.need s.ant) : H.line (H.next s) = H.to (H.total s) ∧ H.spill s = H.lostAt (H.total s) := by
  have m0 := ok.m0
  have is := dayOf_is ok (H.total s)
  have e1 : H.nxt (H.total s) = H.given (H.dayOf (H.total s)) := rfl
  have e2 : H.total s = H.given s.day - s.pot + H.need s.ant := rfl
  have p1 := so.p1
  unfold line next spill to lostAt over
  unfold sitDay
  split
  · rename_i h
    rw [e1]
    constructor
    · show H.given (H.dayOf (H.total s)) - (if H.most < H.given (H.dayOf (H.total s)) - H.total s then H.most else H.given (H.dayOf (H.total s)) - H.total s) = _
      split <;> split <;> omega
    · split <;> split <;> omega
  · rename_i h
    have g := given_mono ok (show H.dayOf (H.total s) ≤ s.day by omega)
    rw [e1]
    constructor
    · show H.given s.day - (if H.most < H.given s.day - H.total s then H.most else H.given s.day - H.total s) = _
      split <;> split <;> omega
    · split <;> split <;> omega
theorem next_ok (ok : H.Ok) {s : St3} (so : StOk H s) : StOk H (H.next s) := by
  have ne := ok.ne
  have m0 := ok.m0
  have o0 := over0 ok so
  refine ⟨(sit_is ok so).1.1, Int.emod_nonneg _ (by omega), Int.emod_lt_of_pos _ (by omega), ?_, ?_⟩
  · show 0 ≤ (if H.most < H.over s then H.most else H.over s)
    split <;> omega
  · show (if H.most < H.over s then H.most else H.over s) ≤ H.most
    split <;> omega
theorem sit_bd (ok : H.Ok) {s : St3} (so : StOk H s) {c : Int} (c0 : 0 ≤ c) (h : H.need s.ant - s.pot ≤ c * H.yd) : s.day ≤ H.sitDay s ∧ H.sitDay s < s.day + (c + 1) * H.L := by
  have is := sit_is ok so
  refine ⟨is.1.2.2, ?_⟩
  obtain ⟨e, h1, h2, h3⟩ := lit_ex ok (s.day + c * H.L)
  cases Int.lt_or_le e (H.sitDay s) with
  | inl q =>
    refine absurd ⟨h3, ?_, ?_⟩ (is.2 e q)
    · have := given_mono ok h1
      rw [given_add ok] at this
      unfold total line
      omega
    · have := Int.mul_nonneg c0 (show 0 ≤ H.L by have := ok.L0; omega)
      omega
  | inr q => rw [Int.add_mul]; omega
/-- as many years on -/
theorem next_skip (ok : H.Ok) {s : St3} (so : StOk H s) {k : Int} (k0 : 0 ≤ k) (h : k = 0 ∨ s.pot + k * H.yd < H.need s.ant) : H.sitDay ⟨s.day + k * H.L, s.ant, s.pot + k * H.yd⟩ = H.sitDay s ∧ H.total ⟨s.day + k * H.L, s.ant, s.pot + k * H.yd⟩ = H.total s := by
  have e : H.total ⟨s.day + k * H.L, s.ant, s.pot + k * H.yd⟩ = H.total s := by
    unfold total line
    show H.given (s.day + k * H.L) - (s.pot + k * H.yd) + H.need s.ant = _
    rw [given_add ok]; omega
  refine ⟨?_, e⟩
  rcases h with rfl | h
  · simp
  · have h0 := ok.L0
    have is := dayOf_is ok (H.total s)
    have q : s.day + k * H.L < H.dayOf (H.total s) := by
      cases Int.lt_or_le (s.day + k * H.L) (H.dayOf (H.total s)) with
      | inl q => exact q
      | inr q =>
        exfalso
        have g := given_mono ok q
        rw [given_add ok] at g
        have := is.1.2
        have e2 : H.total s = H.given s.day - s.pot + H.need s.ant := rfl
        omega
    have := Int.mul_nonneg k0 (show 0 ≤ H.L by omega)
    unfold sitDay
    rw [e, if_pos (show H.dayOf (H.total s) > s.day + k * H.L from q), if_pos (by omega)]
end Hill

/-- a turn's end, as a value -/
@[reducible] def turnV (s : St3) (l : Int) : Val := .tup [stV true s, .int l]

/-- the line behind so many turns -/
noncomputable def Hill.lineAt (H : Hill) (a l : Int) : Nat → Int
  | 0 => l
  | k + 1 => H.to (Hill.lineAt H a l k + H.need ((a + k) % H.needs.length))
theorem Hill.lineAt_add {H : Hill} (ok : H.Ok) (a l c : Int) (k : Nat) : H.lineAt a (l + c * H.yd) k = H.lineAt a l k + c * H.yd := by
  induction k with
  | zero => rfl
  | succ k ih =>
    show H.to (H.lineAt a (l + c * H.yd) k + _) = H.to (H.lineAt a l k + _) + _
    rw [ih, ← Hill.to_add ok]
    congr 1; omega
theorem RUN.mkN {Δ : Table} {n f np ns : Nat} {body : SL} {vs : List Val} {S : Store} {P : Val → Store → Prop} {ρ : Env} (hd : Δ f = some ⟨np, ns, body⟩) (hl : vs.length = np) (hn : Nat.ble np ns = true) (he : startE ns vs = ρ)
    (h : Runs (orc Δ n) body ρ S (fun o => ∃ ρ' S', o = .nx ρ' S' ∧ P .non S')) : RUN Δ (n + 1) f vs S P := by
  subst he
  obtain ⟨o, h1, ρ', S', rfl, hp⟩ := h
  refine ⟨.non, S', ?_, hp⟩
  rw [run_succ]; unfold runB
  simp only [hd, if_pos (show vs.length = np ∧ np ≤ ns from ⟨hl, Nat.le_of_ble_eq_true hn⟩), h1, Option.bind_some]
/-- how all stands behind so many turns -/
noncomputable def Hill.stAt (H : Hill) (s : St3) : Nat → St3
  | 0 => s
  | k + 1 => H.next (Hill.stAt H s k)
theorem Hill.stAt_ok {H : Hill} (ok : H.Ok) {s : St3} (so : StOk H s) (k : Nat) : StOk H (H.stAt s k) := by
  induction k with
  | zero => exact so
  | succ k ih => exact Hill.next_ok ok ih
theorem Hill.stAt_ant {H : Hill} (ok : H.Ok) {s : St3} (so : StOk H s) (k : Nat) : (H.stAt s k).ant = (s.ant + k) % H.needs.length := by
  induction k with
  | zero =>
    show s.ant = _
    rw [Int.natCast_zero, Int.add_zero, Int.emod_eq_of_lt so.a0 so.a1]
  | succ k ih =>
    show ((H.stAt s k).ant + 1) % _ = _
    rw [ih, Int.emod_add_emod, Int.add_assoc]; rfl
@[reducible] noncomputable def rowV' (H : Hill) (s : St3) (m : Nat) : List Val := (List.range m).map fun k => turnV (H.stAt s (k + 1)) (H.spill (H.stAt s k))
theorem rowV_snoc {H : Hill} {s : St3} {m : Nat} : rowV' H s (m + 1) = rowV' H s m ++ [turnV (H.stAt s (m + 1)) (H.spill (H.stAt s m))] := by unfold rowV'; rw [List.range_succ]; simp
theorem atI_lastV {xs : List Val} {v : Val} : atI (xs ++ [v]) (-1) = some v := by
  have e : (-1 : Int) + ((xs.length : Int) + 1) = xs.length := by omega
  unfold atI ixN
  simp
  rw [if_pos (by omega), e]
  simp
theorem line_stAt {H : Hill} (ok : H.Ok) {s : St3} (so : StOk H s) (k : Nat) : H.line (H.stAt s k) = H.lineAt s.ant (H.line s) k := by
  induction k with
  | zero => rfl
  | succ k ih =>
    have sk := Hill.stAt_ok ok so k
    have nb := need_bd ok sk.a0 sk.a1
    show H.line (H.next (H.stAt s k)) = H.to (H.lineAt s.ant (H.line s) k + H.need ((s.ant + k) % H.needs.length))
    rw [(Hill.next_line ok sk nb.1).1, ← Hill.stAt_ant ok so k, ← ih]; rfl
theorem step_stAt {H : Hill} (ok : H.Ok) {s : St3} (so : StOk H s) (k : Nat) : H.lineAt s.ant (H.line s) (k + 1) - H.lineAt s.ant (H.line s) k = H.need ((s.ant + k) % H.needs.length) + H.spill (H.stAt s k) := by
  have sk := Hill.stAt_ok ok so k
  have nb := need_bd ok sk.a0 sk.a1
  rw [(Hill.next_line ok sk nb.1).2]
  have e : H.total (H.stAt s k) = H.lineAt s.ant (H.line s) k + H.need ((s.ant + k) % H.needs.length) := by
    unfold Hill.total
    rw [line_stAt ok so k, Hill.stAt_ant ok so k]
  rw [e]
  show H.lineAt s.ant (H.line s) k + H.need ((s.ant + k) % H.needs.length) + H.lostAt _ - _ = _
  omega
theorem Hill.lineAt_mono {H : Hill} (ok : H.Ok) (a : Int) {l l' : Int} (h : l ≤ l') (k : Nat) : H.lineAt a l k ≤ H.lineAt a l' k := by
  induction k with
  | zero => exact h
  | succ k ih => exact Hill.to_mono ok (by omega)
/-- needs of so many turns -/
def Hill.needSum (H : Hill) (a : Int) (m : Nat) : Int := ((List.range m).map fun (k : Nat) => H.need ((a + (k : Int)) % H.needs.length)).sum
theorem Hill.needSum_succ (H : Hill) (a : Int) (m : Nat) : H.needSum a (m + 1) = H.needSum a m + H.need ((a + m) % H.needs.length) := by
  unfold Hill.needSum
  rw [List.range_succ, List.map_append, List.sum_append]
  simp
theorem Hill.lineAt_bd {H : Hill} (ok : H.Ok) (a l : Int) (k : Nat) : l + H.needSum a k ≤ H.lineAt a l k ∧ H.lineAt a l k ≤ l + H.needSum a k + k * H.yd := by
  induction k with
  | zero => simp [Hill.needSum, Hill.lineAt]
  | succ k ih =>
    have h := Hill.to_lt ok (H.lineAt a l k + H.need ((a + k) % H.needs.length))
    rw [Hill.needSum_succ]
    show _ ≤ H.to (H.lineAt a l k + H.need ((a + k) % H.needs.length)) ∧ H.to (H.lineAt a l k + H.need ((a + k) % H.needs.length)) ≤ _
    rw [Int.natCast_succ, Int.add_mul]
    omega
theorem Hill.ant_ok {H : Hill} (ok : H.Ok) (a : Int) : 0 ≤ a % H.needs.length ∧ a % H.needs.length < H.needs.length := by
  have := ok.ne
  exact ⟨Int.emod_nonneg _ (by omega), Int.emod_lt_of_pos _ (by omega)⟩
theorem Hill.lineAt_join {H : Hill} (ok : H.Ok) (a l : Int) (j k : Nat) : H.lineAt ((a + j) % H.needs.length) (H.lineAt a l j) k = H.lineAt a l (j + k) := by
  induction k with
  | zero => rfl
  | succ k ih =>
    show H.to (H.lineAt ((a + j) % H.needs.length) (H.lineAt a l j) k + _) = H.to (H.lineAt a l (j + k) + H.need ((a + ((j + k : Nat) : Int)) % H.needs.length))
    rw [ih, Int.emod_add_emod, Int.natCast_add, Int.add_assoc]

/-! lists of numbers compared, sorted -/
theorem dat_ints (S : Store) (k : Nat) (ns : List Int) : toDatas S (k + 1) (ns.map Val.int) = some (ns.map PyData.int) := by
  induction ns with
  | nil => simp [toDatas]
  | cons n ns ih => simp [toDatas, toData, ih]
theorem lay_ints (ns : List Int) : PyData.canLayAll0 (ns.map PyData.int) = true ∧ PyData.depthAll (ns.map PyData.int) ≤ 1 := by
  induction ns with
  | nil => simp [PyData.canLayAll0, PyData.depthAll]
  | cons n ns ih => simp [PyData.canLayAll0, PyData.depthAll, PyData.canLay0, PyData.depth, ih.1]; omega
theorem eqv_ints : ∀ ms ns : List Int, PyData.eqvAll (ms.map PyData.int) (ns.map PyData.int) = decide (ms = ns)
  | [], [] => by simp [PyData.eqvAll]
  | [], _ :: _ => by simp [PyData.eqvAll]
  | _ :: _, [] => by simp [PyData.eqvAll]
  | m :: ms, n :: ns => by
    have := eqv_ints ms ns
    simp only [List.map_cons, PyData.eqvAll, PyData.eqv, this]
    by_cases e : m = n <;> simp [e]
theorem eq_intsL (S : Store) (ms ns : List Int) : eqSem S (.lv (ms.map Val.int)) (.lv (ns.map Val.int)) = some (decide (ms = ns)) := by
  have e1 : toDatas S 19 (ms.map Val.int) = some (ms.map PyData.int) := dat_ints S 18 ms
  have e2 : toDatas S 19 (ns.map Val.int) = some (ns.map PyData.int) := dat_ints S 18 ns
  have s1 : ∀ ns : List Int, SeqAt.shaped (.list (ns.map PyData.int)) = true := by
    intro ns
    have h := lay_ints ns
    have := h.2
    simp [SeqAt.shaped, PyData.canLay0, PyData.depth, h.1]; omega
  simp only [eqSem, toData, e1, e2, Option.map_some, Option.bind_some, s1, and_self, if_true]
  rw [PyData.eqv, eqv_ints]
theorem o_neL {S : Store} {ms ns : List Int} {R : Bool → Prop} (q : R (!decide (ms = ns))) : OP (cmpSem S .ne (.lv (ms.map Val.int)) (.lv (ns.map Val.int))) R := ⟨_, by unfold cmpSem; simp only [eq_intsL, Option.map_some], q⟩
theorem o_eqL {S : Store} {ms ns : List Int} {R : Bool → Prop} (q : R (decide (ms = ns))) : OP (cmpSem S .eq (.lv (ms.map Val.int)) (.lv (ns.map Val.int))) R := ⟨_, by unfold cmpSem; simp only [eq_intsL], q⟩
theorem o_sortI {S : Store} {ns : List Int} {xs : List Val} {R : Val → Prop} (e : xs = ns.map Val.int) (q : R (.lv ((sortI ns).map Val.int))) : OP (bltSem S .sorted (.lv xs :: [])) R := by
  subst e
  exact ⟨_, by unfold bltSem lstOf; simp only [Option.bind_some, ints_map], q⟩
theorem sortI_self {ns : List Int} (h : ns.Pairwise (· ≤ ·)) : sortI ns = ns := (sortI_eq (List.Perm.refl ns) h).symm
theorem atI_last {ns : List Int} {l : Int} (h : ns.getLast? = some l) : atI (ns.map Val.int) (-1) = some (.int l) := by
  obtain ⟨ys, rfl⟩ := List.getLast?_eq_some_iff.mp h
  have e : (-1 : Int) + ((ys.length : Int) + 1) = ys.length := by omega
  unfold atI ixN
  simp
  rw [if_pos (by omega), e]
  simp
theorem atI_head {ns : List Int} {l : Int} (h : ns.head? = some l) : atI (ns.map Val.int) 0 = some (.int l) := by
  cases ns with
  | nil => cases h
  | cons a r => cases h; exact at_zero
/-- the ends of a rising list -/
theorem sort_ends {ns : List Int} {a b : Int} (ha : a ∈ ns) (hb : b ∈ ns) (h : ∀ x ∈ ns, a ≤ x ∧ x ≤ b) : (sortI ns).head? = some a ∧ (sortI ns).getLast? = some b := by
  have hp := sortI_perm ns
  have hs := sortI_le ns
  generalize sortI ns = l at *
  constructor
  · cases l with
    | nil => exact absurd (hp.mem_iff.mpr ha) (by simp)
    | cons y r =>
      have h1 := (h y (hp.mem_iff.mp List.mem_cons_self)).1
      rw [List.pairwise_cons] at hs
      rcases List.mem_cons.mp (hp.mem_iff.mpr ha) with e | e
      · rw [← e]; rfl
      · have := hs.1 a e
        rw [show y = a by omega]; rfl
  · cases hl : l.getLast? with
    | none => rw [List.getLast?_eq_none_iff] at hl; subst hl; exact absurd (hp.mem_iff.mpr ha) (by simp)
    | some z =>
      obtain ⟨ys, rfl⟩ := List.getLast?_eq_some_iff.mp hl
      have h1 := (h z (hp.mem_iff.mp (by simp))).2
      rw [List.pairwise_append] at hs
      rcases List.mem_append.mp (hp.mem_iff.mpr hb) with e | e
      · have := hs.2.2 b e z (by simp)
        rw [show z = b by omega]
      · simp only [List.mem_singleton] at e
        rw [e]
theorem zip_map {α : Type} (f g : α → Val) : ∀ xs : List α, zipV (xs.map f) (xs.map g) = xs.map fun a => Val.tup [f a, g a]
  | [] => rfl
  | x :: xs => by simp only [List.map_cons, zipV, zip_map f g xs]
theorem o_all {S : Store} {bs : List Bool} {xs : List Val} {R : Val → Prop} (e : xs = bs.map Val.bl) (q : R (.bl (bs.all id))) : OP (bltSem S .all (.lv xs :: [])) R := by subst e; exact ⟨_, bl_all, q⟩

theorem lineof_run {H : Hill} (ok : H.Ok) (b b' : Bool) (n : Nat) (S : Store) (s : St3) : run Δ (n + 3) i_line_of [H.val b, stV b' s] S = some (.int (H.line s), S) := by
  apply RUN.eq
  walk_at "run"
  walk_at "wp"
  apply call_pure (given_run ok b n S _) rfl
  walk_at "wp"
  exact ⟨rfl, rfl⟩

theorem antb_run {H : Hill} (ok : H.Ok) (b : Bool) (n : Nat) (S : Store) (a m : Int) : run Δ (n + 1) i_ant_behind [H.val b, .int a, .int m] S = some (.int ((a + m) % H.needs.length), S) := by
  have ne := ok.ne
  have hN : ((H.needs.map Val.int).length : Int) = H.needs.length := by rw [List.length_map]
  apply RUN.eq
  walk_at "run"
  walk_at "wp"
  rw [hN]
  exact ⟨rfl, rfl⟩

theorem turn_run {H : Hill} (ok : H.Ok) (b b' : Bool) (n : Nat) (S : Store) (s : St3) (so : StOk H s) : run Δ (n + 4) i_turn [H.val b, stV b' s] S = some (turnV (H.next s) (H.spill s), S) := by
  have is := Hill.dayOf_is ok (H.total s)
  have e2 : H.total s = H.given s.day - s.pot + H.need s.ant := rfl
  apply RUN.eq
  walk_at "run"
  walk_at "wp"
  apply o_idx_sq (need_at so.a0 so.a1)
  walk_at "we"
  apply x_asg
  apply w_is (w := .int (H.sitDay s)) (S' := S)
  · walk_at "wp"
    apply br_dec <;> intro q
    · walk_at "wp"
      refine ⟨?_, rfl⟩
      unfold Hill.sitDay
      rw [if_neg]
      intro h
      exact is.2 s.day h ⟨so.lit, by omega⟩
    · walk_at "wp"
      apply call_pure (given_run ok b (n + 1) S _) rfl
      walk_at "wp"
      apply call_pure (day_of_run ok b n S _) rfl
      rw [show H.given s.day + (H.need s.ant - s.pot) = H.total s by omega]
      refine ⟨?_, rfl⟩
      unfold Hill.sitDay
      rw [if_pos]
      cases Int.lt_or_le s.day (H.dayOf (H.total s)) with
      | inl h => exact h
      | inr h =>
        have := Hill.given_mono ok h
        have := is.1.2
        omega
  walk_at "wp"
  apply call_pure (given_run ok b (n + 1) S _) rfl
  walk_at "wp"
  apply call_pure (given_run ok b (n + 1) S _) rfl
  walk_at "wp"
  apply call_pure (antb_run ok b (n + 2) S _ _) rfl
  walk_at "wp"
  have e3 : H.given (H.sitDay s) - H.given s.day - (H.need s.ant - s.pot) = H.over s := by unfold Hill.over; omega
  rw [e3]
  exact ⟨rfl, rfl⟩

theorem dat_map {d : Nat} {l : List Nat} {f : Nat → Int} (h : l.length ≤ 100000) : dat (d + 1) (.lv (l.map fun k => .int (f k))) = true := by
  simp only [dat, List.length_map, Bool.and_eq_true, decide_eq_true_eq, List.all_eq_true]
  refine ⟨h, fun x hx => ?_⟩
  obtain ⟨k, _, rfl⟩ := List.mem_map.mp hx
  cases d <;> rfl
theorem rep_map {m : Nat} {v : Val} : (List.replicate m [v]).flatten = (List.range m).map fun _ => v := by
  induction m with
  | zero => rfl
  | succ m ih => rw [List.replicate_succ', List.flatten_append, ih, List.range_succ, List.map_append]; rfl
theorem zip_tail {f : Nat → Val} {m : Nat} : zipV ((List.range (m + 1)).map f) (((List.range (m + 1)).map f).drop 1) = (List.range m).map fun k => Val.tup [f k, f (k + 1)] := by
  have e1 : ((List.range (m + 1)).map f).drop 1 = (List.range m).map fun k => f (k + 1) := by
    rw [List.range_succ_eq_map, List.map_cons, List.drop_one, List.tail_cons, List.map_map]; rfl
  rw [e1, List.range_succ, List.map_append]
  have key : ∀ (l : List Nat) (g : Nat → Val) (t : List Val), zipV (l.map f ++ t) (l.map g) = l.map fun k => Val.tup [f k, g k] := by
    intro l
    induction l with
    | nil => intro g t; cases t <;> rfl
    | cons a l ih => intro g t; simp only [List.map_cons, List.cons_append, zipV, ih]
  exact key _ _ _

def loopBody (ir : Nat) (z r : Int) : SL := (.cons (.asg (.nm 1) (.call false i_law_folded (.cons (.var 0) (.cons (.con (.int z)) .nil)))) (.cons (.for (.nm 2) .range (.cons (.blt .max (.cons (.con (.int 1)) (.cons (.blt .len (.cons (.var 1) .nil)) .nil))) .nil) (.cons (.asg (.nm 3) (.call true i_law_box (.cons (.var 1) (.cons (.var 2) .nil)))) (.cons (.ite (.not (.blt .all (.cons (.lc [4] (.nm 4) .range (.cons (.con (.int r)) .nil) .none (.call false ir (.cons (.var 3) .nil))) .nil))) (.cons (.ret (.con (.bl false))) .nil) .nil) .nil))) (.cons (.ret (.con (.bl true))) .nil)))
theorem law_loop (il ir z r C : Nat) (hz : 0 < z) (hz2 : z ≤ 63) (hr9 : r ≤ 100) (hC : C ≤ 1000000) (hd : Δ il = some ⟨1, 5, loopBody ir z r⟩)
    (hr : ∀ (B : Bs) (x : Bx) (T : Nat), Bx.Ok x T → T + C < 2 ^ 28 → RUN Δ 229 ir [.ref B.m] (B.st x) fun v S2 => v = .bl true ∧ ∃ x' G, S2 = B.st x' ++ G ∧ x'.Ok (T + C)) (ns : List Int) (h : ns.length ≤ 63) : ∃ S, run Δ 230 il [.sl (ns.map Val.int)] [] = some (.bl true, S) := by
  obtain ⟨cells, ec, hc⟩ := folded_run 228 ns z hz hz2 []
  have key : RUN Δ (229 + 1) il [.sl (ns.map Val.int)] [] fun v S2 => v = .bl true := by
    refine RUN.mk' hd rfl rfl (by walk_at "start") ?_
    unfold loopBody
    apply x_asg
    apply w_call
    walk_at "wp"
    refine ⟨_, _, _, _, ec, gc_lst (G := [.lst (cells.map Val.int)]) rfl rfl (fits_ints _ _), ?_⟩
    walk_at "wp"
    apply x_for
    walk_at "wp"
    obtain ⟨K, hK⟩ : ∃ K : Nat, (if ((cells.map Val.int).length : Int) > 1 then ((cells.map Val.int).length : Int) else 1) = (K : Int) ∧ K ≤ 63 := by
      refine ⟨if (cells.map Val.int).length > 1 then (cells.map Val.int).length else 1, ?_, ?_⟩
      · split <;> split <;> omega
      · rw [List.length_map]; split <;> omega
    rw [hK.1]
    refine ⟨rfl, i_range (by omega) ?_⟩
    rw [Int.toNat_natCast]
    refine ⟨fun k ρ' S' => ∃ y2 y3, ρ' = [some (.sl (ns.map Val.int)), some (.lv (cells.map Val.int)), y2, y3, none], ⟨_, _, rfl⟩, ?_, ?_⟩
    · rintro k y ρ' S' hy ⟨y2, y3, rfl⟩
      obtain ⟨hk, rfl⟩ := range_get hy
      obtain ⟨xb, eb, okb⟩ := box_run 228 cells k (by omega) S'
      walk_at "wp"
      rw [show (0 : Int) + (k : Int) = (k : Int) by omega]
      refine ⟨_, _, eb, ?_⟩
      walk_at "wp"
      apply i_range (by omega)
      rw [Int.toNat_natCast]
      apply m_inv (f := fun _ => [.bl true]) (fun j S2 => ∃ x', S2 = Bs.st ⟨S', []⟩ x' ++ [] ∧ x'.Ok (j * C)) (by walk_at "wipe") rfl ⟨xb, by simp [Bs.st], okb.mono (by omega)⟩
      · rintro j y S2 hy ⟨x0, rfl, ok0⟩
        obtain ⟨hj, rfl⟩ := range_get hy
        have jc : j * C ≤ 100 * 1000000 := Nat.mul_le_mul (by omega) hC
        walk_at "wp"
        show CALL _ ir [.ref (Bs.m ⟨S', []⟩)] _ _
        refine call_box (R := fun v x' => v = .bl true ∧ x'.Ok (j * C + C)) ?_ ?_
        · obtain ⟨v, S2, h1, rfl, x', G, rfl, h2⟩ := hr (Bs.push ⟨S', []⟩ []) x0 _ ok0 (by omega)
          exact ⟨_, _, h1, rfl, x', G, rfl, rfl, h2⟩
        rintro v x1 ⟨rfl, ok1⟩
        exact ⟨rfl, x1, rfl, ok1.mono (by rw [Nat.succ_mul]; omega)⟩
      · rintro S2 ⟨x', rfl, ok'⟩
        rw [flat_true]
        refine ⟨by simp [range_len]; omega, ?_⟩
        walk_at "wp"
        refine op_of bl_all ?_
        rw [all_rep]
        walk_at "wp"
        exact ⟨_, _, rfl⟩
    · rintro ρ' S' ⟨y2, y3, rfl⟩
      walk_at "wp"
      rfl
  obtain ⟨v, S2, h1, rfl⟩ := key
  exact ⟨S2, h1⟩

theorem call_turns {n : Nat} {H : Hill} (ok : H.Ok) {b b1 : Bool} {S : Store} {s : St3} {m : Nat} {Q : Val → Store → Prop} (hn : 10 ≤ n) (so : StOk H s) (hm : m ≤ 1000) (q : Q (.lv (rowV' H s m)) S) :
    CALL (orc Δ n) i_turns [H.val b, stV b1 s, .int m] S Q := by
  obtain ⟨n, rfl⟩ : ∃ n', n = n' + 5 := ⟨n - 5, by omega⟩
  have key : RUN Δ (n + 5) i_turns [H.val b, stV b1 s, .int m] S fun v S2 => v = .ref S.length ∧ S2 = S ++ [.lst (rowV' H s m)] := by
    walk_at "run"
    rw [← List.append_nil S]
    walk_at "wp"
    apply x_for
    walk_at "wp"
    refine ⟨rfl, i_range (by omega) ?_⟩
    rw [Int.toNat_natCast]
    refine ⟨fun k ρ' S' => ∃ y4, ρ' = [some (H.val b), some (stV b1 s), some (.int m), some (.ref (S.length + ([] : Store).length)), y4] ∧ S' = S ++ ([] ++ [.lst (rowV' H s k)]), ⟨_, rfl, rfl⟩, ?_, ?_⟩
    · rintro k y ρ' S' hy ⟨y4, rfl, rfl⟩
      obtain ⟨hk, rfl⟩ := range_get hy
      have big : k < sizeLine := Nat.lt_trans (show k < 2000 by omega) (by decide)
      have put : (S ++ ([] ++ [Ob.lst (rowV' H s k)])).set (S.length + ([] : Store).length) (.lst (rowV' H s k ++ [turnV (H.next (H.stAt s k)) (H.spill (H.stAt s k))])) = S ++ ([] ++ [.lst (rowV' H s (k + 1))]) := by rw [oput lput, rowV_snoc]; rfl
      walk_at "wp"
      apply br_dec <;> intro h0
      · walk_at "wp"
        obtain ⟨j, rfl⟩ : ∃ j, k = j + 1 := ⟨k - 1, by omega⟩
        apply o_idx_ref (oget lget) (v := turnV (H.stAt s (j + 1)) (H.spill (H.stAt s j))) (by rw [rowV_snoc]; exact atI_lastV)
        walk_at "wp"
        apply call_pure (turn_run ok b true n _ _ (Hill.stAt_ok ok so (j + 1))) rfl
        refine a_2 (xs := rowV' H s (j + 1)) (oget lget) (by simp [rowV']; exact big) put ?_
        walk_at "wp"
        exact ⟨_, rfl, rfl⟩
      · obtain rfl : k = 0 := by omega
        walk_at "wp"
        apply call_pure (turn_run ok b b1 n _ _ so) rfl
        refine a_2 (xs := rowV' H s 0) (oget lget) (by simp [rowV']; exact big) put ?_
        walk_at "wp"
        exact ⟨_, rfl, rfl⟩
    · rw [range_len]
      rintro ρ' S' ⟨y4, rfl, rfl⟩
      walk_at "wp"
      exact ⟨by simp, by simp⟩
  refine key.call fun v S1 ⟨e1, e2⟩ => ?_
  subst e1
  subst e2
  refine ⟨_, _, gc_lst rfl rfl ?_, q⟩
  have : ∀ l : List Nat, fitsL S.length (l.map fun k => turnV (H.stAt s (k + 1)) (H.spill (H.stAt s k))) = true := by
    intro l
    induction l with
    | nil => unfold fitsL; rfl
    | cons a l ih => simp only [List.map_cons, fitsL, ih, Bool.and_true]; rfl
  exact this _

@[reducible] def pairV (p : Int × Int) : Val := .tup [.int p.1, .int p.2]
/-! ### stretches: math -/
theorem zip_next {e z : Int} {r : List Int} (hs : (e :: r).Pairwise (· < ·)) (hz : ∀ x ∈ e :: r, x < z) {a b : Int} (h : (a, b) ∈ (e :: r).zip (r ++ [z])) : a ∈ e :: r ∧ (b ∈ e :: r ∨ b = z) ∧ a < b ∧ ∀ x ∈ e :: r, a < x → b ≤ x := by
  induction r generalizing e with
  | nil =>
    simp only [List.nil_append, List.zip_cons_cons, List.zip_nil_right, List.mem_singleton, Prod.mk.injEq] at h
    obtain ⟨rfl, rfl⟩ := h
    refine ⟨List.mem_cons_self, .inr rfl, hz _ List.mem_cons_self, fun x hx hlt => ?_⟩
    simp only [List.mem_singleton] at hx
    omega
  | cons c r ih =>
    rw [List.cons_append, List.zip_cons_cons, List.mem_cons] at h
    rw [List.pairwise_cons] at hs
    rcases h with h | h
    · cases h
      refine ⟨List.mem_cons_self, .inl (List.mem_cons_of_mem _ List.mem_cons_self), hs.1 _ List.mem_cons_self, fun x hx hlt => ?_⟩
      rcases List.mem_cons.mp hx with rfl | hx
      · omega
      · rcases List.mem_cons.mp hx with rfl | hx
        · exact Int.le_refl _
        · exact Int.le_of_lt ((List.pairwise_cons.mp hs.2).1 x hx)
    · obtain ⟨h1, h2, h3, h4⟩ := ih hs.2 (fun x hx => hz x (List.mem_cons_of_mem _ hx)) h
      refine ⟨List.mem_cons_of_mem _ h1, ?_, h3, fun x hx hlt => ?_⟩
      · rcases h2 with h2 | h2
        · exact .inl (List.mem_cons_of_mem _ h2)
        · exact .inr h2
      · rcases List.mem_cons.mp hx with rfl | hx
        · have := hs.1 a h1
          omega
        · exact h4 x hx hlt
theorem zip_cover {e z x : Int} {r : List Int} (h0 : e < x) (h1 : x ≤ z) : ∃ a b, (a, b) ∈ (e :: r).zip (r ++ [z]) ∧ a < x ∧ x ≤ b := by
  induction r generalizing e with
  | nil => exact ⟨e, z, by simp, h0, h1⟩
  | cons c r ih =>
    by_cases q : x ≤ c
    · exact ⟨e, c, by simp, h0, q⟩
    · obtain ⟨a, b, h2, h3⟩ := ih (e := c) (by omega)
      exact ⟨a, b, by rw [List.cons_append, List.zip_cons_cons]; exact List.mem_cons_of_mem _ h2, h3⟩
namespace Hill
variable {H : Hill}
/-- each end with the next one -/
def endPairs (H : Hill) : List (Int × Int) := H.ends.zip (H.ends.drop 1 ++ [H.ends.headD 0 + H.yd])
def strOf (H : Hill) (p : Int × Int) : Int × Int := ((p.1 + 1) % H.yd, (p.1 + 1) % H.yd + (p.2 - H.most - 1) - (p.1 + 1))
def strP (H : Hill) (p : Int × Int) : Bool := decide (p.1 + 1 ≤ p.2 - H.most - 1)
def strN (H : Hill) : List (Int × Int) := (H.endPairs.filter H.strP).map H.strOf
def lePair (a b : Int × Int) : Bool := leRow [a.1, a.2] [b.1, b.2]
def strL (H : Hill) : List (Int × Int) := H.strN.mergeSort lePair
theorem ends_next (ok : H.Ok) {a b : Int} (h : (a, b) ∈ H.endPairs) : a ∈ H.ends ∧ H.nxt (a + 1) = b ∧ H.nxt a = a ∧ a < b ∧ b ≤ a + H.yd := by
  have y0 := ok.y0
  obtain ⟨e, r, he⟩ := ends_ne ok
  have ee : e ∈ H.ends := by rw [he]; exact List.mem_cons_self
  have e0 := ends_bd ok ee
  unfold endPairs at h
  rw [he] at h
  simp only [List.drop_one, List.tail_cons, List.headD_cons] at h
  have hs := ends_lt H
  rw [he] at hs
  obtain ⟨h1, h2, h3, h4⟩ := zip_next hs (fun x hx => by rw [← he] at hx; have := ends_bd ok hx; omega) h
  rw [← he] at h1 h2 h4
  have emin : ∀ z ∈ H.ends, e ≤ z := by
    intro z hz
    rw [List.pairwise_cons] at hs
    rw [he] at hz
    rcases List.mem_cons.mp hz with rfl | hz
    · exact Int.le_refl _
    · exact Int.le_of_lt (hs.1 z hz)
  have a0 := ends_bd ok h1
  have fin : H.nxt (a + 1) = b := by
    apply Int.le_antisymm
    · rcases h2 with h2 | h2
      · obtain ⟨d, q1, q2⟩ := end_day ok (k := 0) h2
        have := nxt_le ok q1 (t := a + 1) (by omega)
        omega
      · obtain ⟨d, q1, q2⟩ := end_day ok (k := 1) ee
        have := nxt_le ok q1 (t := a + 1) (by omega)
        omega
    · have is := dayOf_is ok (a + 1)
      have hy : H.nxt (a + 1) % H.yd ∈ H.ends := (ends_mem ok).mpr ⟨_, is.1.1, rfl⟩
      have ge := nxt_ge ok (a + 1)
      by_cases q : H.nxt (a + 1) < H.yd
      · rw [Int.emod_eq_of_lt (by omega) q] at hy
        exact h4 _ hy (by omega)
      · have t2 := Int.emod_add_mul_ediv (H.nxt (a + 1)) H.yd
        have := emin _ hy
        have b2 := ends_bd ok hy
        have hb : b ≤ e + H.yd := by
          rcases h2 with h2 | h2
          · have := ends_bd ok h2; omega
          · omega
        have k1 : 1 ≤ H.nxt (a + 1) / H.yd := by
          rw [Int.le_ediv_iff_mul_le y0]; omega
        have : H.yd * 1 ≤ H.yd * (H.nxt (a + 1) / H.yd) := Int.mul_le_mul_of_nonneg_left k1 (by omega)
        omega
  refine ⟨h1, fin, ?_, h3, ?_⟩
  · obtain ⟨d, q1, q2⟩ := end_day ok (k := 0) h1
    have := nxt_le ok q1 (t := a) (by omega)
    have := nxt_ge ok a
    omega
  · have := nxt_lt ok (a + 1)
    omega
theorem ends_cover (ok : H.Ok) (t : Int) : ∃ a b k, (a, b) ∈ H.endPairs ∧ a + k * H.yd < t ∧ t ≤ b + k * H.yd := by
  have y0 := ok.y0
  obtain ⟨e, r, he⟩ := ends_ne ok
  have e1 := Int.emod_add_mul_ediv (t - e - 1) H.yd
  have r0 := Int.emod_nonneg (t - e - 1) (show H.yd ≠ 0 by omega)
  have r1 := Int.emod_lt_of_pos (t - e - 1) y0
  rw [Int.mul_comm] at e1
  obtain ⟨a, b, h1, h2, h3⟩ := zip_cover (e := e) (z := e + H.yd) (x := t - (t - e - 1) / H.yd * H.yd) (r := r) (by omega) (by omega)
  refine ⟨a, b, (t - e - 1) / H.yd, ?_, by omega, by omega⟩
  unfold endPairs
  rw [he]
  simpa using h1
theorem strN_get {p : Int × Int} (h : p ∈ H.strN) : ∃ a b, (a, b) ∈ H.endPairs ∧ a + 1 ≤ b - H.most - 1 ∧ p = H.strOf (a, b) := by
  unfold strN at h
  obtain ⟨⟨a, b⟩, h1, rfl⟩ := List.mem_map.mp h
  obtain ⟨h2, h3⟩ := List.mem_filter.mp h1
  exact ⟨a, b, h2, of_decide_eq_true h3, rfl⟩
theorem strN_mk {a b : Int} (h : (a, b) ∈ H.endPairs) (h2 : a + 1 ≤ b - H.most - 1) : H.strOf (a, b) ∈ H.strN :=
  List.mem_map.mpr ⟨(a, b), List.mem_filter.mpr ⟨h, decide_eq_true h2⟩, rfl⟩
theorem strL_mem {p : Int × Int} : p ∈ H.strL ↔ p ∈ H.strN := (List.mergeSort_perm _ _).mem_iff
theorem str_bd (ok : H.Ok) {p : Int × Int} (h : p ∈ H.strN) : 0 ≤ p.1 ∧ p.1 < H.yd ∧ p.1 ≤ p.2 ∧ p.2 < p.1 + H.yd := by
  have y0 := ok.y0
  have m0 := ok.m0
  obtain ⟨a, b, h1, h2, rfl⟩ := strN_get h
  have e := ends_next ok h1
  have r0 := Int.emod_nonneg (a + 1) (show H.yd ≠ 0 by omega)
  have r1 := Int.emod_lt_of_pos (a + 1) y0
  unfold strOf
  simp only
  omega
theorem str_at (ok : H.Ok) {p : Int × Int} (h : p ∈ H.strN) {t : Int} (ht : (t - p.1) % H.yd ≤ p.2 - p.1) : H.lostAt t = p.2 - p.1 + 1 - (t - p.1) % H.yd := by
  have y0 := ok.y0
  have m0 := ok.m0
  obtain ⟨a, b, h1, h2, rfl⟩ := strN_get h
  obtain ⟨ea, en, _, ab, ab2⟩ := ends_next ok h1
  have r0 := Int.emod_nonneg (t - (H.strOf (a, b)).1) (show H.yd ≠ 0 by omega)
  have e1 := Int.emod_add_mul_ediv (t - (H.strOf (a, b)).1) H.yd
  have e2 := Int.emod_add_mul_ediv (a + 1) H.yd
  generalize hj : (t - (H.strOf (a, b)).1) % H.yd = j at *
  generalize (t - (H.strOf (a, b)).1) / H.yd = m at *
  generalize hq : (a + 1) / H.yd = q at *
  have d1 : (H.strOf (a, b)).1 = (a + 1) % H.yd := rfl
  have d2 : (H.strOf (a, b)).2 - (H.strOf (a, b)).1 = b - H.most - 1 - (a + 1) := by unfold strOf; simp only; omega
  rw [d2] at ht ⊢
  have et : t = (a + 1 + j) + (m - q) * H.yd := by
    rw [Int.sub_mul, Int.mul_comm m, Int.mul_comm q]; omega
  have nx : H.nxt (a + 1 + j) = b := by rw [nxt_same ok (t := a + 1) (by omega) (by omega), en]
  unfold lostAt
  rw [et, nxt_add ok, nx, if_pos (by omega)]
  omega
theorem str_of (ok : H.Ok) {t : Int} (ht : 0 < H.lostAt t) : ∃ p ∈ H.strN, (t - p.1) % H.yd ≤ p.2 - p.1 := by
  have y0 := ok.y0
  have m0 := ok.m0
  obtain ⟨a, b, k, h1, h2, h3⟩ := ends_cover ok t
  obtain ⟨ea, en, _, ab, ab2⟩ := ends_next ok h1
  have nx : H.nxt (t - k * H.yd) = b := by rw [nxt_same ok (t := a + 1) (by omega) (by omega), en]
  have nx2 : H.nxt t = b + k * H.yd := by rw [← nx, ← nxt_add ok]; congr 1; omega
  unfold lostAt at ht
  rw [nx2] at ht
  have h4 : b + k * H.yd - H.most - t > 0 := by
    split at ht <;> omega
  refine ⟨H.strOf (a, b), strN_mk h1 (by omega), ?_⟩
  have e2 := Int.emod_add_mul_ediv (a + 1) H.yd
  have d1 : (H.strOf (a, b)).1 = (a + 1) % H.yd := rfl
  have d2 : (H.strOf (a, b)).2 - (H.strOf (a, b)).1 = b - H.most - 1 - (a + 1) := by unfold strOf; simp only; omega
  rw [d2, d1]
  have := emod_is (a := H.yd) (x := t - (a + 1) % H.yd) (q := k + (a + 1) / H.yd) (t := t - k * H.yd - (a + 1)) (by rw [Int.mul_add, Int.mul_comm H.yd k]; omega) (by omega) (by omega)
  rw [this.1]
  omega
/-- no stretch: nothing is lost -/
theorem str_no (ok : H.Ok) {t : Int} (h : ∀ p ∈ H.strN, p.2 - p.1 < (t - p.1) % H.yd) : H.lostAt t = 0 := by
  have l0 : 0 ≤ H.lostAt t := by have := to_lt ok t; unfold to at this; omega
  cases Int.lt_or_le 0 (H.lostAt t) with
  | inl q =>
    obtain ⟨p, h1, h2⟩ := str_of ok q
    have := h p h1
    omega
  | inr q => omega
/-- just ahead of a stretch nothing is lost -/
theorem str_ahead (ok : H.Ok) {p : Int × Int} (h : p ∈ H.strN) (k : Int) : H.to (p.1 - 1 + k * H.yd) = p.1 - 1 + k * H.yd := by
  have y0 := ok.y0
  have m0 := ok.m0
  obtain ⟨a, b, h1, h2, rfl⟩ := strN_get h
  obtain ⟨ea, en, na, ab, ab2⟩ := ends_next ok h1
  have e2 := Int.emod_add_mul_ediv (a + 1) H.yd
  have d1 : (H.strOf (a, b)).1 = (a + 1) % H.yd := rfl
  have : (H.strOf (a, b)).1 - 1 + k * H.yd = a + (k - (a + 1) / H.yd) * H.yd := by
    rw [d1, Int.sub_mul, Int.mul_comm ((a + 1) / H.yd)]; omega
  rw [this, to_add ok]
  unfold to lostAt
  rw [na, if_neg (by omega)]
  omega
theorem endPairs_len (H : Hill) : H.endPairs.length ≤ H.ends.length := by
  unfold endPairs
  rw [List.length_zip]; omega
theorem ends_len (ok : H.Ok) : H.ends.length ≤ H.endsN.length ∧ H.ends.length ≤ 60 := by
  have h1 := Hill.endsN_len H
  have h2 : H.ends.length = (keysI H.endsN).length := (sortI_perm _).length_eq
  have h3 := keysI_len H.endsN
  have := ok.len
  omega
theorem strN_len (ok : H.Ok) : H.strN.length ≤ H.ends.length ∧ H.strN.length ≤ 60 := by
  have h1 := endPairs_len H
  have h2 := (ends_len ok).2
  unfold strN
  rw [List.length_map]
  have := List.length_filter_le H.strP H.endPairs
  omega
theorem strL_len (H : Hill) : H.strL.length = H.strN.length := (List.mergeSort_perm _ _).length_eq
/-- the greatest total that is led to no more -/
def IsBack (H : Hill) (l e : Int) : Prop := ∀ t, H.to t ≤ l ↔ t ≤ e
theorem back_in (ok : H.Ok) {p : Int × Int} (h : p ∈ H.strN) {l : Int} (hl : (l - p.1 + 1) % H.yd ≤ p.2 - p.1 + 1) : H.IsBack l (l - (l - p.1 + 1) % H.yd) := by
  have y0 := ok.y0
  have bd := str_bd ok h
  have e1 := Int.emod_add_mul_ediv (l - p.1 + 1) H.yd
  have r0 := Int.emod_nonneg (l - p.1 + 1) (show H.yd ≠ 0 by omega)
  have r1 := Int.emod_lt_of_pos (l - p.1 + 1) y0
  generalize (l - p.1 + 1) % H.yd = j at *
  generalize (l - p.1 + 1) / H.yd = k at *
  rw [Int.mul_comm] at e1
  have h1 := str_ahead ok h k
  have h2 := str_at ok h (t := p.1 + k * H.yd) (by
    rw [show p.1 + k * H.yd - p.1 = k * H.yd by omega, Int.mul_emod_left]; omega)
  rw [show p.1 + k * H.yd - p.1 = k * H.yd by omega, Int.mul_emod_left] at h2
  intro t
  constructor
  · intro ht
    cases Int.lt_or_le (l - j) t with
    | inr q => exact q
    | inl q =>
      exfalso
      have := to_mono ok (show p.1 + k * H.yd ≤ t by omega)
      unfold to at this ht
      omega
  · intro ht
    have := to_mono ok (show t ≤ p.1 - 1 + k * H.yd by omega)
    omega
theorem back_out (ok : H.Ok) {l : Int} (h : ∀ p ∈ H.strN, p.2 - p.1 + 1 < (l - p.1 + 1) % H.yd) : H.IsBack l l := by
  have y0 := ok.y0
  have hl : H.lostAt l = 0 := by
    apply str_no ok
    intro p hp
    have h1 := h p hp
    have bd := str_bd ok hp
    have e1 := Int.emod_add_mul_ediv (l - p.1 + 1) H.yd
    have r0 := Int.emod_nonneg (l - p.1 + 1) (show H.yd ≠ 0 by omega)
    have r1 := Int.emod_lt_of_pos (l - p.1 + 1) y0
    have := emod_is (a := H.yd) (x := l - p.1) (q := (l - p.1 + 1) / H.yd) (t := (l - p.1 + 1) % H.yd - 1) (by omega) (by omega) (by omega)
    rw [this.1]
    omega
  intro t
  constructor
  · intro ht
    have := (to_lt ok t).1
    omega
  · intro ht
    have := to_mono ok ht
    unfold to at this
    unfold to
    omega
end Hill

/-! ### stretches, walked -/
theorem zip_pairs : ∀ l m : List Int, zipV (l.map Val.int) (m.map Val.int) = (l.zip m).map pairV
  | [], _ => by cases ‹List Int› <;> rfl
  | _ :: _, [] => rfl
  | a :: l, b :: m => by simp only [List.map_cons, zipV, List.zip_cons_cons, zip_pairs l m]
theorem i_zips_lv {S : Store} {xs ys : List Val} {R : List Val → Prop} (h : xs.length = ys.length) (q : R (zipV xs ys)) : OP (itemsOf S .zips [.lv xs, .lv ys]) R := ⟨_, by unfold itemsOf lstOf; simp only [Option.bind_some, if_pos h], q⟩
theorem fits_pairs (k : Nat) (ps : List (Int × Int)) : fitsL k (ps.map pairV) = true := by
  induction ps with
  | nil => unfold fitsL; rfl
  | cons p ps ih => simp only [List.map_cons, fitsL, ih, Bool.and_true]; rfl
theorem rows_pairs : ∀ ps : List (Int × Int), rowsOf (ps.map pairV) = some (ps.map fun p => [p.1, p.2])
  | [] => rfl
  | p :: ps => by simp only [List.map_cons, rowsOf, intsOf, Option.map_some, Option.bind_some, rows_pairs ps]
theorem sortR_pairs (ps : List (Int × Int)) : (sortR (ps.map fun p => [p.1, p.2])).map rowV = (ps.mergeSort Hill.lePair).map pairV := by
  unfold sortR
  rw [← List.map_mergeSort (r := Hill.lePair) (s := leRow) (f := fun p : Int × Int => [p.1, p.2]) (fun a _ b _ => rfl), List.map_map]; rfl
theorem sort_pairs {ps : List (Int × Int)} : (match intsOf (ps.map pairV) with
    | some ns => some (Val.lv ((sortI ns).map Val.int))
    | none => (rowsOf (ps.map pairV)).bind fun rs => if rowsOk rs = true then some (.lv ((sortR rs).map rowV)) else none) = some (.lv ((ps.mergeSort Hill.lePair).map pairV)) := by
  cases ps with
  | nil => simp [intsOf, sortI]
  | cons p ps =>
    have e : intsOf ((p :: ps).map pairV) = none := rfl
    rw [e, rows_pairs]
    simp only [Option.bind_some]
    rw [if_pos, sortR_pairs]
    unfold rowsOk
    rw [List.all_eq_true]
    intro r hr
    obtain ⟨q, hq, rfl⟩ := List.mem_map.mp hr
    rfl
theorem o_sortP_ref {S : Store} {n : Nat} {ps : List (Int × Int)} {R : Val → Prop} (hg : S[n]? = some (.lst (ps.map pairV))) (h : ps.length < 100000) (h0 : ∀ p ∈ ps, 0 ≤ p.1 ∧ 0 ≤ p.2) (q : R (.lv ((ps.mergeSort Hill.lePair).map pairV))) : OP (bltSem S .sorted (.ref n :: [])) R := by
  refine ⟨_, ?_, q⟩
  unfold bltSem lstOf
  simp only [hg, Option.bind_some]
  exact sort_pairs
theorem o_sortP_lv {S : Store} {ps : List (Int × Int)} {R : Val → Prop} (h : ps.length < 100000) (h0 : ∀ p ∈ ps, 0 ≤ p.1 ∧ 0 ≤ p.2) (q : R (.lv ((ps.mergeSort Hill.lePair).map pairV))) : OP (bltSem S .sorted (.lv (ps.map pairV) :: [])) R := by
  refine ⟨_, ?_, q⟩
  unfold bltSem lstOf
  simp only [Option.bind_some]
  exact sort_pairs
theorem gc_lst1 {S : Store} {o : Ob} {xs : List Val} (hf : fitsL S.length xs = true) : gc S (.ref (S.length + 1)) (S ++ [o, .lst xs]) = some (.lv xs, S) := by
  unfold gc
  rw [if_pos ⟨by simp, fun i o hi h => .inl (by rw [List.getElem?_append_left hi] at h; exact h)⟩]
  have h1 : Val.fits S.length (.ref (S.length + 1)) = false := by unfold Val.fits; exact decide_eq_false (by omega)
  have h2 : (S ++ [o, .lst xs])[S.length + 1]? = some (.lst xs) := by rw [List.getElem?_append_right (by omega), Nat.add_sub_cancel_left]; rfl
  have h3 : reify (S ++ [o, .lst xs]) S.length 8 (.ref (S.length + 1)) = some (.lv xs) := by
    unfold reify
    rw [if_neg (by rw [h1]; decide)]
    simp only [h2]
    rw [reifyL_fits hf]; rfl
  rw [h3]
  simp
@[reducible] def strV (H : Hill) (k : Nat) : List Val := (((H.endPairs.take k).filter H.strP).map H.strOf).map pairV
theorem call_strs {n : Nat} {H : Hill} (ok : H.Ok) {b : Bool} {S : Store} {Q : Val → Store → Prop} (hn : 10 ≤ n) (q : Q (.lv (H.strL.map pairV)) S) : CALL (orc Δ n) i_stretches [H.val b] S Q := by
  obtain ⟨n, rfl⟩ : ∃ n', n = n' + 4 := ⟨n - 4, by omega⟩
  have y0 := ok.y0
  have m0 := ok.m0
  obtain ⟨e, r, he⟩ := Hill.ends_ne ok
  have hl := Hill.ends_len ok
  have hsl := Hill.strN_len ok
  have big : (100 : Nat) ≤ sizeLine := by decide
  have hep : H.endPairs = H.ends.zip (H.ends.drop 1 ++ [e + H.yd]) := by unfold Hill.endPairs; rw [he]; rfl
  have hpl : H.endPairs.length = H.ends.length := by
    rw [hep, List.length_zip, he]; simp
  have key : RUN Δ (n + 4) i_stretches [H.val b] S fun v S2 => ∃ o, v = .ref (S.length + 1) ∧ S2 = S ++ [o, .lst (H.strL.map pairV)] := by
    walk_at "run"
    rw [← List.append_nil S]
    walk_at "wp"
    apply call_run (year_run ok b (n + 2) _) rfl
    walk_at "wp"
    apply call_run (ends_run ok b n _) (fits_lvI _ _)
    walk_at "wp"
    apply x_for
    walk_at "wp"
    rw [show cutL (H.ends.map Val.int) (some 1) none = (H.ends.map Val.int).drop 1 from cut_from _ 1]
    walk_at "wp"
    apply o_idx_lv (v := .int e) (by rw [he]; exact at_zero)
    walk_at "wp"
    apply o_cat (by simp only [List.length_map, List.length_singleton, List.length_drop]; omega)
    rw [show (H.ends.map Val.int).drop 1 ++ [Val.int (e + H.yd)] = (H.ends.drop 1 ++ [e + H.yd]).map Val.int by rw [List.map_append, List.map_drop]; rfl]
    walk_at "wp"
    refine ⟨rfl, i_zips_lv (by rw [he]; simp) ?_⟩
    rw [zip_pairs, ← hep]
    refine ⟨fun k ρ' S' => ∃ y4 y5 y6 y7, ρ' = [some (H.val b), some (.int H.yd), some (.lv (H.ends.map Val.int)), some (.ref (S.length + ([] : Store).length)), y4, y5, y6, y7] ∧ S' = S ++ ([] ++ [.lst (strV H k)]), ⟨_, _, _, _, rfl, rfl⟩, ?_, ?_⟩
    · rintro k y ρ' S' hy ⟨y4, y5, y6, y7, rfl, rfl⟩
      obtain ⟨hk, ey⟩ := List.getElem?_eq_some_iff.mp hy
      rw [List.length_map] at hk
      rw [List.getElem_map] at ey
      subst ey
      have stk : H.endPairs.take (k + 1) = H.endPairs.take k ++ [H.endPairs[k]] := by rw [List.take_succ_eq_append_getElem hk]
      obtain ⟨⟨a, c⟩, hp⟩ : ∃ p, H.endPairs[k] = p := ⟨_, rfl⟩
      rw [hp] at stk ⊢
      have lk : (strV H k).length ≤ k := by
        unfold strV
        rw [List.length_map, List.length_map]
        refine Nat.le_trans (List.length_filter_le _ _) ?_
        rw [List.length_take]; omega
      walk_at "wp"
      apply br_dec <;> intro hlo
      · walk_at "wp"
        refine a_2 (S3 := S ++ ([] ++ [.lst (strV H (k + 1))])) (xs := strV H k) (oget lget) (by omega) ?_ ?_
        · rw [oput lput]
          unfold strV
          rw [stk, List.filter_append, List.filter_cons, if_pos (show H.strP (a, c) = true from decide_eq_true hlo), List.filter_nil, List.map_append, List.map_append]
          rfl
        walk_at "wp"
        exact ⟨_, _, _, _, rfl, rfl⟩
      · walk_at "wp"
        refine ⟨_, _, _, _, rfl, ?_⟩
        unfold strV
        rw [stk, List.filter_append, List.filter_cons, if_neg (show ¬ H.strP (a, c) = true from fun h => hlo (of_decide_eq_true h)), List.filter_nil, List.append_nil]
    · rw [List.length_map]
      rintro ρ' S' ⟨y4, y5, y6, y7, rfl, rfl⟩
      have eS : strV H H.endPairs.length = H.strN.map pairV := by unfold strV Hill.strN; rw [List.take_length]
      rw [eS]
      walk_at "wp"
      apply o_sortP_ref (oget lget) (by omega) (fun p hp => by have := Hill.str_bd ok hp; omega)
      walk_at "wp"
      exact ⟨.lst (H.strN.map pairV), by simp, by simp; rfl⟩
  refine key.call fun v S1 ⟨o, e1, e2⟩ => ?_
  subst e1
  subst e2
  exact ⟨_, _, gc_lst1 (fits_pairs _ _), q⟩

/-! the last open day up to one -/
open Classical in
noncomputable def Hill.ou (H : Hill) (d : Int) : Int := if h : ∃ e, H.lit e = true ∧ e ≤ d ∧ ∀ x, H.lit x = true → x ≤ d → x ≤ e then h.choose else d
theorem Hill.ou_is {H : Hill} (ok : H.Ok) (d : Int) : H.lit (H.ou d) = true ∧ H.ou d ≤ d ∧ (∀ x, H.lit x = true → x ≤ d → x ≤ H.ou d) ∧ d - H.L < H.ou d := by
  have hl := ok.L0
  have h : ∃ e, H.lit e = true ∧ e ≤ d ∧ ∀ x, H.lit x = true → x ≤ d → x ≤ e := by
    obtain ⟨e, h1, h2, h3⟩ := Hill.lit_ex ok (d - H.L + 1)
    obtain ⟨e', _, _, h4⟩ := first_ex (P := fun x => H.lit (-x) = true ∧ -d ≤ x) (lo := -d) (hi := -e + 1) (fun y hy hp => by have := hp.2; omega) ⟨-e, by omega, by rw [Int.neg_neg]; exact h3, by omega⟩
    refine ⟨-e', h4.1.1, by have := h4.1.2; omega, fun x hx hxd => ?_⟩
    cases Int.lt_or_le (-e') x with
    | inr q => exact q
    | inl q => exact absurd ⟨by rw [Int.neg_neg]; exact hx, by omega⟩ (h4.2 (-x) (by omega))
  have e : H.ou d = h.choose := by unfold Hill.ou; rw [dif_pos h]
  have hs := h.choose_spec
  rw [← e] at hs
  refine ⟨hs.1, hs.2.1, hs.2.2, ?_⟩
  obtain ⟨x, h1, h2, h3⟩ := Hill.lit_ex ok (d - H.L + 1)
  have := hs.2.2 x h3 (by omega)
  omega
/-- gone by a day's evening -/
theorem Hill.day_by {H : Hill} (ok : H.Ok) {s : St3} (so : StOk H s) {e : Int} (he : s.day ≤ e) (k : Nat) : (H.stAt s k).day ≤ e ↔ H.lineAt s.ant (H.line s) k ≤ H.given (H.ou e) := by
  have hou := Hill.ou_is ok e
  constructor
  · intro h
    have sk := Hill.stAt_ok ok so k
    rw [← line_stAt ok so k]
    have := Hill.given_mono ok (hou.2.2.1 _ sk.lit h)
    unfold Hill.line
    have := sk.p0
    omega
  · intro h
    induction k with
    | zero => exact he
    | succ k ih =>
      have sk := Hill.stAt_ok ok so k
      have nb := need_bd ok sk.a0 sk.a1
      have l1 : H.lineAt s.ant (H.line s) (k + 1) = H.to (H.total (H.stAt s k)) := by
        rw [← line_stAt ok so (k + 1)]
        exact (Hill.next_line ok sk nb.1).1
      have l0 : H.line (H.stAt s k) = H.lineAt s.ant (H.line s) k := line_stAt ok so k
      have tl := (Hill.to_lt ok (H.total (H.stAt s k))).1
      have e2 : H.total (H.stAt s k) = H.line (H.stAt s k) + H.need (H.stAt s k).ant := rfl
      have h1 := ih (by omega)
      have is := Hill.dayOf_is ok (H.total (H.stAt s k))
      show H.sitDay (H.stAt s k) ≤ e
      unfold Hill.sitDay
      have h2 : H.dayOf (H.total (H.stAt s k)) ≤ H.ou e := by
        cases Int.lt_or_le (H.ou e) (H.dayOf (H.total (H.stAt s k))) with
        | inr q => exact q
        | inl q => exact absurd ⟨hou.1, by omega⟩ (is.2 _ q)
      split <;> omega
theorem Hill.stAt_day {H : Hill} (ok : H.Ok) {s : St3} (so : StOk H s) (k : Nat) : s.day ≤ (H.stAt s k).day := by
  induction k with
  | zero => exact Int.le_refl _
  | succ k ih => exact Int.le_trans ih (Hill.sit_is ok (Hill.stAt_ok ok so k)).1.2.2

/-! ### values of one form, compared -/
structure DatP {α : Type} (f : α → Val) (g : α → PyData) (d : Nat) : Prop where
  td : ∀ S k a, toData S (k + d) (f a) = some (g a)
  lay : ∀ a, (g a).canLay0 = true
  dep : ∀ a, (g a).depth ≤ d
structure DatE {α : Type} (f : α → Val) (g : α → PyData) (d : Nat) : Prop extends DatP f g d where
  inj : ∀ a b, PyData.eqv (g a) (g b) = true ↔ a = b
section
variable {α β : Type} {f : α → Val} {g : α → PyData} {f' : β → Val} {g' : β → PyData} {d d' : Nat}
theorem DatP.tds (h : DatP f g d) (S : Store) (k : Nat) (xs : List α) : toDatas S (k + d + 1) (xs.map f) = some (xs.map g) := by
  induction xs with
  | nil => simp [toDatas]
  | cons x xs ih => simp only [List.map_cons, toDatas, h.td, ih, Option.bind_some, Option.map_some]
theorem DatP.lays (h : DatP f g d) (xs : List α) : PyData.canLayAll0 (xs.map g) = true ∧ PyData.depthAll (xs.map g) ≤ d + 1 := by
  induction xs with
  | nil => simp [PyData.canLayAll0, PyData.depthAll]
  | cons x xs ih =>
    have h1 := h.lay x
    have h2 := h.dep x
    simp [PyData.canLayAll0, PyData.depthAll, ih.1, h1]; omega
theorem DatE.eqvs (h : DatE f g d) : ∀ xs ys : List α, PyData.eqvAll (xs.map g) (ys.map g) = true ↔ xs = ys
  | [], [] => by simp [PyData.eqvAll]
  | [], _ :: _ => by simp [PyData.eqvAll]
  | _ :: _, [] => by simp [PyData.eqvAll]
  | x :: xs, y :: ys => by
    simp only [List.map_cons, PyData.eqvAll, Bool.and_eq_true, h.inj, h.eqvs xs ys, List.cons.injEq]
theorem DatE.int : DatE Val.int PyData.int 1 := ⟨⟨fun S k a => by simp [toData], fun a => by simp [PyData.canLay0], fun a => by simp [PyData.depth]⟩, fun a b => by simp [PyData.eqv]⟩
theorem DatP.list (h : DatP f g d) : DatP (fun xs : List α => .lv (xs.map f)) (fun xs => .list (xs.map g)) (d + 2) :=
  ⟨fun S k xs => by rw [show k + (d + 2) = (k + d + 1) + 1 by omega]; simp only [toData, h.tds, Option.map_some],
   fun xs => by simp only [PyData.canLay0]; exact (h.lays xs).1,
   fun xs => by simp only [PyData.depth]; have := (h.lays xs).2; omega⟩
theorem DatE.list (h : DatE f g d) : DatE (fun xs : List α => .lv (xs.map f)) (fun xs => .list (xs.map g)) (d + 2) :=
  ⟨h.toDatP.list, fun a b => by simp only [PyData.eqv]; exact h.eqvs a b⟩
theorem DatP.pair (h : DatP f g d) (h' : DatP f' g' d) : DatP (fun p : α × β => .tup [f p.1, f' p.2]) (fun p => .tuple [g p.1, g' p.2]) (d + 2) :=
  ⟨fun S k p => by
    rw [show k + (d + 2) = (k + d + 1) + 1 by omega]
    have h1 := h.td S k p.1
    have h2 := h'.td S k p.2
    simp only [toData, toDatas, h1, h2, Option.bind_some, Option.map_some],
   fun p => by simp [PyData.canLay0, PyData.canLayAll0, h.lay, h'.lay],
   fun p => by
    have h1 := h.dep p.1
    have h2 := h'.dep p.2
    simp [PyData.depth, PyData.depthAll]; omega⟩
theorem DatE.pair (h : DatE f g d) (h' : DatE f' g' d) : DatE (fun p : α × β => .tup [f p.1, f' p.2]) (fun p => .tuple [g p.1, g' p.2]) (d + 2) :=
  ⟨h.toDatP.pair h'.toDatP, fun a b => by
    obtain ⟨a1, a2⟩ := a
    obtain ⟨b1, b2⟩ := b
    simp only [PyData.eqv, PyData.eqvAll, Bool.and_true, Bool.and_eq_true, h.inj, h'.inj, Prod.mk.injEq]⟩
theorem DatP.lift (h : DatP f g d) (k : Nat) : DatP f g (d + k) := ⟨fun S j a => by rw [show j + (d + k) = (j + k) + d by omega]; exact h.td S _ a, h.lay, fun a => by have := h.dep a; omega⟩
theorem DatE.lift (h : DatE f g d) (k : Nat) : DatE f g (d + k) := ⟨h.toDatP.lift k, h.inj⟩
theorem DatP.shaped (h : DatP f g d) (hd : d ≤ 20) (a : α) : SeqAt.shaped (g a) = true := by
  have h1 := h.lay a
  have h2 := h.dep a
  simp [SeqAt.shaped, h1]; omega
theorem DatE.eqL (h : DatE f g d) (hd : d ≤ 18) (S : Store) (xs ys : List α) : ∃ b : Bool, eqSem S (.lv (xs.map f)) (.lv (ys.map f)) = some b ∧ (b = true ↔ xs = ys) := by
  have hl := h.list
  have e : ∀ zs : List α, toData S 20 (.lv (zs.map f)) = some (.list (zs.map g)) := by
    intro zs
    have := hl.td S (18 - d) zs
    rw [show 18 - d + (d + 2) = 20 by omega] at this
    exact this
  refine ⟨PyData.eqv (.list (xs.map g)) (.list (ys.map g)), ?_, hl.inj xs ys⟩
  have s : ∀ zs : List α, SeqAt.shaped (.list (zs.map g)) = true := hl.toDatP.shaped (by omega)
  simp only [eqSem, e, Option.bind_some, s, and_self, if_true]
theorem DatE.o_eq (h : DatE f g d) (hd : d ≤ 18) {S : Store} {xs ys : List α} {R : Bool → Prop} (q1 : xs = ys → R true) (q2 : xs ≠ ys → R false) : OP (cmpSem S .eq (.lv (xs.map f)) (.lv (ys.map f))) R := by
  obtain ⟨b, h1, h2⟩ := h.eqL hd S xs ys
  refine ⟨b, by unfold cmpSem; exact h1, ?_⟩
  cases b with
  | true => exact q1 (h2.mp rfl)
  | false => exact q2 fun e => by have := h2.mpr e; cases this
theorem DatE.o_ne (h : DatE f g d) (hd : d ≤ 18) {S : Store} {xs ys : List α} {R : Bool → Prop} (q1 : xs = ys → R false) (q2 : xs ≠ ys → R true) : OP (cmpSem S .ne (.lv (xs.map f)) (.lv (ys.map f))) R := by
  obtain ⟨b, h1, h2⟩ := h.eqL hd S xs ys
  refine ⟨!b, by unfold cmpSem; simp only [h1, Option.map_some], ?_⟩
  cases b with
  | true => exact q1 (h2.mp rfl)
  | false => exact q2 fun e => by have := h2.mpr e; cases this
/-- a list beside the bare one -/
theorem DatP.eqNil (h : DatP f g d) (hd : d ≤ 18) (S : Store) (xs : List α) : eqSem S (.lv (xs.map f)) (.lv []) = some xs.isEmpty := by
  have hl := h.list
  have e : toData S 20 (.lv (xs.map f)) = some (.list (xs.map g)) := by
    have := hl.td S (18 - d) xs
    rw [show 18 - d + (d + 2) = 20 by omega] at this
    exact this
  have s : SeqAt.shaped (.list (xs.map g)) = true := hl.shaped (by omega) xs
  have s0 : SeqAt.shaped (.list []) = true := by simp [SeqAt.shaped, PyData.canLay0, PyData.canLayAll0, PyData.depth, PyData.depthAll]
  have e0 : toData S 20 (.lv []) = some (.list []) := by simp [toData, toDatas]
  simp only [eqSem, e, e0, Option.bind_some, s, s0, and_self, if_true]
  cases xs <;> simp [PyData.eqv, PyData.eqvAll]
theorem DatP.o_eqNil (h : DatP f g d) (hd : d ≤ 18) {S : Store} {xs : List α} {R : Bool → Prop} (q : R xs.isEmpty) : OP (cmpSem S .eq (.lv (xs.map f)) (.lv [])) R := ⟨_, by unfold cmpSem; exact h.eqNil hd S xs, q⟩
theorem DatP.o_neNil (h : DatP f g d) (hd : d ≤ 18) {S : Store} {xs : List α} {R : Bool → Prop} (q : R (!xs.isEmpty)) : OP (cmpSem S .ne (.lv (xs.map f)) (.lv [])) R := ⟨_, by unfold cmpSem; simp only [h.eqNil hd S xs, Option.map_some], q⟩
end
theorem DatE.pairI : DatE pairV (fun p => .tuple [.int p.1, .int p.2]) 3 := DatE.int.pair DatE.int
theorem DatP.turn : DatP (fun p : St3 × Int => turnV p.1 p.2) (fun p => .tuple [.tuple [.int p.1.day, .int p.1.ant, .int p.1.pot], .int p.2]) 5 :=
  ⟨fun S k p => by rw [show k + 5 = k + 4 + 1 by omega]; simp [toData, toDatas, turnV, stV, sq],
   fun p => by simp [PyData.canLay0, PyData.canLayAll0],
   fun p => by simp [PyData.depth, PyData.depthAll]⟩
theorem o_sortI_ref {S : Store} {n : Nat} {ns : List Int} {R : Val → Prop} (hg : S[n]? = some (.lst (ns.map Val.int))) (q : R (.lv ((sortI ns).map Val.int))) : OP (bltSem S .sorted (.ref n :: [])) R := ⟨_, by unfold bltSem lstOf; simp only [hg, Option.bind_some, ints_map], q⟩
section
variable {α : Type} {f : α → Val} {g : α → PyData} {d : Nat}
theorem eqSem_lst {S : Store} {v w : Val} {xs ys : List Val} {ds es : List PyData} (hv : lstOf S v = some xs) (hw : lstOf S w = some ys) (h1 : toDatas S 19 xs = some ds) (h2 : toDatas S 19 ys = some es) (s1 : SeqAt.shaped (.list ds) = true) (s2 : SeqAt.shaped (.list es) = true) : eqSem S v w = some (PyData.eqv (.list ds) (.list es)) := by
  have td : ∀ {v : Val} {xs : List Val} {ds : List PyData}, lstOf S v = some xs → toDatas S 19 xs = some ds → toData S 20 v = some (.list ds) := by
    intro v xs ds hv h1
    cases v with
    | lv ys => cases hv; simp only [toData, h1, Option.map_some]
    | ref n =>
      have e : ∃ ys, S[n]? = some (.lst ys) ∧ ys = xs := by
        unfold lstOf at hv
        simp only at hv
        split at hv
        · rename_i ys e
          exact ⟨ys, e, Option.some.inj hv⟩
        · cases hv
      obtain ⟨ys, e, rfl⟩ := e
      simp only [toData, e, h1, Option.map_some]
    | _ => cases hv
  have t1 := td hv h1
  have t2 := td hw h2
  have e : eqSem S v w = (toData S 20 v).bind fun d => (toData S 20 w).bind fun e => if SeqAt.shaped d = true ∧ SeqAt.shaped e = true then some (PyData.eqv d e) else none := by
    cases v with
    | lv ys => cases w <;> first | rfl | cases hw
    | ref n => cases w <;> first | rfl | cases hw
    | _ => cases hv
  rw [e, t1, t2]
  simp only [Option.bind_some, s1, s2, and_self, if_true]
theorem DatE.eqS (h : DatE f g d) (hd : d ≤ 18) {S : Store} {v w : Val} {xs ys : List α} (hv : lstOf S v = some (xs.map f)) (hw : lstOf S w = some (ys.map f)) : ∃ b : Bool, eqSem S v w = some b ∧ (b = true ↔ xs = ys) := by
  have hl := h.list
  have e : ∀ zs : List α, toDatas S 19 (zs.map f) = some (zs.map g) := by
    intro zs
    have := h.tds S (18 - d) zs
    rw [show 18 - d + d + 1 = 19 by omega] at this
    exact this
  have s : ∀ zs : List α, SeqAt.shaped (.list (zs.map g)) = true := hl.toDatP.shaped (by omega)
  exact ⟨_, eqSem_lst hv hw (e xs) (e ys) (s xs) (s ys), hl.inj xs ys⟩
theorem DatE.o_eqS (h : DatE f g d) (hd : d ≤ 18) {S : Store} {v w : Val} {xs ys : List α} {R : Bool → Prop} (hv : lstOf S v = some (xs.map f)) (hw : lstOf S w = some (ys.map f)) (q1 : xs = ys → R true) (q2 : xs ≠ ys → R false) : OP (cmpSem S .eq v w) R := by
  obtain ⟨b, h1, h2⟩ := h.eqS hd hv hw
  refine ⟨b, (by unfold cmpSem; exact h1), ?_⟩
  cases b with
  | true => exact q1 (h2.mp rfl)
  | false => exact q2 fun e => by have := h2.mpr e; cases this
theorem DatE.o_neS (h : DatE f g d) (hd : d ≤ 18) {S : Store} {v w : Val} {xs ys : List α} {R : Bool → Prop} (hv : lstOf S v = some (xs.map f)) (hw : lstOf S w = some (ys.map f)) (q1 : xs = ys → R false) (q2 : xs ≠ ys → R true) : OP (cmpSem S .ne v w) R := by
  obtain ⟨b, h1, h2⟩ := h.eqS hd hv hw
  refine ⟨!b, (by unfold cmpSem; simp only [h1, Option.map_some]), ?_⟩
  cases b with
  | true => exact q1 (h2.mp rfl)
  | false => exact q2 fun e => by have := h2.mpr e; cases this
end

theorem enum_at {es : List Int} {k : Nat} {y : Val} (h : (enumFrom 0 (es.map Val.int))[k]? = some y) : k < es.length ∧ y = .tup [.int k, .int (es.getD k 0)] := by
  rw [enum_map] at h
  obtain ⟨hk, ey⟩ := List.getElem?_eq_some_iff.mp h
  rw [List.length_map, List.length_zipIdx] at hk
  rw [List.getElem_map, List.getElem_zipIdx] at ey
  refine ⟨hk, ?_⟩
  rw [← ey, List.getD_eq_getElem?_getD, List.getElem?_eq_getElem hk]
  simp

/-! stretches of hills with other pots -/
theorem lePair_iff {a b : Int × Int} : Hill.lePair a b = true ↔ a.1 < b.1 ∨ (a.1 = b.1 ∧ a.2 ≤ b.2) := by
  unfold Hill.lePair
  simp only [leRow, Bool.or_eq_true, Bool.and_eq_true, decide_eq_true_eq, and_true]
  constructor
  · rintro (h | ⟨h, h2 | h2⟩) <;> omega
  · rintro (h | ⟨h, h2⟩)
    · exact .inl h
    · exact .inr ⟨h, by omega⟩
theorem pairs_sorted (ps : List (Int × Int)) : (ps.mergeSort Hill.lePair).Pairwise (fun a b => Hill.lePair a b = true) :=
  List.pairwise_mergeSort (fun a b c h1 h2 => by rw [lePair_iff] at *; omega) (fun a b => by
    rw [Bool.or_eq_true, lePair_iff, lePair_iff]; omega) ps
theorem pairs_uniq {ps qs : List (Int × Int)} (hp : ps.Perm qs) (h1 : ps.Pairwise (fun a b => Hill.lePair a b = true)) (h2 : qs.Pairwise (fun a b => Hill.lePair a b = true)) : ps = qs :=
  hp.eq_of_pairwise (fun a b _ _ x y => by
    rw [lePair_iff] at x y
    obtain ⟨a1, a2⟩ := a
    obtain ⟨b1, b2⟩ := b
    simp only at x y
    rw [Prod.mk.injEq]; omega) h1 h2
theorem wider_strN (H : Hill) : Hill.strN ⟨H.year, H.needs, H.most + 1⟩ = (H.strN.filter fun p => decide (p.1 < p.2)).map fun p => (p.1, p.2 - 1) := by
  have e : Hill.endPairs ⟨H.year, H.needs, H.most + 1⟩ = H.endPairs := rfl
  unfold Hill.strN
  rw [e]
  generalize H.endPairs = l
  induction l with
  | nil => rfl
  | cons p l ih =>
    have yd' : Hill.yd ⟨H.year, H.needs, H.most + 1⟩ = H.yd := rfl
    have q1 : Hill.strP ⟨H.year, H.needs, H.most + 1⟩ p = decide (p.1 + 1 ≤ p.2 - (H.most + 1) - 1) := rfl
    have q2 : Hill.strP H p = decide (p.1 + 1 ≤ p.2 - H.most - 1) := rfl
    have q3 : (H.strOf p).1 < (H.strOf p).2 ↔ p.1 + 1 ≤ p.2 - (H.most + 1) - 1 := by unfold Hill.strOf; simp only; omega
    have q4 : Hill.strOf ⟨H.year, H.needs, H.most + 1⟩ p = ((H.strOf p).1, (H.strOf p).2 - 1) := by
      unfold Hill.strOf
      rw [yd', Prod.mk.injEq]
      exact ⟨rfl, by simp only; omega⟩
    rw [List.filter_cons, List.filter_cons, q1, q2]
    by_cases h : p.1 + 1 ≤ p.2 - (H.most + 1) - 1
    · rw [if_pos (decide_eq_true h), if_pos (decide_eq_true (by omega)), List.map_cons, List.map_cons, List.filter_cons, if_pos (decide_eq_true (q3.mpr h)), List.map_cons, ih, q4]
    · rw [if_neg (by rw [decide_eq_true_eq]; exact h), ih]
      split
      · rw [List.map_cons, List.filter_cons, if_neg (by rw [decide_eq_true_eq, q3]; exact h)]
      · rfl
theorem wider_strL (H : Hill) : Hill.strL ⟨H.year, H.needs, H.most + 1⟩ = (H.strL.filter fun p => decide (p.1 < p.2)).map fun p => (p.1, p.2 - 1) := by
  apply pairs_uniq
  · unfold Hill.strL
    refine (List.mergeSort_perm _ _).trans ?_
    rw [wider_strN]
    exact ((List.mergeSort_perm _ _).symm.filter _).map _
  · exact pairs_sorted _
  · rw [List.pairwise_map]
    refine List.Pairwise.filter _ ((pairs_sorted H.strN).imp fun {a b} h => ?_)
    rw [lePair_iff] at h ⊢
    simp only
    omega
theorem full_strL {H : Hill} (ok : H.Ok) : Hill.strL ⟨H.year, H.needs, H.yd⟩ = [] := by
  have e : Hill.endPairs ⟨H.year, H.needs, H.yd⟩ = H.endPairs := rfl
  unfold Hill.strL Hill.strN
  rw [e, List.filter_eq_nil_iff.mpr]
  · simp
  · rintro ⟨a, b⟩ hp h
    have := Hill.ends_next ok hp
    have h : a + 1 ≤ b - H.yd - 1 := of_decide_eq_true h
    omega
theorem strL_lit {H : Hill} (ok : H.Ok) : H.strL.length ≤ (H.year.filter fun p => p.2).length := by
  have h1 := (Hill.strN_len ok).1
  have h2 := (Hill.ends_len ok).1
  have h3 : H.endsN.length = (H.year.filter fun p => p.2).length := by
    unfold Hill.endsN
    rw [List.length_map, ← List.countP_eq_length_filter, ← List.countP_eq_length_filter]
    have : H.year = H.year.zipIdx.map (·.1) := by simp
    conv => rhs; rw [this, List.countP_map]
    rfl
  rw [Hill.strL_len]
  omega

/-! ### needs around the ring -/
namespace Hill
variable {H : Hill}
def ring (H : Hill) : Int := H.needs.sum
theorem needSum_zero (H : Hill) (a : Int) : H.needSum a 0 = 0 := rfl
theorem rot_is (ok : H.Ok) {a : Nat} (ha : a < H.needs.length) : H.needs.drop a ++ H.needs.take a = (List.range H.needs.length).map fun (k : Nat) => H.need (((a : Int) + (k : Int)) % H.needs.length) := by
  apply List.ext_getElem
  · simp; omega
  · intro k h1 h2
    have hk : k < H.needs.length := by simpa using h2
    rw [List.getElem_map, List.getElem_range]
    unfold need
    rw [List.getD_eq_getElem?_getD]
    by_cases q : k < H.needs.length - a
    · rw [List.getElem_append_left (by simpa using q), List.getElem_drop]
      have e : (((a : Int) + (k : Int)) % H.needs.length).toNat = a + k := by
        rw [Int.emod_eq_of_lt (by omega) (by omega)]; omega
      rw [e, List.getElem?_eq_getElem (by omega)]; rfl
    · rw [List.getElem_append_right (by simp; omega), List.getElem_take]
      have e : (((a : Int) + (k : Int)) % H.needs.length).toNat = a + k - H.needs.length := by
        have := emod_is (a := (H.needs.length : Int)) (x := (a : Int) + (k : Int)) (q := 1) (t := (a : Int) + (k : Int) - H.needs.length) (by omega) (by omega) (by omega)
        rw [this.1]; omega
      have e2 : k - (H.needs.drop a).length = a + k - H.needs.length := by simp; omega
      rw [e, List.getElem?_eq_getElem (by omega)]
      simp only [e2, Option.getD_some]
theorem rot_take (ok : H.Ok) {a r : Nat} (ha : a < H.needs.length) (hr : r ≤ H.needs.length) : ((H.needs.drop a ++ H.needs.take a).take r).sum = H.needSum a r := by
  rw [rot_is ok ha, ← List.map_take, List.take_range, Nat.min_eq_left hr]; rfl
theorem needSum_full (ok : H.Ok) {a : Int} (h0 : 0 ≤ a) (h1 : a < H.needs.length) : H.needSum a H.needs.length = H.ring := by
  obtain ⟨a, rfl⟩ := Int.eq_ofNat_of_zero_le h0
  rw [← rot_take ok (show a < H.needs.length by omega) (Nat.le_refl _), List.take_of_length_le (by simp; omega), List.sum_append]
  unfold ring
  conv => rhs; rw [← List.take_append_drop a H.needs, List.sum_append]
  omega
theorem needSum_join (H : Hill) (a : Int) (j k : Nat) : H.needSum a (j + k) = H.needSum a j + H.needSum ((a + j) % H.needs.length) k := by
  induction k with
  | zero => simp [needSum]
  | succ k ih =>
    rw [show j + (k + 1) = (j + k) + 1 by omega, needSum_succ, needSum_succ, ih, Int.emod_add_emod, Int.natCast_add]
    rw [← Int.add_assoc a]; omega
theorem needSum_rounds (ok : H.Ok) (a : Int) (q r : Nat) : H.needSum a (q * H.needs.length + r) = q * H.ring + H.needSum a r := by
  have ne := ok.ne
  induction q with
  | zero => simp
  | succ q ih =>
    have e1 : (q + 1) * H.needs.length + r = (q * H.needs.length + r) + H.needs.length := by rw [Nat.succ_mul]; omega
    rw [e1, needSum_join, ih, needSum_full ok (ant_ok ok _).1 (ant_ok ok _).2, Int.natCast_succ, Int.add_mul]
    omega
theorem needSum_mod (H : Hill) (a : Int) (m : Nat) : H.needSum (a % H.needs.length) m = H.needSum a m := by
  unfold needSum
  congr 1
  apply List.map_congr_left
  intro k _
  rw [Int.emod_add_emod]
theorem needSum_le (ok : H.Ok) (a : Int) {j k : Nat} (h : j ≤ k) : H.needSum a j + (k - j : Nat) ≤ H.needSum a k := by
  obtain ⟨d, rfl⟩ : ∃ d, k = j + d := ⟨k - j, by omega⟩
  rw [Nat.add_sub_cancel_left]
  clear h
  induction d with
  | zero => simp
  | succ d ih =>
    rw [show j + (d + 1) = (j + d) + 1 by omega, needSum_succ]
    have r := ant_ok ok (a + ((j + d : Nat) : Int))
    have := (need_bd ok r.1 r.2).1
    omega
theorem ring_bd (ok : H.Ok) : 1 ≤ H.ring ∧ H.ring ≤ 60 * 10 ^ 17 := by
  have h1 := ok.n0
  have h2 := ok.nb
  have h3 := ok.ne
  have h4 := ok.nl
  unfold ring
  have key : ∀ ns : List Int, (∀ n ∈ ns, 1 ≤ n) → (∀ n ∈ ns, n ≤ 10 ^ 17) → (ns.length : Int) ≤ ns.sum ∧ ns.sum ≤ ns.length * 10 ^ 17 := by
    intro ns
    induction ns with
    | nil => intro _ _; simp
    | cons n ns ih =>
      intro p q
      have := ih (fun x hx => p x (List.mem_cons_of_mem _ hx)) (fun x hx => q x (List.mem_cons_of_mem _ hx))
      have := p n List.mem_cons_self
      have := q n List.mem_cons_self
      simp only [List.length_cons, List.sum_cons]
      omega
  have := key H.needs h1 h2
  omega
/-- a turn, counted from 1, in which something is lost -/
def Lossy (H : Hill) (a l : Int) (m : Nat) : Prop := 0 < m ∧ 0 < H.lostAt (l + H.needSum a m)
/-- the first one -/
def IsNext (H : Hill) (a l : Int) : Option Nat → Prop
  | some m => H.Lossy a l m ∧ ∀ k, k < m → ¬ H.Lossy a l k
  | none => ∀ k, ¬ H.Lossy a l k
theorem lost0 (ok : H.Ok) (t : Int) : 0 ≤ H.lostAt t := by
  have := to_lt ok t
  unfold to at this; omega
/-- ahead of the next loss the line goes by needs alone -/
theorem line_till (ok : H.Ok) {a l : Int} {m : Nat} (h : ∀ k, k ≤ m → ¬ H.Lossy a l k) : H.lineAt a l m = l + H.needSum a m := by
  induction m with
  | zero => simp [needSum, lineAt]
  | succ m ih =>
    have ih := ih fun k hk => h k (by omega)
    show H.to (H.lineAt a l m + H.need ((a + m) % H.needs.length)) = _
    rw [ih, needSum_succ]
    have hn := h (m + 1) (Nat.le_refl _)
    unfold Lossy at hn
    rw [needSum_succ] at hn
    have l0 := lost0 ok (l + (H.needSum a m + H.need ((a + m) % H.needs.length)))
    rw [show l + H.needSum a m + H.need ((a + m) % H.needs.length) = l + (H.needSum a m + H.need ((a + m) % H.needs.length)) by omega]
    unfold to
    omega
theorem line_next (ok : H.Ok) {a l : Int} {m : Nat} (h : H.IsNext a l (some m)) : H.lineAt a l m = H.to (l + H.needSum a m) := by
  obtain ⟨⟨m0, _⟩, h2⟩ := h
  obtain ⟨j, rfl⟩ : ∃ j, m = j + 1 := ⟨m - 1, by omega⟩
  show H.to (H.lineAt a l j + H.need ((a + j) % H.needs.length)) = _
  rw [line_till ok fun k hk => h2 k (by omega), needSum_succ]
  congr 1; omega
end Hill

@[reducible] def ovN : Option Nat → Val
  | some m => .int m
  | none => .non
theorem ovN_fits (k : Nat) (r : Option Nat) : (ovN r).fits k = true := by cases r <;> rfl

theorem oget0 {S A : Store} {o : Ob} (h : A[0]? = some o) : (S ++ A)[S.length]? = some o := oget (j := 0) h
theorem oput0 {S A A' : Store} {o : Ob} (h : A.set 0 o = A') : (S ++ A).set S.length o = S ++ A' := oput (j := 0) h
theorem o_notT {S : Store} {xs : List Val} {RB : Bool → Prop} (q : RB true) : OP (cmpSem S .isnot (.tup xs) .non) RB := ⟨_, rfl, q⟩
theorem o_isT {S : Store} {xs : List Val} {RB : Bool → Prop} (q : RB false) : OP (cmpSem S .is (.tup xs) .non) RB := ⟨_, rfl, q⟩
theorem o_slc_ref {S : Store} {n : Nat} {xs : List Val} {lo hi : Option Int} {R : Val → Prop} (h : S[n]? = some (.lst xs)) (q : R (.lv (cutL xs lo hi))) : OP (slcSem S (.ref n) lo hi) R := ⟨_, by show (lstOf S (.ref n)).map _ = _; rw [lst_ref h]; rfl, q⟩
theorem dic_ref {S : Store} {n : Nat} {ks : List (List Key)} {xs : List Val} (h : S[n]? = some (.dic ks xs)) : dicOf S (.ref n) = some (ks, xs) := by unfold dicOf; simp only [h]
theorem ds_ref {S S' : Store} {n : Nat} {ks : List (List Key)} {xs : List Val} {y v : Val} {q : List Key} (h : S[n]? = some (.dic ks xs)) (hy : keyV y = some q) (hl : ks.length < sizeLine) (hs : S.set n (.dic (putD ks xs q v).1 (putD ks xs q v).2) = S') : dicSet S (.ref n) y v = some S' := by
  unfold dicSet
  simp only [h, hy, Option.bind_some]
  rw [if_pos hl, hs]

/-! ### all losses from a line on -/
theorem nodup_le {α : Type} [DecidableEq α] : ∀ {l m : List α}, l.Nodup → (∀ x ∈ l, x ∈ m) → l.length ≤ m.length
  | [], m, _, _ => Nat.zero_le _
  | a :: l, m, hn, hs => by
    rw [List.nodup_cons] at hn
    have ha := hs a List.mem_cons_self
    have := nodup_le (l := l) (m := m.erase a) hn.2 fun x hx => by
      have ne : x ≠ a := by
        rintro rfl
        exact hn.1 hx
      rw [List.mem_erase_of_ne ne]
      exact hs x (List.mem_cons_of_mem _ hx)
    rw [List.length_erase_of_mem ha] at this
    have := List.length_pos_of_mem ha
    rw [List.length_cons]; omega
namespace Hill
variable {H : Hill}
/-- what is lost in the turn behind so many -/
noncomputable def lossT (H : Hill) (a l : Int) (j : Nat) : Int := H.lostAt (H.lineAt a l j + H.need ((a + j) % H.needs.length))
def LossTurn (H : Hill) (a l : Int) (k : Nat) : Prop := 0 < k ∧ 0 < H.lossT a l (k - 1)
theorem line_succ (H : Hill) (a l : Int) (j : Nat) : H.lineAt a l (j + 1) = H.lineAt a l j + H.need ((a + j) % H.needs.length) + H.lossT a l j := rfl
theorem line_from (ok : H.Ok) {a l : Int} {f m : Nat} (hfm : f ≤ m) (h : ∀ j, f < j → j ≤ m → ¬ H.LossTurn a l j) : H.lineAt a l m = H.lineAt a l f + H.needSum ((a + f) % H.needs.length) (m - f) := by
  obtain ⟨d, rfl⟩ : ∃ d, m = f + d := ⟨m - f, by omega⟩
  rw [Nat.add_sub_cancel_left]
  clear hfm
  induction d with
  | zero => simp [needSum]
  | succ d ih =>
    have ih := ih fun j h1 h2 => h j h1 (by omega)
    rw [show f + (d + 1) = (f + d) + 1 by omega, line_succ, ih, needSum_succ]
    have hn := h (f + d + 1) (by omega) (by omega)
    have l0 : 0 ≤ H.lossT a l (f + d) := lost0 ok _
    have : ¬ 0 < H.lossT a l (f + d) := fun q => hn ⟨by omega, q⟩
    rw [Int.emod_add_emod, Int.natCast_add, ← Int.add_assoc]
    omega
theorem lossT_join (ok : H.Ok) (a l : Int) (f i : Nat) : H.lossT a l (f + i) = H.lossT ((a + f) % H.needs.length) (H.lineAt a l f) i := by
  unfold lossT
  rw [lineAt_join ok, Int.emod_add_emod, Int.natCast_add, Int.add_assoc]
theorem lossT_till (ok : H.Ok) {a l : Int} {i : Nat} (h : ∀ k, k ≤ i → ¬ H.Lossy a l k) : H.lossT a l i = H.lostAt (l + H.needSum a (i + 1)) := by
  unfold lossT
  rw [line_till ok h, needSum_succ]
  congr 1; omega
theorem next_le (ok : H.Ok) {a l : Int} {k : Nat} (h : H.IsNext a l (some k)) : k ≤ H.yd.toNat * H.needs.length := by
  have y0 := ok.y0
  have ne := ok.ne
  rcases Nat.lt_or_ge (H.yd.toNat * H.needs.length) k with q | q
  · exfalso
    obtain ⟨d, rfl⟩ : ∃ d, k = H.yd.toNat * H.needs.length + d := ⟨k - H.yd.toNat * H.needs.length, by omega⟩
    have yN : 0 < H.yd.toNat * H.needs.length := Nat.mul_pos (by omega) ne
    refine h.2 d (by omega) ⟨by omega, ?_⟩
    have h1 := h.1.2
    rw [needSum_rounds ok, Int.toNat_of_nonneg (by omega)] at h1
    have e : H.lostAt (l + (H.yd * H.ring + H.needSum a d)) = H.lostAt (l + H.needSum a d) := by
      have := to_add ok (l + H.needSum a d) H.ring
      unfold to at this
      rw [show l + (H.yd * H.ring + H.needSum a d) = l + H.needSum a d + H.ring * H.yd by rw [Int.mul_comm H.ring]; omega]
      omega
    rw [e] at h1
    exact h1
  · exact q
theorem next_some (ok : H.Ok) {a l : Int} {f k : Nat} (h : H.IsNext ((a + f) % H.needs.length) (H.lineAt a l f) (some k)) :
    H.LossTurn a l (f + k) ∧ (∀ j, f < j → j < f + k → ¬ H.LossTurn a l j) ∧ H.lineAt a l (f + k) = H.to (H.lineAt a l f + H.needSum ((a + f) % H.needs.length) k) ∧ H.lossT a l (f + k - 1) = H.lostAt (H.lineAt a l f + H.needSum ((a + f) % H.needs.length) k) ∧ 0 < k ∧ k ≤ H.yd.toNat * H.needs.length := by
  obtain ⟨k0, hl⟩ := h.1
  have key : ∀ i, i < k → H.lossT a l (f + i) = H.lostAt (H.lineAt a l f + H.needSum ((a + f) % H.needs.length) (i + 1)) := by
    intro i hi
    rw [lossT_join ok, lossT_till ok fun j hj => h.2 j (by omega)]
  have e1 := key (k - 1) (by omega)
  rw [show f + (k - 1) = f + k - 1 by omega, show k - 1 + 1 = k by omega] at e1
  refine ⟨⟨by omega, by rw [e1]; exact hl⟩, fun j h1 h2 hj => ?_, ?_, e1, k0, next_le ok h⟩
  · obtain ⟨i, rfl⟩ : ∃ i, j = f + i := ⟨j - f, by omega⟩
    have h3 := hj.2
    have e2 := key (i - 1) (by omega)
    rw [show f + (i - 1) = f + i - 1 by omega, show i - 1 + 1 = i by omega] at e2
    rw [e2] at h3
    exact h.2 i (by omega) ⟨by omega, h3⟩
  · rw [← lineAt_join ok, line_next ok h]
theorem next_none (ok : H.Ok) {a l : Int} {f : Nat} (h : H.IsNext ((a + f) % H.needs.length) (H.lineAt a l f) none) : ∀ j, f < j → ¬ H.LossTurn a l j := by
  intro j h1 hj
  obtain ⟨i, rfl⟩ : ∃ i, j = f + (i + 1) := ⟨j - f - 1, by omega⟩
  have h3 := hj.2
  rw [show f + (i + 1) - 1 = f + i by omega, lossT_join ok, lossT_till ok fun j _ => h j] at h3
  exact h (i + 1) ⟨by omega, h3⟩
theorem line_period (ok : H.Ok) {a l c : Int} {f g : Nat} (h1 : (a + f) % H.needs.length = (a + g) % H.needs.length) (h2 : H.lineAt a l g = H.lineAt a l f + c * H.yd) (i : Nat) : H.lineAt a l (g + i) = H.lineAt a l (f + i) + c * H.yd := by
  rw [← lineAt_join ok, ← lineAt_join ok, ← h1, h2, lineAt_add ok]
/-- the places of losses -/
noncomputable def keyK (H : Hill) (a l : Int) (k : Nat) : Int × Int := ((a + k) % H.needs.length, H.lineAt a l k % H.yd)
theorem loss_key (ok : H.Ok) {a l : Int} {k : Nat} (h : H.LossTurn a l k) : ∃ i, i < H.needs.length ∧ ∃ q ∈ H.strN, H.keyK a l k = ((i : Int), (q.2 + 1) % H.yd) := by
  have r := ant_ok ok (a + k)
  obtain ⟨q, hq, h2⟩ := str_of ok h.2
  refine ⟨((a + k) % H.needs.length).toNat, by omega, q, hq, ?_⟩
  have hl := str_at ok hq h2
  obtain ⟨j, rfl⟩ : ∃ j, k = j + 1 := ⟨k - 1, by have := h.1; omega⟩
  have e : H.lossT a l (j + 1 - 1) = H.lossT a l j := rfl
  rw [Nat.add_sub_cancel] at hl h2
  unfold keyK
  rw [Prod.mk.injEq]
  refine ⟨by omega, ?_⟩
  have e2 : H.lineAt a l (j + 1) = H.lineAt a l j + H.need ((a + j) % H.needs.length) + H.lossT a l j := rfl
  have e1 := Int.emod_add_mul_ediv (H.lineAt a l j + H.need ((a + j) % H.needs.length) - q.1) H.yd
  have e3 : H.lossT a l j = q.2 - q.1 + 1 - (H.lineAt a l j + H.need ((a + j) % H.needs.length) - q.1) % H.yd := hl
  have : H.lineAt a l (j + 1) = q.2 + 1 + H.yd * ((H.lineAt a l j + H.need ((a + j) % H.needs.length) - q.1) / H.yd) := by omega
  rw [this, Int.add_mul_emod_self_left]
theorem keys_few (ok : H.Ok) {a l : Int} {ks : List Nat} (h1 : ∀ k ∈ ks, H.LossTurn a l k) (h2 : (ks.map (H.keyK a l)).Nodup) : ks.length ≤ 3600 := by
  have := nodup_le (m := (List.range H.needs.length).flatMap fun (i : Nat) => H.strN.map fun q => ((i : Int), (q.2 + 1) % H.yd)) h2 fun x hx => by
    obtain ⟨k, hk, rfl⟩ := List.mem_map.mp hx
    obtain ⟨i, hi, q, hq, e⟩ := loss_key ok (h1 k hk)
    rw [e]
    exact List.mem_flatMap.mpr ⟨i, List.mem_range.mpr hi, List.mem_map.mpr ⟨q, hq, rfl⟩⟩
  rw [List.length_map] at this
  have sl := (strN_len ok).2
  have nl := ok.nl
  have key : ∀ n : Nat, ((List.range n).flatMap fun (i : Nat) => H.strN.map fun q => ((i : Int), (q.2 + 1) % H.yd)).length = n * H.strN.length := by
    intro n
    induction n with
    | zero => simp
    | succ n ih => rw [List.range_succ, List.flatMap_append, List.length_append, ih, Nat.succ_mul]; simp
  rw [key] at this
  have : H.needs.length * H.strN.length ≤ 60 * 60 := Nat.mul_le_mul nl sl
  omega
/-- a tour: its losses, from which on they come round, in how many turns, drops -/
structure TourOk (H : Hill) (a l : Int) (ks : List Nat) (i T : Nat) (D : Int) : Prop where
  srt : ks.Pairwise (· < ·)
  mem : ∀ k ∈ ks, H.LossTurn a l k
  i1 : i ≤ ks.length
  row : ∀ r, ks[i]? = some r → 0 < T ∧ (∀ k, H.LossTurn a l k → k < r + T → k ∈ ks) ∧ (∀ m, r ≤ m → H.lineAt a l (m + T) = H.lineAt a l m + D)
  non : i = ks.length → (∀ k, H.LossTurn a l k → k ∈ ks) ∧ (∀ m, (∀ k ∈ ks, k ≤ m) → H.lineAt a l (m + T) = H.lineAt a l m + D)
  tb : (T : Int) < 10 ^ 30
  db : 0 ≤ D ∧ D < 10 ^ 55
  kb : ∀ k ∈ ks, (k : Int) < 10 ^ 30
  low : ∃ R Y : Nat, T = R * H.needs.length ∧ D = (Y : Int) * H.yd ∧ 0 < R ∧ Nat.gcd R Y = 1
theorem needSum_ub (ok : H.Ok) (a : Int) (m : Nat) : 0 ≤ H.needSum a m ∧ H.needSum a m ≤ m * 10 ^ 17 := by
  induction m with
  | zero => simp [needSum]
  | succ m ih =>
    rw [needSum_succ]
    have r := ant_ok ok (a + (m : Int))
    have := need_bd ok r.1 r.2
    rw [Int.natCast_succ, Int.add_mul]
    omega
end Hill

/-! rounds that lead by whole years -/
theorem rot_ant {n a : Int} {R : Nat} (a0 : 0 ≤ a) (a1 : a < n) : (a + ((R : Int) * n)) % n = a := by
  rw [Int.add_mul_emod_self_right, Int.emod_eq_of_lt a0 a1]
theorem rot_step {H : Hill} (ok : H.Ok) {a x : Int} (a0 : 0 ≤ a) (a1 : a < H.needs.length) (R j : Nat) : H.lineAt a x ((j + 1) * (R * H.needs.length)) = H.lineAt a (H.lineAt a x (j * (R * H.needs.length))) (R * H.needs.length) := by
  have h := Hill.lineAt_join ok a x (j * (R * H.needs.length)) (R * H.needs.length)
  rw [show ((j * (R * H.needs.length) : Nat) : Int) = ((j * R : Nat) : Int) * (H.needs.length : Int) by rw [← Nat.mul_assoc, Int.natCast_mul], rot_ant a0 a1] at h
  rw [h, Nat.succ_mul]
theorem rot_up {H : Hill} (ok : H.Ok) {a x c : Int} (a0 : 0 ≤ a) (a1 : a < H.needs.length) {R : Nat} (h : x + c * H.yd < H.lineAt a x (R * H.needs.length)) (j : Nat) : x + ((j + 1 : Nat) : Int) * c * H.yd < H.lineAt a x ((j + 1) * (R * H.needs.length)) := by
  induction j with
  | zero => rw [Nat.zero_add, Nat.one_mul, Int.natCast_one, Int.one_mul]; exact h
  | succ j ih =>
    rw [rot_step ok a0 a1]
    have m := Hill.lineAt_mono ok a (Int.le_of_lt ih) (R * H.needs.length)
    rw [Hill.lineAt_add ok] at m
    have e : ((j + 1 + 1 : Nat) : Int) * c * H.yd = ((j + 1 : Nat) : Int) * c * H.yd + c * H.yd := by
      rw [Int.natCast_add (j + 1) 1, Int.natCast_one, Int.add_mul, Int.one_mul, Int.add_mul]
    omega
theorem rot_dn {H : Hill} (ok : H.Ok) {a x c : Int} (a0 : 0 ≤ a) (a1 : a < H.needs.length) {R : Nat} (h : H.lineAt a x (R * H.needs.length) < x + c * H.yd) (j : Nat) : H.lineAt a x ((j + 1) * (R * H.needs.length)) < x + ((j + 1 : Nat) : Int) * c * H.yd := by
  induction j with
  | zero => rw [Nat.zero_add, Nat.one_mul, Int.natCast_one, Int.one_mul]; exact h
  | succ j ih =>
    rw [rot_step ok a0 a1]
    have m := Hill.lineAt_mono ok a (Int.le_of_lt ih) (R * H.needs.length)
    rw [Hill.lineAt_add ok] at m
    have e : ((j + 1 + 1 : Nat) : Int) * c * H.yd = ((j + 1 : Nat) : Int) * c * H.yd + c * H.yd := by
      rw [Int.natCast_add (j + 1) 1, Int.natCast_one, Int.add_mul, Int.one_mul, Int.add_mul]
    omega
theorem rot_eq {H : Hill} (ok : H.Ok) {a x c : Int} (a0 : 0 ≤ a) (a1 : a < H.needs.length) {R g : Nat} (g0 : 0 < g) (h : H.lineAt a x (g * (R * H.needs.length)) = x + (g : Int) * c * H.yd) : H.lineAt a x (R * H.needs.length) = x + c * H.yd := by
  obtain ⟨j, rfl⟩ : ∃ j, g = j + 1 := ⟨g - 1, by omega⟩
  rcases Int.lt_trichotomy (H.lineAt a x (R * H.needs.length)) (x + c * H.yd) with q | q | q
  · have := rot_dn ok a0 a1 q j
    omega
  · exact q
  · have := rot_up ok a0 a1 q j
    omega
theorem nd_inj {α β : Type} {f : α → β} : ∀ {l : List α}, (l.map f).Nodup → ∀ {x y : α}, x ∈ l → y ∈ l → f x = f y → x = y
  | [], _, _, _, h, _, _ => by cases h
  | z :: l, nd, x, y, hx, hy, e => by
    rw [List.map_cons, List.nodup_cons] at nd
    rcases List.mem_cons.mp hx with h1 | h1 <;> rcases List.mem_cons.mp hy with h2 | h2
    · rw [h1, h2]
    · rw [h1] at e
      exact absurd (e ▸ List.mem_map_of_mem h2) nd.1
    · rw [h2] at e
      exact absurd (e ▸ List.mem_map_of_mem h1) nd.1
    · exact nd_inj nd.2 h1 h2 e
/-- a loss turn whose place came before: no lesser common part of rounds and years -/
theorem rot_low {H : Hill} (ok : H.Ok) {a l : Int} {ks : List Nat} {r R Y : Nat} (R0 : 0 < R) (hl : H.LossTurn a l (r + R * H.needs.length)) (hc : H.lineAt a l (r + R * H.needs.length) = H.lineAt a l r + (Y : Int) * H.yd)
    (nd : (ks.map (H.keyK a l)).Nodup) (hr : r ∈ ks) (all : ∀ j, H.LossTurn a l j → j < r + R * H.needs.length → j ∈ ks) : Nat.gcd R Y = 1 := by
  have ne := ok.ne
  have g0 : 0 < Nat.gcd R Y := Nat.gcd_pos_of_pos_left _ R0
  obtain ⟨R', hR⟩ := Nat.gcd_dvd_left R Y
  obtain ⟨Y', hY⟩ := Nat.gcd_dvd_right R Y
  generalize Nat.gcd R Y = g at *
  have R1 : 0 < R' := by
    rcases Nat.eq_zero_or_pos R' with z | z
    · rw [z, Nat.mul_zero] at hR; omega
    · exact z
  have ra := Hill.ant_ok ok (a + (r : Int))
  have e1 : H.lineAt ((a + r) % H.needs.length) (H.lineAt a l r) (g * (R' * H.needs.length)) = H.lineAt a l r + (g : Int) * Y' * H.yd := by
    rw [Hill.lineAt_join ok, ← Nat.mul_assoc, ← hR, hc, hY, Int.natCast_mul]
  have e2 := rot_eq ok ra.1 ra.2 g0 e1
  rw [Hill.lineAt_join ok] at e2
  have ea : (a + (r : Int)) % H.needs.length = (a + ((r + R' * H.needs.length : Nat) : Int)) % H.needs.length := by
    rw [Int.natCast_add, ← Int.add_assoc, Int.natCast_mul, Int.add_mul_emod_self_right]
  have per := Hill.line_period ok ea e2
  rcases (show g = 1 ∨ 2 ≤ g by omega) with z | z
  · exact z
  exfalso
  obtain ⟨h, rfl⟩ : ∃ h, g = h + 2 := ⟨g - 2, by omega⟩
  obtain ⟨Q, hQ⟩ : ∃ Q, R' * H.needs.length = Q := ⟨_, rfl⟩
  have Q0 : 0 < Q := by rw [← hQ]; exact Nat.mul_pos R1 ne
  have eK : R * H.needs.length = (h + 1) * Q + Q := by rw [hR, Nat.mul_assoc, hQ, Nat.succ_mul]
  have hQ1 : Q ≤ (h + 1) * Q := by rw [Nat.succ_mul]; omega
  obtain ⟨p, hp⟩ : ∃ p, r + (h + 1) * Q = p := ⟨_, rfl⟩
  rw [hQ] at per
  have eI : r + R * H.needs.length = (r + Q) + (p - r) := by omega
  have pl : H.lineAt a l (r + R * H.needs.length) = H.lineAt a l p + Y' * H.yd := by
    rw [eI, per, show r + (p - r) = p by omega]
  have pl1 : H.lineAt a l (r + R * H.needs.length - 1) = H.lineAt a l (p - 1) + Y' * H.yd := by
    rw [show r + R * H.needs.length - 1 = (r + Q) + (p - 1 - r) by omega, per, show r + (p - 1 - r) = p - 1 by omega]
  have antE : ∀ j : Nat, (a + ((j + Q : Nat) : Int)) % H.needs.length = (a + (j : Int)) % H.needs.length := by
    intro j
    rw [Int.natCast_add, ← Int.add_assoc, ← hQ, Int.natCast_mul, Int.add_mul_emod_self_right]
  have loss : H.LossTurn a l p := by
    refine ⟨by omega, ?_⟩
    have h2 := hl.2
    have s1 := Hill.line_succ H a l (p - 1)
    have s2 := Hill.line_succ H a l (r + R * H.needs.length - 1)
    rw [show p - 1 + 1 = p by omega] at s1
    rw [show r + R * H.needs.length - 1 + 1 = r + R * H.needs.length by omega, show r + R * H.needs.length - 1 = (p - 1) + Q by omega, antE, ← show r + R * H.needs.length - 1 = (p - 1) + Q by omega] at s2
    omega
  have pin := all p loss (by omega)
  have key : H.keyK a l p = H.keyK a l r := by
    unfold Hill.keyK
    rw [Prod.mk.injEq]
    constructor
    · rw [← hp, ← hQ, ← Nat.mul_assoc, Int.natCast_add, ← Int.add_assoc, Int.natCast_mul, Int.add_mul_emod_self_right]
    · have : H.lineAt a l p = H.lineAt a l r + ((Y : Int) - Y') * H.yd := by rw [Int.sub_mul]; omega
      rw [this, Int.add_mul_emod_self_right]
  have := nd_inj nd pin hr key
  omega

@[reducible] noncomputable def Hill.keyL (H : Hill) (a l : Int) (k : Nat) : List Key := [.inl ((a + k) % H.needs.length), .inl (H.lineAt a l k % H.yd)]
theorem keyL_inj {H : Hill} {a l : Int} {j k : Nat} : H.keyL a l j = H.keyL a l k ↔ H.keyK a l j = H.keyK a l k := by
  unfold Hill.keyL Hill.keyK
  simp
theorem putD_new {K : List (List Key)} {xs : List Val} {q : List Key} {v : Val} (h : q ∉ K) : putD K xs q v = (K ++ [q], xs ++ [v]) := by
  unfold putD
  rw [if_neg]
  intro e
  obtain ⟨k, hk, e⟩ := List.any_eq_true.mp e
  exact h (of_decide_eq_true e ▸ hk)

theorem dval_map {α : Type} (f : α → List Key) (g : α → Val) (q : List Key) : ∀ l : List α, (∃ a ∈ l, f a = q ∧ dval (l.map f) (l.map g) q = some (g a)) ∨ (q ∉ l.map f ∧ dval (l.map f) (l.map g) q = none)
  | [] => .inr ⟨by simp, rfl⟩
  | x :: l => by
    unfold dval
    rw [List.map_cons, List.map_cons, List.zip_cons_cons, List.find?_cons]
    by_cases h : f x = q
    · refine .inl ⟨x, List.mem_cons_self, h, ?_⟩
      simp [h]
    · have e : decide (f x = q) = false := decide_eq_false h
      simp only [e]
      rcases dval_map f g q l with ⟨a, ha, e1, e2⟩ | ⟨h1, h2⟩
      · exact .inl ⟨a, List.mem_cons_of_mem _ ha, e1, e2⟩
      · refine .inr ⟨?_, h2⟩
        rw [List.mem_cons]
        rintro (z | z)
        · exact h z.symm
        · exact h1 z

/-! ### far.py -/
theorem dayOf_mono {H : Hill} (ok : H.Ok) {t t' : Int} (h : t ≤ t') : H.dayOf t ≤ H.dayOf t' := by
  have q := Hill.dayOf_is ok t
  have q' := Hill.dayOf_is ok t'
  rcases Int.lt_or_le (H.dayOf t') (H.dayOf t) with z | z
  · exact absurd ⟨q'.1.1, Int.le_trans h q'.1.2⟩ (q.2 _ z)
  · exact z
theorem dayOf_to {H : Hill} (ok : H.Ok) (t : Int) : H.dayOf (H.to t) = H.dayOf t := by
  have is := Hill.dayOf_is ok t
  have tm := Hill.to_max (H := H) t
  have m0 := ok.m0
  have nx := Hill.nxt_ge ok t
  have e1 : H.nxt t = H.given (H.dayOf t) := rfl
  apply Hill.dayOf_eq ok
  exact ⟨⟨is.1.1, by omega⟩, fun d hd hp => is.2 d hd ⟨hp.1, by have := hp.2; omega⟩⟩
noncomputable def Hill.stoodD (H : Hill) (d l : Int) : Int := if H.dayOf l > d then H.dayOf l else d
theorem stAt_stood {H : Hill} (ok : H.Ok) {s : St3} (so : StOk H s) (k : Nat) : H.stAt s k = ⟨H.stoodD s.day (H.lineAt s.ant (H.line s) k), (s.ant + k) % H.needs.length, H.given (H.stoodD s.day (H.lineAt s.ant (H.line s) k)) - H.lineAt s.ant (H.line s) k⟩ := by
  have day : ∀ k, (H.stAt s k).day = H.stoodD s.day (H.lineAt s.ant (H.line s) k) := by
    intro k
    induction k with
    | zero =>
      have is := Hill.dayOf_is ok (H.line s)
      have : H.dayOf (H.line s) ≤ s.day := by
        rcases Int.lt_or_le s.day (H.dayOf (H.line s)) with z | z
        · refine absurd ⟨so.lit, ?_⟩ (is.2 _ z)
          have := so.p0
          unfold Hill.line; omega
        · exact z
      show s.day = _
      unfold Hill.stoodD
      exact (if_neg (by show ¬ H.dayOf (H.line s) > s.day; omega)).symm
    | succ k ih =>
      have sk := Hill.stAt_ok ok so k
      have nb := need_bd ok sk.a0 sk.a1
      have l1 : H.lineAt s.ant (H.line s) (k + 1) = H.to (H.total (H.stAt s k)) := by
        rw [← line_stAt ok so (k + 1)]
        exact (Hill.next_line ok sk nb.1).1
      have l0 : H.line (H.stAt s k) = H.lineAt s.ant (H.line s) k := line_stAt ok so k
      have tl := (Hill.to_lt ok (H.total (H.stAt s k))).1
      have e2 : H.total (H.stAt s k) = H.line (H.stAt s k) + H.need (H.stAt s k).ant := rfl
      have mono := dayOf_mono ok (show H.lineAt s.ant (H.line s) k ≤ H.lineAt s.ant (H.line s) (k + 1) by omega)
      show H.sitDay (H.stAt s k) = _
      unfold Hill.sitDay
      rw [ih]
      have e3 : H.dayOf (H.total (H.stAt s k)) = H.dayOf (H.lineAt s.ant (H.line s) (k + 1)) := by rw [l1, dayOf_to ok]
      rw [e3]
      unfold Hill.stoodD
      repeat' split
      all_goals omega
  have ln := line_stAt ok so k
  have an := Hill.stAt_ant ok so k
  have dy := day k
  rw [← dy, ← an]
  unfold Hill.line at ln
  have pot : (H.stAt s k).pot = H.given (H.stAt s k).day - H.lineAt s.ant (H.line s) k := by
    unfold Hill.line; omega
  rw [← pot]
noncomputable def Hill.lostIn (H : Hill) (a l : Int) (m : Nat) : Int := H.lineAt a l m - l - H.needSum a m
theorem stAt_join {H : Hill} (s : St3) (j k : Nat) : H.stAt (H.stAt s j) k = H.stAt s (j + k) := by
  induction k with
  | zero => rfl
  | succ k ih => exact congrArg H.next ih
theorem lostIn_join {H : Hill} (ok : H.Ok) {s : St3} (so : StOk H s) (j k : Nat) : H.lostIn s.ant (H.line s) (j + k) = H.lostIn s.ant (H.line s) j + H.lostIn (H.stAt s j).ant (H.line (H.stAt s j)) k := by
  unfold Hill.lostIn
  rw [Hill.stAt_ant ok so, line_stAt ok so, Hill.lineAt_join ok, Hill.needSum_join]
  omega
theorem lostIn_pos {H : Hill} (ok : H.Ok) (a l : Int) (m : Nat) : 0 ≤ H.lostIn a l m := by
  have := Hill.lineAt_bd ok a l m
  unfold Hill.lostIn; omega
theorem stAt_year {H : Hill} (ok : H.Ok) {s : St3} (so : StOk H s) (c : Int) (k : Nat) : H.stAt ⟨s.day + c * H.L, s.ant, s.pot⟩ k = ⟨(H.stAt s k).day + c * H.L, (H.stAt s k).ant, (H.stAt s k).pot⟩ := by
  have so' : StOk H ⟨s.day + c * H.L, s.ant, s.pot⟩ := ⟨by show H.lit (s.day + c * H.L) = true; rw [Hill.lit_add ok]; exact so.lit, so.a0, so.a1, so.p0, so.p1⟩
  have ln : H.line ⟨s.day + c * H.L, s.ant, s.pot⟩ = H.line s + c * H.yd := by
    unfold Hill.line
    show H.given (s.day + c * H.L) - s.pot = _
    rw [Hill.given_add ok]; omega
  have sd : ∀ l, H.stoodD (s.day + c * H.L) (l + c * H.yd) = H.stoodD s.day l + c * H.L := by
    intro l
    unfold Hill.stoodD
    rw [Hill.dayOf_add ok]
    split <;> split <;> omega
  rw [stAt_stood ok so', stAt_stood ok so]
  simp only
  rw [ln, Hill.lineAt_add ok, sd, Hill.given_add ok]
  congr 1
  omega

theorem line_strict {H : Hill} (ok : H.Ok) (a l : Int) {f g : Nat} (h : f ≤ g) : H.lineAt a l f + (g - f : Nat) ≤ H.lineAt a l g := by
  have e := Hill.lineAt_join ok a l f (g - f)
  rw [show f + (g - f) = g by omega] at e
  rw [← e]
  have b1 := (Hill.lineAt_bd ok ((a + f) % H.needs.length) (H.lineAt a l f) (g - f)).1
  have b2 := Hill.needSum_le ok ((a + f) % H.needs.length) (Nat.zero_le (g - f))
  rw [Hill.needSum_zero] at b2
  omega
/-- the greatest number of turns behind which a line is no more than a total -/
def Hill.Gone (H : Hill) (a l t : Int) (g : Nat) : Prop := H.lineAt a l g ≤ t ∧ t < H.lineAt a l (g + 1)
theorem Hill.Gone.iff {H : Hill} (ok : H.Ok) {a l t : Int} {g : Nat} (h : H.Gone a l t g) (k : Nat) : H.lineAt a l k ≤ t ↔ k ≤ g := by
  constructor
  · intro hk
    by_cases q : k ≤ g
    · exact q
    · have := line_strict ok a l (show g + 1 ≤ k by omega)
      have := h.2
      omega
  · intro hk
    have := line_strict ok a l hk
    have := h.1
    omega
theorem Hill.Gone.le {H : Hill} (ok : H.Ok) {a l t : Int} {g : Nat} (h : H.Gone a l t g) : (g : Int) ≤ t - l := by
  have h1 := line_strict ok a l (Nat.zero_le g)
  have h2 := h.1
  rw [show H.lineAt a l 0 = l from rfl] at h1
  omega
theorem given_far {H : Hill} (ok : H.Ok) {d e : Int} (h : d ≤ e) : H.given e ≤ H.given d + (e - d) * H.yd := by
  have h0 := ok.L0
  have e1 := Hill.given_add ok d (e - d)
  rw [← e1]
  apply Hill.given_mono ok
  have h2 : (e - d) * 1 ≤ (e - d) * H.L := Int.mul_le_mul_of_nonneg_left (by omega) (by omega)
  omega

/-! the first so many numbers of a kind -/
structure Firsts (P : Nat → Prop) (ks : List Nat) (m : Nat) : Prop where
  srt : ks.Pairwise (· < ·)
  mem : ∀ k ∈ ks, P k
  len : ks.length ≤ m
  all : ∀ k, P k → k ∈ ks ∨ (ks.length = m ∧ ∀ j ∈ ks, j < k)
theorem srt_ext : ∀ {l m : List Nat}, l.Pairwise (· < ·) → m.Pairwise (· < ·) → (∀ x, x ∈ l ↔ x ∈ m) → l = m
  | [], [], _, _, _ => rfl
  | [], b :: m, _, _, h => by have := (h b).mpr List.mem_cons_self; cases this
  | a :: l, [], _, _, h => by have := (h a).mp List.mem_cons_self; cases this
  | a :: l, b :: m, hl, hm, h => by
    rw [List.pairwise_cons] at hl hm
    have ha := (h a).mp List.mem_cons_self
    have hb := (h b).mpr List.mem_cons_self
    have e : a = b := by
      rcases List.mem_cons.mp ha with e | ha
      · exact e
      · rcases List.mem_cons.mp hb with e | hb
        · exact e.symm
        · have := hl.1 b hb
          have := hm.1 a ha
          omega
    subst e
    rw [srt_ext hl.2 hm.2 fun x => ?_]
    constructor
    · intro hx
      rcases List.mem_cons.mp ((h x).mp (List.mem_cons_of_mem _ hx)) with e | h'
      · have := hl.1 x hx
        omega
      · exact h'
    · intro hx
      rcases List.mem_cons.mp ((h x).mpr (List.mem_cons_of_mem _ hx)) with e | h'
      · have := hm.1 x hx
        omega
      · exact h'
theorem srt_nd {l : List Nat} (h : l.Pairwise (· < ·)) : l.Nodup := h.imp (fun h => Nat.ne_of_lt h)
theorem Firsts.sub {P : Nat → Prop} {ks ks' : List Nat} {m : Nat} (h : Firsts P ks m) (h' : Firsts P ks' m) {k : Nat} (hk : k ∈ ks) : k ∈ ks' := by
  rcases h'.all k (h.mem k hk) with z | ⟨z1, z2⟩
  · exact z
  · exfalso
    have sub : ∀ j ∈ ks', j ∈ ks := by
      intro j hj
      rcases h.all j (h'.mem j hj) with q | ⟨_, q⟩
      · exact q
      · have := z2 j hj
        have := q k hk
        omega
    have nin : k ∉ ks' := fun hj => Nat.lt_irrefl _ (z2 k hj)
    have := nodup_le (l := k :: ks') (m := ks) (List.nodup_cons.mpr ⟨nin, srt_nd h'.srt⟩) (by
      intro j hj
      rcases List.mem_cons.mp hj with rfl | hj
      · exact hk
      · exact sub j hj)
    have := h.len
    rw [List.length_cons] at *
    omega
theorem Firsts.uniq {P : Nat → Prop} {ks ks' : List Nat} {m : Nat} (h : Firsts P ks m) (h' : Firsts P ks' m) : ks = ks' :=
  srt_ext h.srt h'.srt fun _ => ⟨h.sub h', h'.sub h⟩
/-- so far: all up to a number -/
structure Upto (P : Nat → Prop) (ks : List Nat) (f : Nat) : Prop where
  srt : ks.Pairwise (· < ·)
  mem : ∀ k ∈ ks, P k
  le : ∀ k ∈ ks, k ≤ f
  all : ∀ k, P k → k ≤ f → k ∈ ks
theorem Upto.snoc {P : Nat → Prop} {ks : List Nat} {f k : Nat} (h : Upto P ks f) (hf : f < k) (hk : P k) (h0 : ∀ j, f < j → j < k → ¬ P j) : Upto P (ks ++ [k]) k := by
  refine ⟨?_, ?_, ?_, ?_⟩
  · rw [List.pairwise_append]
    refine ⟨h.srt, by simp, fun a ha b hb => ?_⟩
    rw [List.mem_singleton] at hb
    have := h.le a ha
    omega
  · intro j hj
    rcases List.mem_append.mp hj with hj | hj
    · exact h.mem j hj
    · rw [List.mem_singleton] at hj; subst hj; exact hk
  · intro j hj
    rcases List.mem_append.mp hj with hj | hj
    · have := h.le j hj; omega
    · rw [List.mem_singleton] at hj; omega
  · intro j hj hjk
    rw [List.mem_append, List.mem_singleton]
    rcases Nat.lt_or_ge f j with z | z
    · rcases Nat.lt_or_ge j k with z2 | z2
      · exact absurd hj (h0 j z z2)
      · exact .inr (by omega)
    · exact .inl (h.all j hj z)
theorem Upto.full {P : Nat → Prop} {ks : List Nat} {f m : Nat} (h : Upto P ks f) (hl : ks.length = m) : Firsts P ks m := by
  refine ⟨h.srt, h.mem, by omega, fun k hk => ?_⟩
  rcases Nat.lt_or_ge f k with z | z
  · exact .inr ⟨hl, fun j hj => by have := h.le j hj; omega⟩
  · exact .inl (h.all k hk z)
theorem Upto.over {P : Nat → Prop} {ks : List Nat} {f m : Nat} (h : Upto P ks f) (hl : ks.length ≤ m) (h0 : ∀ j, f < j → ¬ P j) : Firsts P ks m := by
  refine ⟨h.srt, h.mem, hl, fun k hk => .inl ?_⟩
  rcases Nat.lt_or_ge f k with z | z
  · exact absurd hk (h0 k z)
  · exact h.all k hk z
theorem Upto.nil {P : Nat → Prop} {f : Nat} (h : ∀ k, k ≤ f → ¬ P k) : Upto P [] f :=
  ⟨List.Pairwise.nil, fun _ h => (nomatch h), fun _ h => (nomatch h), fun k hk hf => absurd hk (h k hf)⟩
theorem loss_no0 {H : Hill} {a l : Int} : ¬ H.LossTurn a l 0 := fun h => Nat.lt_irrefl _ h.1

/-! small hills -/
structure Small (H : Hill) : Prop where
  ok : H.Ok
  l1 : (H.year.length : Int) ≤ 6
  s1 : (H.needs.length : Int) ≤ 4
  yb : H.yd ≤ 132

theorem spill_loss {H : Hill} (ok : H.Ok) {s : St3} (so : StOk H s) (k : Nat) : H.spill (H.stAt s k) = H.lossT s.ant (H.line s) k := by
  have h1 := step_stAt ok so k
  have h2 := Hill.line_succ H s.ant (H.line s) k
  omega
theorem least_ex {P : Nat → Prop} (h : ∃ k, P k) : ∃ k, P k ∧ ∀ j, j < k → ¬ P j := by
  obtain ⟨k, hk⟩ := h
  induction k using Nat.strongRecOn with
  | ind k ih =>
    rcases Classical.em (∃ j, j < k ∧ P j) with ⟨j, hj, hp⟩ | q
    · exact ih j hj hp
    · exact ⟨k, hk, fun j hj hp => q ⟨j, hj, hp⟩⟩
theorem Hill.next_ex (H : Hill) (a l : Int) : ∃ r, H.IsNext a l r := by
  rcases Classical.em (∃ k, H.Lossy a l k) with h | h
  · obtain ⟨k, h1, h2⟩ := least_ex h
    exact ⟨some k, h1, h2⟩
  · exact ⟨none, fun k hk => h ⟨k, hk⟩⟩
/-- no loss for a whole coming round: none any more -/
theorem no_more {H : Hill} (ok : H.Ok) {a l : Int} {f c : Nat} (h : ∀ j, f < j → j ≤ c → ¬ H.LossTurn a l j) (hc : f + H.yd.toNat * H.needs.length ≤ c) : ∀ j, f < j → ¬ H.LossTurn a l j := by
  obtain ⟨r, hr⟩ := Hill.next_ex H ((a + f) % H.needs.length) (H.lineAt a l f)
  cases r with
  | none => exact Hill.next_none ok hr
  | some k =>
    obtain ⟨h1, _, _, _, h2, h3⟩ := Hill.next_some ok hr
    exact absurd h1 (h (f + k) (by omega) (by omega))
theorem loss_shift {H : Hill} (ok : H.Ok) {s : St3} (so : StOk H s) (f j : Nat) : H.LossTurn (H.stAt s f).ant (H.line (H.stAt s f)) j ↔ 0 < j ∧ H.LossTurn s.ant (H.line s) (f + j) := by
  unfold Hill.LossTurn
  rw [Hill.stAt_ant ok so, line_stAt ok so]
  constructor
  · rintro ⟨h0, h1⟩
    rw [← Hill.lossT_join ok, show f + (j - 1) = f + j - 1 by omega] at h1
    exact ⟨h0, by omega, h1⟩
  · rintro ⟨h0, _, h1⟩
    rw [← Hill.lossT_join ok, show f + (j - 1) = f + j - 1 by omega]
    exact ⟨h0, h1⟩

/-! one pace, however begun -/
def Hill.Comes (H : Hill) (a l : Int) (T : Nat) (D : Int) (m0 : Nat) : Prop := ∀ m, m0 ≤ m → H.lineAt a l (m + T) = H.lineAt a l m + D
def Hill.IsPace (H : Hill) (R Y : Nat) : Prop := 0 < R ∧ Nat.gcd R Y = 1 ∧ ∃ a l m0, 0 ≤ a ∧ a < (H.needs.length : Int) ∧ H.Comes a l (R * H.needs.length) ((Y : Int) * H.yd) m0
theorem ant_round {H : Hill} (a : Int) (m R : Nat) : (a + ((m + R * H.needs.length : Nat) : Int)) % H.needs.length = (a + (m : Int)) % H.needs.length := by
  rw [Int.natCast_add, ← Int.add_assoc, Int.natCast_mul, Int.add_mul_emod_self_right]
theorem comes_of {H : Hill} (ok : H.Ok) {a l : Int} {m R : Nat} {c : Int} (h : H.lineAt a l (m + R * H.needs.length) = H.lineAt a l m + c * H.yd) : H.Comes a l (R * H.needs.length) (c * H.yd) m := by
  intro k hk
  obtain ⟨i, rfl⟩ : ∃ i, k = m + i := ⟨k - m, by omega⟩
  have := Hill.line_period ok (ant_round a m R).symm h i
  rw [← this]
  congr 1
  omega
theorem comes_shift {H : Hill} (ok : H.Ok) {a l : Int} {T : Nat} {D : Int} {m0 : Nat} (h : H.Comes a l T D m0) (f : Nat) : H.Comes ((a + f) % H.needs.length) (H.lineAt a l f) T D m0 := by
  intro m hm
  rw [Hill.lineAt_join ok, Hill.lineAt_join ok, ← Nat.add_assoc]
  exact h _ (by omega)
theorem comes_back {H : Hill} (ok : H.Ok) {a l : Int} {T : Nat} {D : Int} {m0 f : Nat} (h : H.Comes ((a + f) % H.needs.length) (H.lineAt a l f) T D m0) : H.Comes a l T D (f + m0) := by
  intro m hm
  have := h (m - f) (by omega)
  rw [Hill.lineAt_join ok, Hill.lineAt_join ok, ← Nat.add_assoc, show f + (m - f) = m by omega] at this
  exact this
theorem comes_many {H : Hill} {a l : Int} {T : Nat} {D : Int} {m0 : Nat} (h : H.Comes a l T D m0) (x q : Nat) (hx : m0 ≤ x) : H.lineAt a l (x + q * T) = H.lineAt a l x + q * D := by
  induction q with
  | zero => simp
  | succ q ih => rw [Nat.succ_mul, ← Nat.add_assoc, h _ (by omega), ih, Int.natCast_succ, Int.add_mul]; omega
theorem near_bd {H : Hill} (ok : H.Ok) (a l l' : Int) : ∃ C : Nat, ∀ m, -(C : Int) ≤ H.lineAt a l' m - H.lineAt a l m ∧ H.lineAt a l' m - H.lineAt a l m ≤ C := by
  have y0 := ok.y0
  have key : ∀ l l' : Int, l ≤ l' → ∃ C : Nat, ∀ m, 0 ≤ H.lineAt a l' m - H.lineAt a l m ∧ H.lineAt a l' m - H.lineAt a l m ≤ C := by
    intro l l' h
    obtain ⟨k, hk⟩ := Int.eq_ofNat_of_zero_le (show 0 ≤ l' - l by omega)
    refine ⟨k * H.yd.toNat, fun m => ?_⟩
    have h1 := Hill.lineAt_mono ok a h m
    have h2 := Hill.lineAt_mono ok a (show l' ≤ l + k * H.yd by
      have : (k : Int) * 1 ≤ k * H.yd := Int.mul_le_mul_of_nonneg_left (by omega) (by omega)
      omega) m
    rw [Hill.lineAt_add ok] at h2
    rw [Int.natCast_mul, Int.toNat_of_nonneg (by omega)]
    omega
  rcases Int.le_total l l' with z | z
  · obtain ⟨C, hC⟩ := key l l' z
    exact ⟨C, fun m => by have := hC m; omega⟩
  · obtain ⟨C, hC⟩ := key l' l z
    exact ⟨C, fun m => by have := hC m; omega⟩
theorem lin_zero {A B : Int} {C : Nat} (h : ∀ q : Nat, -(C : Int) ≤ A + q * B ∧ A + q * B ≤ C) : B = 0 := by
  have h0 := h 0
  have h1 := h (2 * C + 1)
  rw [Int.natCast_zero, Int.zero_mul] at h0
  rcases Int.lt_trichotomy B 0 with z | z | z
  · have : ((2 * C + 1 : Nat) : Int) * B ≤ ((2 * C + 1 : Nat) : Int) * (-1) := Int.mul_le_mul_of_nonneg_left (by omega) (by omega)
    omega
  · exact z
  · have : ((2 * C + 1 : Nat) : Int) * 1 ≤ ((2 * C + 1 : Nat) : Int) * B := Int.mul_le_mul_of_nonneg_left (by omega) (by omega)
    omega
theorem pace_cross {H : Hill} (ok : H.Ok) {a l l' : Int} {R Y R' Y' m0 m1 : Nat} (h : H.Comes a l (R * H.needs.length) ((Y : Int) * H.yd) m0) (h' : H.Comes a l' (R' * H.needs.length) ((Y' : Int) * H.yd) m1) : R' * Y = R * Y' := by
  have y0 := ok.y0
  obtain ⟨C, hC⟩ := near_bd ok a l l'
  have key : (((R : Int) * Y' - R' * Y) * H.yd) = 0 := by
    apply lin_zero (A := H.lineAt a l' (m0 + m1) - H.lineAt a l (m0 + m1)) (C := C)
    intro q
    have e1 := comes_many h (m0 + m1) (q * R') (by omega)
    have e2 := comes_many h' (m0 + m1) (q * R) (by omega)
    rw [show q * R * (R' * H.needs.length) = q * R' * (R * H.needs.length) by ac_rfl] at e2
    have b := hC (m0 + m1 + q * R' * (R * H.needs.length))
    rw [e1, e2] at b
    have e3 : (q : Int) * (((R : Int) * Y' - R' * Y) * H.yd) = ((q * R : Nat) : Int) * ((Y' : Int) * H.yd) - ((q * R' : Nat) : Int) * ((Y : Int) * H.yd) := by
      rw [Int.sub_mul, Int.mul_sub, Int.natCast_mul, Int.natCast_mul]
      congr 1 <;> ac_rfl
    omega
  have : ((R : Int) * Y' - R' * Y) = 0 := by
    rcases Int.mul_eq_zero.mp key with z | z
    · exact z
    · omega
  have h3 : ((R' * Y : Nat) : Int) = ((R * Y' : Nat) : Int) := by rw [Int.natCast_mul, Int.natCast_mul]; omega
  omega
theorem low_eq {R Y R' Y' : Nat} (R0 : 0 < R) (R1 : 0 < R') (g : Nat.gcd R Y = 1) (g' : Nat.gcd R' Y' = 1) (h : R' * Y = R * Y') : R = R' ∧ Y = Y' := by
  have d1 : R ∣ R' := Nat.Coprime.dvd_of_dvd_mul_right (show Nat.Coprime R Y from g) (by rw [h]; exact Nat.dvd_mul_right _ _)
  have d2 : R' ∣ R := Nat.Coprime.dvd_of_dvd_mul_right (show Nat.Coprime R' Y' from g') (by rw [← h]; exact Nat.dvd_mul_right _ _)
  have e := Nat.dvd_antisymm d1 d2
  subst e
  exact ⟨rfl, Nat.eq_of_mul_eq_mul_left R0 h⟩
theorem ant_to {H : Hill} (ok : H.Ok) {a a' : Int} (a0 : 0 ≤ a') (a1 : a' < H.needs.length) : ∃ f : Nat, (a + (f : Int)) % H.needs.length = a' := by
  have ne := ok.ne
  have b := Hill.ant_ok ok (a' - a)
  refine ⟨((a' - a) % H.needs.length).toNat, ?_⟩
  rw [Int.toNat_of_nonneg b.1, Int.add_emod_emod, show a + (a' - a) = a' by omega, Int.emod_eq_of_lt a0 a1]
theorem comes_pace {H : Hill} (ok : H.Ok) {R Y : Nat} (hp : H.IsPace R Y) {a l : Int} {R' Y' m0 : Nat} (a0 : 0 ≤ a) (a1 : a < H.needs.length) (h : H.Comes a l (R' * H.needs.length) ((Y' : Int) * H.yd) m0) : R' * Y = R * Y' := by
  obtain ⟨R0, g, b, k, m1, b0, b1, hb⟩ := hp
  obtain ⟨f, hf⟩ := ant_to ok (a := b) a0 a1
  have hs := comes_shift ok hb f
  rw [hf] at hs
  exact pace_cross ok hs h
theorem pace_uniq {H : Hill} (ok : H.Ok) {R Y R' Y' : Nat} (hp : H.IsPace R Y) (hp' : H.IsPace R' Y') : R = R' ∧ Y = Y' := by
  obtain ⟨R0, g, a, l, m0, a0, a1, h⟩ := hp'
  exact low_eq hp.1 R0 hp.2.1 g (comes_pace ok hp a0 a1 h)
theorem nat_le_sum {k : Nat} : ∀ {ks : List Nat}, k ∈ ks → k ≤ ks.sum
  | [], h => by cases h
  | x :: ks, h => by
    rw [List.sum_cons]
    rcases List.mem_cons.mp h with rfl | h
    · omega
    · have := nat_le_sum h
      omega
theorem tour_pace {H : Hill} (ok : H.Ok) {a l : Int} {ks : List Nat} {i T : Nat} {D : Int} (tk : H.TourOk a l ks i T D) (a0 : 0 ≤ a) (a1 : a < H.needs.length) : ∃ R Y m0, H.IsPace R Y ∧ T = R * H.needs.length ∧ D = (Y : Int) * H.yd ∧ H.Comes a l T D m0 := by
  obtain ⟨R, Y, hT, hD, R0, g⟩ := tk.low
  have key : ∃ m0, H.Comes a l T D m0 := by
    rcases Nat.lt_or_ge i ks.length with z | z
    · exact ⟨ks[i], (tk.row _ (List.getElem?_eq_getElem z)).2.2⟩
    · have e : i = ks.length := by have := tk.i1; omega
      obtain ⟨m0, hm⟩ : ∃ m0, ∀ k ∈ ks, k ≤ m0 := by
        refine ⟨ks.sum, fun k hk => ?_⟩
        exact nat_le_sum hk
      exact ⟨m0, fun m h => (tk.non e).2 m fun k hk => by have := hm k hk; omega⟩
  obtain ⟨m0, hm⟩ := key
  refine ⟨R, Y, m0, ⟨R0, g, a, l, m0, a0, a1, ?_⟩, hT, hD, hm⟩
  rw [← hT, ← hD]; exact hm

/-! from when on it comes round -/
def Hill.IsBegin (H : Hill) (a l : Int) (T : Nat) (D : Int) (m : Nat) : Prop := H.lineAt a l (m + T) = H.lineAt a l m + D ∧ ∀ j, j < m → H.lineAt a l (j + T) ≠ H.lineAt a l j + D
theorem Hill.IsBegin.uniq {H : Hill} {a l : Int} {T : Nat} {D : Int} {m m' : Nat} (h : H.IsBegin a l T D m) (h' : H.IsBegin a l T D m') : m = m' := by
  rcases Nat.lt_trichotomy m m' with z | z | z
  · exact absurd h.1 (h'.2 _ z)
  · exact z
  · exact absurd h'.1 (h.2 _ z)
theorem maxL_is : ∀ (ns : List Int) (m : Int), m ≤ maxL m ns ∧ (∀ x ∈ ns, x ≤ maxL m ns) ∧ (maxL m ns = m ∨ maxL m ns ∈ ns)
  | [], m => ⟨Int.le_refl _, fun _ h => (nomatch h), .inl rfl⟩
  | y :: ns, m => by
    have e : m ≤ (if y > m then y else m) ∧ y ≤ (if y > m then y else m) ∧ ((if y > m then y else m) = m ∨ (if y > m then y else m) = y) := by split <;> omega
    unfold maxL
    generalize (if y > m then y else m) = z at *
    obtain ⟨h1, h2, h3⟩ := maxL_is ns z
    refine ⟨by omega, ?_, ?_⟩
    · intro x hx
      rcases List.mem_cons.mp hx with h | h
      · omega
      · exact h2 x h
    · rcases h3 with h3 | h3
      · rw [h3]
        rcases e.2.2 with q | q
        · exact .inl q
        · exact .inr (by rw [q]; exact List.mem_cons_self)
      · exact .inr (List.mem_cons_of_mem _ h3)
theorem o_maxL {S : Store} {n : Int} {ns : List Int} {xs : List Val} {R : Val → Prop} (e : xs = (n :: ns).map Val.int) (q : R (.int (maxL n ns))) : OP (bltSem S .max (.lv xs :: [])) R := by
  subst e
  refine ⟨_, ?_, q⟩
  show (intsOf ((n :: ns).map Val.int)).bind _ = _
  rw [ints_map]; rfl

/-! till a line comes again -/
theorem keys_le {H : Hill} (ok : H.Ok) {a l : Int} {c : Nat} (nd : ((List.range c).map (H.keyK a l)).Nodup) : c ≤ H.needs.length * H.yd.toNat := by
  have y0 := ok.y0
  have h := nodup_le (m := (List.range H.needs.length).flatMap fun i => (List.range H.yd.toNat).map fun j => (((i : Nat) : Int), ((j : Nat) : Int))) nd (by
    intro x hx
    obtain ⟨k, _, rfl⟩ := List.mem_map.mp hx
    have r := Hill.ant_ok ok (a + (k : Int))
    have m0 := Int.emod_nonneg (H.lineAt a l k) (show H.yd ≠ 0 by omega)
    have m1 := Int.emod_lt_of_pos (H.lineAt a l k) y0
    rw [List.mem_flatMap]
    refine ⟨((a + (k : Int)) % H.needs.length).toNat, List.mem_range.mpr (by omega), List.mem_map.mpr ⟨(H.lineAt a l k % H.yd).toNat, List.mem_range.mpr (by omega), ?_⟩⟩
    unfold Hill.keyK
    rw [Int.toNat_of_nonneg r.1, Int.toNat_of_nonneg m0])
  rw [List.length_map, List.length_range, List.length_flatMap] at h
  have e : ((List.range H.needs.length).map fun i => ((List.range H.yd.toNat).map fun j => (((i : Nat) : Int), ((j : Nat) : Int))).length).sum = H.needs.length * H.yd.toNat := by
    simp only [List.length_map, List.length_range]
    have : ∀ N : Nat, ((List.range N).map fun _ => H.yd.toNat).sum = N * H.yd.toNat := by
      intro N
      induction N with
      | zero => simp
      | succ N ih => rw [List.range_succ, List.map_append, List.sum_append, ih, Nat.succ_mul]; simp
    exact this _
  omega
/-- what the first line that comes again tells -/
theorem round_is {H : Hill} (ok : H.Ok) {a l : Int} (a0 : 0 ≤ a) (a1 : a < H.needs.length) {j c : Nat} (jc : j < c) (he : H.keyK a l c = H.keyK a l j) (nd : ((List.range c).map (H.keyK a l)).Nodup) : ∃ R Y : Nat, c - j = R * H.needs.length ∧ H.lineAt a l c - H.lineAt a l j = (Y : Int) * H.yd ∧ H.IsPace R Y ∧ H.IsBegin a l (R * H.needs.length) ((Y : Int) * H.yd) j := by
  have ne := ok.ne
  have y0 := ok.y0
  unfold Hill.keyK at he
  rw [Prod.mk.injEq] at he
  obtain ⟨R, hR⟩ : ∃ R, c = j + R * H.needs.length := by
    have dv : ((H.needs.length : Int)) ∣ ((c : Int) - j) := by
      have : ((a + (c : Int)) - (a + (j : Int))) % (H.needs.length : Int) = 0 := Int.emod_eq_emod_iff_emod_sub_eq_zero.mp he.1
      rw [show (a + (c : Int)) - (a + (j : Int)) = (c : Int) - j by omega] at this
      exact Int.dvd_of_emod_eq_zero this
    obtain ⟨q, hq⟩ := dv
    have q0 : 0 ≤ q := by
      rcases Int.lt_or_le q 0 with z | z
      · have := Int.mul_neg_of_pos_of_neg (show (0 : Int) < H.needs.length by omega) z
        omega
      · exact z
    refine ⟨q.toNat, ?_⟩
    have : ((q.toNat * H.needs.length : Nat) : Int) = (H.needs.length : Int) * q := by rw [Int.natCast_mul, Int.toNat_of_nonneg q0, Int.mul_comm]
    omega
  have R0 : 0 < R := by
    rcases Nat.eq_zero_or_pos R with z | z
    · rw [z, Nat.zero_mul] at hR; omega
    · exact z
  have mono := (line_strict ok a l (Nat.le_of_lt jc))
  obtain ⟨Y, hY⟩ : ∃ Y : Nat, H.lineAt a l c = H.lineAt a l j + (Y : Int) * H.yd := by
    have e1 := Int.emod_add_mul_ediv (H.lineAt a l c) H.yd
    have e2 := Int.emod_add_mul_ediv (H.lineAt a l j) H.yd
    have q0 : 0 ≤ H.lineAt a l c / H.yd - H.lineAt a l j / H.yd := by
      have := Int.ediv_le_ediv y0 (show H.lineAt a l j ≤ H.lineAt a l c by omega)
      omega
    refine ⟨(H.lineAt a l c / H.yd - H.lineAt a l j / H.yd).toNat, ?_⟩
    rw [Int.toNat_of_nonneg q0, Int.sub_mul, Int.mul_comm _ H.yd, Int.mul_comm _ H.yd]
    omega
  have com : H.Comes a l (R * H.needs.length) ((Y : Int) * H.yd) j := comes_of ok (by rw [← hR]; exact hY)
  have dist : ∀ x y : Nat, x < c → y < c → H.keyK a l x = H.keyK a l y → x = y := fun x y hx hy e => nd_inj nd (List.mem_range.mpr hx) (List.mem_range.mpr hy) e
  have keyR : ∀ (m r : Nat) (z : Int), H.lineAt a l (m + r * H.needs.length) = H.lineAt a l m + z * H.yd → H.keyK a l (m + r * H.needs.length) = H.keyK a l m := by
    intro m r z h
    unfold Hill.keyK
    rw [ant_round, h, Int.add_mul_emod_self_right]
  have g1 : Nat.gcd R Y = 1 := by
    have g0 : 0 < Nat.gcd R Y := Nat.gcd_pos_of_pos_left _ R0
    obtain ⟨R', hR'⟩ := Nat.gcd_dvd_left R Y
    obtain ⟨Y', hY'⟩ := Nat.gcd_dvd_right R Y
    generalize Nat.gcd R Y = g at *
    have ra := Hill.ant_ok ok (a + (j : Int))
    have e1 : H.lineAt ((a + j) % H.needs.length) (H.lineAt a l j) (g * (R' * H.needs.length)) = H.lineAt a l j + (g : Int) * Y' * H.yd := by
      rw [Hill.lineAt_join ok, ← Nat.mul_assoc, ← hR', ← hR, hY, hY', Int.natCast_mul]
    have e2 := rot_eq ok ra.1 ra.2 g0 e1
    rw [Hill.lineAt_join ok] at e2
    rcases (show g = 1 ∨ 2 ≤ g by omega) with z | z
    · exact z
    exfalso
    have R1 : 0 < R' := by
      rcases Nat.eq_zero_or_pos R' with z | z
      · rw [z, Nat.mul_zero] at hR'; omega
      · exact z
    have lt : R' * H.needs.length < R * H.needs.length := by
      refine Nat.mul_lt_mul_of_pos_right ?_ ne
      rw [hR']
      have : 2 * R' ≤ g * R' := Nat.mul_le_mul_right _ z
      omega
    have p := Nat.mul_pos R1 ne
    have := dist _ _ (by omega) (by omega) (keyR j R' Y' e2)
    omega
  refine ⟨R, Y, by omega, by omega, ⟨R0, g1, a, l, j, a0, a1, com⟩, com j (Nat.le_refl _), fun k hk h => ?_⟩
  have := dist _ _ (by omega) (by omega) (keyR k R Y h)
  have := Nat.mul_pos R0 ne
  omega
theorem nodup_upto {α : Type} {f : Nat → α} {c : Nat} (h : ∀ d, d < c → f d ∉ (List.range d).map f) : ((List.range c).map f).Nodup := by
  induction c with
  | zero => exact List.nodup_nil
  | succ c ih =>
    rw [List.range_succ, List.map_append, List.nodup_append]
    refine ⟨ih fun d hd => h d (by omega), by simp, fun x hx y hy e => ?_⟩
    simp only [List.map_cons, List.map_nil, List.mem_singleton] at hy
    subst e
    subst hy
    exact h c (by omega) hx
/-- it comes round within as many turns as there are places -/
theorem begin_le {H : Hill} (ok : H.Ok) {a : Int} (l : Int) (a0 : 0 ≤ a) (a1 : a < H.needs.length) {R Y : Nat} (hp : H.IsPace R Y) : ∃ j, j < H.needs.length * H.yd.toNat ∧ H.IsBegin a l (R * H.needs.length) ((Y : Int) * H.yd) j := by
  have ex : ∃ c, H.keyK a l c ∈ (List.range c).map (H.keyK a l) := by
    rcases Classical.em (∃ c, H.keyK a l c ∈ (List.range c).map (H.keyK a l)) with h | h
    · exact h
    · have := keys_le ok (nodup_upto (f := H.keyK a l) (c := H.needs.length * H.yd.toNat + 1) fun d _ hd => h ⟨d, hd⟩)
      omega
  obtain ⟨c, hc, hm⟩ := least_ex ex
  have nd := nodup_upto (f := H.keyK a l) (c := c) hm
  obtain ⟨j, hj, e⟩ := List.mem_map.mp hc
  have jc := List.mem_range.mp hj
  have := keys_le ok nd
  obtain ⟨R', Y', _, _, hp', hb⟩ := round_is ok a0 a1 jc e.symm nd
  obtain ⟨rfl, rfl⟩ := pace_uniq ok hp hp'
  exact ⟨j, by omega, hb⟩
theorem comes_le {H : Hill} (ok : H.Ok) {a : Int} (l : Int) (a0 : 0 ≤ a) (a1 : a < H.needs.length) {R Y : Nat} (hp : H.IsPace R Y) : H.Comes a l (R * H.needs.length) ((Y : Int) * H.yd) (H.needs.length * H.yd.toNat) := by
  obtain ⟨j, hj, hb⟩ := begin_le ok l a0 a1 hp
  exact fun m hm => comes_of ok hb.1 m (by omega)

/-! a greater pot -/
def Hill.withPot (H : Hill) (p : Int) : Hill := ⟨H.year, H.needs, p⟩
section
variable {H : Hill} {p : Int}
theorem pot_ok (ok : H.Ok) (h0 : 0 ≤ p) (h1 : p ≤ 10 ^ 17) : (H.withPot p).Ok := ⟨ok.d0, ok.y0, ok.op, ok.n0, ok.ne, h0, ok.len, ok.yb, ok.nl, ok.nb, h1⟩
theorem pot_nxt (t : Int) : (H.withPot p).nxt t = H.nxt t := rfl
theorem pot_lost (h : H.most ≤ p) (t : Int) : (H.withPot p).lostAt t ≤ H.lostAt t := by
  have e : (H.withPot p).most = p := rfl
  unfold Hill.lostAt
  rw [pot_nxt, e]
  split <;> split <;> omega
theorem pot_to (h : H.most ≤ p) (t : Int) : (H.withPot p).to t ≤ H.to t := by
  have := pot_lost h t
  unfold Hill.to
  omega
theorem pot_line (ok : H.Ok) (ok' : (H.withPot p).Ok) (h : H.most ≤ p) (a l : Int) (m : Nat) : (H.withPot p).lineAt a l m ≤ H.lineAt a l m := by
  induction m with
  | zero => exact Int.le_refl _
  | succ m ih =>
    show (H.withPot p).to ((H.withPot p).lineAt a l m + H.need ((a + m) % H.needs.length)) ≤ H.to (H.lineAt a l m + H.need ((a + m) % H.needs.length))
    refine Int.le_trans (pot_to h _) (Hill.to_mono ok ?_)
    omega
end

/-! all so many times as great -/
def Hill.times (H : Hill) (z : Int) : Hill := ⟨H.year.map fun d => (z * d.1, d.2), H.needs.map (z * ·), z * H.most⟩
section
variable {H : Hill} {z : Int}
theorem sum_times (z : Int) : ∀ l : List Int, (l.map (z * ·)).sum = z * l.sum
  | [] => by simp
  | x :: l => by rw [List.map_cons, List.sum_cons, List.sum_cons, sum_times z l, Int.mul_add]
theorem times_L : (H.times z).L = H.L := by unfold Hill.times Hill.L; simp
theorem times_yd : (H.times z).yd = z * H.yd := by
  unfold Hill.times Hill.yd
  rw [List.map_map, ← sum_times, List.map_map]; rfl
theorem times_pre (k : Nat) : (H.times z).pre k = z * H.pre k := by
  unfold Hill.times Hill.pre
  simp only
  rw [← List.map_take, List.map_map, ← sum_times, List.map_map]; rfl
theorem times_given (d : Int) : (H.times z).given d = z * H.given d := by
  unfold Hill.given
  rw [times_L, times_yd, times_pre, Int.mul_add, Int.mul_left_comm]
theorem times_lit (ok : H.Ok) (d : Int) : (H.times z).lit d = H.lit d := by
  unfold Hill.lit Hill.day
  rw [times_L]
  have l0 := ok.L0
  have h1 := Int.emod_lt_of_pos d l0
  have h2 := Int.emod_nonneg d (show H.L ≠ 0 by omega)
  have hk : (d % H.L).toNat < H.year.length := by unfold Hill.L at *; omega
  unfold Hill.times
  simp only
  rw [List.getD_eq_getElem?_getD, List.getD_eq_getElem?_getD, List.getElem?_map, List.getElem?_eq_getElem hk]
  rfl
theorem times_needs : (H.times z).needs.length = H.needs.length := by unfold Hill.times; simp
theorem times_need {a : Int} (h0 : 0 ≤ a) (h1 : a < H.needs.length) : (H.times z).need a = z * H.need a := by
  unfold Hill.need Hill.times
  simp only
  have hk : a.toNat < H.needs.length := by omega
  rw [List.getD_eq_getElem?_getD, List.getD_eq_getElem?_getD, List.getElem?_map, List.getElem?_eq_getElem hk]
  rfl
theorem times_day (ok : H.Ok) (ok' : (H.times z).Ok) (z0 : 0 < z) (t : Int) : (H.times z).dayOf (z * t) = H.dayOf t := by
  have is := Hill.dayOf_is ok t
  apply Hill.dayOf_eq ok'
  refine ⟨⟨by rw [times_lit ok]; exact is.1.1, by rw [times_given]; exact Int.mul_le_mul_of_nonneg_left is.1.2 (by omega)⟩, fun d hd hp => is.2 d hd ⟨by have := hp.1; rw [times_lit ok] at this; exact this, ?_⟩⟩
  have h := hp.2
  rw [times_given] at h
  exact Int.le_of_mul_le_mul_left h z0
theorem times_nxt (ok : H.Ok) (ok' : (H.times z).Ok) (z0 : 0 < z) (t : Int) : (H.times z).nxt (z * t) = z * H.nxt t := by
  unfold Hill.nxt
  rw [times_day ok ok' z0, times_given]
theorem times_lost (ok : H.Ok) (ok' : (H.times z).Ok) (z0 : 0 < z) (t : Int) : (H.times z).lostAt (z * t) = z * H.lostAt t := by
  unfold Hill.lostAt
  rw [times_nxt ok ok' z0, show (H.times z).most = z * H.most from rfl, ← Int.mul_sub, ← Int.mul_sub]
  rcases Int.lt_or_le 0 (H.nxt t - H.most - t) with q | q
  · have := Int.mul_pos z0 q
    rw [if_pos q, if_pos (by omega)]
  · have : z * (H.nxt t - H.most - t) ≤ 0 := Int.mul_nonpos_of_nonneg_of_nonpos (by omega) q
    rw [if_neg (by omega), if_neg (by omega), Int.mul_zero]
theorem times_to (ok : H.Ok) (ok' : (H.times z).Ok) (z0 : 0 < z) (t : Int) : (H.times z).to (z * t) = z * H.to t := by
  unfold Hill.to
  rw [times_lost ok ok' z0, Int.mul_add]
theorem times_line (ok : H.Ok) (ok' : (H.times z).Ok) (z0 : 0 < z) (a l : Int) (m : Nat) : (H.times z).lineAt a (z * l) m = z * H.lineAt a l m := by
  induction m with
  | zero => rfl
  | succ m ih =>
    have r := Hill.ant_ok ok (a + (m : Int))
    show (H.times z).to ((H.times z).lineAt a (z * l) m + (H.times z).need ((a + m) % (H.times z).needs.length)) = z * H.to (H.lineAt a l m + H.need ((a + m) % H.needs.length))
    rw [ih, times_needs, times_need r.1 r.2, ← Int.mul_add, times_to ok ok' z0]
end
/-! the hill that is gone through by hand: 2, 0, 3 drops, the first day shut, one ant of 2 -/
def hand (c : Int) : Hill := ⟨[(2, false), (0, true), (3, true)], [2], c⟩
theorem hand_ok {c : Int} (h0 : 0 ≤ c) (h1 : c ≤ 10 ^ 17) : (hand c).Ok := by
  refine ⟨?_, by show (0 : Int) < 5; decide, ⟨(0, true), by unfold hand; simp, rfl⟩, ?_, by show 0 < 1; decide, h0, by show 3 ≤ 60; decide, by show (5 : Int) ≤ 10 ^ 16; decide, by show 1 ≤ 60; decide, ?_, h1⟩
  · intro p hp
    unfold hand at hp
    simp at hp
    rcases hp with rfl | rfl | rfl <;> decide
  · intro n hn
    unfold hand at hn
    simp at hn
    omega
  · intro n hn
    unfold hand at hn
    simp at hn
    subst hn
    decide
theorem hand_given (c k : Int) : (hand c).given (1 + k * 3) = 2 + k * 5 ∧ (hand c).given (2 + k * 3) = 5 + k * 5 ∧ (hand c).given (0 + k * 3) = 2 + k * 5 := by
  have L : (hand c).L = 3 := rfl
  have Y : (hand c).yd = 5 := rfl
  refine ⟨?_, ?_, ?_⟩
  · unfold Hill.given
    rw [L, Y, show 1 + k * 3 + 1 = 2 + k * 3 by omega, Int.add_mul_ediv_right _ _ (by decide), Int.add_mul_emod_self_right]
    show (0 + k) * 5 + 2 = _
    omega
  · unfold Hill.given
    rw [L, Y, show 2 + k * 3 + 1 = 0 + (k + 1) * 3 by omega, Int.add_mul_ediv_right _ _ (by decide), Int.add_mul_emod_self_right]
    show (0 + (k + 1)) * 5 + 0 = _
    omega
  · unfold Hill.given
    rw [L, Y, show 0 + k * 3 + 1 = 1 + k * 3 by omega, Int.add_mul_ediv_right _ _ (by decide), Int.add_mul_emod_self_right]
    show (0 + k) * 5 + 2 = _
    omega
theorem hand_lit (c k : Int) : (hand c).lit (1 + k * 3) = true ∧ (hand c).lit (2 + k * 3) = true ∧ (hand c).lit (0 + k * 3) = false := by
  have L : (hand c).L = 3 := rfl
  refine ⟨?_, ?_, ?_⟩ <;> unfold Hill.lit Hill.day <;> rw [L, Int.add_mul_emod_self_right] <;> rfl
/-- the day of a total; what it brings -/
def hDay (t : Int) : Int := if t % 5 = 0 then 2 + (t / 5 - 1) * 3 else if t % 5 ≤ 2 then 1 + t / 5 * 3 else 2 + t / 5 * 3
def hNxt (t : Int) : Int := if t % 5 = 0 then t else if t % 5 ≤ 2 then t - t % 5 + 2 else t - t % 5 + 5
theorem hand_day {c : Int} (h0 : 0 ≤ c) (h1 : c ≤ 10 ^ 17) (t : Int) : (hand c).dayOf t = hDay t ∧ (hand c).nxt t = hNxt t := by
  have ok := hand_ok h0 h1
  have key : (hand c).dayOf t = hDay t := by
    apply Hill.dayOf_eq ok
    have cs : ∀ d, (hand c).Ev t d → (∃ k, d = 1 + k * 3 ∧ t ≤ 2 + k * 5) ∨ ∃ k, d = 2 + k * 3 ∧ t ≤ 5 + k * 5 := by
      intro d hd
      rcases (show (∃ k, d = 0 + k * 3) ∨ (∃ k, d = 1 + k * 3) ∨ ∃ k, d = 2 + k * 3 from by
        rcases (show d % 3 = 0 ∨ d % 3 = 1 ∨ d % 3 = 2 by omega) with h | h | h
        · exact .inl ⟨d / 3, by omega⟩
        · exact .inr (.inl ⟨d / 3, by omega⟩)
        · exact .inr (.inr ⟨d / 3, by omega⟩)) with ⟨k, rfl⟩ | ⟨k, rfl⟩ | ⟨k, rfl⟩
      · have := hd.1
        rw [(hand_lit c k).2.2] at this
        cases this
      · have := hd.2
        rw [(hand_given c k).1] at this
        exact .inl ⟨k, rfl, this⟩
      · have := hd.2
        rw [(hand_given c k).2.1] at this
        exact .inr ⟨k, rfl, this⟩
    refine ⟨?_, fun d hd hp => ?_⟩
    · unfold hDay
      split
      · exact ⟨(hand_lit c _).2.1, by rw [(hand_given c _).2.1]; omega⟩
      · split
        · exact ⟨(hand_lit c _).1, by rw [(hand_given c _).1]; omega⟩
        · exact ⟨(hand_lit c _).2.1, by rw [(hand_given c _).2.1]; omega⟩
    · unfold hDay at hd
      rcases cs d hp with ⟨k, rfl, h⟩ | ⟨k, rfl, h⟩ <;> split at hd <;> (try split at hd) <;> omega
  refine ⟨key, ?_⟩
  unfold Hill.nxt
  rw [key]
  unfold hDay hNxt
  split
  · rw [(hand_given c _).2.1]; omega
  · split
    · rw [(hand_given c _).1]; omega
    · rw [(hand_given c _).2.1]; omega
def hTo (c t : Int) : Int := if hNxt t - c > t then hNxt t - c else t
theorem hand_to {c : Int} (h0 : 0 ≤ c) (h1 : c ≤ 10 ^ 17) (t : Int) : (hand c).to t = hTo c t := by
  unfold Hill.to Hill.lostAt hTo
  rw [(hand_day h0 h1 t).2, show (hand c).most = c from rfl]
  split <;> split <;> omega
theorem hand_succ {c : Int} (h0 : 0 ≤ c) (h1 : c ≤ 10 ^ 17) (l : Int) (m : Nat) : (hand c).lineAt 0 l (m + 1) = hTo c ((hand c).lineAt 0 l m + 2) := by
  show (hand c).to ((hand c).lineAt 0 l m + (hand c).need ((0 + (m : Int)) % (1 : Nat))) = _
  rw [hand_to h0 h1, show (0 + (m : Int)) % ((1 : Nat) : Int) = 0 by omega]
  rfl

/-- for each cell a box, then a body; True at the end -/
def bodyBody (z : Int) (body : SL) : SL := (.cons (.asg (.nm 1) (.call false i_law_folded (.cons (.var 0) (.cons (.con (.int z)) .nil)))) (.cons (.for (.nm 2) .range (.cons (.blt .max (.cons (.con (.int 1)) (.cons (.blt .len (.cons (.var 1) .nil)) .nil))) .nil) (.cons (.asg (.nm 3) (.call true i_law_box (.cons (.var 1) (.cons (.var 2) .nil)))) body)) (.cons (.ret (.con (.bl true))) .nil)))
theorem law_body (il z k : Nat) (body : SL) (hz : 0 < z) (hz2 : z ≤ 63) (hd : Δ il = some ⟨1, 4 + k, bodyBody z body⟩)
    (hr : ∀ (B : Bs) (x : Bx) (v0 v1 v2 : Val) (ys : Env), ys.length = k → Bx.Ok x 0 → Runs (orc Δ 229) body (some v0 :: some v1 :: some v2 :: some (.ref B.m) :: ys) (B.st x) (fun o => ∃ (ys' : Env) (S' : Store), ys'.length = k ∧ o = .nx (some v0 :: some v1 :: some v2 :: some (.ref B.m) :: ys') S')) (ns : List Int) (h : ns.length ≤ 63) : ∃ S, run Δ 230 il [.sl (ns.map Val.int)] [] = some (.bl true, S) := by
  obtain ⟨cells, ec, hc⟩ := folded_run 228 ns z hz hz2 []
  have key : RUN Δ (229 + 1) il [.sl (ns.map Val.int)] [] fun v S2 => v = .bl true := by
    refine RUN.mk' (ρ := some (.sl (ns.map Val.int)) :: none :: none :: none :: List.replicate k none) hd rfl (Nat.ble_eq_true_of_le (by omega)) ?_ ?_
    · unfold startE
      rw [show 4 + k - [Val.sl (ns.map Val.int)].length = 3 + k by simp, show 3 + k = k + 1 + 1 + 1 by omega, List.replicate_succ, List.replicate_succ, List.replicate_succ]
      rfl
    unfold bodyBody
    apply x_asg
    apply w_call
    walk_at "wp"
    refine ⟨_, _, _, _, ec, gc_lst (G := [.lst (cells.map Val.int)]) rfl rfl (fits_ints _ _), ?_⟩
    walk_at "wp"
    apply x_for
    walk_at "wp"
    obtain ⟨K, hK⟩ : ∃ K : Nat, (if ((cells.map Val.int).length : Int) > 1 then ((cells.map Val.int).length : Int) else 1) = (K : Int) ∧ K ≤ 63 := by
      refine ⟨if (cells.map Val.int).length > 1 then (cells.map Val.int).length else 1, ?_, ?_⟩
      · split <;> split <;> omega
      · rw [List.length_map]; split <;> omega
    rw [hK.1]
    refine ⟨rfl, i_range (by omega) ?_⟩
    rw [Int.toNat_natCast]
    refine ⟨fun j ρ' S' => ∃ (y2 y3 : Option Val) (ys : Env), ys.length = k ∧ ρ' = some (.sl (ns.map Val.int)) :: some (.lv (cells.map Val.int)) :: y2 :: y3 :: ys, ⟨_, _, _, List.length_replicate .., rfl⟩, ?_, ?_⟩
    · rintro j y ρ' S' hy ⟨y2, y3, ys, hl, rfl⟩
      obtain ⟨hj, rfl⟩ := range_get hy
      obtain ⟨xb, eb, okb⟩ := box_run 228 cells j (by omega) S'
      walk_at "wp"
      rw [show (0 : Int) + (j : Int) = (j : Int) by omega]
      refine ⟨_, _, eb, ?_⟩
      walk_at "wp"
      have q := hr ⟨S', []⟩ xb (.sl (ns.map Val.int)) (.lv (cells.map Val.int)) (.int j) ys hl okb
      obtain ⟨o, h1, ys', S2, hl', rfl⟩ := q
      refine ⟨_, h1, ?_⟩
      exact ⟨_, _, ys', hl', rfl⟩
    · rintro ρ' S' ⟨y2, y3, ys, hl, rfl⟩
      walk_at "wp"
      rfl
  obtain ⟨v, S2, h1, rfl⟩ := key
  exact ⟨S2, h1⟩

theorem hand_val (z c : Int) : ((hand c).times z).val true = .tup [.tup [.tup [.int (2 * z), .bl false], .tup [.int 0, .bl true], .tup [.int (3 * z), .bl true]], .tup [.int (2 * z)], .int (c * z)] := by
  show Val.tup [.tup [.tup [.int (z * 2), .bl false], .tup [.int (z * 0), .bl true], .tup [.int (z * 3), .bl true]], .tup [.int (z * 2)], .int (z * c)] = _
  rw [Int.mul_comm z 2, Int.mul_comm z 3, Int.mul_zero, Int.mul_comm z c]
theorem handz_ok {z c : Int} (z0 : 1 ≤ z) (z1 : z ≤ 10 ^ 11) (c0 : 0 ≤ c) (c1 : c ≤ 10) : ((hand c).times z).Ok := by
  refine ⟨?_, ?_, ⟨(z * 0, true), by unfold hand Hill.times; simp, rfl⟩, ?_, by show 0 < 1; decide, ?_, by show 3 ≤ 60; decide, ?_, by show 1 ≤ 60; decide, ?_, ?_⟩
  · intro p hp
    unfold hand Hill.times at hp
    simp at hp
    rcases hp with rfl | rfl | rfl <;> dsimp only <;> omega
  · rw [times_yd]; show 0 < z * 5; omega
  · intro n hn
    unfold hand Hill.times at hn
    simp at hn
    omega
  · show 0 ≤ z * c; exact Int.mul_nonneg (by omega) c0
  · rw [times_yd]; show z * 5 ≤ 10 ^ 16; omega
  · intro n hn
    unfold hand Hill.times at hn
    simp at hn
    omega
  · show z * c ≤ 10 ^ 17
    have : z * c ≤ 10 ^ 11 * 10 := Int.mul_le_mul z1 c1 c0 (by decide)
    omega
theorem handz_line {z c : Int} (z0 : 1 ≤ z) (z1 : z ≤ 10 ^ 11) (c0 : 0 ≤ c) (c1 : c ≤ 10) (x : Int) (m : Nat) : ((hand c).times z).lineAt 0 (z * x) m = z * (hand c).lineAt 0 x m :=
  times_line (hand_ok c0 (by omega)) (handz_ok z0 z1 c0 c1) (by omega) 0 x m
theorem handz_st {z c y p : Int} (z0 : 1 ≤ z) (c0 : 0 ≤ c) (c1 : c ≤ 10) (p0 : 0 ≤ p) (p1 : p ≤ z * c) : StOk ((hand c).times z) ⟨1 + 3 * y, 0, p⟩ ∧ StOk ((hand c).times z) ⟨2 + 3 * y, 0, p⟩ ∧ ((hand c).times z).line ⟨1 + 3 * y, 0, p⟩ = z * (2 + 5 * y) - p ∧ ((hand c).times z).line ⟨2 + 3 * y, 0, p⟩ = z * (5 + 5 * y) - p := by
  have ok := hand_ok c0 (show c ≤ 10 ^ 17 by omega)
  have hl := hand_lit c y
  have hg := hand_given c y
  rw [Int.mul_comm y 3, Int.mul_comm y 5] at hg
  rw [Int.mul_comm y 3] at hl
  refine ⟨⟨by show ((hand c).times z).lit (1 + 3 * y) = true; rw [times_lit ok]; exact hl.1, by show (0 : Int) ≤ 0; decide, by show (0 : Int) < 1; decide, p0, p1⟩, ⟨by show ((hand c).times z).lit (2 + 3 * y) = true; rw [times_lit ok]; exact hl.2.1, by show (0 : Int) ≤ 0; decide, by show (0 : Int) < 1; decide, p0, p1⟩, ?_, ?_⟩
  · show ((hand c).times z).given (1 + 3 * y) - p = _
    rw [times_given, hg.1]
  · show ((hand c).times z).given (2 + 3 * y) - p = _
    rw [times_given, hg.2.1]

section
variable {z c : Int}
theorem handz_stAt (z0 : 1 ≤ z) (z1 : z ≤ 10 ^ 11) (c0 : 0 ≤ c) (c1 : c ≤ 10) {s : St3} (so : StOk ((hand c).times z) s) {x0 x D : Int} (hl : ((hand c).times z).line s = z * x0) {m : Nat} (hm : (hand c).lineAt 0 x0 m = x) (ha : s.ant = 0) (hD : hDay x = D) (hd : s.day ≤ D) : ((hand c).times z).stAt s m = ⟨D, 0, z * (hand c).given D - z * x⟩ := by
  have ok := handz_ok z0 z1 c0 c1
  have okh := hand_ok c0 (show c ≤ 10 ^ 17 by omega)
  have e : ((hand c).times z).lineAt s.ant (((hand c).times z).line s) m = z * x := by rw [ha, hl, handz_line z0 z1 c0 c1, hm]
  rw [stAt_stood ok so, e]
  have ed : ((hand c).times z).stoodD s.day (z * x) = D := by
    unfold Hill.stoodD
    rw [times_day okh ok (by omega), (hand_day c0 (by omega) x).1, hD]
    split <;> omega
  rw [ed, times_given, ha]
  congr 1
  show (0 + (m : Int)) % ((1 : Nat) : Int) = 0
  omega
theorem handz_need (z0 : 1 ≤ z) (z1 : z ≤ 10 ^ 11) (c0 : 0 ≤ c) (c1 : c ≤ 10) (m : Nat) : ((hand c).times z).needSum 0 m = m * (2 * z) := by
  have ok := handz_ok z0 z1 c0 c1
  have h := Hill.needSum_rounds ok 0 m 0
  rw [show ((hand c).times z).needs.length = 1 from rfl, Nat.mul_one, Nat.add_zero, Hill.needSum_zero, show ((hand c).times z).ring = z * 2 from by unfold Hill.ring hand Hill.times; simp] at h
  rw [h, Int.mul_comm z 2]; omega
theorem handz_lost (z0 : 1 ≤ z) (z1 : z ≤ 10 ^ 11) (c0 : 0 ≤ c) (c1 : c ≤ 10) {x0 x : Int} {m : Nat} (hm : (hand c).lineAt 0 x0 m = x) : ((hand c).times z).lostIn 0 (z * x0) m = z * (x - x0 - 2 * m) := by
  unfold Hill.lostIn
  rw [handz_line z0 z1 c0 c1, hm, handz_need z0 z1 c0 c1, Int.mul_sub, Int.mul_sub, show (m : Int) * (2 * z) = z * (2 * m) by rw [Int.mul_comm, Int.mul_assoc, Int.mul_left_comm]]
theorem ou_lit {H : Hill} (ok : H.Ok) {e : Int} (h : H.lit e = true) : H.ou e = e := by
  have o := Hill.ou_is ok e
  have := o.2.2.1 e h (Int.le_refl _)
  omega
theorem hand_ou (z0 : 1 ≤ z) (z1 : z ≤ 10 ^ 11) (c0 : 0 ≤ c) (c1 : c ≤ 10) (q : Int) : ((hand c).times z).ou (1 + 3 * q) = 1 + 3 * q ∧ ((hand c).times z).ou (2 + 3 * q) = 2 + 3 * q ∧ ((hand c).times z).ou (3 + 3 * q) = 2 + 3 * q := by
  have ok := handz_ok z0 z1 c0 c1
  have okh := hand_ok c0 (show c ≤ 10 ^ 17 by omega)
  have l := hand_lit c q
  have l3 := (hand_lit c (q + 1)).2.2
  rw [Int.mul_comm q 3] at l
  rw [show 0 + (q + 1) * 3 = 3 + 3 * q by omega] at l3
  refine ⟨ou_lit ok (by rw [times_lit okh]; exact l.1), ou_lit ok (by rw [times_lit okh]; exact l.2.1), ?_⟩
  have o := Hill.ou_is ok (3 + 3 * q)
  have h1 := o.2.2.1 (2 + 3 * q) (by rw [times_lit okh]; exact l.2.1) (by omega)
  rcases (show ((hand c).times z).ou (3 + 3 * q) = 2 + 3 * q ∨ ((hand c).times z).ou (3 + 3 * q) = 3 + 3 * q by omega) with h | h
  · exact h
  · have := o.1
    rw [h, times_lit okh, l3] at this
    cases this
theorem handz_given (q : Int) : ((hand c).times z).given (1 + 3 * q) = z * (2 + 5 * q) ∧ ((hand c).times z).given (2 + 3 * q) = z * (5 + 5 * q) := by
  have hg := hand_given c q
  rw [Int.mul_comm q 3, Int.mul_comm q 5] at hg
  rw [times_given, times_given, hg.1, hg.2.1]
  exact ⟨rfl, rfl⟩
/-- lines by hand -/
theorem bare_line (q : Nat) : (hand 0).lineAt 0 2 (2 * q) = 2 + 5 * q ∧ (hand 0).lineAt 0 2 (2 * q + 1) = 5 + 5 * q := by
  have s0 : ∀ x m, (hand 0).lineAt 0 x (m + 1) = hTo 0 ((hand 0).lineAt 0 x m + 2) := fun x m => hand_succ (by decide) (by decide) x m
  have e1 : ∀ y : Int, hTo 0 (2 + 5 * y + 2) = 5 + 5 * y := by
    intro y; unfold hTo hNxt; repeat' split
    all_goals omega
  have e2 : ∀ y : Int, hTo 0 (5 + 5 * y + 2) = 7 + 5 * y := by
    intro y; unfold hTo hNxt; repeat' split
    all_goals omega
  have main : (hand 0).lineAt 0 2 (2 * q) = 2 + 5 * q := by
    induction q with
    | zero => rfl
    | succ q ih =>
      rw [show 2 * (q + 1) = 2 * q + 1 + 1 by omega, s0, s0, ih, e1, e2]
      omega
  exact ⟨main, by rw [s0, main, e1]⟩
theorem small_line (q : Nat) : (hand 1).lineAt 0 2 2 = 6 ∧ (hand 1).lineAt 0 2 (3 + 2 * q) = 9 + 5 * q := by
  have s0 : ∀ x m, (hand 1).lineAt 0 x (m + 1) = hTo 1 ((hand 1).lineAt 0 x m + 2) := fun x m => hand_succ (by decide) (by decide) x m
  have e1 : ∀ y : Int, hTo 1 (9 + 5 * y + 2) = 11 + 5 * y := by
    intro y; unfold hTo hNxt; repeat' split
    all_goals omega
  have e2 : ∀ y : Int, hTo 1 (11 + 5 * y + 2) = 14 + 5 * y := by
    intro y; unfold hTo hNxt; repeat' split
    all_goals omega
  have b2 : (hand 1).lineAt 0 2 2 = 6 := by
    rw [s0, s0, show (hand 1).lineAt 0 2 0 = 2 from rfl]
    decide
  refine ⟨b2, ?_⟩
  induction q with
  | zero =>
    rw [show 3 + 2 * 0 = 2 + 1 from rfl, s0, b2]
    decide
  | succ q ih =>
    rw [show 3 + 2 * (q + 1) = 3 + 2 * q + 1 + 1 by omega, s0, s0, ih, e1, e2]
    omega
theorem great_line (x : Int) (m : Nat) : (hand 2).lineAt 0 x m = x + 2 * m := by
  have s2 : ∀ x m, (hand 2).lineAt 0 x (m + 1) = hTo 2 ((hand 2).lineAt 0 x m + 2) := fun x m => hand_succ (by decide) (by decide) x m
  induction m with
  | zero => show x = _; omega
  | succ m ih =>
    rw [s2, ih]
    unfold hTo hNxt
    repeat' split
    all_goals omega
end
theorem hDay_at (q : Int) : hDay (1 + 5 * q) = 1 + 3 * q ∧ hDay (2 + 5 * q) = 1 + 3 * q ∧ hDay (3 + 5 * q) = 2 + 3 * q ∧ hDay (4 + 5 * q) = 2 + 3 * q ∧ hDay (5 + 5 * q) = 2 + 3 * q := by
  refine ⟨?_, ?_, ?_, ?_, ?_⟩ <;> unfold hDay <;> (repeat' split) <;> omega

/-! data beside itself; rows of numbers compared -/
def dati : Nat → Val → Bool
  | _, .non => true
  | _, .bl _ => true
  | _, .int _ => true
  | _, .str x => PyData.strOk x
  | d + 1, .tup xs => xs.all (dati d)
  | d + 1, .lv xs => xs.all (dati d)
  | _, _ => false
theorem dat_datas {d : Nat} (ih : ∀ v, dati d v = true → ∃ D, (∀ S k, toData S (k + 2 * d) v = some D) ∧ PyData.canLay0 D = true ∧ PyData.depth D ≤ 2 * d + 1 ∧ PyData.eqv D D = true) : ∀ xs : List Val, (xs.all (dati d)) = true →
    ∃ Ds, (∀ S k, toDatas S (k + 2 * d + 1) xs = some Ds) ∧ PyData.canLayAll0 Ds = true ∧ PyData.depthAll Ds ≤ 2 * d + 2 ∧ PyData.eqvAll Ds Ds = true
  | [], _ => ⟨[], fun S k => by simp [toDatas], by simp [PyData.canLayAll0], by simp [PyData.depthAll], by simp [PyData.eqvAll]⟩
  | x :: xs, h => by
    rw [List.all_cons, Bool.and_eq_true] at h
    obtain ⟨D, h1, h2, h3, h4⟩ := ih x h.1
    obtain ⟨Ds, g1, g2, g3, g4⟩ := dat_datas ih xs h.2
    refine ⟨D :: Ds, fun S k => ?_, by simp [PyData.canLayAll0, h2, g2], by simp [PyData.depthAll]; omega, by simp [PyData.eqvAll, h4, g4]⟩
    simp only [toDatas, h1, g1, Option.bind_some, Option.map_some]
theorem dat_data : ∀ (d : Nat) (v : Val), dati d v = true → ∃ D, (∀ S k, toData S (k + 2 * d) v = some D) ∧ PyData.canLay0 D = true ∧ PyData.depth D ≤ 2 * d + 1 ∧ PyData.eqv D D = true
  | d, .non, _ => ⟨.none, fun S k => by simp [toData], by simp [PyData.canLay0], by simp [PyData.depth], by simp [PyData.eqv]⟩
  | d, .bl b, _ => ⟨.bool b, fun S k => by simp [toData], by simp [PyData.canLay0], by simp [PyData.depth], by simp [PyData.eqv]⟩
  | d, .int i, _ => ⟨.int i, fun S k => by simp [toData], by simp [PyData.canLay0], by simp [PyData.depth], by simp [PyData.eqv]⟩
  | d, .str x, h => ⟨.str x, fun S k => by simp [toData], by unfold dati at h; simp only [PyData.canLay0]; exact h, by simp [PyData.depth], by simp [PyData.eqv]⟩
  | d + 1, .tup xs, h => by
    unfold dati at h
    obtain ⟨Ds, h1, h2, h3, h4⟩ := dat_datas (dat_data d) xs h
    exact ⟨.tuple Ds, fun S k => by rw [show k + 2 * (d + 1) = (k + 2 * d + 1) + 1 by omega]; simp only [toData, h1, Option.map_some], by simp only [PyData.canLay0]; exact h2, by simp only [PyData.depth]; omega, by simp only [PyData.eqv]; exact h4⟩
  | d + 1, .lv xs, h => by
    unfold dati at h
    obtain ⟨Ds, h1, h2, h3, h4⟩ := dat_datas (dat_data d) xs h
    exact ⟨.list Ds, fun S k => by rw [show k + 2 * (d + 1) = (k + 2 * d + 1) + 1 by omega]; simp only [toData, h1, Option.map_some], by simp only [PyData.canLay0]; exact h2, by simp only [PyData.depth]; omega, by simp only [PyData.eqv]; exact h4⟩
  | 0, .tup _, h => by unfold dati at h; cases h
  | 0, .lv _, h => by unfold dati at h; cases h
  | _, .sl _, h => by unfold dati at h; cases h
  | _, .iv _ _ _, h => by unfold dati at h; cases h
  | _, .fn _, h => by unfold dati at h; cases h
  | _, .ref _, h => by unfold dati at h; cases h
theorem eq_same {d : Nat} {v : Val} (h : dati d v = true) (hd : d ≤ 9) (S : Store) : eqSem S v v = some true := by
  obtain ⟨D, h1, h2, h3, h4⟩ := dat_data d v h
  have e := h1 S (20 - 2 * d)
  rw [show 20 - 2 * d + 2 * d = 20 by omega] at e
  have s : SeqAt.shaped D = true := by simp [SeqAt.shaped, h2]; omega
  have key : (toData S 20 v).bind (fun d => (toData S 20 v).bind fun e => if SeqAt.shaped d = true ∧ SeqAt.shaped e = true then some (PyData.eqv d e) else none) = some true := by
    simp only [e, Option.bind_some, s, and_self, if_true, h4]
  cases v with
  | non => rfl
  | bl b => simp [eqSem]
  | int i => simp [eqSem]
  | str x => simp [eqSem]
  | _ => exact key
theorem o_eqSame {d : Nat} {v : Val} (h : dati d v = true) (hd : d ≤ 9) {S : Store} {R : Bool → Prop} (q : R true) : OP (cmpSem S .eq v v) R := ⟨_, by unfold cmpSem; cases v <;> exact eq_same h hd S, q⟩
theorem o_neSame {d : Nat} {v : Val} (h : dati d v = true) (hd : d ≤ 9) {S : Store} {R : Bool → Prop} (q : R false) : OP (cmpSem S .ne v v) R := ⟨!true, by unfold cmpSem; cases v <;> simp only [eq_same h hd S, Option.map_some], q⟩
theorem eq_row (S : Store) (r q : List Int) : eqSem S (.tup (r.map Val.int)) (.tup (q.map Val.int)) = some (decide (r = q)) := by
  have e : ∀ zs : List Int, toData S 20 (.tup (zs.map Val.int)) = some (.tuple (zs.map PyData.int)) := by
    intro zs
    have := DatE.int.toDatP.tds S 17 zs
    simp only [toData, this, Option.map_some]
  have s : ∀ zs : List Int, SeqAt.shaped (.tuple (zs.map PyData.int)) = true := by
    intro zs
    have := DatE.int.toDatP.lays zs
    simp [SeqAt.shaped, PyData.canLay0, this.1, PyData.depth]
    omega
  have k : eqSem S (.tup (r.map Val.int)) (.tup (q.map Val.int)) = (toData S 20 (.tup (r.map Val.int))).bind fun d => (toData S 20 (.tup (q.map Val.int))).bind fun e => if SeqAt.shaped d = true ∧ SeqAt.shaped e = true then some (PyData.eqv d e) else none := rfl
  rw [k, e, e]
  simp only [Option.bind_some, s, and_self, if_true, PyData.eqv]
  have := DatE.int.eqvs r q
  congr 1
  rw [Bool.eq_iff_iff, this, decide_eq_true_iff]
theorem o_eqRow {S : Store} {v w : Val} (r q : List Int) {R : Bool → Prop} (h1 : v = .tup (r.map Val.int)) (h2 : w = .tup (q.map Val.int)) (k : R (decide (r = q))) : OP (cmpSem S .eq v w) R := by
  subst h1; subst h2
  exact ⟨_, by unfold cmpSem; exact eq_row S r q, k⟩
theorem o_neRow {S : Store} {v w : Val} (r q : List Int) {R : Bool → Prop} (h1 : v = .tup (r.map Val.int)) (h2 : w = .tup (q.map Val.int)) (k : R (!decide (r = q))) : OP (cmpSem S .ne v w) R := by
  subst h1; subst h2
  exact ⟨_, by unfold cmpSem; simp only [eq_row, Option.map_some], k⟩
theorem fewH {H : Hill} (ok : H.Ok) : 2 * (H.needs.length * H.year.length) < 10000 := by
  have h1 := ok.nl
  have h2 := ok.len
  have : H.needs.length * H.year.length ≤ 60 * 60 := Nat.mul_le_mul h1 h2
  omega

/-! where places of losses come again -/
namespace Hill
variable {H : Hill}
theorem loss_per (ok : H.Ok) {a l c : Int} {f g : Nat} (hfg : f < g) (h1 : (a + f) % H.needs.length = (a + g) % H.needs.length) (h2 : H.lineAt a l g = H.lineAt a l f + c * H.yd) (i q : Nat) : H.lossT a l (f + i + q * (g - f)) = H.lossT a l (f + i) := by
  have one : ∀ i, H.lossT a l (g + i) = H.lossT a l (f + i) := by
    intro i
    have e := line_period ok h1 h2 i
    have ea : (a + ((g + i : Nat) : Int)) % H.needs.length = (a + ((f + i : Nat) : Int)) % H.needs.length := by
      rw [Int.natCast_add, Int.natCast_add, ← Int.add_assoc, ← Int.add_assoc, Int.add_emod, ← h1, ← Int.add_emod]
    unfold lossT
    rw [e, ea, show H.lineAt a l (f + i) + c * H.yd + H.need ((a + ((f + i : Nat) : Int)) % H.needs.length) = H.lineAt a l (f + i) + H.need ((a + ((f + i : Nat) : Int)) % H.needs.length) + c * H.yd by omega, lost_add ok]
  induction q with
  | zero => rw [Nat.zero_mul, Nat.add_zero]
  | succ q ih =>
    rw [Nat.succ_mul, show f + i + (q * (g - f) + (g - f)) = g + (i + q * (g - f)) by omega, one, ← Nat.add_assoc]
    exact ih
/-- losses that come round never end -/
theorem loss_again (ok : H.Ok) {a l : Int} {f g : Nat} (hfg : f < g) (hk : H.keyK a l f = H.keyK a l g) (hl : H.LossTurn a l g) (M : Nat) : ∃ m, M < m ∧ H.LossTurn a l m := by
  unfold keyK at hk
  rw [Prod.mk.injEq] at hk
  have y0 := ok.y0
  have e1 := Int.emod_add_mul_ediv (H.lineAt a l f) H.yd
  have e2 := Int.emod_add_mul_ediv (H.lineAt a l g) H.yd
  have h2 : H.lineAt a l g = H.lineAt a l f + (H.lineAt a l g / H.yd - H.lineAt a l f / H.yd) * H.yd := by
    rw [Int.sub_mul, Int.mul_comm _ H.yd, Int.mul_comm _ H.yd]; omega
  refine ⟨g + M * (g - f) + (g - f), ?_, by omega, ?_⟩
  · have : M * 1 ≤ M * (g - f) := Nat.mul_le_mul_left M (by omega)
    omega
  · have p := loss_per ok hfg hk.1 h2 (g - 1 - f) (M + 1)
    rw [Nat.succ_mul, show f + (g - 1 - f) = g - 1 by omega] at p
    rw [show g + M * (g - f) + (g - f) - 1 = g - 1 + (M * (g - f) + (g - f)) by omega, p]
    exact hl.2
theorem keys_cnt (ok : H.Ok) {a l : Int} {ks : List Nat} (h1 : ∀ k ∈ ks, H.LossTurn a l k) (h2 : (ks.map (H.keyK a l)).Nodup) : ks.length ≤ H.needs.length * H.strN.length := by
  have := nodup_le (m := (List.range H.needs.length).flatMap fun (i : Nat) => H.strN.map fun q => ((i : Int), (q.2 + 1) % H.yd)) h2 fun x hx => by
    obtain ⟨k, hk, rfl⟩ := List.mem_map.mp hx
    obtain ⟨i, hi, q, hq, e⟩ := loss_key ok (h1 k hk)
    rw [e]
    exact List.mem_flatMap.mpr ⟨i, List.mem_range.mpr hi, List.mem_map.mpr ⟨q, hq, rfl⟩⟩
  rw [List.length_map] at this
  have key : ∀ n : Nat, ((List.range n).flatMap fun (i : Nat) => H.strN.map fun q => ((i : Int), (q.2 + 1) % H.yd)).length = n * H.strN.length := by
    intro n
    induction n with
    | zero => simp
    | succ n ih => rw [List.range_succ, List.flatMap_append, List.length_append, ih, Nat.succ_mul]; simp
  rw [key] at this
  exact this
/-- what is lost in some turns, by its losses -/
theorem lost_succ (H : Hill) (a l : Int) (m : Nat) : H.lostIn a l (m + 1) = H.lostIn a l m + H.lossT a l m := by
  unfold lostIn
  rw [line_succ, needSum_succ]
  omega
theorem lost_none (ok : H.Ok) {a l : Int} {f m : Nat} (hfm : f ≤ m) (h : ∀ j, f < j → j ≤ m → ¬ H.LossTurn a l j) : H.lostIn a l m = H.lostIn a l f := by
  have h1 := line_from ok hfm h
  have h2 := needSum_join H a f (m - f)
  rw [show f + (m - f) = m by omega] at h2
  unfold lostIn
  omega
theorem lost_sum (ok : H.Ok) {a l : Int} : ∀ (ks : List Nat) (f g : Nat), f ≤ g → ks.Pairwise (· < ·) → (∀ k ∈ ks, f < k ∧ k ≤ g) → (∀ k, H.LossTurn a l k → f < k → k ≤ g → k ∈ ks) →
    (ks.map fun k => H.lossT a l (k - 1)).sum = H.lostIn a l g - H.lostIn a l f
  | [], f, g, hfg, _, _, h3 => by
    have := lost_none ok hfg fun j h1 h2 h => by have := h3 j h h1 h2; cases this
    rw [this]; simp
  | k :: ks, f, g, hfg, h1, h2, h3 => by
    obtain ⟨p1, p2⟩ := List.pairwise_cons.mp h1
    have hk := h2 k List.mem_cons_self
    have n1 := lost_none ok (a := a) (l := l) (f := f) (m := k - 1) (by omega) fun j j1 j2 hj => by
      rcases List.mem_cons.mp (h3 j hj j1 (by omega)) with e | e
      · omega
      · have := p1 j e; omega
    have s1 := lost_succ H a l (k - 1)
    rw [show k - 1 + 1 = k by omega] at s1
    have ih := lost_sum ok (a := a) (l := l) ks k g hk.2 p2 (fun j hj => ⟨p1 j hj, (h2 j (List.mem_cons_of_mem _ hj)).2⟩) (fun j hj j1 j2 => by
      rcases List.mem_cons.mp (h3 j hj (by omega) j2) with e | e
      · omega
      · exact e)
    rw [List.map_cons, List.sum_cons, ih]
    omega
/-- the first place that comes again: as many turns and drops later as the pace's -/
theorem place_again (ok : H.Ok) {a l : Int} (a0 : 0 ≤ a) (a1 : a < H.needs.length) {ks : List Nat} {r k : Nat} (nd : (ks.map (H.keyK a l)).Nodup) (hr : r ∈ ks) (hk : H.LossTurn a l k) (rk : r < k)
    (all : ∀ j, H.LossTurn a l j → j < k → j ∈ ks) (he : H.keyK a l r = H.keyK a l k) : ∃ R Y : Nat, H.IsPace R Y ∧ k = r + R * H.needs.length ∧ H.lineAt a l k = H.lineAt a l r + (Y : Int) * H.yd ∧ H.Comes a l (R * H.needs.length) ((Y : Int) * H.yd) r := by
  have ne := ok.ne
  have y0 := ok.y0
  have hk' := he
  unfold keyK at hk'
  rw [Prod.mk.injEq] at hk'
  have d1 : ((k : Int) - r) % H.needs.length = 0 := by
    have := Int.emod_emod_of_dvd (a + k - (a + r)) (Int.dvd_refl (H.needs.length : Int))
    have e := (Int.emod_eq_emod_iff_emod_sub_eq_zero).mp hk'.1.symm
    rw [show (k : Int) - r = a + k - (a + r) by omega]; exact e
  obtain ⟨q, hq⟩ := Int.dvd_of_emod_eq_zero d1
  have q0 : 0 < q := by
    rcases Int.lt_or_le 0 q with z | z
    · exact z
    · have : (H.needs.length : Int) * q ≤ 0 := Int.mul_nonpos_of_nonneg_of_nonpos (by omega) z
      omega
  obtain ⟨R, rfl⟩ := Int.eq_ofNat_of_zero_le (Int.le_of_lt q0)
  have eK : k = r + R * H.needs.length := by
    have : ((R * H.needs.length : Nat) : Int) = H.needs.length * (R : Int) := by rw [Int.natCast_mul, Int.mul_comm]
    omega
  have up := line_strict ok a l (Nat.le_of_lt rk)
  have e1 := Int.emod_add_mul_ediv (H.lineAt a l r) H.yd
  have e2 := Int.emod_add_mul_ediv (H.lineAt a l k) H.yd
  have h2 : H.lineAt a l k = H.lineAt a l r + (H.lineAt a l k / H.yd - H.lineAt a l r / H.yd) * H.yd := by
    rw [Int.sub_mul, Int.mul_comm _ H.yd, Int.mul_comm _ H.yd]; omega
  have Y0 : 0 ≤ H.lineAt a l k / H.yd - H.lineAt a l r / H.yd := by
    have := Int.ediv_le_ediv y0 (show H.lineAt a l r ≤ H.lineAt a l k by omega)
    omega
  obtain ⟨Y, hY⟩ := Int.eq_ofNat_of_zero_le Y0
  rw [hY] at h2
  subst eK
  have g := rot_low ok (by omega) hk h2 nd hr all
  have com := comes_of ok h2
  exact ⟨R, Y, ⟨by omega, g, a, l, r, a0, a1, com⟩, rfl, h2, com⟩
end Hill

/-! the same data, lists of the store among them -/
def scalV : Val → Bool
  | .non => true
  | .bl _ => true
  | .int _ => true
  | .str _ => true
  | _ => false
def SameD (S : Store) : Nat → Val → Val → Prop
  | 0, v, w => v = w ∧ scalV v = true
  | d + 1, v, w => (v = w ∧ scalV v = true) ∨ ∃ xs ys, ((lstOf S v = some xs ∧ lstOf S w = some ys) ∨ (v = .tup xs ∧ w = .tup ys)) ∧ xs.length = ys.length ∧ xs.length ≤ 100000 ∧ ∀ (i : Nat) (x y : Val), xs[i]? = some x → ys[i]? = some y → SameD S d x y
theorem SameD.refl (S : Store) : ∀ (d : Nat) (v : Val), dat d v = true → SameD S d v v
  | 0, v, h => by cases v <;> first | exact ⟨rfl, rfl⟩ | (exfalso; cases h)
  | d + 1, v, h => by
    cases v with
    | tup xs =>
      simp only [dat, Bool.and_eq_true, decide_eq_true_eq] at h
      refine .inr ⟨xs, xs, .inr ⟨rfl, rfl⟩, rfl, h.1, fun i x y hx hy => ?_⟩
      rw [hx] at hy; cases hy
      exact SameD.refl S d x (List.all_eq_true.mp h.2 x (List.mem_of_getElem? hx))
    | lv xs =>
      simp only [dat, Bool.and_eq_true, decide_eq_true_eq] at h
      refine .inr ⟨xs, xs, .inl ⟨rfl, rfl⟩, rfl, h.1, fun i x y hx hy => ?_⟩
      rw [hx] at hy; cases hy
      exact SameD.refl S d x (List.all_eq_true.mp h.2 x (List.mem_of_getElem? hx))
    | non => exact .inl ⟨rfl, rfl⟩
    | bl => exact .inl ⟨rfl, rfl⟩
    | int => exact .inl ⟨rfl, rfl⟩
    | str => exact .inl ⟨rfl, rfl⟩
    | sl => cases h
    | iv => cases h
    | fn => cases h
    | ref => cases h
theorem SameD.lst {S : Store} {d : Nat} {v w : Val} {xs : List Val} (hv : lstOf S v = some xs) (hw : lstOf S w = some xs) (hl : xs.length ≤ 100000) (ha : (xs.all (dat d)) = true) : SameD S (d + 1) v w :=
  .inr ⟨xs, xs, .inl ⟨hv, hw⟩, rfl, hl, fun i x y hx hy => by
    rw [hx] at hy; cases hy
    exact SameD.refl S d x (List.all_eq_true.mp ha x (List.mem_of_getElem? hx))⟩
theorem zip_at : ∀ {xs ys : List Val} {z : Val}, z ∈ zipV xs ys → ∃ (i : Nat) (x y : Val), xs[i]? = some x ∧ ys[i]? = some y ∧ z = .tup [x, y]
  | [], _, _, h => by simp [zipV] at h
  | _ :: _, [], _, h => by simp [zipV] at h
  | x :: xs, y :: ys, z, h => by
    rw [zipV, List.mem_cons] at h
    rcases h with rfl | h
    · exact ⟨0, x, y, rfl, rfl, rfl⟩
    · obtain ⟨i, x', y', h1, h2, h3⟩ := zip_at h
      exact ⟨i + 1, x', y', h1, h2, h3⟩
theorem ty_lst {S : Store} {v : Val} {xs : List Val} (h : lstOf S v = some xs) : isTys S v [.list, .tuple] = some true ∧ isTys S v [.list] = some true ∧ isTys S v [.tuple] = some false := by
  cases v with
  | lv ys => exact ⟨rfl, rfl, rfl⟩
  | ref n =>
    have e : ∃ ys, S[n]? = some (.lst ys) := by
      unfold lstOf at h
      simp only at h
      split at h
      · rename_i ys e; exact ⟨ys, e⟩
      · cases h
    obtain ⟨ys, e⟩ := e
    simp [isTys, isTy, e]
  | _ => cases h
theorem seq_of_lst {S : Store} {v : Val} {xs : List Val} (h : lstOf S v = some xs) : seqOf S v = some xs := by
  cases v with
  | lv ys => exact h
  | ref n =>
    unfold lstOf at h
    unfold seqOf
    exact h
  | _ => cases h
theorem same_g : ∀ (d n : Nat) (v w : Val) (S : Store), SameD S d v w → d < n → run Δ n i_law_same [v, w] S = some (.bl true, S)
  | d, 0, _, _, _, _, h => by omega
  | d, n + 1, v, w, S, hs, hn => by
    have scal : v = w ∧ scalV v = true → run Δ (n + 1) i_law_same [v, w] S = some (.bl true, S) := by
      rintro ⟨rfl, h⟩
      exact same_run 0 (n + 1) v v S (by cases v <;> first | rfl | cases h) (.inl rfl) (by omega)
    cases d with
    | zero => exact scal hs
    | succ d =>
      rcases hs with h | ⟨xs, ys, hk, hl, hb, each⟩
      · exact scal h
      have ty : ∃ k : Bool, isTys S v [.list, .tuple] = some true ∧ isTys S w [.list, .tuple] = some true ∧ isTys S v [.list] = some k ∧ isTys S w [.list] = some k ∧ isTys S v [.tuple] = some (!k) ∧ isTys S w [.tuple] = some (!k) ∧ seqOf S v = some xs ∧ seqOf S w = some ys ∧ itemsOf S .zip [v, w] = some (zipV xs ys) := by
        rcases hk with ⟨h1, h2⟩ | ⟨rfl, rfl⟩
        · obtain ⟨a1, a2, a3⟩ := ty_lst h1
          obtain ⟨b1, b2, b3⟩ := ty_lst h2
          refine ⟨true, a1, b1, a2, b2, a3, b3, seq_of_lst h1, seq_of_lst h2, ?_⟩
          have e : itemsOf S .zip [v, w] = (lstOf S v).bind fun xs => (lstOf S w).map fun ys => zipV xs ys := by
            cases v with
            | tup _ => cases h1
            | _ => rfl
          rw [e, h1, h2]
          rfl
        · exact ⟨false, rfl, rfl, rfl, rfl, rfl, rfl, rfl, rfl, rfl⟩
      obtain ⟨k, t0, t1, t2, t3, t4, t5, s1, s2, hz⟩ := ty
      apply RUN.eq
      walk_at "run"
      apply x_ite
      apply w_isa
      walk_at "we"
      refine op_of t1 ?_
      walk_at "we"
      apply x_ite
      apply w_or
      apply w_cmp
      apply w_isa
      walk_at "we"
      refine op_of t2 ?_
      apply w_isa
      walk_at "we"
      refine op_of t3 ?_
      walk_at "we"
      apply br_decT rfl
      walk_at "we"
      refine op_of t4 ?_
      walk_at "we"
      refine op_of t5 ?_
      walk_at "we"
      apply br_decT rfl
      walk_at "we"
      apply x_ret
      apply w_and
      walk_at "we"
      apply o_lenS s1
      walk_at "we"
      apply o_lenS s2
      walk_at "we"
      refine op_of hz ?_
      have rf : ∀ z, z ∈ zipV xs ys → ∃ x y, z = .tup [x, y] ∧ SameD S d x y := fun z hz => by
        obtain ⟨i, x, y, h1, h2, h3⟩ := zip_at hz
        exact ⟨x, y, h3, each i x y h1 h2⟩
      have cst : ∀ l : List Val, (l.map fun _ => Val.bl true) = (List.replicate l.length true).map Val.bl := by
        intro l
        induction l with
        | nil => rfl
        | cons a l ih => rw [List.map_cons, List.length_cons, List.replicate_succ, List.map_cons, ih]
      apply m_map' (fun _ => Val.bl true) (by walk_at "wipe")
      · intro z hz'
        obtain ⟨x, y, rfl, hxy⟩ := rf z hz'
        walk_at "we"
        apply call_run (same_g d n x y S hxy (by omega)) rfl
        exact ⟨rfl, rfl⟩
      · have zl := zip_len (xs := xs) (ys := ys)
        refine ⟨by rw [List.length_map]; omega, ?_⟩
        walk_at "we"
        rw [cst]
        refine op_of bl_all ?_
        rw [all_rep]
        walk_at "we"
        exact ⟨rfl, rfl⟩
theorem call_sameL {n : Nat} {v w : Val} {S : Store} {xs : List Val} {Q : Val → Store → Prop} (d : Nat) (hv : lstOf S v = some xs) (hw : lstOf S w = some xs) (hl : xs.length ≤ 100000) (ha : (xs.all (dat d)) = true) (hn : d + 1 < n) (q : Q (.bl true) S) : CALL (orc Δ n) i_law_same [v, w] S Q :=
  call_run (same_g (d + 1) n v w S (SameD.lst hv hw hl ha) hn) rfl q

/-! a total lies in one stretch at most -/
theorem zip_fst1 : ∀ {l m : List Int}, l.Pairwise (· < ·) → (l.zip m).Pairwise (fun p q => p.1 < q.1)
  | [], _, _ => by simp
  | _ :: _, [], _ => by simp
  | a :: l, b :: m, h => by
    obtain ⟨h1, h2⟩ := List.pairwise_cons.mp h
    rw [List.zip_cons_cons]
    refine List.pairwise_cons.mpr ⟨fun p hp => h1 _ ?_, zip_fst1 h2⟩
    exact (List.of_mem_zip (show (p.1, p.2) ∈ l.zip m from hp)).1
theorem str_low1 {H : Hill} (ok : H.Ok) {p : Int × Int} (h : p ∈ H.strN) : 0 < H.lostAt p.1 ∧ H.lostAt (p.1 - 1) = 0 ∧ p.2 = p.1 + H.lostAt p.1 - 1 := by
  have bd := Hill.str_bd ok h
  have a := Hill.str_at ok h (t := p.1) (by rw [Int.sub_self, Int.zero_emod]; omega)
  rw [Int.sub_self, Int.zero_emod] at a
  have b := Hill.str_ahead ok h 0
  rw [Int.zero_mul, Int.add_zero] at b
  unfold Hill.to at b
  omega
theorem str_nd1 {H : Hill} (ok : H.Ok) : H.strL.Nodup := by
  refine (List.mergeSort_perm _ _).nodup_iff.mpr ?_
  have y0 := ok.y0
  have z : H.endPairs.Pairwise (fun p q => p.1 < q.1) := zip_fst1 (Hill.ends_lt H)
  unfold Hill.strN List.Nodup
  rw [List.pairwise_map]
  refine (z.filter _).imp_of_mem ?_
  intro p q hp hq hpq e
  have p1 := Hill.ends_bd ok (Hill.ends_next ok (show (p.1, p.2) ∈ H.endPairs from (List.mem_filter.mp hp).1)).1
  have q1 := Hill.ends_bd ok (Hill.ends_next ok (show (q.1, q.2) ∈ H.endPairs from (List.mem_filter.mp hq).1)).1
  have e1 : (p.1 + 1) % H.yd = (q.1 + 1) % H.yd := congrArg Prod.fst e
  rw [Int.emod_eq_of_lt (show 0 ≤ p.1 + 1 by omega) (by omega)] at e1
  rcases Int.lt_or_eq_of_le (show q.1 + 1 ≤ H.yd by omega) with w | w
  · rw [Int.emod_eq_of_lt (by omega) w] at e1; omega
  · rw [w, Int.emod_self] at e1; omega
theorem str_off {H : Hill} (ok : H.Ok) {p q : Int × Int} (hp : p ∈ H.strN) (hq : q ∈ H.strN) {t : Int} (h1 : (t - p.1) % H.yd ≤ p.2 - p.1) (h2 : (t - q.1) % H.yd ≤ q.2 - q.1) : ¬ (t - p.1) % H.yd < (t - q.1) % H.yd := by
  intro lt
  have y0 := ok.y0
  have bp := Int.emod_add_mul_ediv (t - p.1) H.yd
  have bq := Int.emod_add_mul_ediv (t - q.1) H.yd
  have np := Int.emod_nonneg (t - p.1) (show H.yd ≠ 0 by omega)
  have nq := Int.emod_lt_of_pos (t - q.1) y0
  generalize (t - p.1) % H.yd = w at *
  generalize (t - q.1) % H.yd = v at *
  generalize (t - p.1) / H.yd = k at *
  generalize (t - q.1) / H.yd = j at *
  have a1 : (t - w - 1 - q.1) % H.yd = v - w - 1 := by
    rw [show t - w - 1 - q.1 = (v - w - 1) + H.yd * j by omega, Int.add_mul_emod_self_left, Int.emod_eq_of_lt (by omega) (by omega)]
  have s := Hill.str_at ok hq (t := t - w - 1) (by rw [a1]; omega)
  have z := (str_low1 ok hp).2.1
  have e := Hill.lost_add ok (p.1 - 1) k
  rw [show p.1 - 1 + k * H.yd = t - w - 1 by rw [Int.mul_comm k]; omega] at e
  rw [a1] at s
  omega
theorem str_uniq {H : Hill} (ok : H.Ok) {p q : Int × Int} (hp : p ∈ H.strN) (hq : q ∈ H.strN) {t : Int} (h1 : (t - p.1) % H.yd ≤ p.2 - p.1) (h2 : (t - q.1) % H.yd ≤ q.2 - q.1) : p = q := by
  have y0 := ok.y0
  have o1 := str_off ok hp hq h1 h2
  have o2 := str_off ok hq hp h2 h1
  have bp := Hill.str_bd ok hp
  have bq := Hill.str_bd ok hq
  have e : (t - p.1) % H.yd = (t - q.1) % H.yd := by omega
  have ep := Int.emod_add_mul_ediv (t - p.1) H.yd
  have eq := Int.emod_add_mul_ediv (t - q.1) H.yd
  have f : p.1 = q.1 := by
    have d : (p.1 - q.1) = H.yd * ((t - q.1) / H.yd - (t - p.1) / H.yd) := by rw [Int.mul_sub]; omega
    generalize (t - q.1) / H.yd - (t - p.1) / H.yd = k at d
    rcases Int.lt_trichotomy k 0 with z | z | z
    · have : H.yd * k ≤ H.yd * (-1) := Int.mul_le_mul_of_nonneg_left (by omega) (by omega)
      omega
    · rw [z, Int.mul_zero] at d; omega
    · have : H.yd * 1 ≤ H.yd * k := Int.mul_le_mul_of_nonneg_left (by omega) (by omega)
      omega
  have l1 := (str_low1 ok hp).2.2
  have l2 := (str_low1 ok hq).2.2
  rw [← f] at l2
  exact Prod.ext f (by omega)
theorem sum_none {α : Type} {f : α → Int} : ∀ {l : List α}, (∀ y ∈ l, f y = 0) → (l.map f).sum = 0
  | [], _ => rfl
  | a :: l, h => by
    rw [List.map_cons, List.sum_cons, h a List.mem_cons_self, sum_none fun y hy => h y (List.mem_cons_of_mem _ hy)]
    rfl
theorem sum_only {α : Type} {f : α → Int} : ∀ {l : List α} {x : α}, l.Nodup → x ∈ l → (∀ y ∈ l, y ≠ x → f y = 0) → (l.map f).sum = f x
  | [], _, _, h, _ => by cases h
  | a :: l, x, nd, h, z => by
    obtain ⟨n1, n2⟩ := List.nodup_cons.mp nd
    rw [List.map_cons, List.sum_cons]
    rcases List.mem_cons.mp h with rfl | h
    · rw [sum_none fun y hy => z y (List.mem_cons_of_mem _ hy) fun e => n1 (e ▸ hy), Int.add_zero]
    · rw [z a List.mem_cons_self fun e => n1 (e ▸ h), Int.zero_add]
      exact sum_only n2 h fun y hy => z y (List.mem_cons_of_mem _ hy)

def loopBody2 (ir : Nat) (z r : Int) : SL := (.cons (.asg (.nm 1) (.call false i_law_folded (.cons (.var 0) (.cons (.con (.int z)) .nil)))) (.cons (.for (.nm 2) .range (.cons (.blt .max (.cons (.con (.int 1)) (.cons (.blt .len (.cons (.var 1) .nil)) .nil))) .nil) (.cons (.asg (.nm 3) (.call true i_law_box (.cons (.var 1) (.cons (.var 2) .nil)))) (.cons (.ite (.not (.blt .all (.cons (.lc [2] (.nm 2) .range (.cons (.con (.int r)) .nil) .none (.call false ir (.cons (.var 3) .nil))) .nil))) (.cons (.ret (.con (.bl false))) .nil) .nil) .nil))) (.cons (.ret (.con (.bl true))) .nil)))
theorem law_loop2 (il ir z r C : Nat) (hz : 0 < z) (hz2 : z ≤ 63) (hr9 : r ≤ 100) (hC : C ≤ 1000000) (hd : Δ il = some ⟨1, 4, loopBody2 ir z r⟩)
    (hr : ∀ (B : Bs) (x : Bx) (T : Nat), Bx.Ok x T → T + C < 2 ^ 28 → RUN Δ 229 ir [.ref B.m] (B.st x) fun v S2 => v = .bl true ∧ ∃ x' G, S2 = B.st x' ++ G ∧ x'.Ok (T + C)) (ns : List Int) (h : ns.length ≤ 63) : ∃ S, run Δ 230 il [.sl (ns.map Val.int)] [] = some (.bl true, S) := by
  obtain ⟨cells, ec, hc⟩ := folded_run 228 ns z hz hz2 []
  have key : RUN Δ (229 + 1) il [.sl (ns.map Val.int)] [] fun v S2 => v = .bl true := by
    refine RUN.mk' hd rfl rfl (by walk_at "start") ?_
    unfold loopBody2
    apply x_asg
    apply w_call
    walk_at "wp"
    refine ⟨_, _, _, _, ec, gc_lst (G := [.lst (cells.map Val.int)]) rfl rfl (fits_ints _ _), ?_⟩
    walk_at "wp"
    apply x_for
    walk_at "wp"
    obtain ⟨K, hK⟩ : ∃ K : Nat, (if ((cells.map Val.int).length : Int) > 1 then ((cells.map Val.int).length : Int) else 1) = (K : Int) ∧ K ≤ 63 := by
      refine ⟨if (cells.map Val.int).length > 1 then (cells.map Val.int).length else 1, ?_, ?_⟩
      · split <;> split <;> omega
      · rw [List.length_map]; split <;> omega
    rw [hK.1]
    refine ⟨rfl, i_range (by omega) ?_⟩
    rw [Int.toNat_natCast]
    refine ⟨fun k ρ' S' => ∃ y2 y3, ρ' = [some (.sl (ns.map Val.int)), some (.lv (cells.map Val.int)), y2, y3], ⟨_, _, rfl⟩, ?_, ?_⟩
    · rintro k y ρ' S' hy ⟨y2, y3, rfl⟩
      obtain ⟨hk, rfl⟩ := range_get hy
      obtain ⟨xb, eb, okb⟩ := box_run 228 cells k (by omega) S'
      walk_at "wp"
      rw [show (0 : Int) + (k : Int) = (k : Int) by omega]
      refine ⟨_, _, eb, ?_⟩
      walk_at "wp"
      apply i_range (by omega)
      rw [Int.toNat_natCast]
      apply m_inv (f := fun _ => [.bl true]) (fun j S2 => ∃ x', S2 = Bs.st ⟨S', []⟩ x' ++ [] ∧ x'.Ok (j * C)) (by walk_at "wipe") rfl ⟨xb, by simp [Bs.st], okb.mono (by omega)⟩
      · rintro j y S2 hy ⟨x0, rfl, ok0⟩
        obtain ⟨hj, rfl⟩ := range_get hy
        have jc : j * C ≤ 100 * 1000000 := Nat.mul_le_mul (by omega) hC
        walk_at "wp"
        show CALL _ ir [.ref (Bs.m ⟨S', []⟩)] _ _
        refine call_box (R := fun v x' => v = .bl true ∧ x'.Ok (j * C + C)) ?_ ?_
        · obtain ⟨v, S2, h1, rfl, x', G, rfl, h2⟩ := hr (Bs.push ⟨S', []⟩ []) x0 _ ok0 (by omega)
          exact ⟨_, _, h1, rfl, x', G, rfl, rfl, h2⟩
        rintro v x1 ⟨rfl, ok1⟩
        exact ⟨rfl, x1, rfl, ok1.mono (by rw [Nat.succ_mul]; omega)⟩
      · rintro S2 ⟨x', rfl, ok'⟩
        rw [flat_true]
        refine ⟨by simp [range_len]; omega, ?_⟩
        walk_at "wp"
        refine op_of bl_all ?_
        rw [all_rep]
        walk_at "wp"
        exact ⟨_, _, rfl⟩
    · rintro ρ' S' ⟨y2, y3, rfl⟩
      walk_at "wp"
      rfl
  obtain ⟨v, S2, h1, rfl⟩ := key
  exact ⟨S2, h1⟩

/-! turns of a hill told by hand, so many times as great, years off -/
theorem step_is {h : Hill} {z : Int} (okh : h.Ok) (ok : (h.times z).Ok) (z0 : 1 ≤ z) {o d a p e : Int} (so : StOk (h.times z) ⟨d + o * h.L, a, z * p⟩) (he : h.lit e = true) (hde : d ≤ e) (hg : h.given d - p + h.need a ≤ h.given e)
    (hn : ∀ k, d ≤ k → k < e → h.lit k = true → h.given k < h.given d - p + h.need a) :
    (h.times z).next ⟨d + o * h.L, a, z * p⟩ = ⟨e + o * h.L, (a + 1) % h.needs.length, z * (if h.most < h.given e - (h.given d - p + h.need a) then h.most else h.given e - (h.given d - p + h.need a))⟩ ∧
    (h.times z).spill ⟨d + o * h.L, a, z * p⟩ = z * (if h.given e - (h.given d - p + h.need a) - h.most > 0 then h.given e - (h.given d - p + h.need a) - h.most else 0) := by
  have a0 : 0 ≤ a := so.a0
  have a1 : a < h.needs.length := by have := so.a1; rw [times_needs] at this; exact this
  have gv : ∀ x, (h.times z).given (x + o * h.L) = z * (h.given x + o * h.yd) := fun x => by rw [times_given, Hill.given_add okh]
  have tt : (h.times z).total ⟨d + o * h.L, a, z * p⟩ = z * (h.given d - p + h.need a + o * h.yd) := by
    show (h.times z).given (d + o * h.L) - z * p + (h.times z).need a = _
    rw [gv, times_need a0 a1, ← Int.mul_sub, ← Int.mul_add]
    congr 1
    omega
  have sd : (h.times z).sitDay ⟨d + o * h.L, a, z * p⟩ = e + o * h.L := by
    refine (Hill.sit_is ok so).uniq ⟨⟨?_, ?_, ?_⟩, ?_⟩
    · rw [times_lit okh, Hill.lit_add okh]; exact he
    · rw [tt, gv]; exact Int.mul_le_mul_of_nonneg_left (by omega) (by omega)
    · show d + o * h.L ≤ e + o * h.L; omega
    · rintro x hx ⟨q1, q2, q3⟩
      obtain ⟨k, rfl⟩ : ∃ k, x = k + o * h.L := ⟨x - o * h.L, by omega⟩
      have q3 : d + o * h.L ≤ k + o * h.L := q3
      rw [times_lit okh, Hill.lit_add okh] at q1
      rw [tt, gv] at q2
      have := hn k (by omega) (by omega) q1
      have h2 : z * (h.given k + o * h.yd + 1) ≤ z * (h.given d - p + h.need a + o * h.yd) := Int.mul_le_mul_of_nonneg_left (by omega) (by omega)
      rw [Int.mul_add, Int.mul_one] at h2
      omega
  have ov : (h.times z).over ⟨d + o * h.L, a, z * p⟩ = z * (h.given e - (h.given d - p + h.need a)) := by
    show (h.times z).given ((h.times z).sitDay ⟨d + o * h.L, a, z * p⟩) - (h.times z).total ⟨d + o * h.L, a, z * p⟩ = _
    rw [sd, tt, gv, ← Int.mul_sub]
    congr 1
    omega
  have lt : ∀ x y : Int, (z * x < z * y) = (x < y) := fun x y => by
    rw [eq_iff_iff]
    constructor
    · intro h
      exact Int.lt_of_mul_lt_mul_left h (by omega)
    · intro h
      exact Int.mul_lt_mul_of_pos_left h (by omega)
  constructor
  · show (⟨(h.times z).sitDay ⟨d + o * h.L, a, z * p⟩, (a + 1) % (h.times z).needs.length, if (h.times z).most < (h.times z).over ⟨d + o * h.L, a, z * p⟩ then (h.times z).most else (h.times z).over ⟨d + o * h.L, a, z * p⟩⟩ : St3) = _
    rw [sd, ov, times_needs, show (h.times z).most = z * h.most from rfl]
    congr 1
    simp only [lt]
    split <;> rfl
  · show (if (h.times z).over ⟨d + o * h.L, a, z * p⟩ - (h.times z).most > 0 then (h.times z).over ⟨d + o * h.L, a, z * p⟩ - (h.times z).most else 0) = _
    rw [ov, show (h.times z).most = z * h.most from rfl, ← Int.mul_sub]
    have : (z * (h.given e - (h.given d - p + h.need a) - h.most) > 0) = (h.given e - (h.given d - p + h.need a) - h.most > 0) := by
      have := lt 0 (h.given e - (h.given d - p + h.need a) - h.most)
      rw [Int.mul_zero] at this
      exact this
    simp only [this]
    split
    · rfl
    · rw [Int.mul_zero]
/-- a row of turns: evening, what the pot keeps, what is lost -/
def RowIs (H : Hill) : St3 → List (Int × Int × Int) → Prop
  | _, [] => True
  | s, r :: rs => (H.next s).day = r.1 ∧ (H.next s).pot = r.2.1 ∧ H.spill s = r.2.2 ∧ RowIs H (H.next s) rs
@[reducible] def rowT (r : Int × Int × Int) : Val := .tup [.int r.1, .int r.2.1, .int r.2.2]
theorem row_told {H : Hill} : ∀ {s : St3} {rs : List (Int × Int × Int)}, RowIs H s rs → ((List.range rs.length).map fun k => rowT ((H.stAt s (k + 1)).day, (H.stAt s (k + 1)).pot, H.spill (H.stAt s k))) = rs.map rowT := by
  have key : ∀ (rs : List (Int × Int × Int)) (s : St3) (j : Nat), RowIs H (H.stAt s j) rs → ((List.range rs.length).map fun k => rowT ((H.stAt s (j + k + 1)).day, (H.stAt s (j + k + 1)).pot, H.spill (H.stAt s (j + k)))) = rs.map rowT := by
    intro rs
    induction rs with
    | nil => intro s j _; rfl
    | cons r rs ih =>
      rintro s j ⟨h1, h2, h3, h4⟩
      rw [List.length_cons, List.range_succ_eq_map, List.map_cons, List.map_cons, List.map_map, ← ih s (j + 1) h4]
      congr 1
      · show rowT ((H.next (H.stAt s j)).day, (H.next (H.stAt s j)).pot, H.spill (H.stAt s j)) = _
        rw [h1, h2, h3]
      · apply List.map_congr_left
        intro k _
        show rowT ((H.stAt s (j + (k + 1) + 1)).day, _, _) = _
        rw [show j + (k + 1) = j + 1 + k by omega]
  intro s rs h
  have := key rs s 0 h
  simpa only [Nat.zero_add] using this

theorem hand_nx (c o z : Int) (c0 : 0 ≤ c) (c1 : c ≤ 10) (z0 : 1 ≤ z) (z1 : z ≤ 10 ^ 11) {d p e q w : Int} (p0 : 0 ≤ p) (p1 : p ≤ c) (hd : (hand c).lit d = true) (he : (hand c).lit e = true) (hde : d ≤ e)
    (hg : (hand c).given d - p + 2 ≤ (hand c).given e) (hn : ∀ k, d ≤ k → k < e → (hand c).lit k = true → (hand c).given k < (hand c).given d - p + 2)
    (hq : (if c < (hand c).given e - ((hand c).given d - p + 2) then c else (hand c).given e - ((hand c).given d - p + 2)) = q) (hw : (if (hand c).given e - ((hand c).given d - p + 2) - c > 0 then (hand c).given e - ((hand c).given d - p + 2) - c else 0) = w) :
    ((hand c).times z).next ⟨3 * o + d, 0, z * p⟩ = ⟨3 * o + e, 0, z * q⟩ ∧ ((hand c).times z).spill ⟨3 * o + d, 0, z * p⟩ = z * w := by
  have okh := hand_ok c0 (show c ≤ 10 ^ 17 by omega)
  have ok := handz_ok z0 z1 c0 c1
  have hL : (hand c).L = 3 := rfl
  have e1 : 3 * o + d = d + o * (hand c).L := by rw [hL]; omega
  have e2 : 3 * o + e = e + o * (hand c).L := by rw [hL]; omega
  have so : StOk ((hand c).times z) ⟨d + o * (hand c).L, 0, z * p⟩ := ⟨by rw [times_lit okh, Hill.lit_add okh]; exact hd, Int.le_refl _, by show (0 : Int) < ((1 : Nat) : Int); decide, Int.mul_nonneg (by omega) p0, Int.mul_le_mul_of_nonneg_left p1 (by omega)⟩
  rw [e1, e2]
  have := step_is okh ok z0 so he hde hg hn
  rw [this.1, this.2]
  have hm : (hand c).most = c := rfl
  have hnd : (hand c).need 0 = 2 := rfl
  rw [hm, hnd, hq, hw, show ((0 : Int) + 1) % ((hand c).needs.length : Int) = 0 from (by show ((0 : Int) + 1) % ((1 : Nat) : Int) = 0; decide)]
  exact ⟨rfl, rfl⟩
theorem int_gap {P : Int → Prop} {d e : Int} (h : ∀ i : Nat, i < (e - d).toNat → P (d + i)) : ∀ k, d ≤ k → k < e → P k := fun k h1 h2 => by
  have := h (k - d).toNat (by omega)
  rwa [show d + ((k - d).toNat : Int) = k by omega] at this
theorem three_rows (o z : Int) (z0 : 1 ≤ z) (z1 : z ≤ 10 ^ 11) :
    RowIs ((hand 0).times z) ⟨3 * o + 1, 0, 0⟩ [(3 * o + 2, z * 0, z * 1), (3 * o + 4, z * 0, z * 0), (3 * o + 5, z * 0, z * 1), (3 * o + 7, z * 0, z * 0)] ∧
    RowIs ((hand 1).times z) ⟨3 * o + 1, 0, 0⟩ [(3 * o + 2, z * 1, z * 0), (3 * o + 4, z * 1, z * 0), (3 * o + 5, z * 1, z * 1), (3 * o + 7, z * 1, z * 0)] ∧
    RowIs ((hand 2).times z) ⟨3 * o + 1, 0, 0⟩ [(3 * o + 2, z * 1, z * 0), (3 * o + 4, z * 1, z * 0), (3 * o + 5, z * 2, z * 0), (3 * o + 5, z * 0, z * 0)] := by
  have e0 : (⟨3 * o + 1, 0, 0⟩ : St3) = ⟨3 * o + 1, 0, z * 0⟩ := by rw [Int.mul_zero]
  have st : ∀ {H : Hill} {s t : St3} {w : Int} {rs : List (Int × Int × Int)}, H.next s = t ∧ H.spill s = w → RowIs H t rs → RowIs H s ((t.day, t.pot, w) :: rs) := by
    rintro H s t w rs ⟨rfl, rfl⟩ h
    exact ⟨rfl, rfl, rfl, h⟩
  rw [e0]
  refine ⟨?_, ?_, ?_⟩
  · refine st (hand_nx 0 o z (by decide) (by decide) z0 z1 (d := 1) (p := 0) (e := 2) (q := 0) (w := 1) (by decide) (by decide) (by decide) (by decide) (by decide) (by decide) (int_gap (by decide)) (by decide) (by decide)) ?_
    refine st (hand_nx 0 o z (by decide) (by decide) z0 z1 (d := 2) (p := 0) (e := 4) (q := 0) (w := 0) (by decide) (by decide) (by decide) (by decide) (by decide) (by decide) (int_gap (by decide)) (by decide) (by decide)) ?_
    refine st (hand_nx 0 o z (by decide) (by decide) z0 z1 (d := 4) (p := 0) (e := 5) (q := 0) (w := 1) (by decide) (by decide) (by decide) (by decide) (by decide) (by decide) (int_gap (by decide)) (by decide) (by decide)) ?_
    refine st (hand_nx 0 o z (by decide) (by decide) z0 z1 (d := 5) (p := 0) (e := 7) (q := 0) (w := 0) (by decide) (by decide) (by decide) (by decide) (by decide) (by decide) (int_gap (by decide)) (by decide) (by decide)) ?_
    trivial
  · refine st (hand_nx 1 o z (by decide) (by decide) z0 z1 (d := 1) (p := 0) (e := 2) (q := 1) (w := 0) (by decide) (by decide) (by decide) (by decide) (by decide) (by decide) (int_gap (by decide)) (by decide) (by decide)) ?_
    refine st (hand_nx 1 o z (by decide) (by decide) z0 z1 (d := 2) (p := 1) (e := 4) (q := 1) (w := 0) (by decide) (by decide) (by decide) (by decide) (by decide) (by decide) (int_gap (by decide)) (by decide) (by decide)) ?_
    refine st (hand_nx 1 o z (by decide) (by decide) z0 z1 (d := 4) (p := 1) (e := 5) (q := 1) (w := 1) (by decide) (by decide) (by decide) (by decide) (by decide) (by decide) (int_gap (by decide)) (by decide) (by decide)) ?_
    refine st (hand_nx 1 o z (by decide) (by decide) z0 z1 (d := 5) (p := 1) (e := 7) (q := 1) (w := 0) (by decide) (by decide) (by decide) (by decide) (by decide) (by decide) (int_gap (by decide)) (by decide) (by decide)) ?_
    trivial
  · refine st (hand_nx 2 o z (by decide) (by decide) z0 z1 (d := 1) (p := 0) (e := 2) (q := 1) (w := 0) (by decide) (by decide) (by decide) (by decide) (by decide) (by decide) (int_gap (by decide)) (by decide) (by decide)) ?_
    refine st (hand_nx 2 o z (by decide) (by decide) z0 z1 (d := 2) (p := 1) (e := 4) (q := 1) (w := 0) (by decide) (by decide) (by decide) (by decide) (by decide) (by decide) (int_gap (by decide)) (by decide) (by decide)) ?_
    refine st (hand_nx 2 o z (by decide) (by decide) z0 z1 (d := 4) (p := 1) (e := 5) (q := 2) (w := 0) (by decide) (by decide) (by decide) (by decide) (by decide) (by decide) (int_gap (by decide)) (by decide) (by decide)) ?_
    refine st (hand_nx 2 o z (by decide) (by decide) z0 z1 (d := 5) (p := 2) (e := 5) (q := 0) (w := 0) (by decide) (by decide) (by decide) (by decide) (by decide) (by decide) (int_gap (by decide)) (by decide) (by decide)) ?_
    trivial
/-- two ants on one evening -/
def eveH : Hill := ⟨[(4, true), (3, false)], [1, 3, 3], 5⟩
theorem eve_ok : eveH.Ok := by
  refine ⟨by decide, by decide, ⟨(4, true), by decide, rfl⟩, by decide, by decide, by decide, by decide, by decide, by decide, by decide, by decide⟩
theorem evez_ok {z : Int} (z0 : 1 ≤ z) (z1 : z ≤ 10 ^ 11) : (eveH.times z).Ok := by
  refine ⟨?_, ?_, ⟨(z * 4, true), by unfold eveH Hill.times; simp, rfl⟩, ?_, by show 0 < 3; decide, ?_, by show 2 ≤ 60; decide, ?_, by show 3 ≤ 60; decide, ?_, ?_⟩
  · intro p hp
    unfold eveH Hill.times at hp
    simp at hp
    rcases hp with rfl | rfl <;> dsimp only <;> omega
  · rw [times_yd]; show 0 < z * 7; omega
  · intro n hn
    unfold eveH Hill.times at hn
    simp at hn
    rcases hn with rfl | rfl <;> omega
  · show 0 ≤ z * 5; omega
  · rw [times_yd]; show z * 7 ≤ 10 ^ 16; omega
  · intro n hn
    unfold eveH Hill.times at hn
    simp at hn
    rcases hn with rfl | rfl <;> omega
  · show z * 5 ≤ 10 ^ 17; omega
theorem eve_nx (o z : Int) (z0 : 1 ≤ z) (z1 : z ≤ 10 ^ 11) {a d p a' e q w : Int} (p0 : 0 ≤ p) (p1 : p ≤ 5) (a0 : 0 ≤ a) (a1 : a < 3) (ha : (a + 1) % 3 = a') (hd : eveH.lit d = true) (he : eveH.lit e = true) (hde : d ≤ e)
    (hg : eveH.given d - p + eveH.need a ≤ eveH.given e) (hn : ∀ k, d ≤ k → k < e → eveH.lit k = true → eveH.given k < eveH.given d - p + eveH.need a)
    (hq : (if 5 < eveH.given e - (eveH.given d - p + eveH.need a) then 5 else eveH.given e - (eveH.given d - p + eveH.need a)) = q) (hw : (if eveH.given e - (eveH.given d - p + eveH.need a) - 5 > 0 then eveH.given e - (eveH.given d - p + eveH.need a) - 5 else 0) = w) :
    (eveH.times z).next ⟨2 * o + d, a, z * p⟩ = ⟨2 * o + e, a', z * q⟩ ∧ (eveH.times z).spill ⟨2 * o + d, a, z * p⟩ = z * w ∧ StOk (eveH.times z) ⟨2 * o + d, a, z * p⟩ := by
  have ok := evez_ok z0 z1
  have hL : eveH.L = 2 := rfl
  have e1 : 2 * o + d = d + o * eveH.L := by rw [hL]; omega
  have e2 : 2 * o + e = e + o * eveH.L := by rw [hL]; omega
  have so : StOk (eveH.times z) ⟨d + o * eveH.L, a, z * p⟩ := ⟨by rw [times_lit eve_ok, Hill.lit_add eve_ok]; exact hd, a0, a1, Int.mul_nonneg (by omega) p0, Int.mul_le_mul_of_nonneg_left p1 (by omega)⟩
  rw [e1, e2]
  have := step_is eve_ok ok z0 so he hde hg hn
  rw [this.1, this.2]
  have hm : eveH.most = 5 := rfl
  have hl : (eveH.needs.length : Int) = 3 := rfl
  rw [hm, hl, hq, hw, ha]
  exact ⟨rfl, rfl, so⟩
theorem srt2 {α : Type} (le : α → α → Bool) (a b : α) : [a, b].mergeSort le = if le a b then [a, b] else [b, a] := by
  unfold List.mergeSort
  simp [List.MergeSort.Internal.splitInTwo, List.merge]
  try (cases le a b <;> simp [List.mergeSort, List.merge])
theorem hand_strL (z : Int) (z0 : 1 ≤ z) : ((hand 0).times z).strL = [(1, 2 * z - 1), (2 * z + 1, 5 * z - 1)] := by
  have yd : ((hand 0).times z).yd = 5 * z := by rw [times_yd]; show z * 5 = _; omega
  have g1 : ((hand 0).times z).given 1 = 2 * z := by rw [times_given, show (hand 0).given 1 = 2 from by decide]; omega
  have g2 : ((hand 0).times z).given 2 = 5 * z := by rw [times_given, show (hand 0).given 2 = 5 from by decide]; omega
  have en : ((hand 0).times z).endsN = [2 * z, 0] := by
    show [((hand 0).times z).given 1 % ((hand 0).times z).yd, ((hand 0).times z).given 2 % ((hand 0).times z).yd] = _
    rw [yd, g1, g2, Int.emod_self, Int.emod_eq_of_lt (by omega) (by omega)]
  have ke : keysI [2 * z, 0] = [2 * z, 0] := by
    unfold keysI
    simp only [List.foldl_cons, List.foldl_nil]
    rw [show keyI [] (2 * z) = [2 * z] from rfl]
    unfold keyI
    rw [if_neg]
    · rfl
    · simp; omega
  have es : ((hand 0).times z).ends = [0, 2 * z] := by
    unfold Hill.ends sortI
    rw [en, ke, srt2, if_neg (by rw [decide_eq_true_eq]; omega)]
  have ep : ((hand 0).times z).endPairs = [(0, 2 * z), (2 * z, 5 * z)] := by
    unfold Hill.endPairs
    rw [es, yd]
    show [(0, 2 * z), (2 * z, 0 + 5 * z)] = _
    rw [Int.zero_add]
  have mo : ((hand 0).times z).most = 0 := by show z * 0 = 0; omega
  have p1 : ((hand 0).times z).strP (0, 2 * z) = true := by unfold Hill.strP; rw [mo]; exact decide_eq_true (by show (0 : Int) + 1 ≤ 2 * z - 0 - 1; omega)
  have p2 : ((hand 0).times z).strP (2 * z, 5 * z) = true := by unfold Hill.strP; rw [mo]; exact decide_eq_true (by show 2 * z + 1 ≤ 5 * z - 0 - 1; omega)
  have s1 : ((hand 0).times z).strOf (0, 2 * z) = (1, 2 * z - 1) := by
    unfold Hill.strOf
    rw [mo, yd]
    show ((0 + 1) % (5 * z), (0 + 1) % (5 * z) + (2 * z - 0 - 1) - (0 + 1)) = _
    rw [Int.emod_eq_of_lt (by omega) (by omega)]
    congr 1
    omega
  have s2 : ((hand 0).times z).strOf (2 * z, 5 * z) = (2 * z + 1, 5 * z - 1) := by
    unfold Hill.strOf
    rw [mo, yd]
    show ((2 * z + 1) % (5 * z), (2 * z + 1) % (5 * z) + (5 * z - 0 - 1) - (2 * z + 1)) = _
    rw [Int.emod_eq_of_lt (by omega) (by omega)]
    congr 1
    omega
  unfold Hill.strL Hill.strN
  rw [ep, List.filter_cons_of_pos p1, List.filter_cons_of_pos p2, List.filter_nil, List.map_cons, List.map_cons, List.map_nil, s1, s2, srt2, if_pos]
  unfold Hill.lePair leRow
  rw [decide_eq_true (show (1 : Int) < 2 * z + 1 by omega)]
  rfl

theorem dat_rowT {rs : List (Int × Int × Int)} (h : rs.length ≤ 100000) : dat 2 (.lv (rs.map rowT)) = true := by
  simp only [dat, List.length_map, Bool.and_eq_true, decide_eq_true_eq, List.all_eq_true]
  refine ⟨h, fun x hx => ?_⟩
  obtain ⟨k, _, rfl⟩ := List.mem_map.mp hx
  rfl
theorem told_run {H : Hill} (ok : H.Ok) {s : St3} (so : StOk H s) {rs : List (Int × Int × Int)} (hl : rs.length ≤ 100) (h : RowIs H s rs) (n : Nat) (S : Store) : run Δ (n + 16) i_law_told_right_k07 [H.val true, stV true s, .lv (rs.map rowT)] S = some (.bl true, S) := by
  apply RUN.eq
  walk_at "run"
  walk_at "wp"
  rw [List.length_map]
  apply call_turns ok (by omega) so (by omega)
  walk_at "wp"
  apply m_mapL (List.range rs.length) (fun k => turnV (H.stAt s (k + 1)) (H.spill (H.stAt s k))) (fun k => rowT ((H.stAt s (k + 1)).day, (H.stAt s (k + 1)).pot, H.spill (H.stAt s k))) (by walk_at "wipe")
  · intro k hk
    walk_at "wp"
    exact ⟨rfl, rfl⟩
  rw [row_told h]
  refine ⟨by rw [List.length_map]; omega, ?_⟩
  walk_at "wp"
  apply call_same 2 (dat_rowT (by omega)) (.inl rfl) (by omega)
  walk_at "wp"
  exact ⟨rfl, rfl⟩
theorem nestof07 (n : Nat) (S : Store) {z c : Int} (c0 : 0 ≤ c) (c1 : c ≤ 10) : run Δ (n + 2) i_law_nest_of [.int z, .lv [.tup [.int 2, .int 0], .tup [.int 0, .int 1], .tup [.int 3, .int 1]], .lv [.int 2], .int c] S = some (((hand c).times z).val true, S) := by
  apply RUN.eq
  walk_at "run"
  walk_at "wp"
  exact ⟨rfl, rfl⟩
theorem nestofE (n : Nat) (S : Store) {z : Int} : run Δ (n + 2) i_law_nest_of [.int z, .lv [.tup [.int 4, .int 1], .tup [.int 3, .int 0]], .lv [.int 1, .int 3, .int 3], .int 5] S = some ((eveH.times z).val true, S) := by
  apply RUN.eq
  walk_at "run"
  walk_at "wp"
  exact ⟨rfl, rfl⟩
theorem dikMk_app {S : Store} {ks : List Int} {vs : List Val} (h : ks.Nodup ∧ ks.length = vs.length) : dikMk S.length ks vs (S ++ [.dik [] []]) = some (S ++ [.dik (ks.map .inl) vs]) := by
  have e : (S ++ [Ob.dik [] []])[S.length]? = some (.dik [] []) := by rw [List.getElem?_append_right (Nat.le_refl _), Nat.sub_self]; rfl
  unfold dikMk
  rw [e]
  dsimp only
  rw [if_pos h, List.set_append_right _ _ (Nat.le_refl _), Nat.sub_self]
  rfl
theorem dikSet_app {S : Store} {ks : List Key} {xs : List Val} {i : Int} {v : Val} (h : ks.length < sizeLine) : dikSet (S ++ [.dik ks xs]) (.ref S.length) (.int i) v = some (S ++ [.dik (putD ks xs (.inl i) v).1 (putD ks xs (.inl i) v).2]) := by
  have e : (S ++ [Ob.dik ks xs])[S.length]? = some (.dik ks xs) := by rw [List.getElem?_append_right (Nat.le_refl _), Nat.sub_self]; rfl
  unfold dikSet
  dsimp only
  rw [e]
  dsimp only
  rw [show keyIv (.int i) = some (.inl i) from rfl, Option.bind_some, if_pos h, List.set_append_right _ _ (Nat.le_refl _), Nat.sub_self]
  rfl
theorem dikOf_app {S : Store} {ks : List Key} {xs : List Val} : dikOf (S ++ [.dik ks xs]) (.ref S.length) = some (ks, xs) := by
  have e : (S ++ [Ob.dik ks xs])[S.length]? = some (.dik ks xs) := by rw [List.getElem?_append_right (Nat.le_refl _), Nat.sub_self]; rfl
  unfold dikOf
  dsimp only
  rw [e]
theorem three_run {o z : Int} (o0 : 0 ≤ o) (o1 : o ≤ 10 ^ 12) (z0 : 1 ≤ z) (z1 : z ≤ 10 ^ 11) (n : Nat) (S : Store) : RUN Δ (n + 30) i_law_three_right_k07 [.int z, .int o] S fun v S2 => v = .bl true ∧ ∃ G, S2 = S ++ G := by
  walk_at "run"
  rw [← List.append_nil S]
  walk_at "we"
  apply x_asg
  walk_at "we"
  apply x_asg
  apply w_dkd
  walk_at "we"
  refine ⟨_, dikMk_app ⟨by decide, rfl⟩, ?_⟩
  walk_at "we"
  apply x_asg
  walk_at "we"
  apply w_ksub
  walk_at "we"
  refine ⟨_, dikSet_app (Nat.lt_of_lt_of_le (m := 3) (by decide) (by show 3 ≤ 2 ^ 24; omega)), ?_⟩
  obtain ⟨r1, r2, r3⟩ := three_rows o z z0 z1
  have okc := fun c (c0 : (0 : Int) ≤ c) (c1 : c ≤ 10) => handz_ok z0 z1 c0 c1
  have sto : ∀ c : Int, 0 ≤ c → c ≤ 10 → StOk ((hand c).times z) ⟨3 * o + 1, 0, 0⟩ ∧ ((hand c).times z).line ⟨3 * o + 1, 0, 0⟩ = z * (2 + 5 * o) := fun c c0 c1 => by
    have := handz_st (z := z) (c := c) (y := o) (p := 0) z0 c0 c1 (Int.le_refl _) (Int.mul_nonneg (by omega) c0)
    rw [show 1 + 3 * o = 3 * o + 1 by omega] at this
    exact ⟨this.1, by rw [this.2.2.1]; omega⟩
  have each : ∀ y : Val, y ∈ [Val.int 0, .int 1, .int 2] → ∃ (c : Int) (rs : List (Int × Int × Int)), y = .int c ∧ 0 ≤ c ∧ c ≤ 10 ∧ rs.length = 4 ∧
      dval (putD ([0, 1].map Sum.inl : List Key) [Val.lv [.tup [.int 2, .int 0, .int 1], .tup [.int 4, .int 0, .int 0], .tup [.int 5, .int 0, .int 1], .tup [.int 7, .int 0, .int 0]], .lv [.tup [.int 2, .int 1, .int 0], .tup [.int 4, .int 1, .int 0], .tup [.int 5, .int 1, .int 1], .tup [.int 7, .int 1, .int 0]]] (.inl 2) (Val.lv [.tup [.int 2, .int 1, .int 0], .tup [.int 4, .int 1, .int 0], .tup [.int 5, .int 2, .int 0], .tup [.int 5, .int 0, .int 0]])).1 (putD ([0, 1].map Sum.inl : List Key) [Val.lv [.tup [.int 2, .int 0, .int 1], .tup [.int 4, .int 0, .int 0], .tup [.int 5, .int 0, .int 1], .tup [.int 7, .int 0, .int 0]], .lv [.tup [.int 2, .int 1, .int 0], .tup [.int 4, .int 1, .int 0], .tup [.int 5, .int 1, .int 1], .tup [.int 7, .int 1, .int 0]]] (.inl 2) (Val.lv [.tup [.int 2, .int 1, .int 0], .tup [.int 4, .int 1, .int 0], .tup [.int 5, .int 2, .int 0], .tup [.int 5, .int 0, .int 0]])).2 (.inl c) = some (.lv (rs.map rowT)) ∧
      RowIs ((hand c).times z) ⟨3 * o + 1, 0, 0⟩ (rs.map fun r => (3 * o + r.1, z * r.2.1, z * r.2.2)) := by
    intro y hy
    simp only [List.mem_cons, List.not_mem_nil, or_false] at hy
    rcases hy with rfl | rfl | rfl
    · exact ⟨0, [(2, 0, 1), (4, 0, 0), (5, 0, 1), (7, 0, 0)], rfl, by decide, by decide, rfl, rfl, r1⟩
    · exact ⟨1, [(2, 1, 0), (4, 1, 0), (5, 1, 1), (7, 1, 0)], rfl, by decide, by decide, rfl, rfl, r2⟩
    · exact ⟨2, [(2, 1, 0), (4, 1, 0), (5, 2, 0), (5, 0, 0)], rfl, by decide, by decide, rfl, rfl, r3⟩
  generalize (putD ([0, 1].map Sum.inl : List Key) [Val.lv [.tup [.int 2, .int 0, .int 1], .tup [.int 4, .int 0, .int 0], .tup [.int 5, .int 0, .int 1], .tup [.int 7, .int 0, .int 0]], .lv [.tup [.int 2, .int 1, .int 0], .tup [.int 4, .int 1, .int 0], .tup [.int 5, .int 1, .int 1], .tup [.int 7, .int 1, .int 0]]] (.inl 2) (Val.lv [.tup [.int 2, .int 1, .int 0], .tup [.int 4, .int 1, .int 0], .tup [.int 5, .int 2, .int 0], .tup [.int 5, .int 0, .int 0]])) = KX at each ⊢
  clear r1 r2 r3 o1
  obtain ⟨KS, XS⟩ := KX
  dsimp only at each ⊢
  walk_at "we"
  apply x_for
  walk_at "we"
  refine ⟨rfl, ?_⟩
  walk_at "we"
  refine ⟨fun k ρ' S' => ∃ y5 y6 y7, ρ' = [some (.int z), some (.int o), some (.lv [.tup [.int 2, .int 0], .tup [.int 0, .int 1], .tup [.int 3, .int 1]]), some (.int (3 * o)), some (.ref (S ++ []).length), y5, y6, y7, none, none, none] ∧ S' = S ++ [] ++ [.dik KS XS], ⟨_, _, _, rfl, rfl⟩, ?_, ?_⟩
  · rintro k y ρ' S' hy ⟨y5, y6, y7, rfl, rfl⟩
    obtain ⟨c, rs, rfl, c0, c1, rl, hd, hr⟩ := each y (List.mem_of_getElem? hy)
    obtain ⟨so, ln⟩ := sto c c0 c1
    have ok := okc c c0 c1
    have lf : ∀ S, run Δ (n + 29) i_line_of [((hand c).times z).val true, stV true ⟨3 * o + 1, 0, 0⟩] S = some (.int (z * (2 + 5 * o)), S) := fun S => by rw [← ln]; exact lineof_run ok true true (n + 26) S _
    have td := fun S => told_run ok so (rs := rs.map fun r => (3 * o + r.1, z * r.2.1, z * r.2.2)) (by rw [List.length_map]; omega) hr (n + 13) S
    rw [List.map_map] at td
    clear each sto
    walk_at "wp"
    apply call_run (nestof07 (n + 27) _ c0 c1) (Hill.fits _ true _)
    walk_at "we"
    apply x_asg
    walk_at "wp"
    apply w_kget
    walk_at "wp"
    refine ⟨KS, XS, .inl c, dikOf_app, rfl, _, hd, ?_⟩
    walk_at "wp"
    apply m_mapL rs rowT (rowT ∘ fun r => (3 * o + r.1, z * r.2.1, z * r.2.2)) (by walk_at "wipe")
    · intro r hr'
      walk_at "wp"
      exact ⟨rfl, rfl⟩
    refine ⟨by rw [List.length_map]; omega, ?_⟩
    walk_at "wp"
    apply call_run (td _) rfl
    walk_at "wp"
    apply call_run (lf _) rfl
    walk_at "wp"
    apply call_same 1 rfl (.inl rfl) (by omega)
    walk_at "wp"
    exact ⟨_, _, _, rfl, rfl⟩
  · rintro ρ' S' ⟨y5, y6, y7, rfl, rfl⟩
    walk_at "wp"
    exact ⟨rfl, _, by rw [List.append_nil]⟩
theorem evening_run {o z : Int} (z0 : 1 ≤ z) (z1 : z ≤ 10 ^ 11) (n : Nat) (S : Store) : run Δ (n + 30) i_law_one_evening_right [.int z, .int o] S = some (.bl true, S) := by
  have ok := evez_ok z0 z1
  have nx := fun {a d p a' e q w : Int} => @eve_nx o z z0 z1 a d p a' e q w
  have t1 := nx (a := 0) (d := 0) (p := 4) (a' := 1) (e := 0) (q := 3) (w := 0) (by decide) (by decide) (by decide) (by decide) (by decide) (by decide) (by decide) (by decide) (by decide) (int_gap (by decide)) (by decide) (by decide)
  have t2 := nx (a := 1) (d := 0) (p := 3) (a' := 2) (e := 0) (q := 0) (w := 0) (by decide) (by decide) (by decide) (by decide) (by decide) (by decide) (by decide) (by decide) (by decide) (int_gap (by decide)) (by decide) (by decide)
  have t3 := nx (a := 2) (d := 0) (p := 0) (a' := 0) (e := 2) (q := 4) (w := 0) (by decide) (by decide) (by decide) (by decide) (by decide) (by decide) (by decide) (by decide) (by decide) (int_gap (by decide)) (by decide) (by decide)
  have t4 := nx (a := 0) (d := 2) (p := 4) (a' := 1) (e := 2) (q := 3) (w := 0) (by decide) (by decide) (by decide) (by decide) (by decide) (by decide) (by decide) (by decide) (by decide) (int_gap (by decide)) (by decide) (by decide)
  have t5 := nx (a := 1) (d := 0) (p := 2) (a' := 2) (e := 2) (q := 5) (w := 1) (by decide) (by decide) (by decide) (by decide) (by decide) (by decide) (by decide) (by decide) (by decide) (int_gap (by decide)) (by decide) (by decide)
  simp only [Int.mul_zero, Int.add_zero, Int.mul_one, Int.mul_comm z, Int.zero_mul, Int.one_mul] at t1 t2 t3 t4 t5
  have hr : RowIs (eveH.times z) ⟨2 * o, 0, 4 * z⟩ [(2 * o, 3 * z, 0), (2 * o, 0, 0), (2 * o + 2, 4 * z, 0), (2 * o + 2, 3 * z, 0)] := by
    refine ⟨by rw [t1.1], by rw [t1.1], t1.2.1, ?_⟩
    rw [t1.1]
    refine ⟨by rw [t2.1], by rw [t2.1], t2.2.1, ?_⟩
    rw [t2.1]
    refine ⟨by rw [t3.1], by rw [t3.1], t3.2.1, ?_⟩
    rw [t3.1]
    exact ⟨by rw [t4.1], by rw [t4.1], t4.2.1, trivial⟩
  have td := fun S => told_run ok t1.2.2 (by simp) hr (n + 13) S
  have u2 : ∀ S, run Δ (n + 29) i_turn [(eveH.times z).val true, stV true ⟨2 * o, 1, 3 * z⟩] S = some (turnV ⟨2 * o, 2, 0⟩ 0, S) := fun S => by
    have := turn_run ok true true (n + 25) S _ t2.2.2
    rwa [t2.1, t2.2.1] at this
  have u5 : ∀ S, run Δ (n + 29) i_turn [(eveH.times z).val true, stV true ⟨2 * o, 1, 2 * z⟩] S = some (turnV ⟨2 * o + 2, 2, 5 * z⟩ z, S) := fun S => by
    have := turn_run ok true true (n + 25) S _ t5.2.2
    rwa [t5.1, t5.2.1] at this
  clear t1 t2 t3 t4 t5 nx
  apply RUN.eq
  walk_at "run"
  walk_at "wp"
  apply call_run (nestofE (n + 27) _) (Hill.fits _ true _)
  walk_at "wp"
  apply call_run (td _) rfl
  walk_at "wp"
  apply call_run (u2 _) rfl
  walk_at "wp"
  apply call_run (u5 _) rfl
  walk_at "wp"
  apply call_same 3 rfl (.inl rfl) (by omega)
  walk_at "wp"
  exact ⟨rfl, rfl⟩
theorem lines_run {o z : Int} (o0 : 0 ≤ o) (z0 : 1 ≤ z) (z1 : z ≤ 10 ^ 11) (n : Nat) (S : Store) : run Δ (n + 30) i_law_lines_right [.int z, .int o] S = some (.bl true, S) := by
  have ok := handz_ok z0 z1 (c := 0) (by decide) (by decide)
  have okh := hand_ok (c := 0) (by decide) (by decide)
  have le : ∀ i w : Int, hTo 0 (i + 5 * o + 2) = w + 5 * o → ∀ S, run Δ (n + 29) i_led [((hand 0).times z).val true, .int 0, .int (z * (i + 5 * o))] S = some (.int (z * (w + 5 * o)), S) := fun i w h S => by
    have := led_run ok true (n + 23) S 0 (z * (i + 5 * o)) (Int.le_refl _) (by show (0 : Int) < ((1 : Nat) : Int); decide)
    rw [times_need (Int.le_refl _) (by show (0 : Int) < ((1 : Nat) : Int); decide), ← Int.mul_add, times_to okh ok (by omega), (hand_to (c := 0) (by decide) (by decide) _), show (hand 0).need 0 = 2 from rfl, h] at this
    exact this
  have l0 := le 0 2 (by unfold hTo hNxt; split <;> split <;> (try split) <;> omega)
  have l1 := le 1 5 (by unfold hTo hNxt; split <;> split <;> (try split) <;> omega)
  have l2 := le 2 5 (by unfold hTo hNxt; split <;> split <;> (try split) <;> omega)
  have l3 := le 3 5 (by unfold hTo hNxt; split <;> split <;> (try split) <;> omega)
  have l4 := le 4 7 (by unfold hTo hNxt; split <;> split <;> (try split) <;> omega)
  have l5 := le 5 7 (by unfold hTo hNxt; split <;> split <;> (try split) <;> omega)
  have sL := hand_strL z z0
  clear le
  apply RUN.eq
  walk_at "run"
  walk_at "wp"
  apply call_run (nestof07 (n + 27) _ (by decide) (by decide)) (Hill.fits _ true _)
  walk_at "wp"
  apply call_run (l0 _) rfl
  walk_at "wp"
  apply call_run (l1 _) rfl
  walk_at "wp"
  apply call_run (l2 _) rfl
  walk_at "wp"
  apply call_run (l3 _) rfl
  walk_at "wp"
  apply call_run (l4 _) rfl
  walk_at "wp"
  apply call_run (l5 _) rfl
  walk_at "wp"
  apply call_same 1 rfl (.inl rfl) (by omega)
  walk_at "wp"
  by_cases hz : z > 1
  · rw [decide_eq_true hz]
    walk_at "wp"
    apply call_strs ok (by omega)
    rw [sL]
    walk_at "wp"
    show OP (cmpSem S .eq (Val.lv [Val.tup [.int 1, .int (2 * z - 1)], .tup [.int (2 * z + 1), .int (5 * z - 1)]]) (Val.lv [Val.tup [.int 1, .int (2 * z - 1)], .tup [.int (2 * z + 1), .int (5 * z - 1)]])) _
    refine o_eqSame (d := 2) rfl (by decide) ?_
    walk_at "wp"
    exact ⟨rfl, rfl⟩
  · obtain rfl : z = 1 := by omega
    rw [decide_eq_false hz]
    walk_at "wp"
    apply call_strs ok (by omega)
    rw [sL]
    walk_at "wp"
    show OP (cmpSem S .eq (Val.lv [Val.tup [.int 1, .int 1], .tup [.int 3, .int 4]]) (Val.lv [Val.tup [.int 1, .int 1], .tup [.int 3, .int 4]])) _
    refine o_eqSame (d := 2) rfl (by decide) ?_
    exact ⟨_, _, rfl, rfl, rfl⟩
abbrev depth : Nat := 230
theorem law_runs (ns : List Int) (h : ns.length ≤ 63) (hb : ∀ z ∈ ns, Builtin.Int.intBits z ≤ 1048576) : ∃ S, run Δ depth i_law_k07 [.sl (ns.map Val.int)] [] = some (.bl true, S) := by
  refine law_body i_law_k07 4 2 _ (by decide) (by decide) rfl (fun B x v0 v1 v2 ys hl ok => ?_) ns h
  obtain ⟨y4, y5, rfl⟩ : ∃ y4 y5, ys = [y4, y5] := by
    match ys, hl with
    | [a, b], _ => exact ⟨a, b, rfl⟩
  rw [← List.append_nil (B.st x)]
  walk_at "take"
  intro w x1 w0 w1 ok1
  obtain ⟨m, m0, m1, em⟩ : ∃ m : Int, 0 < m ∧ m ≤ 10 ^ 10 ∧ atI [Val.int 2, .int (10 ^ (10 : Int).toNat)] w = some (.int m) := by
    rcases (show w = 0 ∨ w = 1 by omega) with rfl | rfl
    · exact ⟨2, by decide, by decide, rfl⟩
    · exact ⟨10 ^ 10, by decide, by decide, rfl⟩
  walk_at "wp"
  apply o_idx_lv em
  walk_at "wp"
  apply call_take ok1 (by omega) (by omega) m0 (by omega)
  intro c x2 c0 c1 ok2
  walk_at "wp"
  apply call_take ok2 (by omega) (by omega) (by decide) (by decide)
  intro o x3 o0 o1 ok3
  have o1 : o < 10 ^ 12 := o1
  walk_at "wp"
  apply (three_run (o := o) (z := 1 + c) o0 (by omega) (by omega) (by omega) 199 _).call
  rintro v S1 ⟨rfl, G, rfl⟩
  refine ⟨_, _, gc_app rfl, ?_⟩
  walk_at "wp"
  apply call_run (evening_run (o := o) (z := 1 + c) (by omega) (by omega) 199 _) rfl
  walk_at "wp"
  apply call_run (lines_run (o := o) (z := 1 + c) o0 (by omega) (by omega) 199 _) rfl
  walk_at "wp"
  exact ⟨_, _, rfl, rfl⟩

def gfn : Nat → Option (Str × List Str) := fun n => match n with
  | 519 => some ("year_drops", ["hill"])
  | 319 => some ("ant_behind", ["hill", "ant", "many"])
  | 341 => some ("given_by", ["hill", "day"])
  | 360 => some ("is_open", ["hill", "day"])
  | 487 => some ("open_from", ["hill", "day"])
  | 328 => some ("day_of", ["hill", "drops"])
  | 512 => some ("turn", ["hill", "state"])
  | 513 => some ("turns", ["hill", "state", "many"])
  | 463 => some ("line_of", ["hill", "state"])
  | 331 => some ("ends_of", ["hill"])
  | 482 => some ("next_end", ["hill", "number"])
  | 510 => some ("stretches", ["hill"])
  | 470 => some ("lost_at", ["hill", "number"])
  | 459 => some ("led", ["hill", "ant", "line"])
  | 77 => some ("_law_box", ["_law_script", "_law_k"])
  | 286 => some ("_law_take", ["_law_box_here", "_law_size"])
  | 114 => some ("_law_folded", ["_law_script", "_law_size"])
  | 260 => some ("_law_same", ["_law_found", "_law_wanted"])
  | 156 => some ("_law_nest_of", ["_law_times", "_law_drips", "_law_wants", "_law_cap"])
  | 297 => some ("_law_told_right", ["_law_nest", "_law_now", "_law_due"])
  | 289 => some ("_law_three_right", ["_law_times", "_law_off"])
  | 162 => some ("_law_one_evening_right", ["_law_times", "_law_off"])
  | 142 => some ("_law_lines_right", ["_law_times", "_law_off"])
  | 375 => some ("law", ["_law_script"])
  | _ => none
def gkw : Nat → List (Nat × List Str × List Nat) := fun n => match n with
  | _ => []
def gms : Nat → Option (Nat × Str × List Str) := fun n => match n with
  | _ => none
def gct : Nat → Option (Nat × Str × List Str) := fun n => match n with
  | _ => none
def gna : Nat → Str → Bool := fun n f => match n with
  | _ => false
def gG : G := { fn := gfn, ct := [], bl := ["abs", "all", "bool", "divmod", "enumerate", "int", "isinstance", "len", "list", "max", "min", "range", "sorted", "str", "sum", "tuple", "zip"], kw := gkw, ms := gms, ctr := gct, na := gna, fv := [] }
def topS (i : Nat) : Stmt := PySem.Challenge.pw_honeyturns_k07_turns_by_hand.main.body.getD i (.Pass ⟨0, 0, 0, 0⟩)
def n_year_drops : List Str := ["hill", "drops", "opened"]
theorem sc_year_drops : FnScope n_year_drops ["hill"] (defScope (topS 1)) := ⟨rfl, rfl, rfl, by decide +kernel, rfl, by decide +kernel, by decide +kernel⟩
theorem ck_year_drops : chkSs gG ⟨n_year_drops, defScope (topS 1), fun _ => true⟩ d_year_drops.body (defBody (topS 1)) = true := by decide +kernel
def n_ant_behind : List Str := ["hill", "ant", "many"]
theorem sc_ant_behind : FnScope n_ant_behind ["hill", "ant", "many"] (defScope (topS 2)) := ⟨rfl, rfl, rfl, by decide +kernel, rfl, by decide +kernel, by decide +kernel⟩
theorem ck_ant_behind : chkSs gG ⟨n_ant_behind, defScope (topS 2), fun _ => true⟩ d_ant_behind.body (defBody (topS 2)) = true := by decide +kernel
def n_given_by : List Str := ["hill", "day", "years", "rest", "drops", "opened"]
theorem sc_given_by : FnScope n_given_by ["hill", "day"] (defScope (topS 3)) := ⟨rfl, rfl, rfl, by decide +kernel, rfl, by decide +kernel, by decide +kernel⟩
theorem ck_given_by : chkSs gG ⟨n_given_by, defScope (topS 3), fun _ => true⟩ d_given_by.body (defBody (topS 3)) = true := by decide +kernel
def n_is_open : List Str := ["hill", "day"]
theorem sc_is_open : FnScope n_is_open ["hill", "day"] (defScope (topS 4)) := ⟨rfl, rfl, rfl, by decide +kernel, rfl, by decide +kernel, by decide +kernel⟩
theorem ck_is_open : chkSs gG ⟨n_is_open, defScope (topS 4), fun _ => true⟩ d_is_open.body (defBody (topS 4)) = true := by decide +kernel
def n_open_from : List Str := ["hill", "day"]
theorem sc_open_from : FnScope n_open_from ["hill", "day"] (defScope (topS 5)) := ⟨rfl, rfl, rfl, by decide +kernel, rfl, by decide +kernel, by decide +kernel⟩
theorem ck_open_from : chkSs gG ⟨n_open_from, defScope (topS 5), fun _ => true⟩ d_open_from.body (defBody (topS 5)) = true := by decide +kernel
def n_day_of : List Str := ["hill", "drops", "day"]
theorem sc_day_of : FnScope n_day_of ["hill", "drops"] (defScope (topS 6)) := ⟨rfl, rfl, rfl, by decide +kernel, rfl, by decide +kernel, by decide +kernel⟩
theorem ck_day_of : chkSs gG ⟨n_day_of, defScope (topS 6), fun _ => true⟩ d_day_of.body (defBody (topS 6)) = true := by decide +kernel
def n_turn : List Str := ["hill", "state", "day", "ant", "pot", "lacks", "evening", "over"]
theorem sc_turn : FnScope n_turn ["hill", "state"] (defScope (topS 8)) := ⟨rfl, rfl, rfl, by decide +kernel, rfl, by decide +kernel, by decide +kernel⟩
theorem ck_turn : chkSs gG ⟨n_turn, defScope (topS 8), fun _ => true⟩ d_turn.body (defBody (topS 8)) = true := by decide +kernel
def n_turns : List Str := ["hill", "state", "many", "found", "number"]
theorem sc_turns : FnScope n_turns ["hill", "state", "many"] (defScope (topS 9)) := ⟨rfl, rfl, rfl, by decide +kernel, rfl, by decide +kernel, by decide +kernel⟩
theorem ck_turns : chkSs gG ⟨n_turns, defScope (topS 9), fun _ => true⟩ d_turns.body (defBody (topS 9)) = true := by decide +kernel
def n_line_of : List Str := ["hill", "state", "day", "ant", "pot"]
theorem sc_line_of : FnScope n_line_of ["hill", "state"] (defScope (topS 11)) := ⟨rfl, rfl, rfl, by decide +kernel, rfl, by decide +kernel, by decide +kernel⟩
theorem ck_line_of : chkSs gG ⟨n_line_of, defScope (topS 11), fun _ => true⟩ d_line_of.body (defBody (topS 11)) = true := by decide +kernel
def n_ends_of : List Str := ["hill", "around", "day", "drops", "opened"]
theorem sc_ends_of : FnScope n_ends_of ["hill"] (defScope (topS 12)) := ⟨rfl, rfl, rfl, by decide +kernel, rfl, by decide +kernel, by decide +kernel⟩
theorem ck_ends_of : chkSs gG ⟨n_ends_of, defScope (topS 12), fun _ => true⟩ d_ends_of.body (defBody (topS 12)) = true := by decide +kernel
def n_next_end : List Str := ["hill", "number", "around", "ends", "years", "rest", "end"]
theorem sc_next_end : FnScope n_next_end ["hill", "number"] (defScope (topS 13)) := ⟨rfl, rfl, rfl, by decide +kernel, rfl, by decide +kernel, by decide +kernel⟩
theorem ck_next_end : chkSs gG ⟨n_next_end, defScope (topS 13), fun _ => true⟩ d_next_end.body (defBody (topS 13)) = true := by decide +kernel
def n_stretches : List Str := ["hill", "around", "ends", "found", "end", "later", "low", "high"]
theorem sc_stretches : FnScope n_stretches ["hill"] (defScope (topS 14)) := ⟨rfl, rfl, rfl, by decide +kernel, rfl, by decide +kernel, by decide +kernel⟩
theorem ck_stretches : chkSs gG ⟨n_stretches, defScope (topS 14), fun _ => true⟩ d_stretches.body (defBody (topS 14)) = true := by decide +kernel
def n_lost_at : List Str := ["hill", "number"]
theorem sc_lost_at : FnScope n_lost_at ["hill", "number"] (defScope (topS 15)) := ⟨rfl, rfl, rfl, by decide +kernel, rfl, by decide +kernel, by decide +kernel⟩
theorem ck_lost_at : chkSs gG ⟨n_lost_at, defScope (topS 15), fun _ => true⟩ d_lost_at.body (defBody (topS 15)) = true := by decide +kernel
def n_led : List Str := ["hill", "ant", "line", "total"]
theorem sc_led : FnScope n_led ["hill", "ant", "line"] (defScope (topS 16)) := ⟨rfl, rfl, rfl, by decide +kernel, rfl, by decide +kernel, by decide +kernel⟩
theorem ck_led : chkSs gG ⟨n_led, defScope (topS 16), fun _ => true⟩ d_led.body (defBody (topS 16)) = true := by decide +kernel
def n_law_box : List Str := ["_law_script", "_law_k", "_law_cell"]
theorem sc_law_box : FnScope n_law_box ["_law_script", "_law_k"] (defScope (topS 18)) := ⟨rfl, rfl, rfl, by decide +kernel, rfl, by decide +kernel, by decide +kernel⟩
theorem ck_law_box : chkSs gG ⟨n_law_box, defScope (topS 18), fun _ => true⟩ d_law_box.body (defBody (topS 18)) = true := by decide +kernel
def n_law_take : List Str := ["_law_box_here", "_law_size", "_law_found", "_law_stir", "_law_once", "_law_twice"]
theorem sc_law_take : FnScope n_law_take ["_law_box_here", "_law_size"] (defScope (topS 19)) := ⟨rfl, rfl, rfl, by decide +kernel, rfl, by decide +kernel, by decide +kernel⟩
theorem ck_law_take : chkSs gG ⟨n_law_take, defScope (topS 19), fun _ => true⟩ d_law_take.body (defBody (topS 19)) = true := by decide +kernel
def n_law_folded : List Str := ["_law_script", "_law_size", "_law_cells", "_law_k", "_law_cell"]
theorem sc_law_folded : FnScope n_law_folded ["_law_script", "_law_size"] (defScope (topS 20)) := ⟨rfl, rfl, rfl, by decide +kernel, rfl, by decide +kernel, by decide +kernel⟩
theorem ck_law_folded : chkSs gG ⟨n_law_folded, defScope (topS 20), fun _ => true⟩ d_law_folded.body (defBody (topS 20)) = true := by decide +kernel
def n_law_same : List Str := ["_law_found", "_law_wanted", "_law_mine", "_law_its"]
theorem sc_law_same : FnScope n_law_same ["_law_found", "_law_wanted"] (defScope (topS 21)) := ⟨rfl, rfl, rfl, by decide +kernel, rfl, by decide +kernel, by decide +kernel⟩
theorem ck_law_same : chkSs gG ⟨n_law_same, defScope (topS 21), fun _ => true⟩ d_law_same.body (defBody (topS 21)) = true := by decide +kernel
def n_law_nest_of : List Str := ["_law_times", "_law_drips", "_law_wants", "_law_cap", "_law_year", "_law_drip", "_law_lit", "_law_want"]
theorem sc_law_nest_of : FnScope n_law_nest_of ["_law_times", "_law_drips", "_law_wants", "_law_cap"] (defScope (topS 22)) := ⟨rfl, rfl, rfl, by decide +kernel, rfl, by decide +kernel, by decide +kernel⟩
theorem ck_law_nest_of : chkSs gG ⟨n_law_nest_of, defScope (topS 22), fun _ => true⟩ d_law_nest_of.body (defBody (topS 22)) = true := by decide +kernel
def n_law_told_right_k07 : List Str := ["_law_nest", "_law_now", "_law_due", "_law_told", "_law_then", "_law_spilt"]
theorem sc_law_told_right_k07 : FnScope n_law_told_right_k07 ["_law_nest", "_law_now", "_law_due"] (defScope (topS 23)) := ⟨rfl, rfl, rfl, by decide +kernel, rfl, by decide +kernel, by decide +kernel⟩
theorem ck_law_told_right_k07 : chkSs gG ⟨n_law_told_right_k07, defScope (topS 23), fun _ => true⟩ d_law_told_right_k07.body (defBody (topS 23)) = true := by decide +kernel
def n_law_three_right_k07 : List Str := ["_law_times", "_law_off", "_law_drips", "_law_far", "_law_rows", "_law_cap", "_law_nest", "_law_due", "_law_dawn", "_law_kept", "_law_spilt"]
theorem sc_law_three_right_k07 : FnScope n_law_three_right_k07 ["_law_times", "_law_off"] (defScope (topS 24)) := ⟨rfl, rfl, rfl, by decide +kernel, rfl, by decide +kernel, by decide +kernel⟩
theorem ck_law_three_right_k07 : chkSs gG ⟨n_law_three_right_k07, defScope (topS 24), fun _ => true⟩ d_law_three_right_k07.body (defBody (topS 24)) = true := by decide +kernel
def n_law_one_evening_right : List Str := ["_law_times", "_law_off", "_law_far", "_law_nest", "_law_due", "_law_told"]
theorem sc_law_one_evening_right : FnScope n_law_one_evening_right ["_law_times", "_law_off"] (defScope (topS 25)) := ⟨rfl, rfl, rfl, by decide +kernel, rfl, by decide +kernel, by decide +kernel⟩
theorem ck_law_one_evening_right : chkSs gG ⟨n_law_one_evening_right, defScope (topS 25), fun _ => true⟩ d_law_one_evening_right.body (defBody (topS 25)) = true := by decide +kernel
def n_law_lines_right : List Str := ["_law_times", "_law_off", "_law_nest", "_law_far", "_law_told", "_law_at"]
theorem sc_law_lines_right : FnScope n_law_lines_right ["_law_times", "_law_off"] (defScope (topS 26)) := ⟨rfl, rfl, rfl, by decide +kernel, rfl, by decide +kernel, by decide +kernel⟩
theorem ck_law_lines_right : chkSs gG ⟨n_law_lines_right, defScope (topS 26), fun _ => true⟩ d_law_lines_right.body (defBody (topS 26)) = true := by decide +kernel
def n_law_k07 : List Str := ["_law_script", "_law_cells", "_law_k", "_law_box_here", "_law_times", "_law_off"]
theorem sc_law_k07 : FnScope n_law_k07 ["_law_script"] (defScope (topS 27)) := ⟨rfl, rfl, rfl, by decide +kernel, rfl, by decide +kernel, by decide +kernel⟩
theorem ck_law_k07 : chkSs gG ⟨n_law_k07, defScope (topS 27), fun _ => true⟩ d_law_k07.body (defBody (topS 27)) = true := by decide +kernel
def clA (_u : Addr) : Nat → Addr := fun n => match n with
  | _ => 0
theorem all_mk {l : PySem.W.OpenLaw} {w : World} {K : PySem.W.Frag} {h : Heap} {mg : Str → Option Value} {fa : Addr} (X : K.In h) (G : h.Ns mainGlobals mg) (hfa : mg "law" = some (.ref fa))
    {od_year_drops an_year_drops : Option Addr} {sl_year_drops : Array (Option Value)} {oc_year_drops kV_year_drops dc_year_drops pm_year_drops cd_year_drops ct_year_drops : Value} {f_year_drops : Addr}
    (a_year_drops : PySem.W.nsIn K mainGlobals "year_drops" = some (some (.ref f_year_drops))) (l_year_drops : K.lookup f_year_drops = some ⟨oc_year_drops, od_year_drops, .func (PySem.W.fnOf "year_drops" "year_drops" (defArgs (topS 1)) (defBody (topS 1)) (defScope (topS 1)) .none kV_year_drops dc_year_drops pm_year_drops an_year_drops cd_year_drops ct_year_drops), sl_year_drops⟩) (c_year_drops : PySem.W.codeIn K cd_year_drops "year_drops" = true) (k_year_drops : PySem.W.keepIn K (.ref f_year_drops) = true)
    {od_ant_behind an_ant_behind : Option Addr} {sl_ant_behind : Array (Option Value)} {oc_ant_behind kV_ant_behind dc_ant_behind pm_ant_behind cd_ant_behind ct_ant_behind : Value} {f_ant_behind : Addr}
    (a_ant_behind : PySem.W.nsIn K mainGlobals "ant_behind" = some (some (.ref f_ant_behind))) (l_ant_behind : K.lookup f_ant_behind = some ⟨oc_ant_behind, od_ant_behind, .func (PySem.W.fnOf "ant_behind" "ant_behind" (defArgs (topS 2)) (defBody (topS 2)) (defScope (topS 2)) .none kV_ant_behind dc_ant_behind pm_ant_behind an_ant_behind cd_ant_behind ct_ant_behind), sl_ant_behind⟩) (c_ant_behind : PySem.W.codeIn K cd_ant_behind "ant_behind" = true) (k_ant_behind : PySem.W.keepIn K (.ref f_ant_behind) = true)
    {od_given_by an_given_by : Option Addr} {sl_given_by : Array (Option Value)} {oc_given_by kV_given_by dc_given_by pm_given_by cd_given_by ct_given_by : Value} {f_given_by : Addr}
    (a_given_by : PySem.W.nsIn K mainGlobals "given_by" = some (some (.ref f_given_by))) (l_given_by : K.lookup f_given_by = some ⟨oc_given_by, od_given_by, .func (PySem.W.fnOf "given_by" "given_by" (defArgs (topS 3)) (defBody (topS 3)) (defScope (topS 3)) .none kV_given_by dc_given_by pm_given_by an_given_by cd_given_by ct_given_by), sl_given_by⟩) (c_given_by : PySem.W.codeIn K cd_given_by "given_by" = true) (k_given_by : PySem.W.keepIn K (.ref f_given_by) = true)
    {od_is_open an_is_open : Option Addr} {sl_is_open : Array (Option Value)} {oc_is_open kV_is_open dc_is_open pm_is_open cd_is_open ct_is_open : Value} {f_is_open : Addr}
    (a_is_open : PySem.W.nsIn K mainGlobals "is_open" = some (some (.ref f_is_open))) (l_is_open : K.lookup f_is_open = some ⟨oc_is_open, od_is_open, .func (PySem.W.fnOf "is_open" "is_open" (defArgs (topS 4)) (defBody (topS 4)) (defScope (topS 4)) .none kV_is_open dc_is_open pm_is_open an_is_open cd_is_open ct_is_open), sl_is_open⟩) (c_is_open : PySem.W.codeIn K cd_is_open "is_open" = true) (k_is_open : PySem.W.keepIn K (.ref f_is_open) = true)
    {od_open_from an_open_from : Option Addr} {sl_open_from : Array (Option Value)} {oc_open_from kV_open_from dc_open_from pm_open_from cd_open_from ct_open_from : Value} {f_open_from : Addr}
    (a_open_from : PySem.W.nsIn K mainGlobals "open_from" = some (some (.ref f_open_from))) (l_open_from : K.lookup f_open_from = some ⟨oc_open_from, od_open_from, .func (PySem.W.fnOf "open_from" "open_from" (defArgs (topS 5)) (defBody (topS 5)) (defScope (topS 5)) .none kV_open_from dc_open_from pm_open_from an_open_from cd_open_from ct_open_from), sl_open_from⟩) (c_open_from : PySem.W.codeIn K cd_open_from "open_from" = true) (k_open_from : PySem.W.keepIn K (.ref f_open_from) = true)
    {od_day_of an_day_of : Option Addr} {sl_day_of : Array (Option Value)} {oc_day_of kV_day_of dc_day_of pm_day_of cd_day_of ct_day_of : Value} {f_day_of : Addr}
    (a_day_of : PySem.W.nsIn K mainGlobals "day_of" = some (some (.ref f_day_of))) (l_day_of : K.lookup f_day_of = some ⟨oc_day_of, od_day_of, .func (PySem.W.fnOf "day_of" "day_of" (defArgs (topS 6)) (defBody (topS 6)) (defScope (topS 6)) .none kV_day_of dc_day_of pm_day_of an_day_of cd_day_of ct_day_of), sl_day_of⟩) (c_day_of : PySem.W.codeIn K cd_day_of "day_of" = true) (k_day_of : PySem.W.keepIn K (.ref f_day_of) = true)
    {od_turn an_turn : Option Addr} {sl_turn : Array (Option Value)} {oc_turn kV_turn dc_turn pm_turn cd_turn ct_turn : Value} {f_turn : Addr}
    (a_turn : PySem.W.nsIn K mainGlobals "turn" = some (some (.ref f_turn))) (l_turn : K.lookup f_turn = some ⟨oc_turn, od_turn, .func (PySem.W.fnOf "turn" "turn" (defArgs (topS 8)) (defBody (topS 8)) (defScope (topS 8)) .none kV_turn dc_turn pm_turn an_turn cd_turn ct_turn), sl_turn⟩) (c_turn : PySem.W.codeIn K cd_turn "turn" = true) (k_turn : PySem.W.keepIn K (.ref f_turn) = true)
    {od_turns an_turns : Option Addr} {sl_turns : Array (Option Value)} {oc_turns kV_turns dc_turns pm_turns cd_turns ct_turns : Value} {f_turns : Addr}
    (a_turns : PySem.W.nsIn K mainGlobals "turns" = some (some (.ref f_turns))) (l_turns : K.lookup f_turns = some ⟨oc_turns, od_turns, .func (PySem.W.fnOf "turns" "turns" (defArgs (topS 9)) (defBody (topS 9)) (defScope (topS 9)) .none kV_turns dc_turns pm_turns an_turns cd_turns ct_turns), sl_turns⟩) (c_turns : PySem.W.codeIn K cd_turns "turns" = true) (k_turns : PySem.W.keepIn K (.ref f_turns) = true)
    {od_line_of an_line_of : Option Addr} {sl_line_of : Array (Option Value)} {oc_line_of kV_line_of dc_line_of pm_line_of cd_line_of ct_line_of : Value} {f_line_of : Addr}
    (a_line_of : PySem.W.nsIn K mainGlobals "line_of" = some (some (.ref f_line_of))) (l_line_of : K.lookup f_line_of = some ⟨oc_line_of, od_line_of, .func (PySem.W.fnOf "line_of" "line_of" (defArgs (topS 11)) (defBody (topS 11)) (defScope (topS 11)) .none kV_line_of dc_line_of pm_line_of an_line_of cd_line_of ct_line_of), sl_line_of⟩) (c_line_of : PySem.W.codeIn K cd_line_of "line_of" = true) (k_line_of : PySem.W.keepIn K (.ref f_line_of) = true)
    {od_ends_of an_ends_of : Option Addr} {sl_ends_of : Array (Option Value)} {oc_ends_of kV_ends_of dc_ends_of pm_ends_of cd_ends_of ct_ends_of : Value} {f_ends_of : Addr}
    (a_ends_of : PySem.W.nsIn K mainGlobals "ends_of" = some (some (.ref f_ends_of))) (l_ends_of : K.lookup f_ends_of = some ⟨oc_ends_of, od_ends_of, .func (PySem.W.fnOf "ends_of" "ends_of" (defArgs (topS 12)) (defBody (topS 12)) (defScope (topS 12)) .none kV_ends_of dc_ends_of pm_ends_of an_ends_of cd_ends_of ct_ends_of), sl_ends_of⟩) (c_ends_of : PySem.W.codeIn K cd_ends_of "ends_of" = true) (k_ends_of : PySem.W.keepIn K (.ref f_ends_of) = true)
    {od_next_end an_next_end : Option Addr} {sl_next_end : Array (Option Value)} {oc_next_end kV_next_end dc_next_end pm_next_end cd_next_end ct_next_end : Value} {f_next_end : Addr}
    (a_next_end : PySem.W.nsIn K mainGlobals "next_end" = some (some (.ref f_next_end))) (l_next_end : K.lookup f_next_end = some ⟨oc_next_end, od_next_end, .func (PySem.W.fnOf "next_end" "next_end" (defArgs (topS 13)) (defBody (topS 13)) (defScope (topS 13)) .none kV_next_end dc_next_end pm_next_end an_next_end cd_next_end ct_next_end), sl_next_end⟩) (c_next_end : PySem.W.codeIn K cd_next_end "next_end" = true) (k_next_end : PySem.W.keepIn K (.ref f_next_end) = true)
    {od_stretches an_stretches : Option Addr} {sl_stretches : Array (Option Value)} {oc_stretches kV_stretches dc_stretches pm_stretches cd_stretches ct_stretches : Value} {f_stretches : Addr}
    (a_stretches : PySem.W.nsIn K mainGlobals "stretches" = some (some (.ref f_stretches))) (l_stretches : K.lookup f_stretches = some ⟨oc_stretches, od_stretches, .func (PySem.W.fnOf "stretches" "stretches" (defArgs (topS 14)) (defBody (topS 14)) (defScope (topS 14)) .none kV_stretches dc_stretches pm_stretches an_stretches cd_stretches ct_stretches), sl_stretches⟩) (c_stretches : PySem.W.codeIn K cd_stretches "stretches" = true) (k_stretches : PySem.W.keepIn K (.ref f_stretches) = true)
    {od_lost_at an_lost_at : Option Addr} {sl_lost_at : Array (Option Value)} {oc_lost_at kV_lost_at dc_lost_at pm_lost_at cd_lost_at ct_lost_at : Value} {f_lost_at : Addr}
    (a_lost_at : PySem.W.nsIn K mainGlobals "lost_at" = some (some (.ref f_lost_at))) (l_lost_at : K.lookup f_lost_at = some ⟨oc_lost_at, od_lost_at, .func (PySem.W.fnOf "lost_at" "lost_at" (defArgs (topS 15)) (defBody (topS 15)) (defScope (topS 15)) .none kV_lost_at dc_lost_at pm_lost_at an_lost_at cd_lost_at ct_lost_at), sl_lost_at⟩) (c_lost_at : PySem.W.codeIn K cd_lost_at "lost_at" = true) (k_lost_at : PySem.W.keepIn K (.ref f_lost_at) = true)
    {od_led an_led : Option Addr} {sl_led : Array (Option Value)} {oc_led kV_led dc_led pm_led cd_led ct_led : Value} {f_led : Addr}
    (a_led : PySem.W.nsIn K mainGlobals "led" = some (some (.ref f_led))) (l_led : K.lookup f_led = some ⟨oc_led, od_led, .func (PySem.W.fnOf "led" "led" (defArgs (topS 16)) (defBody (topS 16)) (defScope (topS 16)) .none kV_led dc_led pm_led an_led cd_led ct_led), sl_led⟩) (c_led : PySem.W.codeIn K cd_led "led" = true) (k_led : PySem.W.keepIn K (.ref f_led) = true)
    {od_law_box an_law_box : Option Addr} {sl_law_box : Array (Option Value)} {oc_law_box kV_law_box dc_law_box pm_law_box cd_law_box ct_law_box : Value} {f_law_box : Addr}
    (a_law_box : PySem.W.nsIn K mainGlobals "_law_box" = some (some (.ref f_law_box))) (l_law_box : K.lookup f_law_box = some ⟨oc_law_box, od_law_box, .func (PySem.W.fnOf "_law_box" "_law_box" (defArgs (topS 18)) (defBody (topS 18)) (defScope (topS 18)) .none kV_law_box dc_law_box pm_law_box an_law_box cd_law_box ct_law_box), sl_law_box⟩) (c_law_box : PySem.W.codeIn K cd_law_box "_law_box" = true) (k_law_box : PySem.W.keepIn K (.ref f_law_box) = true)
    {od_law_take an_law_take : Option Addr} {sl_law_take : Array (Option Value)} {oc_law_take kV_law_take dc_law_take pm_law_take cd_law_take ct_law_take : Value} {f_law_take : Addr}
    (a_law_take : PySem.W.nsIn K mainGlobals "_law_take" = some (some (.ref f_law_take))) (l_law_take : K.lookup f_law_take = some ⟨oc_law_take, od_law_take, .func (PySem.W.fnOf "_law_take" "_law_take" (defArgs (topS 19)) (defBody (topS 19)) (defScope (topS 19)) .none kV_law_take dc_law_take pm_law_take an_law_take cd_law_take ct_law_take), sl_law_take⟩) (c_law_take : PySem.W.codeIn K cd_law_take "_law_take" = true) (k_law_take : PySem.W.keepIn K (.ref f_law_take) = true)
    {od_law_folded an_law_folded : Option Addr} {sl_law_folded : Array (Option Value)} {oc_law_folded kV_law_folded dc_law_folded pm_law_folded cd_law_folded ct_law_folded : Value} {f_law_folded : Addr}
    (a_law_folded : PySem.W.nsIn K mainGlobals "_law_folded" = some (some (.ref f_law_folded))) (l_law_folded : K.lookup f_law_folded = some ⟨oc_law_folded, od_law_folded, .func (PySem.W.fnOf "_law_folded" "_law_folded" (defArgs (topS 20)) (defBody (topS 20)) (defScope (topS 20)) .none kV_law_folded dc_law_folded pm_law_folded an_law_folded cd_law_folded ct_law_folded), sl_law_folded⟩) (c_law_folded : PySem.W.codeIn K cd_law_folded "_law_folded" = true) (k_law_folded : PySem.W.keepIn K (.ref f_law_folded) = true)
    {od_law_same an_law_same : Option Addr} {sl_law_same : Array (Option Value)} {oc_law_same kV_law_same dc_law_same pm_law_same cd_law_same ct_law_same : Value} {f_law_same : Addr}
    (a_law_same : PySem.W.nsIn K mainGlobals "_law_same" = some (some (.ref f_law_same))) (l_law_same : K.lookup f_law_same = some ⟨oc_law_same, od_law_same, .func (PySem.W.fnOf "_law_same" "_law_same" (defArgs (topS 21)) (defBody (topS 21)) (defScope (topS 21)) .none kV_law_same dc_law_same pm_law_same an_law_same cd_law_same ct_law_same), sl_law_same⟩) (c_law_same : PySem.W.codeIn K cd_law_same "_law_same" = true) (k_law_same : PySem.W.keepIn K (.ref f_law_same) = true)
    {od_law_nest_of an_law_nest_of : Option Addr} {sl_law_nest_of : Array (Option Value)} {oc_law_nest_of kV_law_nest_of dc_law_nest_of pm_law_nest_of cd_law_nest_of ct_law_nest_of : Value} {f_law_nest_of : Addr}
    (a_law_nest_of : PySem.W.nsIn K mainGlobals "_law_nest_of" = some (some (.ref f_law_nest_of))) (l_law_nest_of : K.lookup f_law_nest_of = some ⟨oc_law_nest_of, od_law_nest_of, .func (PySem.W.fnOf "_law_nest_of" "_law_nest_of" (defArgs (topS 22)) (defBody (topS 22)) (defScope (topS 22)) .none kV_law_nest_of dc_law_nest_of pm_law_nest_of an_law_nest_of cd_law_nest_of ct_law_nest_of), sl_law_nest_of⟩) (c_law_nest_of : PySem.W.codeIn K cd_law_nest_of "_law_nest_of" = true) (k_law_nest_of : PySem.W.keepIn K (.ref f_law_nest_of) = true)
    {od_law_told_right_k07 an_law_told_right_k07 : Option Addr} {sl_law_told_right_k07 : Array (Option Value)} {oc_law_told_right_k07 kV_law_told_right_k07 dc_law_told_right_k07 pm_law_told_right_k07 cd_law_told_right_k07 ct_law_told_right_k07 : Value} {f_law_told_right_k07 : Addr}
    (a_law_told_right_k07 : PySem.W.nsIn K mainGlobals "_law_told_right" = some (some (.ref f_law_told_right_k07))) (l_law_told_right_k07 : K.lookup f_law_told_right_k07 = some ⟨oc_law_told_right_k07, od_law_told_right_k07, .func (PySem.W.fnOf "_law_told_right" "_law_told_right" (defArgs (topS 23)) (defBody (topS 23)) (defScope (topS 23)) .none kV_law_told_right_k07 dc_law_told_right_k07 pm_law_told_right_k07 an_law_told_right_k07 cd_law_told_right_k07 ct_law_told_right_k07), sl_law_told_right_k07⟩) (c_law_told_right_k07 : PySem.W.codeIn K cd_law_told_right_k07 "_law_told_right" = true) (k_law_told_right_k07 : PySem.W.keepIn K (.ref f_law_told_right_k07) = true)
    {od_law_three_right_k07 an_law_three_right_k07 : Option Addr} {sl_law_three_right_k07 : Array (Option Value)} {oc_law_three_right_k07 kV_law_three_right_k07 dc_law_three_right_k07 pm_law_three_right_k07 cd_law_three_right_k07 ct_law_three_right_k07 : Value} {f_law_three_right_k07 : Addr}
    (a_law_three_right_k07 : PySem.W.nsIn K mainGlobals "_law_three_right" = some (some (.ref f_law_three_right_k07))) (l_law_three_right_k07 : K.lookup f_law_three_right_k07 = some ⟨oc_law_three_right_k07, od_law_three_right_k07, .func (PySem.W.fnOf "_law_three_right" "_law_three_right" (defArgs (topS 24)) (defBody (topS 24)) (defScope (topS 24)) .none kV_law_three_right_k07 dc_law_three_right_k07 pm_law_three_right_k07 an_law_three_right_k07 cd_law_three_right_k07 ct_law_three_right_k07), sl_law_three_right_k07⟩) (c_law_three_right_k07 : PySem.W.codeIn K cd_law_three_right_k07 "_law_three_right" = true) (k_law_three_right_k07 : PySem.W.keepIn K (.ref f_law_three_right_k07) = true)
    {od_law_one_evening_right an_law_one_evening_right : Option Addr} {sl_law_one_evening_right : Array (Option Value)} {oc_law_one_evening_right kV_law_one_evening_right dc_law_one_evening_right pm_law_one_evening_right cd_law_one_evening_right ct_law_one_evening_right : Value} {f_law_one_evening_right : Addr}
    (a_law_one_evening_right : PySem.W.nsIn K mainGlobals "_law_one_evening_right" = some (some (.ref f_law_one_evening_right))) (l_law_one_evening_right : K.lookup f_law_one_evening_right = some ⟨oc_law_one_evening_right, od_law_one_evening_right, .func (PySem.W.fnOf "_law_one_evening_right" "_law_one_evening_right" (defArgs (topS 25)) (defBody (topS 25)) (defScope (topS 25)) .none kV_law_one_evening_right dc_law_one_evening_right pm_law_one_evening_right an_law_one_evening_right cd_law_one_evening_right ct_law_one_evening_right), sl_law_one_evening_right⟩) (c_law_one_evening_right : PySem.W.codeIn K cd_law_one_evening_right "_law_one_evening_right" = true) (k_law_one_evening_right : PySem.W.keepIn K (.ref f_law_one_evening_right) = true)
    {od_law_lines_right an_law_lines_right : Option Addr} {sl_law_lines_right : Array (Option Value)} {oc_law_lines_right kV_law_lines_right dc_law_lines_right pm_law_lines_right cd_law_lines_right ct_law_lines_right : Value} {f_law_lines_right : Addr}
    (a_law_lines_right : PySem.W.nsIn K mainGlobals "_law_lines_right" = some (some (.ref f_law_lines_right))) (l_law_lines_right : K.lookup f_law_lines_right = some ⟨oc_law_lines_right, od_law_lines_right, .func (PySem.W.fnOf "_law_lines_right" "_law_lines_right" (defArgs (topS 26)) (defBody (topS 26)) (defScope (topS 26)) .none kV_law_lines_right dc_law_lines_right pm_law_lines_right an_law_lines_right cd_law_lines_right ct_law_lines_right), sl_law_lines_right⟩) (c_law_lines_right : PySem.W.codeIn K cd_law_lines_right "_law_lines_right" = true) (k_law_lines_right : PySem.W.keepIn K (.ref f_law_lines_right) = true)
    {od_law_k07 an_law_k07 : Option Addr} {sl_law_k07 : Array (Option Value)} {oc_law_k07 kV_law_k07 dc_law_k07 pm_law_k07 cd_law_k07 ct_law_k07 : Value} {f_law_k07 : Addr}
    (a_law_k07 : PySem.W.nsIn K mainGlobals "law" = some (some (.ref f_law_k07))) (l_law_k07 : K.lookup f_law_k07 = some ⟨oc_law_k07, od_law_k07, .func (PySem.W.fnOf "law" "law" (defArgs (topS 27)) (defBody (topS 27)) (defScope (topS 27)) .none kV_law_k07 dc_law_k07 pm_law_k07 an_law_k07 cd_law_k07 ct_law_k07), sl_law_k07⟩) (c_law_k07 : PySem.W.codeIn K cd_law_k07 "law" = true) (k_law_k07 : PySem.W.keepIn K (.ref f_law_k07) = true)
    (z_abs : PySem.W.nsIn K mainGlobals "abs" = some none)
    (z_all : PySem.W.nsIn K mainGlobals "all" = some none)
    (z_bool : PySem.W.nsIn K mainGlobals "bool" = some none)
    (z_divmod : PySem.W.nsIn K mainGlobals "divmod" = some none)
    (z_enumerate : PySem.W.nsIn K mainGlobals "enumerate" = some none)
    (z_int : PySem.W.nsIn K mainGlobals "int" = some none)
    (z_isinstance : PySem.W.nsIn K mainGlobals "isinstance" = some none)
    (z_len : PySem.W.nsIn K mainGlobals "len" = some none)
    (z_list : PySem.W.nsIn K mainGlobals "list" = some none)
    (z_max : PySem.W.nsIn K mainGlobals "max" = some none)
    (z_min : PySem.W.nsIn K mainGlobals "min" = some none)
    (z_range : PySem.W.nsIn K mainGlobals "range" = some none)
    (z_sorted : PySem.W.nsIn K mainGlobals "sorted" = some none)
    (z_str : PySem.W.nsIn K mainGlobals "str" = some none)
    (z_sum : PySem.W.nsIn K mainGlobals "sum" = some none)
    (z_tuple : PySem.W.nsIn K mainGlobals "tuple" = some none)
    (z_zip : PySem.W.nsIn K mainGlobals "zip" = some none) :
    ∃ fd : FuncData, (∀ (s : Shared) (v : Value), BindsTo s fd ⟨[v], []⟩ [("_law_script", v)]) ∧ ∀ base : Heap, K.In base → base.Ns mainGlobals mg → GFn l.prog w K mg base depth fa fd ["_law_script"] (spL K Δ depth 375 ["_law_script"]) := by
  have e := hfa.symm.trans (PySem.W.mg_of X G a_law_k07)
  cases e
  have F_year_drops := fun_mk (st := topS 1) l_year_drops c_year_drops k_year_drops
  have b_year_drops := F_year_drops.binds (ps := ["hill"]) fun _ _ _ _ _ _ us hl => match us, hl with | [_], _ => rfl
  have w_year_drops : KwOk gG 519 ["hill"] (PySem.W.fnOf "year_drops" "year_drops" (defArgs (topS 1)) (defBody (topS 1)) (defScope (topS 1)) .none kV_year_drops dc_year_drops pm_year_drops an_year_drops cd_year_drops ct_year_drops) := kw_nil
  have D_year_drops : DefOk K Δ gG 519 "year_drops" "year_drops" ["hill"] _ _ (topS 1) n_year_drops d_year_drops := ⟨F_year_drops, b_year_drops, sc_year_drops, rfl, ck_year_drops, rfl, rfl, w_year_drops⟩
  have F_ant_behind := fun_mk (st := topS 2) l_ant_behind c_ant_behind k_ant_behind
  have b_ant_behind := F_ant_behind.binds (ps := ["hill", "ant", "many"]) fun _ _ _ _ _ _ us hl => match us, hl with | [_, _, _], _ => rfl
  have w_ant_behind : KwOk gG 319 ["hill", "ant", "many"] (PySem.W.fnOf "ant_behind" "ant_behind" (defArgs (topS 2)) (defBody (topS 2)) (defScope (topS 2)) .none kV_ant_behind dc_ant_behind pm_ant_behind an_ant_behind cd_ant_behind ct_ant_behind) := kw_nil
  have D_ant_behind : DefOk K Δ gG 319 "ant_behind" "ant_behind" ["hill", "ant", "many"] _ _ (topS 2) n_ant_behind d_ant_behind := ⟨F_ant_behind, b_ant_behind, sc_ant_behind, rfl, ck_ant_behind, rfl, rfl, w_ant_behind⟩
  have F_given_by := fun_mk (st := topS 3) l_given_by c_given_by k_given_by
  have b_given_by := F_given_by.binds (ps := ["hill", "day"]) fun _ _ _ _ _ _ us hl => match us, hl with | [_, _], _ => rfl
  have w_given_by : KwOk gG 341 ["hill", "day"] (PySem.W.fnOf "given_by" "given_by" (defArgs (topS 3)) (defBody (topS 3)) (defScope (topS 3)) .none kV_given_by dc_given_by pm_given_by an_given_by cd_given_by ct_given_by) := kw_nil
  have D_given_by : DefOk K Δ gG 341 "given_by" "given_by" ["hill", "day"] _ _ (topS 3) n_given_by d_given_by := ⟨F_given_by, b_given_by, sc_given_by, rfl, ck_given_by, rfl, rfl, w_given_by⟩
  have F_is_open := fun_mk (st := topS 4) l_is_open c_is_open k_is_open
  have b_is_open := F_is_open.binds (ps := ["hill", "day"]) fun _ _ _ _ _ _ us hl => match us, hl with | [_, _], _ => rfl
  have w_is_open : KwOk gG 360 ["hill", "day"] (PySem.W.fnOf "is_open" "is_open" (defArgs (topS 4)) (defBody (topS 4)) (defScope (topS 4)) .none kV_is_open dc_is_open pm_is_open an_is_open cd_is_open ct_is_open) := kw_nil
  have D_is_open : DefOk K Δ gG 360 "is_open" "is_open" ["hill", "day"] _ _ (topS 4) n_is_open d_is_open := ⟨F_is_open, b_is_open, sc_is_open, rfl, ck_is_open, rfl, rfl, w_is_open⟩
  have F_open_from := fun_mk (st := topS 5) l_open_from c_open_from k_open_from
  have b_open_from := F_open_from.binds (ps := ["hill", "day"]) fun _ _ _ _ _ _ us hl => match us, hl with | [_, _], _ => rfl
  have w_open_from : KwOk gG 487 ["hill", "day"] (PySem.W.fnOf "open_from" "open_from" (defArgs (topS 5)) (defBody (topS 5)) (defScope (topS 5)) .none kV_open_from dc_open_from pm_open_from an_open_from cd_open_from ct_open_from) := kw_nil
  have D_open_from : DefOk K Δ gG 487 "open_from" "open_from" ["hill", "day"] _ _ (topS 5) n_open_from d_open_from := ⟨F_open_from, b_open_from, sc_open_from, rfl, ck_open_from, rfl, rfl, w_open_from⟩
  have F_day_of := fun_mk (st := topS 6) l_day_of c_day_of k_day_of
  have b_day_of := F_day_of.binds (ps := ["hill", "drops"]) fun _ _ _ _ _ _ us hl => match us, hl with | [_, _], _ => rfl
  have w_day_of : KwOk gG 328 ["hill", "drops"] (PySem.W.fnOf "day_of" "day_of" (defArgs (topS 6)) (defBody (topS 6)) (defScope (topS 6)) .none kV_day_of dc_day_of pm_day_of an_day_of cd_day_of ct_day_of) := kw_nil
  have D_day_of : DefOk K Δ gG 328 "day_of" "day_of" ["hill", "drops"] _ _ (topS 6) n_day_of d_day_of := ⟨F_day_of, b_day_of, sc_day_of, rfl, ck_day_of, rfl, rfl, w_day_of⟩
  have F_turn := fun_mk (st := topS 8) l_turn c_turn k_turn
  have b_turn := F_turn.binds (ps := ["hill", "state"]) fun _ _ _ _ _ _ us hl => match us, hl with | [_, _], _ => rfl
  have w_turn : KwOk gG 512 ["hill", "state"] (PySem.W.fnOf "turn" "turn" (defArgs (topS 8)) (defBody (topS 8)) (defScope (topS 8)) .none kV_turn dc_turn pm_turn an_turn cd_turn ct_turn) := kw_nil
  have D_turn : DefOk K Δ gG 512 "turn" "turn" ["hill", "state"] _ _ (topS 8) n_turn d_turn := ⟨F_turn, b_turn, sc_turn, rfl, ck_turn, rfl, rfl, w_turn⟩
  have F_turns := fun_mk (st := topS 9) l_turns c_turns k_turns
  have b_turns := F_turns.binds (ps := ["hill", "state", "many"]) fun _ _ _ _ _ _ us hl => match us, hl with | [_, _, _], _ => rfl
  have w_turns : KwOk gG 513 ["hill", "state", "many"] (PySem.W.fnOf "turns" "turns" (defArgs (topS 9)) (defBody (topS 9)) (defScope (topS 9)) .none kV_turns dc_turns pm_turns an_turns cd_turns ct_turns) := kw_nil
  have D_turns : DefOk K Δ gG 513 "turns" "turns" ["hill", "state", "many"] _ _ (topS 9) n_turns d_turns := ⟨F_turns, b_turns, sc_turns, rfl, ck_turns, rfl, rfl, w_turns⟩
  have F_line_of := fun_mk (st := topS 11) l_line_of c_line_of k_line_of
  have b_line_of := F_line_of.binds (ps := ["hill", "state"]) fun _ _ _ _ _ _ us hl => match us, hl with | [_, _], _ => rfl
  have w_line_of : KwOk gG 463 ["hill", "state"] (PySem.W.fnOf "line_of" "line_of" (defArgs (topS 11)) (defBody (topS 11)) (defScope (topS 11)) .none kV_line_of dc_line_of pm_line_of an_line_of cd_line_of ct_line_of) := kw_nil
  have D_line_of : DefOk K Δ gG 463 "line_of" "line_of" ["hill", "state"] _ _ (topS 11) n_line_of d_line_of := ⟨F_line_of, b_line_of, sc_line_of, rfl, ck_line_of, rfl, rfl, w_line_of⟩
  have F_ends_of := fun_mk (st := topS 12) l_ends_of c_ends_of k_ends_of
  have b_ends_of := F_ends_of.binds (ps := ["hill"]) fun _ _ _ _ _ _ us hl => match us, hl with | [_], _ => rfl
  have w_ends_of : KwOk gG 331 ["hill"] (PySem.W.fnOf "ends_of" "ends_of" (defArgs (topS 12)) (defBody (topS 12)) (defScope (topS 12)) .none kV_ends_of dc_ends_of pm_ends_of an_ends_of cd_ends_of ct_ends_of) := kw_nil
  have D_ends_of : DefOk K Δ gG 331 "ends_of" "ends_of" ["hill"] _ _ (topS 12) n_ends_of d_ends_of := ⟨F_ends_of, b_ends_of, sc_ends_of, rfl, ck_ends_of, rfl, rfl, w_ends_of⟩
  have F_next_end := fun_mk (st := topS 13) l_next_end c_next_end k_next_end
  have b_next_end := F_next_end.binds (ps := ["hill", "number"]) fun _ _ _ _ _ _ us hl => match us, hl with | [_, _], _ => rfl
  have w_next_end : KwOk gG 482 ["hill", "number"] (PySem.W.fnOf "next_end" "next_end" (defArgs (topS 13)) (defBody (topS 13)) (defScope (topS 13)) .none kV_next_end dc_next_end pm_next_end an_next_end cd_next_end ct_next_end) := kw_nil
  have D_next_end : DefOk K Δ gG 482 "next_end" "next_end" ["hill", "number"] _ _ (topS 13) n_next_end d_next_end := ⟨F_next_end, b_next_end, sc_next_end, rfl, ck_next_end, rfl, rfl, w_next_end⟩
  have F_stretches := fun_mk (st := topS 14) l_stretches c_stretches k_stretches
  have b_stretches := F_stretches.binds (ps := ["hill"]) fun _ _ _ _ _ _ us hl => match us, hl with | [_], _ => rfl
  have w_stretches : KwOk gG 510 ["hill"] (PySem.W.fnOf "stretches" "stretches" (defArgs (topS 14)) (defBody (topS 14)) (defScope (topS 14)) .none kV_stretches dc_stretches pm_stretches an_stretches cd_stretches ct_stretches) := kw_nil
  have D_stretches : DefOk K Δ gG 510 "stretches" "stretches" ["hill"] _ _ (topS 14) n_stretches d_stretches := ⟨F_stretches, b_stretches, sc_stretches, rfl, ck_stretches, rfl, rfl, w_stretches⟩
  have F_lost_at := fun_mk (st := topS 15) l_lost_at c_lost_at k_lost_at
  have b_lost_at := F_lost_at.binds (ps := ["hill", "number"]) fun _ _ _ _ _ _ us hl => match us, hl with | [_, _], _ => rfl
  have w_lost_at : KwOk gG 470 ["hill", "number"] (PySem.W.fnOf "lost_at" "lost_at" (defArgs (topS 15)) (defBody (topS 15)) (defScope (topS 15)) .none kV_lost_at dc_lost_at pm_lost_at an_lost_at cd_lost_at ct_lost_at) := kw_nil
  have D_lost_at : DefOk K Δ gG 470 "lost_at" "lost_at" ["hill", "number"] _ _ (topS 15) n_lost_at d_lost_at := ⟨F_lost_at, b_lost_at, sc_lost_at, rfl, ck_lost_at, rfl, rfl, w_lost_at⟩
  have F_led := fun_mk (st := topS 16) l_led c_led k_led
  have b_led := F_led.binds (ps := ["hill", "ant", "line"]) fun _ _ _ _ _ _ us hl => match us, hl with | [_, _, _], _ => rfl
  have w_led : KwOk gG 459 ["hill", "ant", "line"] (PySem.W.fnOf "led" "led" (defArgs (topS 16)) (defBody (topS 16)) (defScope (topS 16)) .none kV_led dc_led pm_led an_led cd_led ct_led) := kw_nil
  have D_led : DefOk K Δ gG 459 "led" "led" ["hill", "ant", "line"] _ _ (topS 16) n_led d_led := ⟨F_led, b_led, sc_led, rfl, ck_led, rfl, rfl, w_led⟩
  have F_law_box := fun_mk (st := topS 18) l_law_box c_law_box k_law_box
  have b_law_box := F_law_box.binds (ps := ["_law_script", "_law_k"]) fun _ _ _ _ _ _ us hl => match us, hl with | [_, _], _ => rfl
  have w_law_box : KwOk gG 77 ["_law_script", "_law_k"] (PySem.W.fnOf "_law_box" "_law_box" (defArgs (topS 18)) (defBody (topS 18)) (defScope (topS 18)) .none kV_law_box dc_law_box pm_law_box an_law_box cd_law_box ct_law_box) := kw_nil
  have D_law_box : DefOk K Δ gG 77 "_law_box" "_law_box" ["_law_script", "_law_k"] _ _ (topS 18) n_law_box d_law_box := ⟨F_law_box, b_law_box, sc_law_box, rfl, ck_law_box, rfl, rfl, w_law_box⟩
  have F_law_take := fun_mk (st := topS 19) l_law_take c_law_take k_law_take
  have b_law_take := F_law_take.binds (ps := ["_law_box_here", "_law_size"]) fun _ _ _ _ _ _ us hl => match us, hl with | [_, _], _ => rfl
  have w_law_take : KwOk gG 286 ["_law_box_here", "_law_size"] (PySem.W.fnOf "_law_take" "_law_take" (defArgs (topS 19)) (defBody (topS 19)) (defScope (topS 19)) .none kV_law_take dc_law_take pm_law_take an_law_take cd_law_take ct_law_take) := kw_nil
  have D_law_take : DefOk K Δ gG 286 "_law_take" "_law_take" ["_law_box_here", "_law_size"] _ _ (topS 19) n_law_take d_law_take := ⟨F_law_take, b_law_take, sc_law_take, rfl, ck_law_take, rfl, rfl, w_law_take⟩
  have F_law_folded := fun_mk (st := topS 20) l_law_folded c_law_folded k_law_folded
  have b_law_folded := F_law_folded.binds (ps := ["_law_script", "_law_size"]) fun _ _ _ _ _ _ us hl => match us, hl with | [_, _], _ => rfl
  have w_law_folded : KwOk gG 114 ["_law_script", "_law_size"] (PySem.W.fnOf "_law_folded" "_law_folded" (defArgs (topS 20)) (defBody (topS 20)) (defScope (topS 20)) .none kV_law_folded dc_law_folded pm_law_folded an_law_folded cd_law_folded ct_law_folded) := kw_nil
  have D_law_folded : DefOk K Δ gG 114 "_law_folded" "_law_folded" ["_law_script", "_law_size"] _ _ (topS 20) n_law_folded d_law_folded := ⟨F_law_folded, b_law_folded, sc_law_folded, rfl, ck_law_folded, rfl, rfl, w_law_folded⟩
  have F_law_same := fun_mk (st := topS 21) l_law_same c_law_same k_law_same
  have b_law_same := F_law_same.binds (ps := ["_law_found", "_law_wanted"]) fun _ _ _ _ _ _ us hl => match us, hl with | [_, _], _ => rfl
  have w_law_same : KwOk gG 260 ["_law_found", "_law_wanted"] (PySem.W.fnOf "_law_same" "_law_same" (defArgs (topS 21)) (defBody (topS 21)) (defScope (topS 21)) .none kV_law_same dc_law_same pm_law_same an_law_same cd_law_same ct_law_same) := kw_nil
  have D_law_same : DefOk K Δ gG 260 "_law_same" "_law_same" ["_law_found", "_law_wanted"] _ _ (topS 21) n_law_same d_law_same := ⟨F_law_same, b_law_same, sc_law_same, rfl, ck_law_same, rfl, rfl, w_law_same⟩
  have F_law_nest_of := fun_mk (st := topS 22) l_law_nest_of c_law_nest_of k_law_nest_of
  have b_law_nest_of := F_law_nest_of.binds (ps := ["_law_times", "_law_drips", "_law_wants", "_law_cap"]) fun _ _ _ _ _ _ us hl => match us, hl with | [_, _, _, _], _ => rfl
  have w_law_nest_of : KwOk gG 156 ["_law_times", "_law_drips", "_law_wants", "_law_cap"] (PySem.W.fnOf "_law_nest_of" "_law_nest_of" (defArgs (topS 22)) (defBody (topS 22)) (defScope (topS 22)) .none kV_law_nest_of dc_law_nest_of pm_law_nest_of an_law_nest_of cd_law_nest_of ct_law_nest_of) := kw_nil
  have D_law_nest_of : DefOk K Δ gG 156 "_law_nest_of" "_law_nest_of" ["_law_times", "_law_drips", "_law_wants", "_law_cap"] _ _ (topS 22) n_law_nest_of d_law_nest_of := ⟨F_law_nest_of, b_law_nest_of, sc_law_nest_of, rfl, ck_law_nest_of, rfl, rfl, w_law_nest_of⟩
  have F_law_told_right_k07 := fun_mk (st := topS 23) l_law_told_right_k07 c_law_told_right_k07 k_law_told_right_k07
  have b_law_told_right_k07 := F_law_told_right_k07.binds (ps := ["_law_nest", "_law_now", "_law_due"]) fun _ _ _ _ _ _ us hl => match us, hl with | [_, _, _], _ => rfl
  have w_law_told_right_k07 : KwOk gG 297 ["_law_nest", "_law_now", "_law_due"] (PySem.W.fnOf "_law_told_right" "_law_told_right" (defArgs (topS 23)) (defBody (topS 23)) (defScope (topS 23)) .none kV_law_told_right_k07 dc_law_told_right_k07 pm_law_told_right_k07 an_law_told_right_k07 cd_law_told_right_k07 ct_law_told_right_k07) := kw_nil
  have D_law_told_right_k07 : DefOk K Δ gG 297 "_law_told_right" "_law_told_right" ["_law_nest", "_law_now", "_law_due"] _ _ (topS 23) n_law_told_right_k07 d_law_told_right_k07 := ⟨F_law_told_right_k07, b_law_told_right_k07, sc_law_told_right_k07, rfl, ck_law_told_right_k07, rfl, rfl, w_law_told_right_k07⟩
  have F_law_three_right_k07 := fun_mk (st := topS 24) l_law_three_right_k07 c_law_three_right_k07 k_law_three_right_k07
  have b_law_three_right_k07 := F_law_three_right_k07.binds (ps := ["_law_times", "_law_off"]) fun _ _ _ _ _ _ us hl => match us, hl with | [_, _], _ => rfl
  have w_law_three_right_k07 : KwOk gG 289 ["_law_times", "_law_off"] (PySem.W.fnOf "_law_three_right" "_law_three_right" (defArgs (topS 24)) (defBody (topS 24)) (defScope (topS 24)) .none kV_law_three_right_k07 dc_law_three_right_k07 pm_law_three_right_k07 an_law_three_right_k07 cd_law_three_right_k07 ct_law_three_right_k07) := kw_nil
  have D_law_three_right_k07 : DefOk K Δ gG 289 "_law_three_right" "_law_three_right" ["_law_times", "_law_off"] _ _ (topS 24) n_law_three_right_k07 d_law_three_right_k07 := ⟨F_law_three_right_k07, b_law_three_right_k07, sc_law_three_right_k07, rfl, ck_law_three_right_k07, rfl, rfl, w_law_three_right_k07⟩
  have F_law_one_evening_right := fun_mk (st := topS 25) l_law_one_evening_right c_law_one_evening_right k_law_one_evening_right
  have b_law_one_evening_right := F_law_one_evening_right.binds (ps := ["_law_times", "_law_off"]) fun _ _ _ _ _ _ us hl => match us, hl with | [_, _], _ => rfl
  have w_law_one_evening_right : KwOk gG 162 ["_law_times", "_law_off"] (PySem.W.fnOf "_law_one_evening_right" "_law_one_evening_right" (defArgs (topS 25)) (defBody (topS 25)) (defScope (topS 25)) .none kV_law_one_evening_right dc_law_one_evening_right pm_law_one_evening_right an_law_one_evening_right cd_law_one_evening_right ct_law_one_evening_right) := kw_nil
  have D_law_one_evening_right : DefOk K Δ gG 162 "_law_one_evening_right" "_law_one_evening_right" ["_law_times", "_law_off"] _ _ (topS 25) n_law_one_evening_right d_law_one_evening_right := ⟨F_law_one_evening_right, b_law_one_evening_right, sc_law_one_evening_right, rfl, ck_law_one_evening_right, rfl, rfl, w_law_one_evening_right⟩
  have F_law_lines_right := fun_mk (st := topS 26) l_law_lines_right c_law_lines_right k_law_lines_right
  have b_law_lines_right := F_law_lines_right.binds (ps := ["_law_times", "_law_off"]) fun _ _ _ _ _ _ us hl => match us, hl with | [_, _], _ => rfl
  have w_law_lines_right : KwOk gG 142 ["_law_times", "_law_off"] (PySem.W.fnOf "_law_lines_right" "_law_lines_right" (defArgs (topS 26)) (defBody (topS 26)) (defScope (topS 26)) .none kV_law_lines_right dc_law_lines_right pm_law_lines_right an_law_lines_right cd_law_lines_right ct_law_lines_right) := kw_nil
  have D_law_lines_right : DefOk K Δ gG 142 "_law_lines_right" "_law_lines_right" ["_law_times", "_law_off"] _ _ (topS 26) n_law_lines_right d_law_lines_right := ⟨F_law_lines_right, b_law_lines_right, sc_law_lines_right, rfl, ck_law_lines_right, rfl, rfl, w_law_lines_right⟩
  have F_law_k07 := fun_mk (st := topS 27) l_law_k07 c_law_k07 k_law_k07
  have b_law_k07 := F_law_k07.binds (ps := ["_law_script"]) fun _ _ _ _ _ _ us hl => match us, hl with | [_], _ => rfl
  have w_law_k07 : KwOk gG 375 ["_law_script"] (PySem.W.fnOf "law" "law" (defArgs (topS 27)) (defBody (topS 27)) (defScope (topS 27)) .none kV_law_k07 dc_law_k07 pm_law_k07 an_law_k07 cd_law_k07 ct_law_k07) := kw_nil
  have D_law_k07 : DefOk K Δ gG 375 "law" "law" ["_law_script"] _ _ (topS 27) n_law_k07 d_law_k07 := ⟨F_law_k07, b_law_k07, sc_law_k07, rfl, ck_law_k07, rfl, rfl, w_law_k07⟩
  have hd : ∀ f x ps, gG.fn f = some (x, ps) → ∃ a fd st N d, mg x = some (.ref a) ∧ DefOk K Δ gG f x x ps a fd st N d := by
    intro f x ps hf
    have hf : gfn f = some (x, ps) := hf
    unfold gfn at hf
    split at hf
    · cases hf; exact ⟨_, _, _, _, _, PySem.W.mg_of X G a_year_drops, D_year_drops⟩
    · cases hf; exact ⟨_, _, _, _, _, PySem.W.mg_of X G a_ant_behind, D_ant_behind⟩
    · cases hf; exact ⟨_, _, _, _, _, PySem.W.mg_of X G a_given_by, D_given_by⟩
    · cases hf; exact ⟨_, _, _, _, _, PySem.W.mg_of X G a_is_open, D_is_open⟩
    · cases hf; exact ⟨_, _, _, _, _, PySem.W.mg_of X G a_open_from, D_open_from⟩
    · cases hf; exact ⟨_, _, _, _, _, PySem.W.mg_of X G a_day_of, D_day_of⟩
    · cases hf; exact ⟨_, _, _, _, _, PySem.W.mg_of X G a_turn, D_turn⟩
    · cases hf; exact ⟨_, _, _, _, _, PySem.W.mg_of X G a_turns, D_turns⟩
    · cases hf; exact ⟨_, _, _, _, _, PySem.W.mg_of X G a_line_of, D_line_of⟩
    · cases hf; exact ⟨_, _, _, _, _, PySem.W.mg_of X G a_ends_of, D_ends_of⟩
    · cases hf; exact ⟨_, _, _, _, _, PySem.W.mg_of X G a_next_end, D_next_end⟩
    · cases hf; exact ⟨_, _, _, _, _, PySem.W.mg_of X G a_stretches, D_stretches⟩
    · cases hf; exact ⟨_, _, _, _, _, PySem.W.mg_of X G a_lost_at, D_lost_at⟩
    · cases hf; exact ⟨_, _, _, _, _, PySem.W.mg_of X G a_led, D_led⟩
    · cases hf; exact ⟨_, _, _, _, _, PySem.W.mg_of X G a_law_box, D_law_box⟩
    · cases hf; exact ⟨_, _, _, _, _, PySem.W.mg_of X G a_law_take, D_law_take⟩
    · cases hf; exact ⟨_, _, _, _, _, PySem.W.mg_of X G a_law_folded, D_law_folded⟩
    · cases hf; exact ⟨_, _, _, _, _, PySem.W.mg_of X G a_law_same, D_law_same⟩
    · cases hf; exact ⟨_, _, _, _, _, PySem.W.mg_of X G a_law_nest_of, D_law_nest_of⟩
    · cases hf; exact ⟨_, _, _, _, _, PySem.W.mg_of X G a_law_told_right_k07, D_law_told_right_k07⟩
    · cases hf; exact ⟨_, _, _, _, _, PySem.W.mg_of X G a_law_three_right_k07, D_law_three_right_k07⟩
    · cases hf; exact ⟨_, _, _, _, _, PySem.W.mg_of X G a_law_one_evening_right, D_law_one_evening_right⟩
    · cases hf; exact ⟨_, _, _, _, _, PySem.W.mg_of X G a_law_lines_right, D_law_lines_right⟩
    · cases hf; exact ⟨_, _, _, _, _, PySem.W.mg_of X G a_law_k07, D_law_k07⟩
    · cases hf
  have hm : ∀ f k m ps, gG.ms f = some (k, m, ps) → Cls K ((clA 0) k) ∧ ∃ a fd st N d q, Meth K ((clA 0) k) m a ∧ DefOk K Δ gG f m q ps a fd st N d := by
    intro f k m ps hf
    have hf : gms f = some (k, m, ps) := hf
    unfold gms at hf
    cases hf
  have hk : ∀ f k x ps, gG.ctr f = some (k, x, ps) → mg x = some (.ref ((clA 0) k)) ∧ ∃ a fd st N d q, Mk K ((clA 0) k) a ∧ DefOk K Δ gG f "__init__" q ps a fd st N d := by
    intro f k x ps hf
    have hf : gct f = some (k, x, ps) := hf
    unfold gct at hf
    cases hf
  have hn : ∀ k f, gG.na k f = true → Cls K ((clA 0) k) ∧ NoAttr K ((clA 0) k) f := by
    intro k f hf
    have hf : gna k f = true := hf
    unfold gna at hf
    cases hf
  have hb : ∀ x, gG.bl.contains x = true → mg x = none := by
    intro x hx
    have hx : x ∈ gG.bl := List.contains_iff_mem.mp hx
    simp only [gG, List.mem_cons, List.not_mem_nil, or_false] at hx
    rcases hx with rfl | rfl | rfl | rfl | rfl | rfl | rfl | rfl | rfl | rfl | rfl | rfl | rfl | rfl | rfl | rfl | rfl
    · exact PySem.W.mg_none_of X G z_abs
    · exact PySem.W.mg_none_of X G z_all
    · exact PySem.W.mg_none_of X G z_bool
    · exact PySem.W.mg_none_of X G z_divmod
    · exact PySem.W.mg_none_of X G z_enumerate
    · exact PySem.W.mg_none_of X G z_int
    · exact PySem.W.mg_none_of X G z_isinstance
    · exact PySem.W.mg_none_of X G z_len
    · exact PySem.W.mg_none_of X G z_list
    · exact PySem.W.mg_none_of X G z_max
    · exact PySem.W.mg_none_of X G z_min
    · exact PySem.W.mg_none_of X G z_range
    · exact PySem.W.mg_none_of X G z_sorted
    · exact PySem.W.mg_none_of X G z_str
    · exact PySem.W.mg_none_of X G z_sum
    · exact PySem.W.mg_none_of X G z_tuple
    · exact PySem.W.mg_none_of X G z_zip
  have hv : ∀ f ∈ gG.fv, ∀ x ps, gG.fn f = some (x, ps) → mg x = some (.ref ((clA 0) (1000 + f))) := by
    intro f hf; cases hf
  have hc : ∀ q ∈ gG.ct, ∃ u w, mg q.1 = some u ∧ RelV w u ∧ conV q.2 = some w := by
    intro q hq; cases hq
  exact ⟨_, fun s v => .of_eq rfl, fun base _ _ => fn_all (fns_ok ⟨hd, hm, hk, hn, hb, hv, hc⟩ depth D_law_k07)⟩

end Itp
open PySem PySem.W PyProof.Rows
set_option maxHeartbeats 0 in
theorem PySem.Challenge.cw_honeyturns_k07_turns_by_hand_holds : PySem.Challenge.rw_honeyturns_k07_turns_by_hand.Holds := by
  w_on; o_law; k_head; (case hw => w_witness2)
  k_fill
  refine Itp.g_walk (l := PySem.Challenge.rw_honeyturns_k07_turns_by_hand) (n := 63) (k := Itp.depth) (x := "_law_script") (sp := fun w => Itp.spL _ Itp.Δ Itp.depth 375 ["_law_script"]) rfl (by decide) rfl ⟨rfl, by decide, by decide⟩ (fun w h Y => PySem.W.kIn_of Y) ?F (fun _ _ a ns hl hb _ hS _ => Itp.law_sp hS (Itp.law_runs ns hl hb))
  case F =>
    intro w mg fa h KX G hmg
    refine' Itp.all_mk KX G hmg ?a_year_drops ?l_year_drops ?c_year_drops ?k_year_drops ?a_ant_behind ?l_ant_behind ?c_ant_behind ?k_ant_behind ?a_given_by ?l_given_by ?c_given_by ?k_given_by ?a_is_open ?l_is_open ?c_is_open ?k_is_open ?a_open_from ?l_open_from ?c_open_from ?k_open_from ?a_day_of ?l_day_of ?c_day_of ?k_day_of ?a_turn ?l_turn ?c_turn ?k_turn ?a_turns ?l_turns ?c_turns ?k_turns ?a_line_of ?l_line_of ?c_line_of ?k_line_of ?a_ends_of ?l_ends_of ?c_ends_of ?k_ends_of ?a_next_end ?l_next_end ?c_next_end ?k_next_end ?a_stretches ?l_stretches ?c_stretches ?k_stretches ?a_lost_at ?l_lost_at ?c_lost_at ?k_lost_at ?a_led ?l_led ?c_led ?k_led ?a_law_box ?l_law_box ?c_law_box ?k_law_box ?a_law_take ?l_law_take ?c_law_take ?k_law_take ?a_law_folded ?l_law_folded ?c_law_folded ?k_law_folded ?a_law_same ?l_law_same ?c_law_same ?k_law_same ?a_law_nest_of ?l_law_nest_of ?c_law_nest_of ?k_law_nest_of ?a_law_told_right_k07 ?l_law_told_right_k07 ?c_law_told_right_k07 ?k_law_told_right_k07 ?a_law_three_right_k07 ?l_law_three_right_k07 ?c_law_three_right_k07 ?k_law_three_right_k07 ?a_law_one_evening_right ?l_law_one_evening_right ?c_law_one_evening_right ?k_law_one_evening_right ?a_law_lines_right ?l_law_lines_right ?c_law_lines_right ?k_law_lines_right ?a_law_k07 ?l_law_k07 ?c_law_k07 ?k_law_k07 ?z_abs ?z_all ?z_bool ?z_divmod ?z_enumerate ?z_int ?z_isinstance ?z_len ?z_list ?z_max ?z_min ?z_range ?z_sorted ?z_str ?z_sum ?z_tuple ?z_zip
    (case a_year_drops => k_is)
    (case l_year_drops => k_is)
    (case c_year_drops => k_is)
    (case k_year_drops => k_is)
    (case a_ant_behind => k_is)
    (case l_ant_behind => k_is)
    (case c_ant_behind => k_is)
    (case k_ant_behind => k_is)
    (case a_given_by => k_is)
    (case l_given_by => k_is)
    (case c_given_by => k_is)
    (case k_given_by => k_is)
    (case a_is_open => k_is)
    (case l_is_open => k_is)
    (case c_is_open => k_is)
    (case k_is_open => k_is)
    (case a_open_from => k_is)
    (case l_open_from => k_is)
    (case c_open_from => k_is)
    (case k_open_from => k_is)
    (case a_day_of => k_is)
    (case l_day_of => k_is)
    (case c_day_of => k_is)
    (case k_day_of => k_is)
    (case a_turn => k_is)
    (case l_turn => k_is)
    (case c_turn => k_is)
    (case k_turn => k_is)
    (case a_turns => k_is)
    (case l_turns => k_is)
    (case c_turns => k_is)
    (case k_turns => k_is)
    (case a_line_of => k_is)
    (case l_line_of => k_is)
    (case c_line_of => k_is)
    (case k_line_of => k_is)
    (case a_ends_of => k_is)
    (case l_ends_of => k_is)
    (case c_ends_of => k_is)
    (case k_ends_of => k_is)
    (case a_next_end => k_is)
    (case l_next_end => k_is)
    (case c_next_end => k_is)
    (case k_next_end => k_is)
    (case a_stretches => k_is)
    (case l_stretches => k_is)
    (case c_stretches => k_is)
    (case k_stretches => k_is)
    (case a_lost_at => k_is)
    (case l_lost_at => k_is)
    (case c_lost_at => k_is)
    (case k_lost_at => k_is)
    (case a_led => k_is)
    (case l_led => k_is)
    (case c_led => k_is)
    (case k_led => k_is)
    (case a_law_box => k_is)
    (case l_law_box => k_is)
    (case c_law_box => k_is)
    (case k_law_box => k_is)
    (case a_law_take => k_is)
    (case l_law_take => k_is)
    (case c_law_take => k_is)
    (case k_law_take => k_is)
    (case a_law_folded => k_is)
    (case l_law_folded => k_is)
    (case c_law_folded => k_is)
    (case k_law_folded => k_is)
    (case a_law_same => k_is)
    (case l_law_same => k_is)
    (case c_law_same => k_is)
    (case k_law_same => k_is)
    (case a_law_nest_of => k_is)
    (case l_law_nest_of => k_is)
    (case c_law_nest_of => k_is)
    (case k_law_nest_of => k_is)
    (case a_law_told_right_k07 => k_is)
    (case l_law_told_right_k07 => k_is)
    (case c_law_told_right_k07 => k_is)
    (case k_law_told_right_k07 => k_is)
    (case a_law_three_right_k07 => k_is)
    (case l_law_three_right_k07 => k_is)
    (case c_law_three_right_k07 => k_is)
    (case k_law_three_right_k07 => k_is)
    (case a_law_one_evening_right => k_is)
    (case l_law_one_evening_right => k_is)
    (case c_law_one_evening_right => k_is)
    (case k_law_one_evening_right => k_is)
    (case a_law_lines_right => k_is)
    (case l_law_lines_right => k_is)
    (case c_law_lines_right => k_is)
    (case k_law_lines_right => k_is)
    (case a_law_k07 => k_is)
    (case l_law_k07 => k_is)
    (case c_law_k07 => k_is)
    (case k_law_k07 => k_is)
    (case z_abs => k_is)
    (case z_all => k_is)
    (case z_bool => k_is)
    (case z_divmod => k_is)
    (case z_enumerate => k_is)
    (case z_int => k_is)
    (case z_isinstance => k_is)
    (case z_len => k_is)
    (case z_list => k_is)
    (case z_max => k_is)
    (case z_min => k_is)
    (case z_range => k_is)
    (case z_sorted => k_is)
    (case z_str => k_is)
    (case z_sum => k_is)
    (case z_tuple => k_is)
    (case z_zip => k_is)

