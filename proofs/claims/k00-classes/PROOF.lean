import PyProof.Rows.All
import Wide.All
import OpenK.AllK
import Wide.FinOn
import HandS.ForMost
import HandS.ForExc
import HandS.Walk
import HandS.Flow
import HandS.Style
import HandS.SortInts
import HandS.TupMul
import HandS.TupAny
import HandS.Zip
import HandS.Wide
import HandS.WideBits
import HandS.Conv
import HandS.More
import HandS.Deep
import HandS.Rev
import HandS.ExcCtx
import HandS.HotCalls
import HandS.ExcIs
import HandS.EndBits
import KE.SortData
import HandS.Star
import KE.GoesMore
import HandS.DictComp
import PySem.Challenge.RW_fewexamples_k00_classes_and_what_still_f
set_option Elab.async false
set_option Elab.async false
set_option linter.all false
set_option maxRecDepth 100000
/-! Part A: data, a small language by slots, its evaluator. -/
namespace Ev
open PySem

/-- a value as a whole -/
inductive D where
  | non | bl (b : Bool) | int (i : Int) | str (s : Str)
  | tup (xs : List D) | lst (xs : List D) | ro (xs : List D) | dct (kvs : List (D × D))
  | fn (g : Nat) | cls (c : Nat) | exc (c : Nat) (f : D) | ty (n : String)
  deriving Inhabited

/-- what a slot holds: nothing, a value, a list (dict) of its own, the same while it is walked -/
inductive Sl where | non | val (d : D) | own (d : D) | lock (d : D)
  deriving Inhabited
abbrev Dst := List Sl
/-- an operand: a value (o: made just now, nobody else has it), or what a slot owns -/
inductive Opd where | t (o : Bool) (d : D) | s (i : Nat)
structure Exc where
  cls : Nat
  fld : D
inductive Rs (α : Type) where
  | ok (a : α) (δ : Dst)
  | er (e : Exc) (δ : Dst)
abbrev M (α : Type) := Dst → Option (Rs α)
def M.pure {α : Type} (a : α) : M α := fun δ => some (.ok a δ)
def M.bind {α β : Type} (m : M α) (f : α → M β) : M β := fun δ => match m δ with
  | none => none
  | some (.er e δ') => some (.er e δ')
  | some (.ok a δ') => f a δ'
def M.stuck {α : Type} : M α := fun _ => none
/-- an answer of values alone -/
def M.opt {α : Type} (x : Option α) : M α := fun δ => match x with | none => none | some a => some (.ok a δ)
instance : Monad M where
  pure := M.pure
  bind := M.bind

def rdO (δ : Dst) : Opd → Option D
  | .t _ d => some d
  | .s i => match δ[i]? with
    | some (.val d) => some d
    | some (.own d) => some d
    | some (.lock d) => some d
    | _ => none
def rdM (o : Opd) : M D := fun δ => match rdO δ o with | none => none | some d => some (.ok d δ)
def rdsM : List Opd → M (List D)
  | [] => M.pure []
  | o :: os => (rdM o).bind fun d => (rdsM os).bind fun ds => M.pure (d :: ds)
/-- an operand goes where others may find it. io: the slots that are lent by the caller -/
def isExc : D → Bool
  | .exc _ _ => true
  | _ => false
def escM (io : List Bool) (o : Opd) : M (Bool × D) := fun δ => match o with
  | .t b d => if isExc d then none else some (.ok (b, d) δ)
  | .s i => match δ[i]? with
    | some (.val d) => if isExc d then none else some (.ok (false, d) δ)
    | some (.own d) => if io.getD i false then none else some (.ok (false, d) (δ.set i (.val d)))
    | _ => none
def escsM (io : List Bool) : List Opd → M (List D)
  | [] => M.pure []
  | o :: os => (escM io o).bind fun d => (escsM io os).bind fun ds => M.pure (d.2 :: ds)

mutual
/-- nothing in it can be changed -/
def noMut : D → Bool
  | .non | .bl _ | .int _ | .str _ | .fn _ | .cls _ | .ty _ => true
  | .tup xs => noMuts xs
  | .lst _ | .ro _ | .dct _ | .exc _ _ => false
def noMuts : List D → Bool
  | [] => true
  | x :: xs => noMut x && noMuts xs
end

mutual
def toP : D → Option PyData
  | .non => some .none
  | .bl b => some (.bool b)
  | .int i => some (.int i)
  | .str s => some (.str s)
  | .tup xs => match toPs xs with | some ds => some (.tuple ds) | none => none
  | .lst xs => match toPs xs with | some ds => some (.list ds) | none => none
  | _ => none
def toPs : List D → Option (List PyData)
  | [] => some []
  | x :: xs => match toP x, toPs xs with
    | some d, some ds => some (d :: ds)
    | _, _ => none
end

/-! ### operators by values -/
def sml (i : Int) : Bool := decide (-(2 ^ 64) < i) && decide (i < 2 ^ 64)
def lim : Nat := 16777216
/-- products: one factor small, or both not too great -/
def mulOk (i j : Int) : Bool := sml i || sml j || decide (i.natAbs.log2 + j.natAbs.log2 < 1000000)
def addD : D → D → Option (Bool × D)
  | .int i, .int j => some (false, .int (i + j))
  | .int i, .bl b => some (false, .int (i + if b then 1 else 0))
  | .str x, .str y => if x.length + y.length ≤ lim then some (false, .str (x ++ y)) else none
  | .lst xs, .lst ys => if xs.length + ys.length ≤ lim then some (true, .lst (xs ++ ys)) else none
  | .tup xs, .tup ys => if xs.length + ys.length ≤ lim then some (false, .tup (xs ++ ys)) else none
  | _, _ => none
def subD : D → D → Option (Bool × D)
  | .int i, .int j => some (false, .int (i - j))
  | _, _ => none
def repL {α : Type} (xs : List α) (n : Nat) : List α := (List.replicate n xs).flatten
def mulD : D → D → Option (Bool × D)
  | .int i, .int j => if mulOk i j then some (false, .int (i * j)) else none
  | .lst xs, .int j => if decide (xs.length * j.toNat ≤ lim) && decide (j < 2 ^ 63) && decide (-(2 ^ 63) ≤ j) then some (true, .lst (repL xs j.toNat)) else none
  | .tup xs, .int j => if decide (xs.length ≤ 100) && decide (0 < xs.length) && decide (j ≤ 10000) && decide (1 < j) then some (false, .tup (repL xs j.toNat)) else none
  | _, _ => none
def divOk (j : Int) : Bool := decide (0 < j) && (decide (j < 1073741824) || decide (j.natAbs.log2 < 9000))
def fdivD : D → D → Option (Bool × D)
  | .int i, .int j => if divOk j then some (false, .int (i / j)) else none
  | _, _ => none
def modD : D → D → Option (Bool × D)
  | .int i, .int j => if decide (0 < j) then some (false, .int (i % j)) else none
  | _, _ => none
def shOk (i j : Int) : Bool := decide (0 ≤ j) && decide (j ≤ 1000000) && decide (i.natAbs < 2 ^ 64)
def powD : D → D → Option (Bool × D)
  | .int i, .int j => if shOk i j then some (false, .int (i ^ j.toNat)) else none
  | _, _ => none
def shlD : D → D → Option (Bool × D)
  | .int i, .int j => if shOk i j then some (false, .int (i * 2 ^ j.toNat)) else none
  | _, _ => none
def shrD : D → D → Option (Bool × D)
  | .int i, .int j => if decide (0 ≤ j) then some (false, .int (i / 2 ^ j.toNat)) else none
  | _, _ => none
def andD : D → D → Option (Bool × D)
  | .int i, .int j => some (false, .int (Builtin.bitAnd i j))
  | _, _ => none
def orD : D → D → Option (Bool × D)
  | .int i, .int j => some (false, .int (Builtin.bitOr i j))
  | _, _ => none
def xorD : D → D → Option (Bool × D)
  | .int i, .int j => some (false, .int (Builtin.bitXor i j))
  | _, _ => none
def binD : Operator → D → D → Option (Bool × D)
  | .Add => addD
  | .Sub => subD
  | .Mult => mulD
  | .FloorDiv => fdivD
  | .Mod => modD
  | .Pow => powD
  | .LShift => shlD
  | .RShift => shrD
  | .BitAnd => andD
  | .BitOr => orD
  | .BitXor => xorD
  | _ => fun _ _ => none
def unD : UnaryOp → D → Option D
  | .USub, .int i => some (.int (-i))
  | .Invert, .int i => some (.int (Builtin.bitNot i))
  | _, _ => none
/-- truth -/
def truD : D → Option Bool
  | .non => some false
  | .bl b => some b
  | .int i => some (i != 0)
  | .str s => if s.length ≤ lim then some ((s.length : Int) != 0) else none
  | .lst xs => some (!xs.isEmpty)
  | .tup xs => some (!xs.isEmpty)
  | _ => none
/-- == -/
def eqD : D → D → Option Bool
  | .int i, .int j => some (decide (i = j))
  | .bl i, .bl j => some (decide (i = j))
  | .str i, .str j => some (decide (i = j))
  | .non, .non => some true
  | x, y => match toP x, toP y with
    | some d, some e => if SeqAt.shaped d && SeqAt.shaped e then some (PyData.eqv d e) else none
    | _, _ => none
def flatD : D → Bool
  | .non | .bl _ | .int _ | .str _ => true
  | _ => false
/-- == of flat values -/
def eqF : D → D → Bool
  | .non, .non => true
  | .bl a, .bl b => a == b
  | .bl a, .int b => (if a then 1 else 0) == b
  | .int a, .bl b => a == (if b then 1 else 0)
  | .int a, .int b => a == b
  | .str a, .str b => a == b
  | _, _ => false
/-- x in xs, flat values -/
def inD (x : D) (ys : List D) : Option Bool := if flatD x && ys.all flatD then some (ys.any fun y => eqF y x) else none
/-- x in ys, ys a list -/
def inL (x : D) (ys : List D) : Option Bool := if flatD x && ys.all flatD then some (ys.any fun y => eqF y x) else match toP x, toPs ys with
  | some d, some ds => if SeqAt.shaped d && SeqAt.shaped (.list ds) then some (ds.any fun z => PyData.eqv z d) else none
  | _, _ => none
def keyD : D → Bool
  | .int _ => true
  | .str _ => true
  | _ => false
def eqK : D → D → Bool
  | .int i, .int j => decide (i = j)
  | .str i, .str j => decide (i = j)
  | _, _ => false
def getK (kvs : List (D × D)) (k : D) : Option D := (kvs.find? fun p => eqK p.1 k).map (·.2)
def putKD (kvs : List (D × D)) (k v : D) : List (D × D) :=
  if kvs.any (fun p => eqK p.1 k) then kvs.map (fun p => if eqK p.1 k then (p.1, v) else p) else kvs ++ [(k, v)]
def isNon : D → Bool
  | .non => true
  | _ => false
def cmpD : CmpOp → D → D → Option Bool
  | .Eq, x, y => eqD x y
  | .NotEq, x, y => (eqD x y).map (!·)
  | .Lt, .int i, .int j => some (decide (i < j))
  | .LtE, .int i, .int j => some (decide (i ≤ j))
  | .Gt, .int i, .int j => some (decide (j < i))
  | .GtE, .int i, .int j => some (decide (j ≤ i))
  | .Is, x, .non => some (isNon x)
  | .IsNot, x, .non => some (!isNon x)
  | .Is, .bl a, .bl b => some (decide (a = b))
  | .IsNot, .bl a, .bl b => some (!decide (a = b))
  | .In, x, .tup ys => inD x ys
  | .In, x, .lst ys => inL x ys
  | .NotIn, x, .tup ys => (inD x ys).map (!·)
  | .NotIn, x, .lst ys => (inL x ys).map (!·)
  | .In, x, .dct kvs => if keyD x then some (getK kvs x).isSome else none
  | .NotIn, x, .dct kvs => if keyD x then some (!(getK kvs x).isSome) else none
  | _, _, _ => none
def subsD : D → D → Option D
  | .lst xs, .int i => (L2.ixN xs.length i).bind fun k => xs[k]?
  | .ro xs, .int i => (L2.ixN xs.length i).bind fun k => xs[k]?
  | .tup xs, .int i => (L2.ixN xs.length i).bind fun k => xs[k]?
  | .str s, .int i => if s.length ≤ lim then (L2.ixN s.cps.toList.length i).bind fun k => (s.cps.toList[k]?).map fun c => .str ⟨#[c]⟩ else none
  | .dct kvs, k => if keyD k then getK kvs k else none
  | _, _ => none
/-- a slice -/
def cutL {α : Type} (xs : List α) (lo hi : Option Int) : List α := (xs.drop (HT.sIx xs.length 0 lo)).take (HT.sIx xs.length xs.length hi - HT.sIx xs.length 0 lo)
def slcD : D → Option Int → Option Int → Option (Bool × D)
  | .lst xs, lo, hi => some (true, .lst (cutL xs lo hi))
  | .tup xs, lo, hi => some (false, .tup (cutL xs lo hi))
  | _, _, _ => none

/-- *s -/
def seqR : D → Option (List D)
  | .lst xs => some xs
  | .tup xs => some xs
  | .ro xs => some xs
  | _ => none
/-- s[::-1] -/
def revD : D → Option (Bool × D)
  | .lst xs => some (true, .lst xs.reverse)
  | .tup xs => some (false, .tup xs.reverse)
  | _ => none

/-! ### built-in functions by values -/
def intsOf : List D → Option (List Int)
  | [] => some []
  | .int i :: r => (intsOf r).map (i :: ·)
  | _ :: _ => none
def blsOf : List D → Option (List Bool)
  | [] => some []
  | .bl b :: r => (blsOf r).map (b :: ·)
  | _ :: _ => none
def seqOf : D → Option (List D)
  | .lst xs => some xs
  | .tup xs => some xs
  | _ => none
inductive Bi where
  | len | sum | all | any | min | max | abs | int | str | repr | bool | tuple | list | sorted | dict | isin
  deriving DecidableEq
def maxL : List Int → Option Int
  | [] => none
  | [x] => some x
  | x :: y :: r => maxL (y :: r) |>.map fun m => if m > x then m else x
def minL : List Int → Option Int
  | [] => none
  | [x] => some x
  | x :: y :: r => minL (y :: r) |>.map fun m => if m < x then m else x
def pairsOf : List D → Option (List (D × D))
  | [] => some []
  | .tup [k, v] :: r => if keyD k then (pairsOf r).map ((k, v) :: ·) else none
  | _ :: _ => none
def foldK (acc : List (D × D)) : List (D × D) → List (D × D)
  | [] => acc
  | (k, v) :: r => foldK (putKD acc k v) r
def sortI (ns : List Int) : List Int := ns.mergeSort (fun a b => decide (a ≤ b))
def biD : Bi → List D → Option (Bool × D)
  | .len, [.lst xs] => some (false, .int xs.length)
  | .len, [.ro xs] => some (false, .int xs.length)
  | .len, [.tup xs] => some (false, .int xs.length)
  | .len, [.str s] => if s.length ≤ lim then some (false, .int s.length) else none
  | .len, [.dct kvs] => some (false, .int kvs.length)
  | .sum, [.lst xs] => (intsOf xs).map fun ns => (false, .int ns.sum)
  | .all, [.lst xs] => (blsOf xs).map fun bs => (false, .bl (bs.all id))
  | .any, [.lst xs] => (blsOf xs).map fun bs => (false, .bl (bs.any id))
  | .max, [.lst xs] => (intsOf xs).bind fun ns => (maxL ns).map fun m => (false, .int m)
  | .min, [.lst xs] => (intsOf xs).bind fun ns => (minL ns).map fun m => (false, .int m)
  | .max, [.tup xs] => (intsOf xs).bind fun ns => (maxL ns).map fun m => (false, .int m)
  | .min, [.tup xs] => (intsOf xs).bind fun ns => (minL ns).map fun m => (false, .int m)
  | .max, [.int i, .int j] => some (false, .int (if j > i then j else i))
  | .min, [.int i, .int j] => some (false, .int (if j < i then j else i))
  | .abs, [.int i] => some (false, .int (if i < 0 then -i else i))
  | .int, [.int i] => some (false, .int i)
  | .int, [.bl b] => some (false, .int (if b then 1 else 0))
  | .bool, [.int i] => some (false, .bl (i != 0))
  | .bool, [.bl b] => some (false, .bl b)
  | .repr, [x] => match toP x with
    | some d => if d.showable && decide (d.depth ≤ 64) && decide (d.shown.length ≤ lim) then some (false, .str d.shown) else none
    | none => none
  | .tuple, [.lst xs] => some (false, .tup xs)
  | .tuple, [.tup xs] => some (false, .tup xs)
  | .list, [.lst xs] => some (true, .lst xs)
  | .list, [.tup xs] => some (true, .lst xs)
  | .list, [.dct kvs] => some (true, .lst (kvs.map (·.1)))
  | .sorted, [.lst xs] => (intsOf xs).map fun ns => (true, .lst ((sortI ns).map .int))
  | .sorted, [.dct kvs] => (intsOf (kvs.map (·.1))).bind fun ns => if ns.length < 64 then some (true, .lst ((sortI ns).map .int)) else none
  | .dict, [.lst xs] => (pairsOf xs).map fun ps => (true, .dct (foldK [] ps))
  | _, _ => none
/-- methods that change nothing -/
inductive Mt where
  | index | count | get
  deriving DecidableEq
def mtTy : Mt → D → Bool
  | .index, .lst _ => true
  | .count, .lst _ => true
  | .get, .dct _ => true
  | _, _ => false
/-- the first place -/
def idxF (x : D) : List D → Option Nat
  | [] => none
  | y :: r => if eqF y x then some 0 else (idxF x r).map (· + 1)
def mtD : Mt → D → List D → Option (Bool × D)
  | .index, .lst xs, [x] => if flatD x && xs.all flatD then (idxF x xs).map fun (k : Nat) => (false, D.int (k : Int)) else none
  | .count, .lst xs, [x] => if flatD x && xs.all flatD then some (false, .int (xs.countP fun y => eqF y x)) else none
  | .get, .dct kvs, [k] => if keyD k then some (false, (getK kvs k).getD .non) else none
  | .get, .dct kvs, [k, x] => if keyD k && flatD x then some (false, (getK kvs k).getD x) else none
  | _, _, _ => none
/-- methods that change what a slot owns: the answer and the new content -/
inductive Mm where
  | append | extend | pop | reverse
  deriving DecidableEq
def mmD : Mm → D → List D → Option (D × D)
  | .append, .lst xs, [x] => if xs.length < lim then some (.non, .lst (xs ++ [x])) else none
  | .extend, .lst xs, [.lst ys] => if xs.length + ys.length ≤ lim then some (.non, .lst (xs ++ ys)) else none
  | .pop, .lst xs, [] => xs.getLast?.map fun x => (x, .lst xs.dropLast)
  | .reverse, .lst xs, [] => some (.non, .lst xs.reverse)
  | _, _, _ => none
end Ev

set_option Elab.async false
set_option linter.all false
set_option maxRecDepth 100000
/-! Part B: the language and its evaluator. -/
namespace Ev
open PySem

/-- a target: a slot, or several -/
inductive Tgt where | nm (i : Nat) | tp (ts : List Tgt)
  deriving Inhabited
/-- an expression; names are slots, functions and constants of the module are numbers -/
inductive PX where
  | var (i : Nat)
  | cn (d : D)
  | glob (x : Nat)
  | bin (op : Operator) (a b : PX)
  | un (op : UnaryOp) (a : PX)
  | nt (a : PX)
  | andE (a b : PX)
  | orE (a b : PX)
  | ite (c a b : PX)
  | cmp (op : CmpOp) (a b : PX)
  | cmp2 (op op' : CmpOp) (a b c : PX)
  | tup (as : List PX)
  | lst (as : List PX)
  | tupS (bs : List Bool) (as : List PX)
  | lstS (bs : List Bool) (as : List PX)
  | sub (a i : PX)
  | slc (a : PX) (lo hi : Option PX)
  | rev (a : PX)
  | call (g : Nat) (as : List PX)
  | callv (f : PX) (as : List PX)
  | bi (b : Bi) (as : List PX)
  | lrng (as : List PX)
  | trng (as : List PX)
  | isE (a : PX) (c : Nat)
  | mt (m : Mt) (a : PX) (as : List PX)
  | mm (m : Mm) (i : Nat) (as : List PX)
  | lc (vs : List Nat) (tg : Tgt) (kd : Nat) (as : List PX) (ifs : Option PX) (elt : PX)
  | dc (vs : List Nat) (tg : Tgt) (kd : Nat) (as : List PX) (ifs : Option PX) (ke ve : PX)
  deriving Inhabited
/-- what is walked: 0 an expression's items, 1 range, 2 enumerate, 3 zip -/
inductive Stm where
  | ex (e : PX)
  | asg (tg : Tgt) (e : PX)
  | par (is : List Nat) (es : List PX)
  | aug (i : Nat) (op : Operator) (e : PX)
  | ret (e : PX)
  | retN
  | ifS (c : PX) (a b : List Stm)
  | forS (tg : Tgt) (kd : Nat) (as : List PX) (body : List Stm)
  | whl (c : PX) (body : List Stm)
  | raise (c : Nat)
  | try_ (body : List Stm) (c : Nat) (i : Option Nat) (suite : List Stm)
  | pass | brk | cnt
  deriving Inhabited

inductive Res where
  | ok (o : Bool) (d : D) (outs : List D)
  | er (e : Exc)
/-- what is around a body: is an exception being handled; which slots are lent; which parameters each function changes; constants; which class is below which; the functions' answers; how often a while may turn -/
structure Cx where
  hot : Bool
  io : List Bool
  ios : Nat → List Bool
  cst : Nat → Option D
  sub : Nat → Nat → Bool
  call : Bool → Nat → List (Bool × D) → Option Res
  fuel : Nat

/-! ### calls -/
/-- one argument: what is handed in, the slot that is changed, the slot that is lent to be read -/
def argM (δ : Dst) (f : Bool) : Opd → Option ((Bool × D) × Option Nat × Option Nat)
  | .t o d => if f then (if o then some ((true, d), none, none) else none) else some ((false, d), none, none)
  | .s i => match δ[i]? with
    | some (.own d) => if f then some ((true, d), some i, none) else some ((false, d), none, some i)
    | some (.val d) => if f then none else some ((false, d), none, none)
    | some (.lock d) => if f then none else some ((false, d), none, some i)
    | _ => none
def argsM (δ : Dst) : List Bool → List Opd → Option (List ((Bool × D) × Option Nat × Option Nat))
  | _, [] => some []
  | fs, o :: os => match argM δ (fs.headD false) o, argsM δ fs.tail os with
    | some a, some r => some (a :: r)
    | _, _ => none
abbrev Ax := (Bool × D) × Option Nat × Option Nat
def setOuts (δ : Dst) : List Ax → List D → Dst
  | (_, some i, _) :: r, d :: ds => setOuts (δ.set i (.own d)) r ds
  | (_, none, _) :: r, _ :: ds => setOuts δ r ds
  | _, _ => δ
/-- a slot whose list may have been kept by another: no longer its own -/
def demote (io : List Bool) (δ : Dst) : List Ax → Option Dst
  | [] => some δ
  | (_, _, some i) :: r => match δ[i]? with
    | some (.own d) => if io.getD i false then none else demote io (δ.set i (.val d)) r
    | _ => none
  | (_, _, none) :: r => demote io δ r
/-- its items can't be changed -/
def elemsOk : D → Bool
  | .lst ds => noMuts ds
  | d => noMut d
def slO (x : Ax) : Option Nat := match x.2.1 with
  | some i => some i
  | none => x.2.2
def callM (c : Cx) (g : Nat) (os : List Opd) : M Opd := fun δ =>
  match argsM δ (c.ios g) os with
  | none => none
  | some as =>
    if decide ((as.filterMap slO).Nodup) then
      match c.call c.hot g (as.map (·.1)) with
      | none => none
      | some (.er e) => if as.all fun x => x.2.1.isNone then some (.er e δ) else none
      | some (.ok o d outs) =>
        if outs.length = as.length then
          if (as.all fun x => x.2.2.isNone) || ((if o then elemsOk d else noMut d) && outs.all elemsOk) then some (.ok (.t o d) (setOuts δ as outs))
          else match demote c.io δ as with
            | none => none
            | some δ1 => some (.ok (.t o d) (setOuts δ1 as outs))
        else none
    else none

/-! ### targets, walks -/
mutual
/-- the item goes into slots; a slot that is lent or walked stays as it is -/
def tgt (io : List Bool) : Tgt → Bool → D → Dst → Option Dst
  | .nm i, o, d, δ => if io.getD i false then none else match δ[i]? with
    | none => none
    | some (.lock _) => none
    | some _ => some (δ.set i (if o then .own d else .val d))
  | .tp ts, _, .tup ds, δ => tgts io ts ds δ
  | .tp _, _, _, _ => none
def tgts (io : List Bool) : List Tgt → List D → Dst → Option Dst
  | [], [], δ => some δ
  | t :: ts, d :: ds, δ => match tgt io t false d δ with
    | none => none
    | some δ1 => tgts io ts ds δ1
  | _, _, _ => none
end
def enumL (i : Nat) : List D → List D
  | [] => []
  | d :: r => .tup [.int i, d] :: enumL (i + 1) r
def zipL : List D → List D → List D
  | x :: xs, y :: ys => .tup [x, y] :: zipL xs ys
  | _, _ => []
def upTo (lo : Int) : Nat → List D
  | 0 => []
  | n + 1 => .int lo :: upTo (lo + 1) n
def sml62 (i : Int) : Bool := decide (-(2 ^ 62) ≤ i) && decide (i < 2 ^ 62)
/-- the items that are walked -/
def items : Nat → List D → Option (List D)
  | 0, [.lst xs] => some xs
  | 0, [.ro xs] => some xs
  | 0, [.tup xs] => some xs
  | 1, [.int j] => if sml62 j then some (upTo 0 j.toNat) else none
  | 1, [.int i, .int j] => if sml62 i && sml62 j then some (upTo i (j - i).toNat) else none
  | 2, [.lst xs] => some (enumL 0 xs)
  | 2, [.tup xs] => some (enumL 0 xs)
  | 3, [.lst xs, .lst ys] => some (zipL xs ys)
  | 3, [.tup xs, .tup ys] => some (zipL xs ys)
  | _, _ => none
/-- the slots that own what is walked -/
def walked (δ : Dst) : List Opd → List Nat
  | [] => []
  | .s i :: r => (match δ[i]? with | some (.own _) => [i] | _ => []) ++ walked δ r
  | .t _ _ :: r => walked δ r
def lockAll : List Nat → Dst → Dst
  | [], δ => δ
  | i :: r, δ => match δ[i]? with
    | some (.own d) => lockAll r (δ.set i (.lock d))
    | _ => lockAll r δ
def unlockAll : List Nat → Dst → Option Dst
  | [], δ => some δ
  | i :: r, δ => match δ[i]? with
    | some (.lock d) => unlockAll r (δ.set i (.own d))
    | _ => none
def wipeD : List Nat → Dst → Dst
  | [], δ => δ
  | v :: vs, δ => (wipeD vs δ).set v .non
/-- the slots of a comprehension's own names come back -/
def backD (old : Dst) : List Nat → Dst → Dst
  | [], δ => δ
  | v :: vs, δ => (backD old vs δ).set v (old.getD v .non)
def plainAt (δ : Dst) (i : Nat) : Bool := match δ[i]? with
  | some (.val _) => true
  | some .non => true
  | _ => false
mutual
/-- a comprehension's own slots alone -/
def tgVs (vs : List Nat) : Tgt → Bool
  | .nm i => vs.contains i
  | .tp ts => tgVss vs ts
def tgVss (vs : List Nat) : List Tgt → Bool
  | [] => true
  | t :: ts => tgVs vs t && tgVss vs ts
end
inductive Fl where | nx | rt (o : Bool) (d : D) | bk | ct
/-- the turns of a for -/
def turns (body : D → M Fl) : List D → M Fl
  | [] => M.pure .nx
  | d :: ds => (body d).bind fun f => match f with
    | .nx => turns body ds
    | .ct => turns body ds
    | .bk => M.pure .nx
    | .rt o x => M.pure (.rt o x)
/-- the turns of a while -/
def spins (test : M Bool) (body : M Fl) : Nat → M Fl
  | 0 => M.stuck
  | n + 1 => test.bind fun b => if b then body.bind fun f => match f with
      | .nx => spins test body n
      | .ct => spins test body n
      | .bk => M.pure .nx
      | .rt o x => M.pure (.rt o x)
    else M.pure .nx
/-- the turns of a comprehension: each begins with its own slots empty -/
def gather (vs : List Nat) (body : D → M (Option D)) : List D → List D → M (List D)
  | [], acc => M.pure acc
  | d :: ds, acc => fun δ => match body d δ with
    | some (.ok x δ') => gather vs body ds (match x with | none => acc | some y => acc ++ [y]) (wipeD vs δ')
    | _ => none
/-- the same, a dict's -/
def gatherK (vs : List Nat) (body : D → M (Option (D × D))) : List D → List (D × D) → M (List (D × D))
  | [], acc => M.pure acc
  | d :: ds, acc => fun δ => match body d δ with
    | some (.ok x δ') => gatherK vs body ds (match x with | none => acc | some y => putKD acc y.1 y.2) (wipeD vs δ')
    | _ => none
/-- only these in a suite that handles an exception -/
def hotBi : Bi → Bool
  | .len | .int | .repr => true
  | _ => false
def tgtM (c : Cx) (t : Tgt) (o : Bool) (d : D) : M Unit := fun δ => match t with
  | .tp _ => if c.hot then none else match tgt c.io t o d δ with | none => none | some δ1 => some (.ok () δ1)
  | .nm _ => match tgt c.io t o d δ with | none => none | some δ1 => some (.ok () δ1)
def retM (io : List Bool) (o : Opd) : M Fl := fun δ => match o with
  | .t b d => if isExc d then none else some (.ok (.rt b d) δ)
  | .s i => match δ[i]? with
    | some (.val d) => if isExc d then none else some (.ok (.rt false d) δ)
    | some (.own d) => if io.getD i false then none else some (.ok (.rt true d) (δ.set i .non))
    | _ => none
def isLst (i : Nat) : M Unit := fun δ => match δ[i]? with
  | some (.own (.lst _)) => some (.ok () δ)
  | _ => none
def mmM (m : Mm) (i : Nat) (ds : List D) : M Opd := fun δ => match δ[i]? with
  | some (.own d) => match mmD m d ds with
    | none => none
    | some (r, d') => some (.ok (.t false r) (δ.set i (.own d')))
  | _ => none
/-- no error stands there -/
def okSl : Sl → Bool
  | .val d => !isExc d
  | _ => true
def free (δ : Dst) (i : Nat) : Bool := match δ[i]? with
  | some (.lock _) => false
  | none => false
  | _ => true
def isRange : Nat → Bool
  | 1 => true
  | _ => false

def tgTp : Tgt → Bool
  | .tp _ => true
  | .nm _ => false
/-- x op= y, ints -/
def augD : Operator → Int → D → Option D
  | .Add, i, .int j => some (.int (i + j))
  | .Sub, i, .int j => some (.int (i - j))
  | .Mult, i, .int j => if mulOk i j then some (.int (i * j)) else none
  | .FloorDiv, i, .int j => if decide (0 < j) && decide (j < 1073741824) then some (.int (i / j)) else none
  | .RShift, i, .int j => if decide (0 ≤ j) then some (.int (i / 2 ^ j.toNat)) else none
  | .BitAnd, i, .int j => some (.int (Builtin.bitAnd i j))
  | .BitOr, i, .int j => some (.int (Builtin.bitOr i j))
  | .BitXor, i, .int j => some (.int (Builtin.bitXor i j))
  | _, _, _ => none
def intAt (i : Nat) : M Int := fun δ => match δ[i]? with
  | some (.val (.int n)) => some (.ok n δ)
  | _ => none
/-- an operand's truth -/
def truM (o : Opd) : M Bool := (rdM o).bind fun d => M.opt (truD d)
mutual
def evE (c : Cx) : PX → M Opd
  | .var i => fun δ => match δ[i]? with
    | some (.val d) => some (.ok (.t false d) δ)
    | some (.own _) => some (.ok (.s i) δ)
    | some (.lock _) => some (.ok (.s i) δ)
    | _ => none
  | .cn d => M.pure (.t false d)
  | .glob x => M.opt ((c.cst x).map (Opd.t false))
  | .bin op a b => (evE c a).bind fun x => (evE c b).bind fun y => (rdM x).bind fun dx => (rdM y).bind fun dy => M.opt ((binD op dx dy).map fun p => .t p.1 p.2)
  | .un op a => (evE c a).bind fun x => (rdM x).bind fun d => M.opt ((unD op d).map (Opd.t false))
  | .nt a => (evE c a).bind fun x => (truM x).bind fun b => M.pure (.t false (.bl (!b)))
  | .andE a b => (evE c a).bind fun x => (truM x).bind fun k => if k then evE c b else M.pure x
  | .orE a b => (evE c a).bind fun x => (truM x).bind fun k => if k then M.pure x else evE c b
  | .ite t a b => (evE c t).bind fun x => (truM x).bind fun k => if k then evE c a else evE c b
  | .cmp op a b => (evE c a).bind fun x => (evE c b).bind fun y => (rdM x).bind fun dx => (rdM y).bind fun dy => M.opt ((cmpD op dx dy).map fun k => .t false (.bl k))
  | .cmp2 op op' a b e => (evE c a).bind fun x => (evE c b).bind fun y => (rdM x).bind fun dx => (rdM y).bind fun dy => (M.opt (cmpD op dx dy)).bind fun k =>
      if k then (evE c e).bind fun z => (rdM y).bind fun dy' => (rdM z).bind fun dz => M.opt ((cmpD op' dy' dz).map fun k' => .t false (.bl k')) else M.pure (.t false (.bl false))
  | .tup as => (evEs c as).bind fun os => (escsM c.io os).bind fun ds => if ds.length ≤ lim then M.pure (.t false (.tup ds)) else M.stuck
  | .lst as => (evEs c as).bind fun os => (escsM c.io os).bind fun ds => if ds.length ≤ lim then M.pure (.t true (.lst ds)) else M.stuck
  | .tupS bs as => (evSs c bs as).bind fun os => (escsM c.io os).bind fun ds => if ds.length ≤ lim then M.pure (.t false (.tup ds)) else M.stuck
  | .lstS bs as => (evSs c bs as).bind fun os => (escsM c.io os).bind fun ds => if ds.length ≤ lim then M.pure (.t true (.lst ds)) else M.stuck
  | .sub a i => (evE c a).bind fun x => (evE c i).bind fun y => (rdM x).bind fun dx => (rdM y).bind fun dy => M.opt ((subsD dx dy).map (Opd.t false))
  | .slc a lo hi => (evE c a).bind fun x => (evO c lo).bind fun l => (evO c hi).bind fun h => (rdM x).bind fun d => M.opt ((slcD d l h).map fun p => .t p.1 p.2)
  | .rev a => (evE c a).bind fun x => (rdM x).bind fun d => M.opt ((revD d).map fun p => .t p.1 p.2)
  | .call g as => (evEs c as).bind fun os => callM c g os
  | .callv f as => (evE c f).bind fun x => (rdM x).bind fun d => match d with
    | .fn g => (evEs c as).bind fun os => callM c g os
    | _ => M.stuck
  | .bi b as => if c.hot && !hotBi b then M.stuck else (evEs c as).bind fun os => (rdsM os).bind fun ds => M.opt ((biD b ds).map fun p => .t p.1 p.2)
  | .lrng as => if c.hot then M.stuck else (evEs c as).bind fun os => (rdsM os).bind fun ds => M.opt ((items 1 ds).bind fun xs => if xs.length ≤ lim then some (.t true (.lst xs)) else none)
  | .trng as => if c.hot then M.stuck else (evEs c as).bind fun os => (rdsM os).bind fun ds => M.opt ((items 1 ds).bind fun xs => if xs.length ≤ lim then some (.t false (.tup xs)) else none)
  | .isE a k => (evE c a).bind fun x => (rdM x).bind fun d => match d with
    | .exc e _ => M.pure (.t false (.bl (c.sub e k)))
    | _ => M.stuck
  | .mt m a as => (evE c a).bind fun x => (rdM x).bind fun d0 => if mtTy m d0 then (evEs c as).bind fun os => (rdM x).bind fun d => (rdsM os).bind fun ds => M.opt ((mtD m d ds).map fun p => .t p.1 p.2) else M.stuck
  | .mm m i as => (isLst i).bind fun _ => (evEs c as).bind fun os => (escsM c.io os).bind fun ds => mmM m i ds
  | .lc vs tg kd as ifs elt => if c.hot then M.stuck else (evEs c as).bind fun os => (rdsM os).bind fun ds => (M.opt (items kd ds)).bind fun xs => fun δ =>
      if vs.all (fun i => plainAt δ i && !c.io.getD i false) && decide (xs.length ≤ lim) && tgVs vs tg then
        match gather vs (fun d => (tgtM c tg false d).bind fun _ => (evI c ifs).bind fun k => if k then (evE c elt).bind fun x => (escM c.io x).bind fun y => M.pure (some y.2) else M.pure none) xs []
            (wipeD vs (lockAll (walked δ os) δ)) with
        | some (.ok ys δ') => match unlockAll (walked δ os) (backD δ vs δ') with
          | none => none
          | some δ2 => some (.ok (.t true (.lst ys)) δ2)
        | _ => none
      else none
  | .dc vs tg kd as ifs ke ve => if c.hot then M.stuck else (evEs c as).bind fun os => (rdsM os).bind fun ds => (M.opt (items kd ds)).bind fun xs => fun δ =>
      if vs.all (fun i => plainAt δ i && !c.io.getD i false) && decide (xs.length ≤ lim) && tgVs vs tg then
        match gatherK vs (fun d => (tgtM c tg false d).bind fun _ => (evI c ifs).bind fun k => if k then (evE c ke).bind fun x => (rdM x).bind fun dk => if keyD dk then (evE c ve).bind fun y => (escM c.io y).bind fun z => M.pure (some (dk, z.2)) else M.stuck else M.pure none) xs []
            (wipeD vs (lockAll (walked δ os) δ)) with
        | some (.ok ys δ') => match unlockAll (walked δ os) (backD δ vs δ') with
          | none => none
          | some δ2 => some (.ok (.t true (.dct ys)) δ2)
        | _ => none
      else none
def evEs (c : Cx) : List PX → M (List Opd)
  | [] => M.pure []
  | a :: as => (evE c a).bind fun x => (evEs c as).bind fun xs => M.pure (x :: xs)
/-- some of them starred -/
def evSs (c : Cx) : List Bool → List PX → M (List Opd)
  | _, [] => M.pure []
  | bs, a :: as => (evE c a).bind fun x => if bs.headD false then (rdM x).bind fun d => (M.opt (seqR d)).bind fun ds => (evSs c bs.tail as).bind fun xs => M.pure (ds.map (Opd.t false) ++ xs)
      else (evSs c bs.tail as).bind fun xs => M.pure (x :: xs)
def evO (c : Cx) : Option PX → M (Option Int)
  | none => M.pure none
  | some a => (evE c a).bind fun x => (rdM x).bind fun d => match d with
    | .int i => M.pure (some i)
    | _ => M.stuck
def evI (c : Cx) : Option PX → M Bool
  | none => M.pure true
  | some a => (evE c a).bind truM
end
/-- a test -/
def evT (c : Cx) (p : PX) : M Bool := (evE c p).bind truM
/-- walked for the statement: the slots stay locked through the turns -/
def forM (c : Cx) (tg : Tgt) (kd : Nat) (as : List PX) (body : M Fl) : M Fl :=
  (evEs c as).bind fun os => (rdsM os).bind fun ds => (M.opt (items kd ds)).bind fun xs => fun δ =>
    match turns (fun d => (tgtM c tg false d).bind fun _ => body) xs (lockAll (walked δ os) δ) with
    | none => none
    | some (.er e δ') => some (.er e δ')
    | some (.ok (.rt o d) δ') => some (.ok (.rt o d) δ')
    | some (.ok f δ') => match unlockAll (walked δ os) δ' with
      | none => none
      | some δ2 => some (.ok f δ2)
def parM : List Nat → List (Bool × D) → Dst → Option Dst
  | [], [], δ => some δ
  | i :: is, (o, d) :: ds, δ => match δ[i]? with
    | some (.lock _) => none
    | some _ => parM is ds (δ.set i (if o then .own d else .val d))
    | none => none
  | _, _, _ => none
def escPs (io : List Bool) : List Opd → M (List (Bool × D))
  | [] => M.pure []
  | o :: os => (escM io o).bind fun d => (escPs io os).bind fun ds => M.pure (d :: ds)
mutual
def exS (c : Cx) : Stm → M Fl
  | .ex e => (evE c e).bind fun _ => M.pure .nx
  | .asg tg e => if c.hot && tgTp tg then M.stuck else (evE c e).bind fun x => (escM c.io x).bind fun p => (tgtM c tg p.1 p.2).bind fun _ => M.pure .nx
  | .par is es => if c.hot then M.stuck else (evEs c es).bind fun os => (escPs c.io os).bind fun ps => fun δ =>
      if is.all (fun i => !c.io.getD i false) then match parM is ps δ with
        | none => none
        | some δ' => some (.ok .nx δ')
      else none
  | .aug i op e => (intAt i).bind fun x => (evE c e).bind fun y => (rdM y).bind fun dy => (M.opt (augD op x dy)).bind fun p => (tgtM c (.nm i) false p).bind fun _ => M.pure .nx
  | .ret e => (evE c e).bind (retM c.io)
  | .retN => M.pure (.rt false .non)
  | .ifS t a b => (evT c t).bind fun k => if k then exSs c a else exSs c b
  | .forS tg kd as body => if c.hot then M.stuck else forM c tg kd as (exSs c body)
  | .whl t body => if c.hot then M.stuck else spins (evT c t) (exSs c body) c.fuel
  | .raise k => if c.hot then M.stuck else fun δ => some (.er ⟨k, .non⟩ δ)
  | .try_ body k i suite => if c.hot then M.stuck else fun δ => match exSs c body δ with
    | some (.er e δ') => if c.sub e.cls k then
        match i with
        | none => none
        | some i => match δ'[i]? with
          | some (.lock _) => none
          | none => none
          | some _ => if c.io.getD i false then none else match exSs { c with hot := true } suite (δ'.set i (.val (.exc e.cls e.fld))) with
            | some (.ok f δ2) => if free δ2 i && (δ2.set i .non).all okSl then some (.ok f (δ2.set i .non)) else none
            | _ => none
      else some (.er e δ')
    | r => r
  | .pass => M.pure .nx
  | .brk => M.pure .bk
  | .cnt => M.pure .ct
def exSs (c : Cx) : List Stm → M Fl
  | [] => M.pure .nx
  | s :: ss => (exS c s).bind fun f => match f with
    | .nx => exSs c ss
    | r => M.pure r
end
/-- a def: how many slots, its parameters, which of them it changes, its body -/
structure Def where
  n : Nat
  ps : Nat
  io : List Bool
  body : List Stm
/-- a program -/
structure Tb where
  defs : Nat → Option Def
  cst : Nat → Option D
  sub : Nat → Nat → Bool
  fuel : Nat
def Tb.ios (T : Tb) (g : Nat) : List Bool := match T.defs g with | some f => f.io | none => []
def startD : List Bool → List (Bool × D) → Option Dst
  | _, [] => some []
  | fs, (o, d) :: r => match startD fs.tail r with
    | none => none
    | some δ => if fs.headD false then (if o then some (.own d :: δ) else none) else (if o then none else some (.val d :: δ))
/-- what the lent parameters hold in the end -/
def outsD : List Bool → Nat → Dst → Option (List D)
  | _, 0, _ => some []
  | fs, n + 1, x :: δ => match outsD fs.tail n δ with
    | none => none
    | some r => if fs.headD false then (match x with | .own d => some (d :: r) | _ => none) else some (.non :: r)
  | _, _, [] => none
def endR (f : Def) (r : Option (Rs Fl)) : Option Res := match r with
  | some (.ok .nx δ) => (outsD f.io f.ps δ).map (Res.ok false .non)
  | some (.ok (.rt o d) δ) => (outsD f.io f.ps δ).map (Res.ok o d)
  | some (.er e _) => some (.er e)
  | _ => none
/-- f(..), at most k calls deep -/
def runT (T : Tb) : Nat → Bool → Nat → List (Bool × D) → Option Res
  | 0, _, _, _ => none
  | k + 1, hot, g, as => match T.defs g with
    | none => none
    | some f => if as.length = f.ps then match startD f.io as with
        | none => none
        | some δ => endR f (exSs ⟨hot, f.io, T.ios, T.cst, T.sub, runT T k, T.fuel⟩ f.body (δ ++ List.replicate (f.n - f.ps) .non))
      else none
example (c : Cx) (d : D) : evE c (.cn d) = M.pure (.t false d) := rfl
example (c : Cx) (a b : PX) : evE c (.andE a b) = (evE c a).bind fun x => (truM x).bind fun k => if k then evE c b else M.pure x := rfl
end Ev

set_option Elab.async false
set_option linter.all false
set_option maxRecDepth 100000
/-! Part C: how data lie in the abstract heap; steps; readings. -/
namespace Ev
open PySem L2
abbrev Sg := L2.St

/-- what of the module is known by number: the addresses of its functions and classes -/
structure RC where
  K : PySem.W.Frag
  fa : Nat → Addr
  ca : Nat → Addr
abbrev Pn := List (Addr × Obj)
abbrev AS := Addr → Prop
/-- a list that is never changed -/
def RoL (K : PySem.W.Frag) (H : Hp) (a : Addr) (vs : List V) : Prop :=
  (∃ o, H a = some (.frz o (.lst vs))) ∨
    ∃ (o : Obj) (its : Array Value) (n : Nat), K.lookup a = some o ∧ o.cls = .type "list" ∧ o.dict = none ∧ o.data = .seq its n ∧ its.size ≤ sizeLine ∧ Vals vs its.toList
theorem RoL.sq {K : PySem.W.Frag} {H : Hp} {a : Addr} {vs : List V} (h : RoL K H a vs) : SqL K H a vs := by
  rcases h with h | h
  · exact .inl (.inr h)
  · exact .inr h
def kD : Key → D
  | .inl i => .int i
  | .inr s => .str s
mutual
inductive Rep (c : RC) (U : AS) (H : Hp) : V → D → Prop
  | non : Rep c U H .non .non
  | bl (b : Bool) : Rep c U H (.bl b) (.bl b)
  | int (i : Int) : Rep c U H (.int i) (.int i)
  | str (s : Str) : Rep c U H (.str s) (.str s)
  | tup {a : Addr} {vs : List V} {ds : List D} : SqT c.K H a vs → Reps c U H vs ds → Rep c U H (.ref a) (.tup ds)
  | lst {a : Addr} {vs : List V} {ds : List D} : H a = some (.lst vs) → ¬ U a → Reps c U H vs ds → Rep c U H (.ref a) (.lst ds)
  | ro {a : Addr} {vs : List V} {ds : List D} : RoL c.K H a vs → Reps c U H vs ds → Rep c U H (.ref a) (.ro ds)
  | dct {a : Addr} {kvs : List (Key × V)} {ds : List (D × D)} : H a = some (.dK kvs) → ¬ U a → KReps c U H kvs ds → Rep c U H (.ref a) (.dct ds)
  | fn (g : Nat) : Rep c U H (.ref (c.fa g)) (.fn g)
  | cls (k : Nat) : Rep c U H (.ref (c.ca k)) (.cls k)
  | ty (n : String) : Rep c U H (.ty n) (.ty n)
inductive Reps (c : RC) (U : AS) (H : Hp) : List V → List D → Prop
  | nil : Reps c U H [] []
  | cons {v : V} {d : D} {vs : List V} {ds : List D} : Rep c U H v d → Reps c U H vs ds → Reps c U H (v :: vs) (d :: ds)
inductive KReps (c : RC) (U : AS) (H : Hp) : List (Key × V) → List (D × D) → Prop
  | nil : KReps c U H [] []
  | cons {k : Key} {v : V} {d : D} {kvs : List (Key × V)} {ds : List (D × D)} : Rep c U H v d → KReps c U H kvs ds → KReps c U H ((k, v) :: kvs) ((kD k, d) :: ds)
end
/-- from one heap to a later one: M may have been changed -/
structure Fr' (M U U' : AS) (H H' : Hp) : Prop where
  keep : ∀ a o, H a = some o → ¬ M a → H' a = some o
  tup : ∀ a xs, H a = some (.tup xs) → H' a = some (.tup xs)
  frz : ∀ a o u, H a = some (.frz o u) → H' a = some (.frz o u)
  there : ∀ a, H a ≠ none → H' a ≠ none
  u1 : ∀ a, U' a → U a ∨ H a = none
  u2 : ∀ a, U a → ¬ M a → U' a
theorem Fr'.refl {M U : AS} {H : Hp} : Fr' M U U H H := ⟨fun _ _ h _ => h, fun _ _ h => h, fun _ _ _ h => h, fun _ h => h, fun _ h => .inl h, fun _ h _ => h⟩
theorem Fr'.trans {M M2 U U1 U2 : AS} {H H1 H2 : Hp} (f : Fr' M U U1 H H1) (g : Fr' M2 U1 U2 H1 H2) (trk : ∀ a, U a → H a ≠ none) (hm : ∀ a, M2 a → M a ∨ H a = none) : Fr' M U U2 H H2 where
  keep := fun a o h n => g.keep a o (f.keep a o h n) fun z => (hm a z).elim n fun e => by rw [e] at h; cases h
  tup := fun a xs h => g.tup a xs (f.tup a xs h)
  frz := fun a o u h => g.frz a o u (f.frz a o u h)
  there := fun a h => g.there a (f.there a h)
  u1 := fun a h => by
    rcases g.u1 a h with h | h
    · exact f.u1 a h
    · by_cases z : H a = none
      · exact .inr z
      · exact absurd h (f.there a z)
  u2 := fun a h n => g.u2 a (f.u2 a h n) fun z => (hm a z).elim n (trk a h)
theorem Fr'.sqT {M U U' : AS} {H H' : Hp} {K : PySem.W.Frag} {a : Addr} {vs : List V} (f : Fr' M U U' H H') (h : SqT K H a vs) : SqT K H' a vs := by
  rcases h with (h | ⟨o, h⟩) | h
  · exact .inl (.inl (f.tup _ _ h))
  · exact .inl (.inr ⟨o, f.frz _ _ _ h⟩)
  · exact .inr h
theorem Fr'.roL {M U U' : AS} {H H' : Hp} {K : PySem.W.Frag} {a : Addr} {vs : List V} (f : Fr' M U U' H H') (h : RoL K H a vs) : RoL K H' a vs := by
  rcases h with ⟨o, h⟩ | h
  · exact .inl ⟨o, f.frz _ _ _ h⟩
  · exact .inr h
mutual
theorem Rep.mono {c : RC} {M U U' : AS} {H H' : Hp} (f : Fr' M U U' H H') (hm : ∀ a, M a → U a) : ∀ {v : V} {d : D}, Rep c U H v d → Rep c U' H' v d
  | _, _, .non => .non
  | _, _, .bl b => .bl b
  | _, _, .int i => .int i
  | _, _, .str s => .str s
  | _, _, .tup h r => .tup (f.sqT h) (Reps.mono f hm r)
  | _, _, .lst h n r => .lst (f.keep _ _ h fun z => n (hm _ z)) (fun z => (f.u1 _ z).elim n fun e => by rw [e] at h; cases h) (Reps.mono f hm r)
  | _, _, .ro h r => .ro (f.roL h) (Reps.mono f hm r)
  | _, _, .dct h n r => .dct (f.keep _ _ h fun z => n (hm _ z)) (fun z => (f.u1 _ z).elim n fun e => by rw [e] at h; cases h) (KReps.mono f hm r)
  | _, _, .fn g => .fn g
  | _, _, .cls k => .cls k
  | _, _, .ty n => .ty n
theorem Reps.mono {c : RC} {M U U' : AS} {H H' : Hp} (f : Fr' M U U' H H') (hm : ∀ a, M a → U a) : ∀ {vs : List V} {ds : List D}, Reps c U H vs ds → Reps c U' H' vs ds
  | _, _, .nil => .nil
  | _, _, .cons h r => .cons (Rep.mono f hm h) (Reps.mono f hm r)
theorem KReps.mono {c : RC} {M U U' : AS} {H H' : Hp} (f : Fr' M U U' H H') (hm : ∀ a, M a → U a) : ∀ {kvs : List (Key × V)} {ds : List (D × D)}, KReps c U H kvs ds → KReps c U' H' kvs ds
  | _, _, .nil => .nil
  | _, _, .cons h r => .cons (Rep.mono f hm h) (KReps.mono f hm r)
end
/-- fewer are kept away from -/
theorem Rep.less {c : RC} {U U' : AS} {H : Hp} (hu : ∀ a, U' a → U a) {v : V} {d : D} (h : Rep c U H v d) : Rep c U' H v d :=
  h.mono (M := fun a => U a) ⟨fun _ _ h _ => h, fun _ _ h => h, fun _ _ _ h => h, fun _ h => h, fun a z => .inl (hu a z), fun a z n => absurd z n⟩ fun _ z => z
theorem Reps.less {c : RC} {U U' : AS} {H : Hp} (hu : ∀ a, U' a → U a) {v : List V} {d : List D} (h : Reps c U H v d) : Reps c U' H v d :=
  h.mono (M := fun a => U a) ⟨fun _ _ h _ => h, fun _ _ h => h, fun _ _ _ h => h, fun _ h => h, fun a z => .inl (hu a z), fun a z n => absurd z n⟩ fun _ z => z
theorem KReps.less {c : RC} {U U' : AS} {H : Hp} (hu : ∀ a, U' a → U a) {v : List (Key × V)} {d : List (D × D)} (h : KReps c U H v d) : KReps c U' H v d :=
  h.mono (M := fun a => U a) ⟨fun _ _ h _ => h, fun _ _ h => h, fun _ _ _ h => h, fun _ h => h, fun a z => .inl (hu a z), fun a z n => absurd z n⟩ fun _ z => z
theorem Reps.length {c : RC} {U : AS} {H : Hp} : ∀ {vs : List V} {ds : List D}, Reps c U H vs ds → vs.length = ds.length
  | _, _, .nil => rfl
  | _, _, .cons _ r => by rw [List.length_cons, List.length_cons, Reps.length r]
theorem KReps.length {c : RC} {U : AS} {H : Hp} : ∀ {vs : List (Key × V)} {ds : List (D × D)}, KReps c U H vs ds → vs.length = ds.length
  | _, _, .nil => rfl
  | _, _, .cons _ r => by rw [List.length_cons, List.length_cons, KReps.length r]
theorem Reps.get {c : RC} {U : AS} {H : Hp} : ∀ {vs : List V} {ds : List D} {i : Nat} {d : D}, Reps c U H vs ds → ds[i]? = some d → ∃ v, vs[i]? = some v ∧ Rep c U H v d
  | _, _, _, _, .nil, e => by simp at e
  | _, _, 0, _, .cons h _, e => by simp at e; subst e; exact ⟨_, rfl, h⟩
  | _, _, i + 1, _, .cons _ r, e => by
    obtain ⟨v, h1, h2⟩ := Reps.get (i := i) r (by simpa using e)
    exact ⟨v, by simpa using h1, h2⟩
theorem Reps.getV {c : RC} {U : AS} {H : Hp} : ∀ {vs : List V} {ds : List D} {i : Nat} {v : V}, Reps c U H vs ds → vs[i]? = some v → ∃ d, ds[i]? = some d ∧ Rep c U H v d
  | _, _, _, _, .nil, e => by simp at e
  | _, _, 0, _, .cons h _, e => by simp at e; subst e; exact ⟨_, rfl, h⟩
  | _, _, i + 1, _, .cons _ r, e => by
    obtain ⟨v, h1, h2⟩ := Reps.getV (i := i) r (by simpa using e)
    exact ⟨v, by simpa using h1, h2⟩
theorem Reps.append {c : RC} {U : AS} {H : Hp} : ∀ {vs ws : List V} {ds es : List D}, Reps c U H vs ds → Reps c U H ws es → Reps c U H (vs ++ ws) (ds ++ es)
  | _, _, _, _, .nil, s => s
  | _, _, _, _, .cons h r, s => .cons h (Reps.append r s)
theorem Reps.drop {c : RC} {U : AS} {H : Hp} : ∀ {vs : List V} {ds : List D} (n : Nat), Reps c U H vs ds → Reps c U H (vs.drop n) (ds.drop n)
  | _, _, 0, r => r
  | _, _, _ + 1, .nil => .nil
  | _, _, n + 1, .cons _ r => Reps.drop n r
theorem Reps.take {c : RC} {U : AS} {H : Hp} : ∀ {vs : List V} {ds : List D} (n : Nat), Reps c U H vs ds → Reps c U H (vs.take n) (ds.take n)
  | _, _, 0, _ => .nil
  | _, _, _ + 1, .nil => .nil
  | _, _, n + 1, .cons h r => .cons h (Reps.take n r)
theorem Reps.reverse {c : RC} {U : AS} {H : Hp} : ∀ {vs : List V} {ds : List D}, Reps c U H vs ds → Reps c U H vs.reverse ds.reverse
  | _, _, .nil => .nil
  | _, _, .cons h r => by
    rw [List.reverse_cons, List.reverse_cons]
    exact (Reps.reverse r).append (.cons h .nil)

/-- what a slot owns, at its address -/
def OwnC (c : RC) (U : AS) (H : Hp) (a : Addr) : D → Prop
  | .lst ds => ∃ vs, H a = some (.lst vs) ∧ Reps c U H vs ds
  | .dct ds => ∃ kvs, H a = some (.dK kvs) ∧ KReps c U H kvs ds
  | _ => False
theorem OwnC.keep {c : RC} {M U U' : AS} {H H' : Hp} {a : Addr} {d : D} (f : Fr' M U U' H H') (hm : ∀ a, M a → U a) (n : ¬ M a) (h : OwnC c U H a d) : OwnC c U' H' a d := by
  cases d with
  | lst ds =>
    obtain ⟨vs, e, r⟩ := h
    exact ⟨vs, f.keep _ _ e n, r.mono f hm⟩
  | dct ds =>
    obtain ⟨vs, e, r⟩ := h
    exact ⟨vs, f.keep _ _ e n, r.mono f hm⟩
  | _ => exact h.elim
theorem OwnC.less {c : RC} {U U' : AS} {H : Hp} {a : Addr} {d : D} (hu : ∀ a, U' a → U a) (h : OwnC c U H a d) : OwnC c U' H a d := by
  cases d with
  | lst ds =>
    obtain ⟨vs, e, r⟩ := h
    exact ⟨vs, e, r.less hu⟩
  | dct ds =>
    obtain ⟨vs, e, r⟩ := h
    exact ⟨vs, e, r.less hu⟩
  | _ => exact h.elim
/-- .. it is a value, once nobody changes it -/
theorem OwnC.rep {c : RC} {U : AS} {H : Hp} {a : Addr} {d : D} (n : ¬ U a) (h : OwnC c U H a d) : Rep c U H (.ref a) d := by
  cases d with
  | lst ds =>
    obtain ⟨vs, e, r⟩ := h
    exact .lst e n r
  | dct ds =>
    obtain ⟨vs, e, r⟩ := h
    exact .dct e n r
  | _ => exact h.elim
theorem OwnC.at_ {c : RC} {U : AS} {H : Hp} {a : Addr} {d : D} (h : OwnC c U H a d) : H a ≠ none := by
  cases d with
  | lst ds =>
    obtain ⟨vs, e, r⟩ := h
    rw [e]; exact fun z => nomatch z
  | dct ds =>
    obtain ⟨vs, e, r⟩ := h
    rw [e]; exact fun z => nomatch z
  | _ => exact h.elim
theorem OwnC.mut {c : RC} {U : AS} {H : Hp} {a : Addr} {d : D} (h : OwnC c U H a d) : (∀ xs, H a ≠ some (.tup xs)) ∧ ∀ o u, H a ≠ some (.frz o u) := by
  cases d with
  | lst ds =>
    obtain ⟨vs, e, r⟩ := h
    rw [e]; exact ⟨fun xs z => (by cases z), fun o u z => (by cases z)⟩
  | dct ds =>
    obtain ⟨vs, e, r⟩ := h
    rw [e]; exact ⟨fun xs z => (by cases z), fun o u z => (by cases z)⟩
  | _ => exact h.elim

/-- slot i owns (or has locked) what lies at a -/
def Has (σ : Sg) (δ : Dst) (i : Nat) (a : Addr) (d : D) : Prop := (δ[i]? = some (Sl.own d) ∨ δ[i]? = some (Sl.lock d)) ∧ σ[i]? = some (some (V.ref a))
/-- .. and may change it -/
def Root (σ : Sg) (δ : Dst) (a : Addr) : Prop := ∃ (i : Nat) (d : D), δ[i]? = some (Sl.own d) ∧ σ[i]? = some (some (V.ref a))
/-- an exception that is handled -/
def ExcAt (c : RC) (pn : Pn) (v : V) (k : Nat) (f : D) : Prop := ∃ a oe, v = .ref a ∧ (a, oe) ∈ pn ∧ L2N.Zn (.ref (c.ca k)) none oe ∧ (∃ vs, oe.data = .fields vs) ∧ f = .non
/-- a value, or an exception that is handled -/
def RepE (c : RC) (pn : Pn) (U : AS) (H : Hp) (v : V) : D → Prop
  | .exc k f => ExcAt c pn v k f
  | d => Rep c U H v d
theorem RepE.rep {c : RC} {pn : Pn} {U : AS} {H : Hp} {v : V} {d : D} (h : RepE c pn U H v d) (n : isExc d = false) : Rep c U H v d := by
  cases d <;> first | exact h | cases n
theorem Rep.noExc {c : RC} {U : AS} {H : Hp} {v : V} {d : D} (h : Rep c U H v d) : isExc d = false := by
  cases h <;> rfl
theorem Rep.e {c : RC} {pn : Pn} {U : AS} {H : Hp} {v : V} {d : D} (h : Rep c U H v d) : RepE c pn U H v d := by
  cases d <;> first | exact h | cases h
theorem RepE.mono {c : RC} {pn : Pn} {M U U' : AS} {H H' : Hp} (f : Fr' M U U' H H') (hm : ∀ a, M a → U a) {v : V} {d : D} (h : RepE c pn U H v d) : RepE c pn U' H' v d := by
  cases d <;> first | exact h | exact Rep.mono f hm h
theorem RepE.pn {c : RC} {pn pn' : Pn} {U : AS} {H : Hp} {v : V} {d : D} (hp : ∀ p ∈ pn, p ∈ pn') (h : RepE c pn U H v d) : RepE c pn' U H v d := by
  cases d <;> first | exact h | (obtain ⟨a, oe, e, m, r⟩ := h; exact ⟨a, oe, e, hp _ m, r⟩)
structure Abs (c : RC) (pn : Pn) (U : AS) (H : Hp) (σ : Sg) (δ : Dst) : Prop where
  len : σ.length = δ.length
  val : ∀ (i : Nat) (d : D), δ[i]? = some (Sl.val d) → ∃ v, σ[i]? = some (some v) ∧ RepE c pn U H v d
  own : ∀ (i : Nat) (d : D), (δ[i]? = some (Sl.own d) ∨ δ[i]? = some (Sl.lock d)) → ∃ a, σ[i]? = some (some (V.ref a)) ∧ U a ∧ OwnC c U H a d
  dis : ∀ (i j : Nat) (a : Addr) (d e : D), Has σ δ i a d → Has σ δ j a e → i = j
  trk : ∀ a, U a → H a ≠ none
theorem Abs.root {c : RC} {pn : Pn} {U : AS} {H : Hp} {σ : Sg} {δ : Dst} (A : Abs c pn U H σ δ) : ∀ a, Root σ δ a → U a := fun a ⟨i, d, h1, h2⟩ => by
  obtain ⟨b, e, u, _⟩ := A.own i d (.inl h1)
  rw [h2] at e
  cases e
  exact u
/-- an operand's value -/
def OpdR (c : RC) (pn : Pn) (H0 : Hp) (U : AS) (H : Hp) (σ : Sg) (δ : Dst) (v : V) : Opd → Prop
  | .t false d => RepE c pn U H v d
  | .t true d => ∃ a, v = .ref a ∧ H0 a = none ∧ U a ∧ OwnC c U H a d ∧ ∀ i e, ¬ Has σ δ i a e
  | .s i => σ[i]? = some (some v) ∧ ∃ d, δ[i]? = some (Sl.own d) ∨ δ[i]? = some (Sl.lock d) ∨ δ[i]? = some (Sl.val d)
/-- read now: a value, or what somebody owns -/
def RepR (c : RC) (pn : Pn) (U : AS) (H : Hp) (v : V) (d : D) : Prop := RepE c pn U H v d ∨ ∃ a, v = .ref a ∧ U a ∧ OwnC c U H a d
theorem Abs.rd {c : RC} {pn : Pn} {H0 : Hp} {U : AS} {H : Hp} {σ : Sg} {δ : Dst} {v : V} {o : Opd} {d : D} (A : Abs c pn U H σ δ) (h : OpdR c pn H0 U H σ δ v o) (e : rdO δ o = some d) : RepR c pn U H v d := by
  cases o with
  | t b d' =>
    cases e
    cases b with
    | false => exact .inl h
    | true =>
      obtain ⟨a, e1, _, u, o, _⟩ := h
      exact .inr ⟨a, e1, u, o⟩
  | s i =>
    obtain ⟨hv, d', hd⟩ := h
    have e' : (match δ[i]? with | some (.val d) => some d | some (.own d) => some d | some (.lock d) => some d | _ => none) = some d := e
    rcases hd with hd | hd | hd
    · rw [hd] at e'; cases e'
      obtain ⟨a, h1, u, o⟩ := A.own i d (.inl hd)
      rw [hv] at h1; cases h1
      exact .inr ⟨a, rfl, u, o⟩
    · rw [hd] at e'; cases e'
      obtain ⟨a, h1, u, o⟩ := A.own i d (.inr hd)
      rw [hv] at h1; cases h1
      exact .inr ⟨a, rfl, u, o⟩
    · rw [hd] at e'; cases e'
      obtain ⟨w, h1, r⟩ := A.val i d hd
      rw [hv] at h1; cases h1
      exact .inl r

/-- from one state of a frame to a later one. io: the slots that are lent by the caller -/
structure Stp (io : List Bool) (σ : Sg) (δ : Dst) (U : AS) (H : Hp) (σ' : Sg) (δ' : Dst) (U' : AS) (H' : Hp) : Prop where
  fr : Fr' (Root σ δ) U U' H H'
  rt : ∀ a, Root σ' δ' a → Root σ δ a ∨ H a = none
  io : ∀ (i : Nat), io.getD i false = true → σ'[i]? = σ[i]?
  lk : ∀ (i : Nat) (d : D), δ[i]? = some (Sl.lock d) → δ'[i]? = some (Sl.lock d) ∧ σ'[i]? = σ[i]?
theorem Stp.refl {io : List Bool} {σ : Sg} {δ : Dst} {U : AS} {H : Hp} : Stp io σ δ U H σ δ U H := ⟨Fr'.refl, fun _ h => .inl h, fun _ _ => rfl, fun _ _ h => ⟨h, rfl⟩⟩
theorem Stp.trans {io : List Bool} {σ σ1 σ2 : Sg} {δ δ1 δ2 : Dst} {U U1 U2 : AS} {H H1 H2 : Hp} (a : Stp io σ δ U H σ1 δ1 U1 H1) (b : Stp io σ1 δ1 U1 H1 σ2 δ2 U2 H2) (trk : ∀ a, U a → H a ≠ none) : Stp io σ δ U H σ2 δ2 U2 H2 where
  fr := a.fr.trans b.fr trk a.rt
  rt := fun x h => by
    rcases b.rt x h with h | h
    · exact a.rt x h
    · by_cases z : H x = none
      · exact .inr z
      · exact absurd h (a.fr.there x z)
  io := fun i h => (b.io i h).trans (a.io i h)
  lk := fun i d h => by
    obtain ⟨h1, h2⟩ := a.lk i d h
    obtain ⟨h3, h4⟩ := b.lk i d h1
    exact ⟨h3, h4.trans h2⟩
/-- an operand waits -/
theorem OpdR.mono {c : RC} {pn : Pn} {io : List Bool} {H0 : Hp} {σ : Sg} {δ δ' : Dst} {U U' : AS} {H H' : Hp} {v : V} {o : Opd} (A : Abs c pn U H σ δ) (A' : Abs c pn U' H' σ δ') (s : Stp io σ δ U H σ δ' U' H') (h : OpdR c pn H0 U H σ δ v o)
    (hs : ∀ i, o = .s i → ∃ d, δ'[i]? = some (Sl.own d) ∨ δ'[i]? = some (Sl.lock d) ∨ δ'[i]? = some (Sl.val d)) (hl : ∀ (i : Nat) (d : D), (δ'[i]? = some (Sl.own d) ∨ δ'[i]? = some (Sl.lock d)) → ∃ e, δ[i]? = some (Sl.own e) ∨ δ[i]? = some (Sl.lock e)) : OpdR c pn H0 U' H' σ δ' v o := by
  cases o with
  | t b d =>
    cases b with
    | false => exact RepE.mono s.fr A.root h
    | true =>
      obtain ⟨a, e, h0, u, o, n⟩ := h
      have nr : ¬ Root σ δ a := fun ⟨i, d, h1, h2⟩ => n i d ⟨.inl h1, h2⟩
      refine ⟨a, e, h0, s.fr.u2 a u nr, o.keep s.fr A.root nr, fun i e' hh => ?_⟩
      obtain ⟨h1, h2⟩ := hh
      obtain ⟨e2, h3⟩ := hl i e' h1
      exact n i e2 ⟨h3, h2⟩
  | s i => exact ⟨h.1, hs i rfl⟩
theorem OpdR.anti {c : RC} {pn : Pn} {H0 H1 : Hp} {σ : Sg} {δ : Dst} {U : AS} {H : Hp} {v : V} {o : Opd} (f : ∀ a, H1 a = none → H0 a = none) (h : OpdR c pn H1 U H σ δ v o) : OpdR c pn H0 U H σ δ v o := by
  cases o with
  | t b d =>
    cases b with
    | false => exact h
    | true =>
      obtain ⟨a, e, h0, r⟩ := h
      exact ⟨a, e, f a h0, r⟩
  | s i => exact h
end Ev

set_option Elab.async false
set_option linter.all false
set_option maxRecDepth 100000
/-! Part D: readings by the evaluator's answers. -/
namespace Ev
open PySem L2

def Full (δ : Dst) (i : Nat) : Prop := ∃ d, δ[i]? = some (Sl.own d) ∨ δ[i]? = some (Sl.lock d) ∨ δ[i]? = some (Sl.val d)
/-- a step within an expression: the slots' values stay where they are -/
structure StpE (io : List Bool) (σ : Sg) (δ : Dst) (U : AS) (H : Hp) (δ' : Dst) (U' : AS) (H' : Hp) : Prop where
  st : Stp io σ δ U H σ δ' U' H'
  ful : ∀ i, Full δ i → Full δ' i
  no : ∀ (i : Nat) (d : D), (δ'[i]? = some (Sl.own d) ∨ δ'[i]? = some (Sl.lock d)) → ∃ e, δ[i]? = some (Sl.own e) ∨ δ[i]? = some (Sl.lock e)
theorem StpE.refl {io : List Bool} {σ : Sg} {δ : Dst} {U : AS} {H : Hp} : StpE io σ δ U H δ U H := ⟨Stp.refl, fun _ h => h, fun _ d h => ⟨d, h⟩⟩
theorem StpE.trans {io : List Bool} {σ : Sg} {δ δ1 δ2 : Dst} {U U1 U2 : AS} {H H1 H2 : Hp} (a : StpE io σ δ U H δ1 U1 H1) (b : StpE io σ δ1 U1 H1 δ2 U2 H2) (trk : ∀ a, U a → H a ≠ none) : StpE io σ δ U H δ2 U2 H2 :=
  ⟨a.st.trans b.st trk, fun i h => b.ful i (a.ful i h), fun i d h => by
    obtain ⟨e, h1⟩ := b.no i d h
    rcases h1 with h1 | h1
    · exact a.no i e (.inl h1)
    · exact a.no i e (.inr h1)⟩
theorem OpdR.on {c : RC} {pn : Pn} {io : List Bool} {H0 : Hp} {σ : Sg} {δ δ' : Dst} {U U' : AS} {H H' : Hp} {v : V} {o : Opd} (A : Abs c pn U H σ δ) (A' : Abs c pn U' H' σ δ') (s : StpE io σ δ U H δ' U' H') (h : OpdR c pn H0 U H σ δ v o) : OpdR c pn H0 U' H' σ δ' v o :=
  h.mono A A' s.st (fun i e => by subst e; exact s.ful i h.2) s.no
/-- a is one of these, made just now -/
def TmpIn (a : Addr) : List V → List Opd → Prop
  | v :: vs, o :: os => (v = .ref a ∧ ∃ d, o = .t true d) ∨ TmpIn a vs os
  | _, _ => False
inductive OpdRs (c : RC) (pn : Pn) (H0 : Hp) (U : AS) (H : Hp) (σ : Sg) (δ : Dst) : List V → List Opd → Prop
  | nil : OpdRs c pn H0 U H σ δ [] []
  | cons {v : V} {o : Opd} {vs : List V} {os : List Opd} : OpdR c pn H0 U H σ δ v o → (∀ a d, o = .t true d → v = .ref a → ¬ TmpIn a vs os) → OpdRs c pn H0 U H σ δ vs os → OpdRs c pn H0 U H σ δ (v :: vs) (o :: os)
theorem OpdRs.tmp {c : RC} {pn : Pn} {H0 : Hp} {U : AS} {H : Hp} {σ : Sg} {δ : Dst} {a : Addr} : ∀ {vs : List V} {os : List Opd}, OpdRs c pn H0 U H σ δ vs os → TmpIn a vs os → H0 a = none
  | _, _, .nil, t => t.elim
  | _, _, .cons h _ r, t => by
    rcases t with ⟨e, d, e2⟩ | t
    · subst e2
      obtain ⟨b, e3, h0, _⟩ := h
      rw [e] at e3; cases e3
      exact h0
    · exact OpdRs.tmp r t
theorem OpdRs.anti {c : RC} {pn : Pn} {H0 H1 : Hp} {σ : Sg} {δ : Dst} {U : AS} {H : Hp} (f : ∀ a, H1 a = none → H0 a = none) : ∀ {vs : List V} {os : List Opd}, OpdRs c pn H1 U H σ δ vs os → OpdRs c pn H0 U H σ δ vs os
  | _, _, .nil => .nil
  | _, _, .cons h t r => .cons (h.anti f) t (OpdRs.anti f r)
theorem OpdRs.on {c : RC} {pn : Pn} {io : List Bool} {H0 : Hp} {σ : Sg} {δ δ' : Dst} {U U' : AS} {H H' : Hp} (A : Abs c pn U H σ δ) (A' : Abs c pn U' H' σ δ') (s : StpE io σ δ U H δ' U' H') : ∀ {vs : List V} {os : List Opd}, OpdRs c pn H0 U H σ δ vs os → OpdRs c pn H0 U' H' σ δ' vs os
  | _, _, .nil => .nil
  | _, _, .cons h t r => .cons (h.on A A' s) t (OpdRs.on A A' s r)

/-- what is around a body, for the readings -/
structure Ar where
  c : RC
  pn : Pn
  io : List Bool
  W : WX
def ExcIs (c : RC) (e : Exc) (cls : Value) (d : Option Addr) : Prop := cls = .ref (c.ca e.cls) ∧ e.fld = .non ∧ d = none
section
variable {α β γ γ1 : Type} {r : Ar}
/-- how an answer lies in a heap (first: the heap at the start, what is made since is none of its) -/
abbrev Rl (γ α : Type) := Hp → AS → Hp → Sg → Dst → γ → α → Prop
def Anti (R : Rl γ α) : Prop := ∀ H0 H1 U H σ δ g a, (∀ b, H1 b = none → H0 b = none) → R H1 U H σ δ g a → R H0 U H σ δ g a
/-- Q is wanted of each way in which this answer may lie in a heap -/
def Cont (r : Ar) (R : Rl γ α) (Q : γ → Hp → Prop) (σ : Sg) (δ0 : Dst) (U0 : AS) (H0 : Hp) : Option (Rs α) → Prop
  | none => False
  | some (.er e δ') => ∀ cls d U' H', ExcIs r.c e cls d → Abs r.c r.pn U' H' σ δ' → StpE r.io σ δ0 U0 H0 δ' U' H' → r.W cls d σ H'
  | some (.ok a δ') => ∀ g U' H', Abs r.c r.pn U' H' σ δ' → R H0 U' H' σ δ' g a → StpE r.io σ δ0 U0 H0 δ' U' H' → Q g H'
theorem Cont.mono {R : Rl γ α} {Q Q' : γ → Hp → Prop} {σ : Sg} {δ0 : Dst} {U0 : AS} {H0 : Hp} {x : Option (Rs α)} (h : Cont r R Q σ δ0 U0 H0 x) (hq : ∀ g H, Q g H → Q' g H) : Cont r R Q' σ δ0 U0 H0 x := by
  match x, h with
  | some (.er e δ'), h => exact h
  | some (.ok a δ'), h => exact fun g U' H' A R s => hq _ _ (h g U' H' A R s)
def tM (r : Ar) (R : Rl γ α) (m : M α) (σ : Sg) (H : Hp) (Q : γ → Hp → Prop) : Prop := ∃ U δ, Abs r.c r.pn U H σ δ ∧ Cont r R Q σ δ U H (m δ)
theorem tM.mono {R : Rl γ α} {m : M α} {σ : Sg} {H : Hp} {Q Q' : γ → Hp → Prop} (h : tM r R m σ H Q) (hq : ∀ g H, Q g H → Q' g H) : tM r R m σ H Q' := by
  obtain ⟨U, δ, A, k⟩ := h
  exact ⟨U, δ, A, k.mono hq⟩
/-- behind a part: the state, the part's value, what is still to be reckoned -/
structure Nx (r : Ar) (R1 : Rl γ1 α) (R : Rl γ β) (Q : γ → Hp → Prop) (σ : Sg) (δ0 : Dst) (U0 : AS) (H0 : Hp) (f : α → M β) (g : γ1) (U1 : AS) (δ1 : Dst) (H1 : Hp) (x : α) : Prop where
  A0 : Abs r.c r.pn U0 H0 σ δ0
  A : Abs r.c r.pn U1 H1 σ δ1
  rr : R1 H0 U1 H1 σ δ1 g x
  s : StpE r.io σ δ0 U0 H0 δ1 U1 H1
  k : Cont r R Q σ δ0 U0 H0 (f x δ1)
theorem StpE.gone {io : List Bool} {σ : Sg} {δ δ' : Dst} {U U' : AS} {H H' : Hp} (s : StpE io σ δ U H δ' U' H') (a : Addr) (h : H' a = none) : H a = none := by
  by_cases z : H a = .none
  · exact z
  · exact absurd h (s.st.fr.there a z)
theorem Cont.bind {R1 : Rl γ1 α} {R : Rl γ β} {Q : γ → Hp → Prop} {σ : Sg} {δ0 δ : Dst} {U0 U : AS} {H0 H : Hp} {m : M α} {f : α → M β} (an : Anti R1) (A0 : Abs r.c r.pn U0 H0 σ δ0) (A : Abs r.c r.pn U H σ δ) (s : StpE r.io σ δ0 U0 H0 δ U H)
    (h : Cont r R Q σ δ0 U0 H0 (m.bind f δ)) : Cont r R1 (fun g H1 => ∃ U1 δ1 x, Nx r R1 R Q σ δ0 U0 H0 f g U1 δ1 H1 x ∧ StpE r.io σ δ U H δ1 U1 H1 ∧ R1 H U1 H1 σ δ1 g x) σ δ U H (m δ) := by
  unfold M.bind at h
  cases e : m δ with
  | none => rw [e] at h; exact h
  | some y =>
    rw [e] at h
    cases y with
    | er e δ' => exact fun cls d U' H' x A' s' => h cls d U' H' x A' (s.trans s' A0.trk)
    | ok a δ' => exact fun g U' H' A' R' s' => ⟨U', δ', a, ⟨A0, A', an _ _ _ _ _ _ _ _ s.gone R', s.trans s' A0.trk, h⟩, s', R'⟩
theorem tM.bind {R1 : Rl γ1 α} {R : Rl γ β} {Q : γ → Hp → Prop} {σ : Sg} {H : Hp} {m : M α} {f : α → M β} (an : Anti R1) (h : tM r R (m.bind f) σ H Q) : ∃ U0 δ0, tM r R1 m σ H fun g H1 => ∃ U1 δ1 x, Nx r R1 R Q σ δ0 U0 H f g U1 δ1 H1 x := by
  obtain ⟨U, δ, A, k⟩ := h
  exact ⟨U, δ, U, δ, A, (Cont.bind an A A StpE.refl k).mono fun g H1 ⟨U1, δ1, x, n, _⟩ => ⟨U1, δ1, x, n⟩⟩
/-- on to the next part -/
theorem Nx.on {γ2 δt : Type} {R1 : Rl γ1 α} {R2 : Rl γ2 δt} {R : Rl γ β} {Q : γ → Hp → Prop} {σ : Sg} {δ0 δ1 : Dst} {U0 U1 : AS} {H0 H1 : Hp} {g : γ1} {x : α} {f : α → M β} {m : M δt} {f2 : δt → M β} (n : Nx r R1 R Q σ δ0 U0 H0 f g U1 δ1 H1 x) (an : Anti R2)
    (e : f x = m.bind f2) : tM r R2 m σ H1 fun g2 H2 => ∃ U2 δ2 y, Nx r R2 R Q σ δ0 U0 H0 f2 g2 U2 δ2 H2 y ∧ StpE r.io σ δ1 U1 H1 δ2 U2 H2 ∧ R2 H1 U2 H2 σ δ2 g2 y := by
  refine ⟨U1, δ1, n.A, ?_⟩
  have k := n.k
  rw [e] at k
  exact Cont.bind an n.A0 n.A n.s k
/-- the same part of the way, the last part as it is -/
theorem Nx.last {R1 : Rl γ1 α} {R : Rl γ β} {Q : γ → Hp → Prop} {σ : Sg} {δ0 δ1 : Dst} {U0 U1 : AS} {H0 H1 : Hp} {g : γ1} {x : α} {f : α → M β} (n : Nx r R1 R Q σ δ0 U0 H0 f g U1 δ1 H1 x) (an : Anti R) : tM r R (f x) σ H1 Q := by
  refine ⟨U1, δ1, n.A, ?_⟩
  have k := n.k
  cases e : f x δ1 with
  | none => rw [e] at k; exact k
  | some y =>
    rw [e] at k
    cases y with
    | er e δ' => exact fun cls d U' H' x A' s' => k cls d U' H' x A' (n.s.trans s' n.A0.trk)
    | ok a δ' => exact fun g U' H' A' R' s' => k g U' H' A' (an _ _ _ _ _ _ _ _ n.s.gone R') (n.s.trans s' n.A0.trk)
/-- what is left gives the end -/
theorem Cont.ok {R : Rl γ α} {Q : γ → Hp → Prop} {σ : Sg} {δ0 δ' : Dst} {U0 U' : AS} {H0 H' : Hp} {a : α} {g : γ} {x : Option (Rs α)} (h : Cont r R Q σ δ0 U0 H0 x) (e : x = some (.ok a δ')) (A : Abs r.c r.pn U' H' σ δ') (R' : R H0 U' H' σ δ' g a) (s : StpE r.io σ δ0 U0 H0 δ' U' H') : Q g H' := by
  subst e
  exact h g U' H' A R' s
/-- readings of what stands there -/
theorem Cont.rd {R : Rl γ α} {Q : γ → Hp → Prop} {σ : Sg} {δ0 δ : Dst} {U0 : AS} {H0 : Hp} {o : Opd} {f : D → M α} (h : Cont r R Q σ δ0 U0 H0 ((rdM o).bind f δ)) : ∃ d, rdO δ o = some d ∧ Cont r R Q σ δ0 U0 H0 (f d δ) := by
  unfold M.bind rdM at h
  cases e : rdO δ o with
  | none => rw [e] at h; exact h.elim
  | some d => rw [e] at h; exact ⟨d, rfl, h⟩
theorem Cont.opt {α1 : Type} {R : Rl γ α} {Q : γ → Hp → Prop} {σ : Sg} {δ0 δ : Dst} {U0 : AS} {H0 : Hp} {x : Option α1} {f : α1 → M α} (h : Cont r R Q σ δ0 U0 H0 ((M.opt x).bind f δ)) : ∃ d, x = some d ∧ Cont r R Q σ δ0 U0 H0 (f d δ) := by
  unfold M.bind M.opt at h
  cases e : x with
  | none => rw [e] at h; exact h.elim
  | some d => rw [e] at h; exact ⟨d, rfl, h⟩
theorem Cont.optE {R : Rl γ α} {Q : γ → Hp → Prop} {σ : Sg} {δ0 δ : Dst} {U0 : AS} {H0 : Hp} {x : Option α} (h : Cont r R Q σ δ0 U0 H0 (M.opt x δ)) : ∃ d, x = some d ∧ Cont r R Q σ δ0 U0 H0 (some (.ok d δ)) := by
  unfold M.opt at h
  cases e : x with
  | none => rw [e] at h; exact h.elim
  | some d => rw [e] at h; exact ⟨d, rfl, h⟩
end
abbrev RT : Rl Bool Bool := fun _ _ _ _ _ g a => g = a
abbrev RO (r : Ar) : Rl V Opd := OpdR r.c r.pn
abbrev ROs (r : Ar) : Rl (List V) (List Opd) := OpdRs r.c r.pn
theorem anti_RO {r : Ar} : Anti (RO r) := fun _ _ _ _ _ _ _ _ f h => OpdR.anti f h
theorem anti_ROs {r : Ar} : Anti (ROs r) := fun _ _ _ _ _ _ _ _ f h => OpdRs.anti f h
theorem anti_RT : Anti RT := fun _ _ _ _ _ _ _ _ _ h => h
/-- an expression's reading, a test's, an argument list's -/
def tE (r : Ar) (m : M Opd) : TE := fun σ H Q => tM r (RO r) m σ H Q
def tT (r : Ar) (m : M Bool) : TT := fun σ H Q => tM r RT m σ H Q
def tA (r : Ar) (m : M (List Opd)) : TA := fun σ H Q => tM r (ROs r) m σ H Q

theorem pe_mono {X : L2.Cx} {e : Expr} {t t' : TE} (h : PE X e t) (m : ∀ σ H Q, t' σ H Q → t σ H Q) : PE X e t' := ⟨fun pins s σ H Q I q => h.run pins s σ H Q I (m σ H Q q)⟩
theorem pt_mono {X : L2.Cx} {e : Expr} {t t' : TT} (h : PT X e t) (m : ∀ σ H Q, t' σ H Q → t σ H Q) : PT X e t' := ⟨fun pins s σ H Q I q => h.run pins s σ H Q I (m σ H Q q)⟩
theorem pw_mono {X : L2.Cx} {e : Expr} {t t' : TT} (h : PW X e t) (m : ∀ σ H Q, t' σ H Q → t σ H Q) : PW X e t' := ⟨fun wh pins s σ H Q I q => h.run wh pins s σ H Q I (m σ H Q q)⟩
theorem pa_mono {X : L2.Cx} {e : List Expr} {t t' : TA} (h : PA X e t) (m : ∀ σ H Q, t' σ H Q → t σ H Q) : PA X e t' := ⟨fun pos pins s σ H Q I q => h.run pos pins s σ H Q I (m σ H Q q)⟩
theorem ps_mono {X : L2.Cx} {e : Stmt} {t t' : TS} (h : PS X e t) (m : ∀ D σ H, t' D σ H → t D σ H) : PS X e t' := ⟨fun pins s σ H D I q => h.run pins s σ H D I (m D σ H q)⟩
theorem pss_mono {X : L2.Cx} {e : List Stmt} {t t' : TS} (h : PSs X e t) (m : ∀ D σ H, t' D σ H → t D σ H) : PSs X e t' := ⟨fun pins s σ H D I q => h.run pins s σ H D I (m D σ H q)⟩
theorem pg_mono {X : L2.Cx} {e : Expr} {t t' : TG} (h : PG X e t) (m : ∀ v σ H Q, t' v σ H Q → t v σ H Q) : PG X e t' := ⟨fun pins s σ H v u Q I rl q => h.run pins s σ H v u Q I rl (m v σ H Q q)⟩

/-! ### operations by values -/
/-- something new, or a value that was there -/
def NewR (c : RC) (U : AS) (H H' : Hp) (v : V) (o : Bool) (d : D) : Prop := if o then ∃ a, v = .ref a ∧ H a = none ∧ OwnC c (fun b => U b ∨ b = a) H' a d else Rep c U H' v d
/-- the state behind an operation that changes nothing that was there -/
theorem same_there {H H' : Hp} (s : Same H H') (a : Addr) (h : H a ≠ none) : H' a ≠ none := fun z => by
  cases e : H a with
  | none => exact h e
  | some o =>
    rw [s a o e] at z
    cases z
theorem same_fr {M U : AS} {H H' : Hp} (s : Same H H') : Fr' M U U H H' := ⟨fun a o h _ => s a o h, fun a xs h => s a _ h, fun a o u h => s a _ h, same_there s, fun _ h => Or.inl h, fun _ h _ => h⟩
theorem Abs.same {c : RC} {pn : Pn} {U : AS} {H H' : Hp} {σ : Sg} {δ : Dst} (A : Abs c pn U H σ δ) (s : Same H H') : Abs c pn U H' σ δ :=
  ⟨A.len, fun i d h => by
    obtain ⟨v, e, q⟩ := A.val i d h
    exact ⟨v, e, q.mono (M := fun _ => False) (same_fr s) fun _ z => z.elim⟩, fun i d h => by
    obtain ⟨a, e, u, q⟩ := A.own i d h
    exact ⟨a, e, u, q.keep (M := fun _ => False) (same_fr s) (fun _ z => z.elim) fun z => z⟩, A.dis, fun a u z => by
    have := A.trk a u
    exact (same_fr (M := U) (U := U) s).there a this z⟩
/-- a new thing is kept away from all others -/
theorem fr_new {M U : AS} {H H' : Hp} {a : Addr} (s : Same H H') (n : H a = none) : Fr' M U (fun b => U b ∨ b = a) H H' := ⟨fun b o h _ => s b o h, fun b xs h => s b _ h, fun b o u h => s b _ h, (same_fr (M := U) (U := U) s).there, fun b h => h.imp id fun e => by rw [e]; exact n, fun b h _ => .inl h⟩
theorem Abs.more {c : RC} {pn : Pn} {U : AS} {H H' : Hp} {σ : Sg} {δ : Dst} {a : Addr} (A : Abs c pn U H σ δ) (s : Same H H') (n : H a = none) (o : H' a ≠ none) :
    Abs c pn (fun b => U b ∨ b = a) H' σ δ ∧ ∀ i e, ¬ Has σ δ i a e := by
  have f : Fr' (fun _ => False) U (fun b => U b ∨ b = a) H H' := fr_new s n
  have nh : ∀ i e, ¬ Has σ δ i a e := fun i e ⟨h1, h2⟩ => by
    obtain ⟨b, e1, u, _⟩ := A.own i e h1
    rw [h2] at e1; cases e1
    exact A.trk a u n
  refine ⟨⟨A.len, fun i d h => ?_, fun i d h => ?_, A.dis, fun b h => ?_⟩, nh⟩
  · obtain ⟨v, e, q⟩ := A.val i d h
    exact ⟨v, e, q.mono f fun _ z => z.elim⟩
  · obtain ⟨b, e, u, q⟩ := A.own i d h
    exact ⟨b, e, .inl u, q.keep f (fun _ z => z.elim) fun z => z⟩
  · rcases h with h | h
    · exact f.there b (A.trk b h)
    · rw [h]; exact o
theorem stp_same {io : List Bool} {σ : Sg} {δ : Dst} {U : AS} {H H' : Hp} (s : Same H H') : StpE io σ δ U H δ U H' := ⟨⟨same_fr s, fun _ h => .inl h, fun _ _ => rfl, fun _ _ h => ⟨h, rfl⟩⟩, fun _ h => h, fun _ d h => ⟨d, h⟩⟩
theorem stp_new {io : List Bool} {σ : Sg} {δ : Dst} {U : AS} {H H' : Hp} {a : Addr} (s : Same H H') (n : H a = none) : StpE io σ δ U H δ (fun b => U b ∨ b = a) H' := ⟨⟨fr_new s n, fun _ h => .inl h, fun _ _ => rfl, fun _ _ h => ⟨h, rfl⟩⟩, fun _ h => h, fun _ d h => ⟨d, h⟩⟩
/-- an answer that is new, or was there, is an operand -/
theorem new_opd {c : RC} {pn : Pn} {io : List Bool} {H0 : Hp} {U : AS} {H H' : Hp} {σ : Sg} {δ : Dst} {v : V} {o : Bool} {d : D} (A : Abs c pn U H σ δ) (s : Same H H') (h0 : ∀ a, H a = none → H0 a = none) (h : NewR c U H H' v o d) :
    ∃ U', Abs c pn U' H' σ δ ∧ OpdR c pn H0 U' H' σ δ v (.t o d) ∧ StpE io σ δ U H δ U' H' := by
  cases o with
  | false => exact ⟨U, A.same s, Rep.e h, stp_same s⟩
  | true =>
    obtain ⟨a, e, n, w⟩ := h
    obtain ⟨A', nh⟩ := A.more s n w.at_
    exact ⟨_, A', ⟨a, e, h0 a n, .inr rfl, w, nh⟩, stp_new s n⟩
/-- the end of an operation by values -/
theorem Cont.new {r : Ar} {Q : V → Hp → Prop} {σ : Sg} {δ0 δ : Dst} {U0 U : AS} {H0 H H' : Hp} {v : V} {o : Bool} {d : D} {x : Option (Rs Opd)} (h : Cont r (RO r) Q σ δ0 U0 H0 x) (e : x = some (.ok (.t o d) δ)) (A0 : Abs r.c r.pn U0 H0 σ δ0) (A : Abs r.c r.pn U H σ δ)
    (st : StpE r.io σ δ0 U0 H0 δ U H) (s : Same H H') (n : NewR r.c U H H' v o d) : Q v H' := by
  obtain ⟨U', A', R', s'⟩ := new_opd (io := r.io) A s st.gone n
  exact h.ok e A' R' (st.trans s' A0.trk)
theorem Reps.same {c : RC} {U : AS} {H H' : Hp} {vs : List V} {ds : List D} (s : Same H H') (h : Reps c U H vs ds) : Reps c U H' vs ds := h.mono (M := fun _ => False) (same_fr s) fun _ z => z.elim
theorem Rep.same {c : RC} {U : AS} {H H' : Hp} {v : V} {d : D} (s : Same H H') (h : Rep c U H v d) : Rep c U H' v d := h.mono (M := fun _ => False) (same_fr s) fun _ z => z.elim
theorem same_upd {H : Hp} {a : Addr} {o : HO} (n : H a = none) : Same H (upd H a o) := fun b u e => by rw [upd_ne (ne_of_none e n)]; exact e
/-- a new list -/
theorem new_lst {c : RC} {U : AS} {H : Hp} {a : Addr} {vs : List V} {ds : List D} (n : H a = none) (h : Reps c U H vs ds) : NewR c U H (upd H a (.lst vs)) (.ref a) true (.lst ds) :=
  ⟨a, rfl, n, vs, upd_same, h.mono (M := fun _ => False) (fr_new (same_upd n) n) fun _ z => z.elim⟩
/-- a new tuple -/
theorem new_tup {c : RC} {U : AS} {H : Hp} {a : Addr} {vs : List V} {ds : List D} (n : H a = none) (h : Reps c U H vs ds) : NewR c U H (upd H a (.tup vs)) (.ref a) false (.tup ds) :=
  .tup (.inl (.inl upd_same)) (h.same (same_upd n))
end Ev

set_option Elab.async false
set_option linter.all false
set_option maxRecDepth 100000
set_option maxHeartbeats 2000000
/-! Part E: operations by data. -/
namespace Ev
open PySem L2 PyProof.Rows
section
variable {c : RC} {pn : Pn} {U : AS} {H : Hp} {v : V}
theorem RepR.int {i : Int} (h : RepR c pn U H v (.int i)) : v = .int i := by
  rcases h with h | ⟨a, _, _, o⟩
  · cases (show Rep c U H v (.int i) from h); rfl
  · exact o.elim
theorem RepR.bl {i : Bool} (h : RepR c pn U H v (.bl i)) : v = .bl i := by
  rcases h with h | ⟨a, _, _, o⟩
  · cases (show Rep c U H v (.bl i) from h); rfl
  · exact o.elim
theorem RepR.str {i : Str} (h : RepR c pn U H v (.str i)) : v = .str i := by
  rcases h with h | ⟨a, _, _, o⟩
  · cases (show Rep c U H v (.str i) from h); rfl
  · exact o.elim
theorem RepR.non (h : RepR c pn U H v .non) : v = .non := by
  rcases h with h | ⟨a, _, _, o⟩
  · cases (show Rep c U H v .non from h); rfl
  · exact o.elim
theorem RepR.fn {g : Nat} (h : RepR c pn U H v (.fn g)) : v = .ref (c.fa g) := by
  rcases h with h | ⟨a, _, _, o⟩
  · cases (show Rep c U H v (.fn g) from h); rfl
  · exact o.elim
theorem RepR.lst {ds : List D} (h : RepR c pn U H v (.lst ds)) : ∃ a vs, v = .ref a ∧ H a = some (.lst vs) ∧ Reps c U H vs ds := by
  rcases h with h | ⟨a, e, _, vs, h, r⟩
  · cases (show Rep c U H v (.lst ds) from h) with
    | lst e n r => exact ⟨_, _, rfl, e, r⟩
  · exact ⟨a, vs, e, h, r⟩
theorem RepR.tup {ds : List D} (h : RepR c pn U H v (.tup ds)) : ∃ a vs, v = .ref a ∧ SqT c.K H a vs ∧ Reps c U H vs ds := by
  rcases h with h | ⟨a, e, _, o⟩
  · cases (show Rep c U H v (.tup ds) from h) with
    | tup e r => exact ⟨_, _, rfl, e, r⟩
  · exact o.elim
theorem RepR.ro {ds : List D} (h : RepR c pn U H v (.ro ds)) : ∃ a vs, v = .ref a ∧ SqL c.K H a vs ∧ Reps c U H vs ds := by
  rcases h with h | ⟨a, e, _, o⟩
  · cases (show Rep c U H v (.ro ds) from h) with
    | ro e r => exact ⟨_, _, rfl, e.sq, r⟩
  · exact o.elim
theorem RepR.dct {ds : List (D × D)} (h : RepR c pn U H v (.dct ds)) : ∃ a vs, v = .ref a ∧ H a = some (.dK vs) ∧ KReps c U H vs ds := by
  rcases h with h | ⟨a, e, _, vs, h, r⟩
  · cases (show Rep c U H v (.dct ds) from h) with
    | dct e n r => exact ⟨_, _, rfl, e, r⟩
  · exact ⟨a, vs, e, h, r⟩
theorem RepR.exc {k : Nat} {f : D} (h : RepR c pn U H v (.exc k f)) : ExcAt c pn v k f := by
  rcases h with h | ⟨a, e, _, o⟩
  · exact h
  · exact o.elim
theorem lim_eq : lim = sizeLine := by rw [sizeLine_eq]; rfl
theorem Reps.flatten {c : RC} {U : AS} {H : Hp} {vs : List V} {ds : List D} (h : Reps c U H vs ds) : ∀ n : Nat, Reps c U H (List.replicate n vs).flatten (repL ds n)
  | 0 => .nil
  | n + 1 => by
    unfold repL
    rw [List.replicate_succ, List.flatten_cons, List.replicate_succ, List.flatten_cons]
    exact h.append (Reps.flatten h n)
theorem Reps.nil_iff {c : RC} {U : AS} {H : Hp} {vs : List V} {ds : List D} (h : Reps c U H vs ds) : vs = [] ↔ ds = [] := by
  constructor
  · intro e; subst e; cases h; rfl
  · intro e; subst e; cases h; rfl
end

/-- a two-place operation by data -/
def r2D (c : RC) (pn : Pn) (g : D → D → Option (Bool × D)) : R2 := fun x y H Q => ∃ U dx dy o d, RepR c pn U H x dx ∧ RepR c pn U H y dy ∧ g dx dy = some (o, d) ∧ ∀ v H', Same H H' → NewR c U H H' v o d → Q v H'

/-- tuple * int, longer ones -/
def rRepW (K : PySem.W.Frag) : R2 := fun x y H Q => ∃ l k xs, x = .ref l ∧ y = .int k ∧ SqT K H l xs ∧ xs ≠ [] ∧ 2 ≤ k ∧ k ≤ 10000 ∧ xs.length ≤ 100 ∧ ∀ p, H p = none → Q (.ref p) (upd H p (.tup (List.replicate k.toNat xs).flatten))
section
variable {X : L2.Cx} {c : RC} {pn : Pn}
theorem add_ok (hK : X.K = c.K) : OpR X (binaryOp .Add) (r2D c pn addD) := by
  rintro pins s σ H x y v u Q I rx ry ⟨U, dx, dy, o, d, hx, hy, hg, k⟩
  unfold addD at hg
  split at hg
  · cases hg
    obtain rfl := hx.int
    obtain rfl := hy.int
    exact op_add pins s σ H _ _ v u Q I rx ry ⟨_, _, rfl, rfl, k _ _ (Same.refl H) (Rep.int _)⟩
  · cases hg
    obtain rfl := hx.int
    obtain rfl := hy.bl
    rename_i i b
    refine op_add_ib pins s σ H _ _ v u Q I rx ry ⟨_, _, rfl, rfl, ?_⟩
    cases b
    · exact k _ _ (Same.refl H) (Rep.int _)
    · exact k _ _ (Same.refl H) (Rep.int _)
  · split at hg
    · cases hg
      rename_i hz
      obtain rfl := hx.str
      obtain rfl := hy.str
      rw [lim_eq] at hz
      exact op_add_str pins s σ H _ _ v u Q I rx ry ⟨_, _, rfl, rfl, hz, k _ _ (Same.refl H) (Rep.str _)⟩
    · cases hg
  · split at hg
    · cases hg
      rename_i hz
      obtain ⟨a, vs, rfl, ha, ra⟩ := hx.lst
      obtain ⟨b, ws, rfl, hb, rb⟩ := hy.lst
      rw [lim_eq, ← ra.length, ← rb.length] at hz
      exact op_cat pins s σ H _ _ v u Q I rx ry ⟨a, b, vs, ws, rfl, rfl, ha, hb, hz, fun p np => k _ _ (same_upd np) (new_lst np (ra.append rb))⟩
    · cases hg
  · split at hg
    · cases hg
      rename_i hz
      obtain ⟨a, vs, rfl, ha, ra⟩ := hx.tup
      obtain ⟨b, ws, rfl, hb, rb⟩ := hy.tup
      rw [lim_eq, ← ra.length, ← rb.length] at hz
      refine op_catA pins s σ H _ _ v u Q I rx ry ⟨a, b, vs, ws, rfl, rfl, hK ▸ ha, hK ▸ hb, hz, fun e => ?_, fun _ e => ?_, fun _ _ p np => k _ _ (same_upd np) (new_tup np (ra.append rb))⟩
      · subst e
        cases ra
        exact k _ _ (Same.refl H) (Rep.tup hb rb)
      · subst e
        cases rb
        rw [List.append_nil] at k
        exact k _ _ (Same.refl H) (Rep.tup ha ra)
    · cases hg
  · cases hg
theorem sub_ok : OpR X (binaryOp .Sub) (r2D c pn subD) := by
  rintro pins s σ H x y v u Q I rx ry ⟨U, dx, dy, o, d, hx, hy, hg, k⟩
  unfold subD at hg
  split at hg
  · cases hg
    obtain rfl := hx.int
    obtain rfl := hy.int
    exact op_sub pins s σ H _ _ v u Q I rx ry ⟨_, _, rfl, rfl, k _ _ (Same.refl H) (Rep.int _)⟩
  · cases hg
theorem op_repW : OpR X (binaryOp .Mult) (rRepW X.K) := by
  rintro pins s σ H x y v u Q I rx ry ⟨l, k, xs, rfl, rfl, hT, hne, h1, h2, hz, q⟩
  cases rx
  obtain ⟨t, rfl⟩ := ry
  obtain ⟨its, r, ⟨⟨cls, dd, data, sl⟩, ho, hc, n, hd⟩, _⟩ := I.tuple hT
  dsimp only at hc hd
  subst hc hd
  have len : its.length = xs.length := r.length.symm
  have pos : 0 < its.length := by
    rw [len]
    exact List.length_pos_iff.mpr hne
  have size : its.toArray.size = its.length := List.size_toArray
  have emp : its.toArray.isEmpty = false := by
    rw [Array.isEmpty_eq_false_iff]
    intro z
    rw [z] at size
    simp at size
    omega
  have most : k.toNat * its.length ≤ 1000000 := Nat.le_trans (Nat.mul_le_mul (show k.toNat ≤ 10000 by omega) (show its.length ≤ 100 by omega)) (by decide)
  have mostI : ((its.toArray.size : Nat) : Int) * k ≤ 1000000 := by
    have e : ((its.toArray.size : Nat) : Int) * k = ((k.toNat * its.length : Nat) : Int) := by
      rw [size, Int.natCast_mul, Int.mul_comm, Int.toNat_of_nonneg (by omega)]
    rw [e]
    omega
  have flat : (List.replicate k.toNat its).flatten.length ≤ sizeLine := by
    rw [PyProof.Rows.lm_len_rep_flat, sizeLine_eq]
    omega
  have b0 : (decide (k < -(2 ^ 63)) || decide (k ≥ 2 ^ 63)) = false := by
    simp only [Bool.or_eq_false_iff, decide_eq_false_iff_not]
    omega
  have b1 : (its.toArray.isEmpty || k == 1) = false := by
    simp only [emp, Bool.false_or, beq_eq_false_iff_ne]
    omega
  have b2 : (decide (k ≤ 0) || its.toArray.isEmpty) = false := by
    simp only [emp, Bool.or_false, decide_eq_false_iff_not]
    omega
  have b4 : Builtin.Tuple.tupleTooMany (((its.toArray.size : Nat) : Int) * k) = false := by
    simp only [Builtin.Tuple.tupleTooMany, sizeLine_eq, decide_eq_false_iff_not]
    omega
  have inner := tuple_mulW l its.toArray n dd sl k t b0 b1 b2 (by omega) b4 (by rw [size_rep, List.size_toArray]; exact flat)
  have outer := int_rmul_tuple k t l its.toArray n dd sl
  refine wpAny_binaryOp_repeat_ref (T := "tuple") (U := "int") (by decide) ⟨_, ho, rfl⟩ (fun s' => typeIs_int s' k t) noFill_tuple_mul
    F.fills_int_mul F.slot_int_rmul repeat_tuple F.slot_int_index.lookup ?_
  refine call_meets F.slot_int_rmul (typeIs_int s k t) F.entry_int_rmul (F.args_int_rmul_2 _ _) outer ⟨ho, rfl, ⟨_, ho, rfl⟩, ?_⟩
  refine call_meets F.slot_tuple_mul ⟨_, ho, rfl⟩ F.entry_tuple_mul (F.args_tuple_mul_2 _ _) inner ⟨ho, ?_⟩
  rw [size_rep]
  have fresh : H s.heap.objs.size = none := I.hok.fresh (Nat.le_refl _)
  refine ⟨.ref s.heap.objs.size, _, I.laid (t' := s.toks) (o := .tup (List.replicate k.toNat xs).flatten) (fun b ob e => Heap.get?_push_of_some _ e) (Nat.le_refl _) ⟨?_, ?_⟩, rfl, q _ fresh⟩
  · rw [PyProof.Rows.lm_len_rep_flat, sizeLine_eq, ← len]
    omega
  · exact ⟨_, r.rep k.toNat, IsTup.new _ _⟩
theorem mul_ok (hK : X.K = c.K) : OpR X (binaryOp .Mult) (r2D c pn mulD) := by
  rintro pins s σ H x y v u Q I rx ry ⟨U, dx, dy, o, d, hx, hy, hg, k⟩
  unfold mulD at hg
  split at hg
  · split at hg
    · cases hg
      rename_i i j hm
      obtain rfl := hx.int
      obtain rfl := hy.int
      have k1 := k _ _ (Same.refl H) (Rep.int (i * j))
      unfold mulOk sml at hm
      simp only [Bool.or_eq_true, Bool.and_eq_true, decide_eq_true_eq] at hm
      rcases hm with hm | hm
      · exact op_mul pins s σ H _ _ v u Q I rx ry ⟨_, _, rfl, rfl, hm, k1⟩
      · exact op_mulW pins s σ H _ _ v u Q I rx ry ⟨_, _, rfl, rfl, hm, k1⟩
    · cases hg
  · split at hg
    · cases hg
      rename_i hz
      simp only [Bool.and_eq_true, decide_eq_true_eq] at hz
      obtain ⟨a, vs, rfl, ha, ra⟩ := hx.lst
      obtain rfl := hy.int
      obtain ⟨⟨h1, h2⟩, h3⟩ := hz
      rw [lim_eq, ← ra.length] at h1
      exact op_rep pins s σ H _ _ v u Q I rx ry ⟨a, _, vs, rfl, rfl, ha, h3, h2, h1, fun p np => k _ _ (same_upd np) (new_lst np (ra.flatten _))⟩
    · cases hg
  · split at hg
    · cases hg
      rename_i hz
      simp only [Bool.and_eq_true, decide_eq_true_eq] at hz
      obtain ⟨a, vs, rfl, ha, ra⟩ := hx.tup
      obtain rfl := hy.int
      obtain ⟨⟨⟨h1, h2⟩, h3⟩, h4⟩ := hz
      rw [← ra.length] at h1 h2
      exact op_repW pins s σ H _ _ v u Q I rx ry ⟨a, _, vs, rfl, rfl, hK ▸ ha, fun e => (by rw [e] at h2; exact absurd h2 (by decide)), by omega, h3, h1, fun p np => k _ _ (same_upd np) (new_tup np (ra.flatten _))⟩
    · cases hg
  · cases hg
theorem intop {f : Operator} {g : D → D → Option (Bool × D)} {C : Int → Int → Prop} {w : Int → Int → Int} (rule : OpR X (binaryOp f) (rI C fun i j => .int (w i j)))
    (hg : ∀ dx dy o d, g dx dy = some (o, d) → ∃ i j, dx = .int i ∧ dy = .int j ∧ C i j ∧ o = false ∧ d = .int (w i j)) : OpR X (binaryOp f) (r2D c pn g) := by
  rintro pins s σ H x y v u Q I rx ry ⟨U, dx, dy, o, d, hx, hy, e, k⟩
  obtain ⟨i, j, rfl, rfl, hc, rfl, rfl⟩ := hg _ _ _ _ e
  obtain rfl := hx.int
  obtain rfl := hy.int
  exact rule pins s σ H _ _ v u Q I rx ry ⟨_, _, rfl, rfl, hc, k _ _ (Same.refl H) (Rep.int _)⟩
theorem intop0 {f : Operator} {g : D → D → Option (Bool × D)} {w : Int → Int → Int} (rule : OpR X (binaryOp f) (rI0 fun i j => .int (w i j)))
    (hg : ∀ dx dy o d, g dx dy = some (o, d) → ∃ i j, dx = .int i ∧ dy = .int j ∧ o = false ∧ d = .int (w i j)) : OpR X (binaryOp f) (r2D c pn g) := by
  rintro pins s σ H x y v u Q I rx ry ⟨U, dx, dy, o, d, hx, hy, e, k⟩
  obtain ⟨i, j, rfl, rfl, rfl, rfl⟩ := hg _ _ _ _ e
  obtain rfl := hx.int
  obtain rfl := hy.int
  exact rule pins s σ H _ _ v u Q I rx ry ⟨_, _, rfl, rfl, k _ _ (Same.refl H) (Rep.int _)⟩
theorem fdiv_ok : OpR X (binaryOp .FloorDiv) (r2D c pn fdivD) := by
  have z : OpR X (binaryOp .FloorDiv) (rI (fun i j => CDiv i j ∨ CDivW i j) fun i j => .int (i / j)) := by
    rintro pins s σ H x y v u Q I rx ry ⟨i, j, e1, e2, hc, q⟩
    rcases hc with hc | hc
    · exact op_fdiv pins s σ H x y v u Q I rx ry ⟨i, j, e1, e2, hc, q⟩
    · exact op_fdivW pins s σ H x y v u Q I rx ry ⟨i, j, e1, e2, hc, q⟩
  refine intop z fun dx dy o d e => ?_
  unfold fdivD at e
  split at e
  · split at e
    · cases e
      rename_i hm
      unfold divOk at hm
      simp only [Bool.or_eq_true, Bool.and_eq_true, decide_eq_true_eq] at hm
      exact ⟨_, _, rfl, rfl, hm.2.imp (fun q => ⟨hm.1, q⟩) fun q => ⟨hm.1, q⟩, rfl, rfl⟩
    · cases e
  · cases e
theorem mod_ok : OpR X (binaryOp .Mod) (r2D c pn modD) := by
  refine intop op_mod fun dx dy o d e => ?_
  unfold modD at e
  split at e
  · split at e
    · cases e
      rename_i hm
      exact ⟨_, _, rfl, rfl, of_decide_eq_true hm, rfl, rfl⟩
    · cases e
  · cases e
theorem shOk_pow {i j : Int} (h : shOk i j = true) : CPow i j := by
  unfold shOk at h
  simp only [Bool.and_eq_true, decide_eq_true_eq] at h
  exact ⟨h.1.1, h.1.2, h.2⟩
theorem pow_ok : OpR X (binaryOp .Pow) (r2D c pn powD) := by
  refine intop op_pow fun dx dy o d e => ?_
  unfold powD at e
  split at e
  · split at e
    · cases e
      rename_i hm
      exact ⟨_, _, rfl, rfl, shOk_pow hm, rfl, rfl⟩
    · cases e
  · cases e
theorem shl_ok : OpR X (binaryOp .LShift) (r2D c pn shlD) := by
  refine intop op_shl fun dx dy o d e => ?_
  unfold shlD at e
  split at e
  · split at e
    · cases e
      rename_i hm
      exact ⟨_, _, rfl, rfl, shOk_pow hm, rfl, rfl⟩
    · cases e
  · cases e
theorem shr_ok : OpR X (binaryOp .RShift) (r2D c pn shrD) := by
  refine intop op_shr fun dx dy o d e => ?_
  unfold shrD at e
  split at e
  · split at e
    · cases e
      rename_i hm
      exact ⟨_, _, rfl, rfl, of_decide_eq_true hm, rfl, rfl⟩
    · cases e
  · cases e
theorem and_ok : OpR X (binaryOp .BitAnd) (r2D c pn andD) := by
  refine intop0 op_and fun dx dy o d e => ?_
  unfold andD at e
  split at e
  · cases e; exact ⟨_, _, rfl, rfl, rfl, rfl⟩
  · cases e
theorem or_ok : OpR X (binaryOp .BitOr) (r2D c pn orD) := by
  refine intop0 op_or fun dx dy o d e => ?_
  unfold orD at e
  split at e
  · cases e; exact ⟨_, _, rfl, rfl, rfl, rfl⟩
  · cases e
theorem xor_ok : OpR X (binaryOp .BitXor) (r2D c pn xorD) := by
  refine intop0 op_xor fun dx dy o d e => ?_
  unfold xorD at e
  split at e
  · cases e; exact ⟨_, _, rfl, rfl, rfl, rfl⟩
  · cases e
theorem none_ok {f : Value → Value → Sem Value} : OpR X f (r2D c pn fun _ _ => none) := by
  rintro pins s σ H x y v u Q I rx ry ⟨U, dx, dy, o, d, hx, hy, e, k⟩
  cases e
theorem bin_ok (hK : X.K = c.K) : ∀ op : Operator, OpR X (binaryOp op) (r2D c pn (binD op))
  | .Add => add_ok hK
  | .Sub => sub_ok
  | .Mult => mul_ok hK
  | .FloorDiv => fdiv_ok
  | .Mod => mod_ok
  | .Pow => pow_ok
  | .LShift => shl_ok
  | .RShift => shr_ok
  | .BitAnd => and_ok
  | .BitOr => or_ok
  | .BitXor => xor_ok
  | .Div => none_ok
  | .MatMult => none_ok
end
end Ev

set_option Elab.async false
set_option linter.all false
set_option maxRecDepth 100000
set_option maxHeartbeats 2000000
/-! Part F: comparisons, truth, places, slices by data. -/
namespace Ev
open PySem L2 PyProof.Rows
section
variable {X : L2.Cx} {c : RC} {pn : Pn}
/-! ### one place -/
theorem un_ok (op : UnaryOp) : UnR X (unaryOp op) (fun x H Q => ∃ U dx d, RepR c pn U H x dx ∧ unD op dx = some d ∧ ∀ v, Rep c U H v d → Q v H) := by
  rintro pins s σ H x v Q I rx ⟨U, dx, d, hx, hg, k⟩
  unfold unD at hg
  split at hg
  · cases hg
    obtain rfl := hx.int
    exact un_neg pins s σ H _ v Q I rx ⟨_, rfl, k _ (Rep.int _)⟩
  · cases hg
    obtain rfl := hx.int
    exact un_inv pins s σ H _ v Q I rx ⟨_, rfl, k _ (Rep.int _)⟩
  · cases hg
/-- truth -/
theorem tru_V {U : AS} {H : Hp} {v : V} {d : D} {k : Bool} (h : RepR c pn U H v d) (e : truD d = some k) : TruV c.K v H k := by
  unfold truD at e
  split at e
  · cases e
    obtain rfl := h.non
    exact rfl
  · cases e
    obtain rfl := h.bl
    exact rfl
  · cases e
    obtain rfl := h.int
    exact rfl
  · split at e
    · cases e
      rename_i hz
      obtain rfl := h.str
      rw [lim_eq] at hz
      exact ⟨hz, rfl⟩
    · cases e
  · cases e
    obtain ⟨a, vs, rfl, ha, ra⟩ := h.lst
    refine .inl ⟨vs, .inl (.inl ha), ?_⟩
    cases ra <;> rfl
  · cases e
    obtain ⟨a, vs, rfl, ha, ra⟩ := h.tup
    refine .inr (.inl ⟨vs, ha, ?_⟩)
    cases ra <;> rfl
  · cases e

/-! ### two compared -/
mutual
theorem Rep.dp {U : AS} {H : Hp} : ∀ {v : V} {d : D} {p : PyData}, Rep c U H v d → toP d = some p → Dp c.K H v p
  | _, _, _, .non, e => by cases e; exact .non
  | _, _, _, .bl b, e => by cases e; exact .bl b
  | _, _, _, .int i, e => by cases e; exact .int i
  | _, _, _, .str s, e => by cases e; exact .str s
  | _, _, _, .tup (ds := ds) h r, e => by
    unfold toP at e
    split at e
    · rename_i ps hp
      cases e
      exact .tup h (Reps.dp r hp)
    · cases e
  | _, _, _, .lst (ds := ds) h n r, e => by
    unfold toP at e
    split at e
    · rename_i ps hp
      cases e
      exact .lst (.inl (.inl h)) (Reps.dp r hp)
    · cases e
  | _, _, _, .ro h r, e => by cases e
  | _, _, _, .dct h n r, e => by cases e
  | _, _, _, .fn g, e => by cases e
  | _, _, _, .cls g, e => by cases e
  | _, _, _, .ty g, e => by cases e
theorem Reps.dp {U : AS} {H : Hp} : ∀ {vs : List V} {ds : List D} {ps : List PyData}, Reps c U H vs ds → toPs ds = some ps → DpAll c.K H vs ps
  | _, _, _, .nil, e => by cases e; exact .nil
  | _, _, _, .cons h r, e => by
    unfold toPs at e
    split at e
    · rename_i d ds h1 h2
      cases e
      exact .cons (Rep.dp h h1) (Reps.dp r h2)
    · cases e
end
theorem RepR.dp {U : AS} {H : Hp} {v : V} {d : D} {p : PyData} (h : RepR c pn U H v d) (e : toP d = some p) : Dp c.K H v p := by
  rcases h with h | ⟨a, rfl, _, o⟩
  · exact (h.rep (by cases d <;> first | rfl | cases e)).dp e
  · cases d with
    | lst ds =>
      obtain ⟨vs, ha, ra⟩ := o
      unfold toP at e
      split at e
      · rename_i ps hp
        cases e
        exact .lst (.inl (.inl ha)) (ra.dp hp)
      · cases e
    | _ => first | exact o.elim | cases e
/-- a comparison by data -/
def rcD (c : RC) (pn : Pn) (g : D → D → Option Bool) : R2 := fun x y H Q => ∃ U dx dy k, RepR c pn U H x dx ∧ RepR c pn U H y dy ∧ g dx dy = some k ∧ Q (.bl k) H
theorem eq_gen {f : Value → Value → Sem Value} {w : Bool → Bool} (h1 : OpR X f fun x y H Q => scal x y = true ∧ Q (.bl (w (decide (x = y)))) H)
    (h2 : OpR X f fun x y H Q => ∃ d e, Dp X.K H x d ∧ Dp X.K H y e ∧ SeqAt.shaped d = true ∧ SeqAt.shaped e = true ∧ Q (.bl (w (PyData.eqv d e))) H) (hK : X.K = c.K) : OpR X f (rcD c pn fun x y => (eqD x y).map w) := by
  rintro pins s σ H x y v u Q I rx ry ⟨U, dx, dy, k, hx, hy, hg, q⟩
  obtain ⟨b, hb, rfl⟩ := Option.map_eq_some_iff.mp hg
  unfold eqD at hb
  split at hb
  · cases hb
    obtain rfl := hx.int
    obtain rfl := hy.int
    exact h1 pins s σ H _ _ v u Q I rx ry ⟨rfl, by simpa using q⟩
  · cases hb
    obtain rfl := hx.bl
    obtain rfl := hy.bl
    exact h1 pins s σ H _ _ v u Q I rx ry ⟨rfl, by simpa using q⟩
  · cases hb
    obtain rfl := hx.str
    obtain rfl := hy.str
    exact h1 pins s σ H _ _ v u Q I rx ry ⟨rfl, by simpa using q⟩
  · cases hb
    obtain rfl := hx.non
    obtain rfl := hy.non
    exact h1 pins s σ H _ _ v u Q I rx ry ⟨rfl, by simpa using q⟩
  · split at hb
    · rename_i p e hp he
      split at hb
      · rename_i hs
        cases hb
        rw [Bool.and_eq_true] at hs
        exact h2 pins s σ H _ _ v u Q I rx ry ⟨p, e, hK ▸ hx.dp hp, hK ▸ hy.dp he, hs.1, hs.2, q⟩
      · cases hb
    · cases hb
theorem flat_V {U : AS} {H : Hp} {v : V} {d : D} (h : RepR c pn U H v d) (f : flatD d = true) : flatV v = true ∧ ∀ {w : V} {e : D} {U' : AS}, RepR c pn U' H w e → flatD e = true → eqV v w = eqF d e := by
  cases d <;> first | cases f | skip
  all_goals
    first
      | obtain rfl := h.non
      | obtain rfl := h.bl
      | obtain rfl := h.int
      | obtain rfl := h.str
    refine ⟨rfl, fun {w e U'} h' f' => ?_⟩
    cases e <;> first | cases f' | skip
    all_goals
      first
        | (obtain rfl := h'.non; rfl)
        | (obtain rfl := h'.bl; rfl)
        | (obtain rfl := h'.int; rfl)
        | (obtain rfl := h'.str; rfl)
theorem flats_V {U : AS} {H : Hp} {x : V} {dx : D} (hx : RepR c pn U H x dx) (fx : flatD dx = true) : ∀ {vs : List V} {ds : List D}, Reps c U H vs ds → ds.all flatD = true → vs.all flatV = true ∧ inV x vs = ds.any fun y => eqF y dx
  | _, _, .nil, _ => ⟨rfl, rfl⟩
  | _, _, .cons h r, f => by
    rw [List.all_cons, Bool.and_eq_true] at f
    obtain ⟨h1, h2⟩ := flats_V hx fx r f.2
    obtain ⟨h3, h4⟩ := flat_V (pn := pn) (.inl h.e) f.1
    refine ⟨by rw [List.all_cons, h3, h1]; rfl, ?_⟩
    show (eqV _ x || inV x _) = _
    rw [h4 hx fx, h2]; rfl
theorem in_gen {f : Value → Value → Sem Value} {neg : Bool} (h : OpR X f (rIn X.K neg)) (hK : X.K = c.K) : OpR X f (fun x y H Q => ∃ U dx ys k, RepR c pn U H x dx ∧ (RepR c pn U H y (.tup ys) ∨ RepR c pn U H y (.lst ys)) ∧ inD dx ys = some k ∧ Q (.bl (if neg then !k else k)) H) := by
  rintro pins s σ H x y v u Q I rx ry ⟨U, dx, ys, k, hx, hy, hg, q⟩
  unfold inD at hg
  split at hg
  · rename_i hf
    cases hg
    rw [Bool.and_eq_true] at hf
    rcases hy with hy | hy
    · obtain ⟨a, vs, rfl, ha, ra⟩ := hy.tup
      obtain ⟨h1, h2⟩ := flats_V hx hf.1 ra hf.2
      exact h pins s σ H _ _ v u Q I rx ry ⟨a, vs, rfl, .inr (hK ▸ ha), (flat_V hx hf.1).1, h1, by rw [h2]; exact q⟩
    · obtain ⟨a, vs, rfl, ha, ra⟩ := hy.lst
      obtain ⟨h1, h2⟩ := flats_V hx hf.1 ra hf.2
      exact h pins s σ H _ _ v u Q I rx ry ⟨a, vs, rfl, .inl (.inl (.inl ha)), (flat_V hx hf.1).1, h1, by rw [h2]; exact q⟩
  · cases hg
/-- keys -/
theorem key_of {U : AS} {H : Hp} {v : V} {d : D} (h : RepR c pn U H v d) (k : keyD d = true) : ∃ q : Key, v = kV q ∧ d = kD q := by
  cases d <;> first | cases k | skip
  · obtain rfl := h.int
    exact ⟨.inl _, rfl, rfl⟩
  · obtain rfl := h.str
    exact ⟨.inr _, rfl, rfl⟩
theorem eqK_kD (p q : Key) : eqK (kD p) (kD q) = decide (p = q) := by
  cases p <;> cases q <;> simp [eqK, kD]
theorem getK_kD {U : AS} {H : Hp} (q : Key) : ∀ {kvs : List (Key × V)} {ds : List (D × D)}, KReps c U H kvs ds → (valV kvs q = none ∧ getK ds (kD q) = none) ∨ ∃ v d, valV kvs q = some v ∧ getK ds (kD q) = some d ∧ Rep c U H v d
  | _, _, .nil => .inl ⟨rfl, rfl⟩
  | _, _, .cons (k := k) (v := v) (d := d) h r => by
    have ih := getK_kD q r
    unfold valV getK at ih ⊢
    rw [List.find?_cons, List.find?_cons]
    dsimp only
    rw [eqK_kD]
    cases decide (k = q) with
    | true => exact .inr ⟨v, d, rfl, rfl, h⟩
    | false => exact ih
theorem in_dct (hu : X.A.units + 1 < cLine) : OpR X (compareOp .In) (fun x y H Q => ∃ U dx kvs, RepR c pn U H x dx ∧ RepR c pn U H y (.dct kvs) ∧ keyD dx = true ∧ Q (.bl (getK kvs dx).isSome) H) := by
  rintro pins s σ H x y v u Q I rx ry ⟨U, dx, kvs, hx, hy, hk, q⟩
  obtain ⟨k, rfl, rfl⟩ := key_of hx hk
  obtain ⟨a, vs, rfl, ha, ra⟩ := hy.dct
  cases ry
  refine d_in hu I (DGet.k ha) rx fun s' I' => ⟨.bl _, H, I', rfl, ?_⟩
  rcases getK_kD k ra with ⟨e1, e2⟩ | ⟨v', d', e1, e2, _⟩
  · rw [e1]; rw [e2] at q; exact q
  · rw [e1]; rw [e2] at q; exact q
theorem notIn_dct (hu : X.A.units + 1 < cLine) : OpR X (compareOp .NotIn) (fun x y H Q => ∃ U dx kvs, RepR c pn U H x dx ∧ RepR c pn U H y (.dct kvs) ∧ keyD dx = true ∧ Q (.bl (!(getK kvs dx).isSome)) H) := by
  rintro pins s σ H x y v u Q I rx ry ⟨U, dx, kvs, hx, hy, hk, q⟩
  obtain ⟨k, rfl, rfl⟩ := key_of hx hk
  obtain ⟨a, vs, rfl, ha, ra⟩ := hy.dct
  cases ry
  refine d_notIn hu I (DGet.k ha) rx fun s' I' => ⟨.bl _, H, I', rfl, ?_⟩
  rcases getK_kD k ra with ⟨e1, e2⟩ | ⟨v', d', e1, e2, _⟩
  · rw [e1]; rw [e2] at q; exact q
  · rw [e1]; rw [e2] at q; exact q
theorem op_isB {X : L2.Cx} : OpR X (compareOp .Is) (fun x y H Q => ∃ a b, x = .bl a ∧ y = .bl b ∧ Q (.bl (decide (a = b))) H) := by
  intro pins s σ H x y v u Q I rx ry h
  obtain ⟨a, b, rfl, rfl, q⟩ := h
  cases rx; cases ry
  show wpAny _ _ ((isSame (Value.bool a) (Value.bool b)) >>= fun z => pure (Value.bool z)) _ _ s
  exact wpAny_bind (wpAny_isSame_plain (by rfl) (wpAny_pure (fin_bl I q (by cases a <;> cases b <;> rfl))))
theorem op_notB {X : L2.Cx} : OpR X (compareOp .IsNot) (fun x y H Q => ∃ a b, x = .bl a ∧ y = .bl b ∧ Q (.bl (!decide (a = b))) H) := by
  intro pins s σ H x y v u Q I rx ry h
  obtain ⟨a, b, rfl, rfl, q⟩ := h
  cases rx; cases ry
  show wpAny _ _ ((isSame (Value.bool a) (Value.bool b)) >>= fun z => pure (Value.bool (!z))) _ _ s
  exact wpAny_bind (wpAny_isSame_plain (by rfl) (wpAny_pure (fin_bl I q (by cases a <;> cases b <;> rfl))))
theorem is_non {U : AS} {H : Hp} {v : V} {d : D} (h : RepR c pn U H v d) : decide (v = .non) = isNon d := by
  rcases h with h | ⟨a, rfl, _, o⟩
  · cases d with
    | exc k f =>
      obtain ⟨a, oe, rfl, _⟩ := h
      rfl
    | _ => cases h <;> rfl
  · cases d <;> first | exact o.elim | rfl
theorem cmpI {f : CmpOp} {g : Int → Int → Bool} (rule : OpR X (compareOp f) (rI0 fun i j => .bl (g i j))) (hg : ∀ dx dy k, cmpD f dx dy = some k → ∃ i j, dx = .int i ∧ dy = .int j ∧ k = g i j) : OpR X (compareOp f) (rcD c pn (cmpD f)) := by
  rintro pins s σ H x y v u Q I rx ry ⟨U, dx, dy, k, hx, hy, e, q⟩
  obtain ⟨i, j, rfl, rfl, rfl⟩ := hg _ _ _ e
  obtain rfl := hx.int
  obtain rfl := hy.int
  exact rule pins s σ H _ _ v u Q I rx ry ⟨_, _, rfl, rfl, q⟩
theorem inL_in {x : D} {ys : List D} {k : Bool} (h : inL x ys = some k) : inD x ys = some k ∨ ∃ d ds, toP x = some d ∧ toPs ys = some ds ∧ SeqAt.shaped d = true ∧ SeqAt.shaped (.list ds) = true ∧ k = ds.any fun z => PyData.eqv z d := by
  unfold inL at h
  unfold inD
  split at h
  · rename_i hf
    rw [if_pos hf]
    exact .inl h
  · right
    split at h
    · rename_i d ds e1 e2
      split at h
      · rename_i hs
        rw [Bool.and_eq_true] at hs
        cases h
        exact ⟨d, ds, e1, e2, hs.1, hs.2, rfl⟩
      · cases h
    · cases h
theorem cmp_ok (hK : X.K = c.K) (hu : X.A.units + 65 < cLine) : ∀ op : CmpOp, OpR X (compareOp op) (rcD c pn (cmpD op))
  | .Eq => by
    have z := eq_gen (c := c) (pn := pn) (w := id) op_eq (op_eqD (by omega)) hK
    rintro pins s σ H x y v u Q I rx ry ⟨U, dx, dy, k, hx, hy, hg, q⟩
    exact z pins s σ H x y v u Q I rx ry ⟨U, dx, dy, k, hx, hy, by rw [Option.map_id]; exact hg, q⟩
  | .NotEq => eq_gen (w := (!·)) op_ne (op_neD (by omega)) hK
  | .Lt => cmpI op_lt fun dx dy k e => by
    cases dx <;> cases dy <;> first | (cases e; exact ⟨_, _, rfl, rfl, rfl⟩) | cases e
  | .LtE => cmpI op_le fun dx dy k e => by
    cases dx <;> cases dy <;> first | (cases e; exact ⟨_, _, rfl, rfl, rfl⟩) | cases e
  | .Gt => cmpI op_gt fun dx dy k e => by
    cases dx <;> cases dy <;> first | (cases e; exact ⟨_, _, rfl, rfl, rfl⟩) | cases e
  | .GtE => cmpI op_ge fun dx dy k e => by
    cases dx <;> cases dy <;> first | (cases e; exact ⟨_, _, rfl, rfl, rfl⟩) | cases e
  | .Is => by
    rintro pins s σ H x y v u Q I rx ry ⟨U, dx, dy, k, hx, hy, hg, q⟩
    cases dy <;> first | (cases dx <;> cases hg; done) | skip
    · obtain rfl := hy.non
      have e : some (isNon dx) = some k := by cases dx <;> exact hg
      cases e
      exact op_isN pins s σ H _ _ v u Q I rx ry ⟨rfl, by rw [is_non hx]; exact q⟩
    · cases dx <;> first | (cases hg; done) | skip
      obtain rfl := hy.bl
      obtain rfl := hx.bl
      cases hg
      exact op_isB pins s σ H _ _ v u Q I rx ry ⟨_, _, rfl, rfl, q⟩
  | .IsNot => by
    rintro pins s σ H x y v u Q I rx ry ⟨U, dx, dy, k, hx, hy, hg, q⟩
    cases dy <;> first | (cases dx <;> cases hg; done) | skip
    · obtain rfl := hy.non
      have e : some (!isNon dx) = some k := by cases dx <;> exact hg
      cases e
      exact op_notN pins s σ H _ _ v u Q I rx ry ⟨rfl, by rw [is_non hx]; exact q⟩
    · cases dx <;> first | (cases hg; done) | skip
      obtain rfl := hy.bl
      obtain rfl := hx.bl
      cases hg
      exact op_notB pins s σ H _ _ v u Q I rx ry ⟨_, _, rfl, rfl, q⟩
  | .In => by
    rintro pins s σ H x y v u Q I rx ry ⟨U, dx, dy, k, hx, hy, hg, q⟩
    cases dy <;> first | (cases dx <;> cases hg; done) | skip
    · rename_i ys
      have e : inD dx ys = some k := by cases dx <;> exact hg
      exact in_gen (neg := false) op_in_seq hK pins s σ H x y v u Q I rx ry ⟨U, dx, _, k, hx, .inl hy, e, q⟩
    · rename_i ys
      have e : inL dx ys = some k := by cases dx <;> exact hg
      rcases inL_in e with e | ⟨d, ds, e1, e2, e3, e4, e5⟩
      · exact in_gen (neg := false) op_in_seq hK pins s σ H x y v u Q I rx ry ⟨U, dx, _, k, hx, .inr hy, e, q⟩
      · subst e5
        exact op_inD hu pins s σ H x y v u Q I rx ry ⟨d, ds, hK ▸ hx.dp e1, hK ▸ hy.dp (p := .list ds) (by rw [toP, e2]), e3, e4, q⟩
    · rename_i kvs
      have e : (if keyD dx then some (getK kvs dx).isSome else none) = some k := by cases dx <;> exact hg
      split at e
      · rename_i hk
        cases e
        exact in_dct (by omega) pins s σ H x y v u Q I rx ry ⟨U, dx, kvs, hx, hy, hk, q⟩
      · cases e
  | .NotIn => by
    rintro pins s σ H x y v u Q I rx ry ⟨U, dx, dy, k, hx, hy, hg, q⟩
    cases dy <;> first | (cases dx <;> cases hg; done) | skip
    · rename_i ys
      have e : (inD dx ys).map (!·) = some k := by cases dx <;> exact hg
      obtain ⟨b, e2, rfl⟩ := Option.map_eq_some_iff.mp e
      exact in_gen (neg := true) op_notIn_seq hK pins s σ H x y v u Q I rx ry ⟨U, dx, _, b, hx, .inl hy, e2, q⟩
    · rename_i ys
      have e : (inL dx ys).map (!·) = some k := by cases dx <;> exact hg
      obtain ⟨b, e0, rfl⟩ := Option.map_eq_some_iff.mp e
      rcases inL_in e0 with e | ⟨d, ds, e1, e2, e3, e4, e5⟩
      · exact in_gen (neg := true) op_notIn_seq hK pins s σ H x y v u Q I rx ry ⟨U, dx, _, b, hx, .inr hy, e, q⟩
      · subst e5
        exact op_notInD hu pins s σ H x y v u Q I rx ry ⟨d, ds, hK ▸ hx.dp e1, hK ▸ hy.dp (p := .list ds) (by rw [toP, e2]), e3, e4, q⟩
    · rename_i kvs
      have e : (if keyD dx then some (!(getK kvs dx).isSome) else none) = some k := by cases dx <;> exact hg
      split at e
      · rename_i hk
        cases e
        exact notIn_dct (by omega) pins s σ H x y v u Q I rx ry ⟨U, dx, kvs, hx, hy, hk, q⟩
      · cases e

/-! ### places, slices -/
theorem atI_of {U : AS} {H : Hp} {vs : List V} {ds : List D} {i : Int} {d : D} (r : Reps c U H vs ds) (e : ((L2.ixN ds.length i).bind fun k => ds[k]?) = some d) : ∃ v, atI vs i = some v ∧ Rep c U H v d := by
  unfold atI
  rw [r.length]
  obtain ⟨k, hk, e⟩ := Option.bind_eq_some_iff.mp e
  obtain ⟨v, e1, e2⟩ := r.get e
  exact ⟨v, by rw [hk]; exact e1, e2⟩
theorem ix_dct (hu : X.A.units + 1 < cLine) : IxR X (fun x y H Q => ∃ U dx kvs d, RepR c pn U H y dx ∧ RepR c pn U H x (.dct kvs) ∧ keyD dx = true ∧ getK kvs dx = some d ∧ ∀ v, Rep c U H v d → Q v H) := by
  rintro value slice pins s σ H x y v u Q I rx ry ⟨U, dx, kvs, d, hx, hy, hk, hd, q⟩ hs
  obtain ⟨k, rfl, rfl⟩ := key_of hx hk
  obtain ⟨a, vs, rfl, ha, ra⟩ := hy.dct
  cases rx
  rcases getK_kD k ra with ⟨e1, e2⟩ | ⟨v', d', e1, e2, rp⟩
  · rw [hd] at e2; cases e2
  · rw [hd] at e2; cases e2
    have g := DGet.k (k := k) ha
    rw [e1] at g
    exact tail_any (dict_typeIs I g) PySem.F.slot_dict_getitem.lookup (d_getItem hu I g ry fun w' s3 I3 rw' => ⟨v', H, I3, rw', q v' rp⟩) hs
theorem subs_ok (hK : X.K = c.K) (hu : X.A.units + 1 < cLine) : IxR X (fun x y H Q => ∃ U dx dy d, RepR c pn U H x dx ∧ RepR c pn U H y dy ∧ subsD dx dy = some d ∧ ∀ v, Rep c U H v d → Q v H) := by
  rintro value slice pins s σ H x y v u Q I rx ry ⟨U, dx, dy, d, hx, hy, hg, k⟩ hs
  unfold subsD at hg
  split at hg
  · obtain rfl := hy.int
    obtain ⟨a, vs, rfl, ha, ra⟩ := hx.lst
    obtain ⟨w, e, r⟩ := atI_of ra hg
    exact ix_list value slice pins s σ H _ _ v u Q I rx ry ⟨a, vs, _, w, rfl, rfl, .inl (.inl ha), e, k w r⟩ hs
  · obtain rfl := hy.int
    obtain ⟨a, vs, rfl, ha, ra⟩ := hx.ro
    obtain ⟨w, e, r⟩ := atI_of ra hg
    exact ix_list value slice pins s σ H _ _ v u Q I rx ry ⟨a, vs, _, w, rfl, rfl, hK ▸ ha, e, k w r⟩ hs
  · obtain rfl := hy.int
    obtain ⟨a, vs, rfl, ha, ra⟩ := hx.tup
    obtain ⟨w, e, r⟩ := atI_of ra hg
    exact ix_tup value slice pins s σ H _ _ v u Q I rx ry ⟨a, vs, _, w, rfl, rfl, hK ▸ ha, e, k w r⟩ hs
  · split at hg
    · rename_i hz
      obtain rfl := hy.int
      obtain rfl := hx.str
      rw [lim_eq] at hz
      obtain ⟨j, hj, e1⟩ := Option.bind_eq_some_iff.mp hg
      obtain ⟨w, e2, rfl⟩ := Option.map_eq_some_iff.mp e1
      refine ix_str value slice pins s σ H _ _ v u Q I rx ry ⟨_, _, w, rfl, rfl, hz, ?_, k _ (Rep.str _)⟩ hs
      unfold atI
      rw [hj]
      exact e2
    · cases hg
  · split at hg
    · rename_i hk
      exact ix_dct hu value slice pins s σ H x y v u Q I rx ry ⟨U, dy, _, d, hy, hx, hk, hg, k⟩ hs
    · cases hg
  · cases hg
theorem Reps.cut {U : AS} {H : Hp} {vs : List V} {ds : List D} (h : Reps c U H vs ds) (lo hi : Option Int) : Reps c U H (cutV vs lo hi) (cutL ds lo hi) := by
  unfold cutV cutL
  rw [h.length]
  exact (h.drop _).take _
theorem slc_ok (hK : X.K = c.K) : SlR X (fun x lo hi H Q => ∃ U dx o d, RepR c pn U H x dx ∧ slcD dx lo hi = some (o, d) ∧ ∀ v H', Same H H' → NewR c U H H' v o d → Q v H') := by
  rintro pins s σ H x v vl vu lo hi sl Q I rx hs pl pu ⟨U, dx, o, d, hx, hg, k⟩
  unfold slcD at hg
  split at hg
  · cases hg
    obtain ⟨a, vs, rfl, ha, ra⟩ := hx.lst
    exact sl_list pins s σ H _ v vl vu lo hi sl Q I rx hs pl pu ⟨a, vs, rfl, .inl (.inl ha), fun p np => k _ _ (same_upd np) (new_lst np (ra.cut lo hi))⟩
  · cases hg
    obtain ⟨a, vs, rfl, ha, ra⟩ := hx.tup
    refine sl_tupA pins s σ H _ v vl vu lo hi sl Q I rx hs pl pu ⟨a, vs, rfl, hK ▸ ha, fun e => k _ _ (Same.refl H) (Rep.tup ha ?_), fun _ p np => k _ _ (same_upd np) (new_tup np (ra.cut lo hi))⟩
    have e2 := ra.cut lo hi
    have e3 : cutV vs lo hi = vs := by
      unfold cutV
      rw [e.1, e.2]
      simp
    rw [e3] at e2
    exact e2
  · cases hg
end
end Ev

set_option Elab.async false
set_option linter.all false
set_option maxRecDepth 100000
set_option maxHeartbeats 2000000
/-! Part G: built-in functions and methods by data. -/
namespace Ev
open PySem L2 PyProof.Rows
inductive RepRs (c : RC) (pn : Pn) (U : AS) (H : Hp) : List V → List D → Prop
  | nil : RepRs c pn U H [] []
  | cons {v : V} {d : D} {vs : List V} {ds : List D} : RepR c pn U H v d → RepRs c pn U H vs ds → RepRs c pn U H (v :: vs) (d :: ds)
def rlD (c : RC) (pn : Pn) (g : List D → Option (Bool × D)) : List V → Hp → VK → Prop := fun xs H Q => ∃ U ds o d, RepRs c pn U H xs ds ∧ g ds = some (o, d) ∧ ∀ v H', Same H H' → NewR c U H H' v o d → Q v H'
section
variable {X : L2.Cx} {c : RC} {pn : Pn} {U : AS} {H : Hp}
theorem ints_V : ∀ {vs : List V} {ds : List D} {ns : List Int}, Reps c U H vs ds → intsOf ds = some ns → vs = ns.map V.int
  | _, _, _, .nil, e => by cases e; rfl
  | _, _, _, .cons (d := d) h r, e => by
    cases d <;> first | (cases e; done) | skip
    unfold intsOf at e
    obtain ⟨ms, e1, rfl⟩ := Option.map_eq_some_iff.mp e
    cases h
    rw [ints_V r e1]; rfl
theorem bls_V : ∀ {vs : List V} {ds : List D} {ns : List Bool}, Reps c U H vs ds → blsOf ds = some ns → vs = ns.map V.bl
  | _, _, _, .nil, e => by cases e; rfl
  | _, _, _, .cons (d := d) h r, e => by
    cases d <;> first | (cases e; done) | skip
    unfold blsOf at e
    obtain ⟨ms, e1, rfl⟩ := Option.map_eq_some_iff.mp e
    cases h
    rw [bls_V r e1]; rfl
theorem reps_ints : ∀ ns : List Int, Reps c U H (ns.map V.int) (ns.map D.int)
  | [] => .nil
  | n :: r => .cons (.int n) (reps_ints r)
theorem maxL_is : ∀ {ns : List Int} {m : Int}, m ∈ ns → (∀ y ∈ ns, y ≤ m) → maxL ns = some m
  | [], _, h, _ => by simp at h
  | [x], m, h, _ => by
    have e : m = x := by simpa using h
    subst e; rfl
  | x :: y :: r, m, h, hm => by
    show (maxL (y :: r)).map _ = _
    by_cases hr : m ∈ y :: r
    · rw [maxL_is hr fun z hz => hm z (List.mem_cons_of_mem _ hz)]
      have := hm x List.mem_cons_self
      simp only [Option.map_some]
      by_cases e : m > x
      · rw [if_pos e]
      · rw [if_neg e]
        have : x = m := by omega
        rw [this]
    · have e : m = x := by
        rcases List.mem_cons.mp h with e | e
        · exact e
        · exact absurd e hr
      subst e
      have all : ∀ (l : List Int) (hne : l ≠ []), (∀ z ∈ l, z ≤ m) → ∃ k, maxL l = some k ∧ k ≤ m := by
        intro l
        induction l with
        | nil => intro hne; exact absurd rfl hne
        | cons a l ih =>
          intro _ ha
          cases l with
          | nil => exact ⟨a, rfl, ha a (by simp)⟩
          | cons b l =>
            obtain ⟨k, e1, e2⟩ := ih (by simp) fun z hz => ha z (List.mem_cons_of_mem _ hz)
            refine ⟨if k > a then k else a, ?_, ?_⟩
            · show (maxL (b :: l)).map _ = _
              rw [e1]; rfl
            · have := ha a (by simp)
              split <;> omega
      obtain ⟨k, e1, e2⟩ := all (y :: r) (by simp) fun z hz => hm z (List.mem_cons_of_mem _ hz)
      rw [e1]
      simp only [Option.map_some]
      rw [if_neg (by omega)]
theorem minL_is : ∀ {ns : List Int} {m : Int}, m ∈ ns → (∀ y ∈ ns, m ≤ y) → minL ns = some m
  | [], _, h, _ => by simp at h
  | [x], m, h, _ => by
    have e : m = x := by simpa using h
    subst e; rfl
  | x :: y :: r, m, h, hm => by
    show (minL (y :: r)).map _ = _
    by_cases hr : m ∈ y :: r
    · rw [minL_is hr fun z hz => hm z (List.mem_cons_of_mem _ hz)]
      have := hm x List.mem_cons_self
      simp only [Option.map_some]
      by_cases e : m < x
      · rw [if_pos e]
      · rw [if_neg e]
        have : x = m := by omega
        rw [this]
    · have e : m = x := by
        rcases List.mem_cons.mp h with e | e
        · exact e
        · exact absurd e hr
      subst e
      have all : ∀ (l : List Int) (hne : l ≠ []), (∀ z ∈ l, m ≤ z) → ∃ k, minL l = some k ∧ m ≤ k := by
        intro l
        induction l with
        | nil => intro hne; exact absurd rfl hne
        | cons a l ih =>
          intro _ ha
          cases l with
          | nil => exact ⟨a, rfl, ha a (by simp)⟩
          | cons b l =>
            obtain ⟨k, e1, e2⟩ := ih (by simp) fun z hz => ha z (List.mem_cons_of_mem _ hz)
            refine ⟨if k < a then k else a, ?_, ?_⟩
            · show (minL (b :: l)).map _ = _
              rw [e1]; rfl
            · have := ha a (by simp)
              split <;> omega
      obtain ⟨k, e1, e2⟩ := all (y :: r) (by simp) fun z hz => hm z (List.mem_cons_of_mem _ hz)
      rw [e1]
      simp only [Option.map_some]
      rw [if_neg (by omega)]
theorem sortI_is {ns ms : List Int} (hp : ms.Perm ns) (hs : ms.Pairwise (· ≤ ·)) : ms = sortI ns := by
  unfold sortI
  refine PySem.W.ksm_same (hp.trans (List.mergeSort_perm ns _).symm) hs ?_
  have h := List.pairwise_mergeSort (le := fun a b : Int => decide (a ≤ b)) (fun a b c h1 h2 => by simp at h1 h2 ⊢; omega) (fun a b => by simp; omega) ns
  exact h.imp fun h => by simpa using h
theorem ne_of_max {ns : List Int} {m : Int} (h : maxL ns = some m) : 0 < ns.length := by
  cases ns with
  | nil => cases h
  | cons _ _ => simp
theorem ne_of_min {ns : List Int} {m : Int} (h : minL ns = some m) : 0 < ns.length := by
  cases ns with
  | nil => cases h
  | cons _ _ => simp

theorem hasDict_toP : (∀ (d : D) (p : PyData), toP d = some p → p.hasDict = false) := by
  intro d
  exact D.rec (motive_1 := fun d => ∀ p, toP d = some p → p.hasDict = false) (motive_2 := fun ds => ∀ ps, toPs ds = some ps → PyData.hasDictAll ps = false) (motive_3 := fun _ => True) (motive_4 := fun _ => True)
    (by intro p e; cases e; rfl) (by intro b p e; cases e; rfl) (by intro i p e; cases e; rfl) (by intro i p e; cases e; rfl)
    (by
      intro xs ih p e
      unfold toP at e
      split at e
      · rename_i ps hp
        cases e
        exact ih ps hp
      · cases e)
    (by
      intro xs ih p e
      unfold toP at e
      split at e
      · rename_i ps hp
        cases e
        exact ih ps hp
      · cases e)
    (by intro xs _ p e; cases e) (by intro xs _ p e; cases e) (by intro g p e; cases e) (by intro g p e; cases e) (by intro k f _ p e; cases e) (by intro n p e; cases e)
    (by intro ps e; cases e; rfl)
    (by
      intro x xs h1 h2 ps e
      unfold toPs at e
      split at e
      · rename_i d ds e1 e2
        cases e
        show (d.hasDict || PyData.hasDictAll ds) = false
        rw [h1 d e1, h2 ds e2]; rfl
      · cases e)
    trivial (by intros; trivial) (by intros; trivial) d

/-! ### max and min of a tuple -/
section
variable {prog : Program} {w : World} {A : Around} {E : Value → Shared → Prop} {s : Shared} {l : Addr} {its : List Value} {ns : List Int}
theorem int_at (hi : IntsAre its ns) {i : Nat} {v : Value} (e : its.toArray[i]? = some v) : ∃ t, v = .int (ns.getD i 0) t := by
  have e1 : its[i]? = some v := by simpa using e
  clear e
  induction hi generalizing i with
  | nil => simp at e1
  | cons n t h ih =>
    cases i with
    | zero =>
      simp at e1
      exact ⟨t, by rw [← e1]; rfl⟩
    | succ j =>
      obtain ⟨u, hu⟩ := ih (i := j) (by simpa using e1)
      exact ⟨u, by rw [hu]; rfl⟩
theorem getD_in {ns : List Int} {i : Nat} (h : i < ns.length) : ns.getD i 0 ∈ ns := by
  rw [List.getD_eq_getElem?_getD, List.getElem?_eq_getElem h]
  exact List.getElem_mem h
theorem max_tupT {Q : Value → Shared → Prop} (hh : A.handled = none) (ht : s.heap.IsTuple l its.toArray) (hi : IntsAre its ns) (hne : 0 < ns.length)
    (h : ∀ h' tk M t', (∀ b o, s.heap.get? b = some o → h'.get? b = some o) → M ∈ ns → (∀ a, a ∈ ns → a ≤ M) → Q (.int M t') { s with heap := h', toks := tk }) : wpAny (model prog w) A (call (.builtin "max") [.ref l]) Q E s := by
  have hl : l < s.heap.objs.size := by obtain ⟨_, e, _⟩ := ht; exact Heap.lt_size e
  have len : its.length = ns.length := hi.length
  refine call_max_walk (wpAny_pyIter_tuple ht ?_)
  refine ⟨_, _, _, _, _, _, fun i j => decide (ns.getD i 0 > ns.getD j 0), rfl, Walks.tuple (A := A.in1) hh s.heap.objs.size l (Nat.ne_of_lt hl) its.toArray, ⟨⟨_, Heap.get?_push_size _ rfl, rfl, rfl⟩, ht.push _⟩, fun b hb => ?_, (by rw [List.size_toArray, len]; exact hne), CmpOf.ints_gt (fun i => ns.getD i 0) fun i v e => int_at hi e, fun v h' tk hP hk => ?_⟩
  · show b < (s.heap.push _).objs.size
    rw [Heap.size_push]
    simp at hb
    rcases hb with rfl | rfl
    · exact Nat.lt_succ_self _
    · exact Nat.lt_succ_of_lt hl
  · obtain ⟨t, rfl⟩ := int_at hi hP
    obtain ⟨h1, h2⟩ := argBest_gt (fun i => ns.getD i 0) (its.toArray.size - 1)
    have sz : its.toArray.size = ns.length := by simp [len]
    refine h h' tk _ t (fun b o e => hk b o (fun hm => ?_) (Heap.get?_push_of_some _ e)) (getD_in (by omega)) fun a ha => ?_
    · simp at hm
      exact absurd (hm ▸ Heap.lt_size e) (Nat.lt_irrefl _)
    · obtain ⟨j, hj, rfl⟩ := mem_getD ha
      exact h2 j (by omega)
theorem min_tupT {Q : Value → Shared → Prop} (hh : A.handled = none) (ht : s.heap.IsTuple l its.toArray) (hi : IntsAre its ns) (hne : 0 < ns.length)
    (h : ∀ h' tk M t', (∀ b o, s.heap.get? b = some o → h'.get? b = some o) → M ∈ ns → (∀ a, a ∈ ns → M ≤ a) → Q (.int M t') { s with heap := h', toks := tk }) : wpAny (model prog w) A (call (.builtin "min") [.ref l]) Q E s := by
  have hl : l < s.heap.objs.size := by obtain ⟨_, e, _⟩ := ht; exact Heap.lt_size e
  have len : its.length = ns.length := hi.length
  refine call_min_walk (wpAny_pyIter_tuple ht ?_)
  refine ⟨_, _, _, _, _, _, fun i j => decide (ns.getD i 0 < ns.getD j 0), rfl, Walks.tuple (A := A.in1) hh s.heap.objs.size l (Nat.ne_of_lt hl) its.toArray, ⟨⟨_, Heap.get?_push_size _ rfl, rfl, rfl⟩, ht.push _⟩, fun b hb => ?_, (by rw [List.size_toArray, len]; exact hne), CmpOf.ints_lt (fun i => ns.getD i 0) fun i v e => int_at hi e, fun v h' tk hP hk => ?_⟩
  · show b < (s.heap.push _).objs.size
    rw [Heap.size_push]
    simp at hb
    rcases hb with rfl | rfl
    · exact Nat.lt_succ_self _
    · exact Nat.lt_succ_of_lt hl
  · obtain ⟨t, rfl⟩ := int_at hi hP
    obtain ⟨h1, h2⟩ := argBest_lt (fun i => ns.getD i 0) (its.toArray.size - 1)
    have sz : its.toArray.size = ns.length := by simp [len]
    refine h h' tk _ t (fun b o e => hk b o (fun hm => ?_) (Heap.get?_push_of_some _ e)) (getD_in (by omega)) fun a ha => ?_
    · simp at hm
      exact absurd (hm ▸ Heap.lt_size e) (Nat.lt_irrefl _)
    · obtain ⟨j, hj, rfl⟩ := mem_getD ha
      exact h2 j (by omega)
end
theorem cr_maxT (hc : X.calm = true) : CallR X (.builtin "max") (fun vs H Q => ∃ (a : Addr) (ns : List Int), vs = [V.ref a] ∧ SqT X.K H a (ns.map V.int) ∧ 0 < ns.length ∧ ∀ m, m ∈ ns → (∀ y, y ∈ ns → y ≤ m) → Q (.int m) H) := by
  rintro pins s σ H vs us Q I r ⟨a, ns, rfl, hs, hne, q⟩
  obtain ⟨its, rv, ht, _⟩ := I.tuple hs
  rw [Vals.ref1 r]
  exact max_tupT (I.ok.hd hc) ht rv.ints hne fun h' tk m t' hk h1 h2 => ⟨.int _, H, I.kept hk, ⟨_, rfl⟩, q m h1 h2⟩
theorem cr_minT (hc : X.calm = true) : CallR X (.builtin "min") (fun vs H Q => ∃ (a : Addr) (ns : List Int), vs = [V.ref a] ∧ SqT X.K H a (ns.map V.int) ∧ 0 < ns.length ∧ ∀ m, m ∈ ns → (∀ y, y ∈ ns → m ≤ y) → Q (.int m) H) := by
  rintro pins s σ H vs us Q I r ⟨a, ns, rfl, hs, hne, q⟩
  obtain ⟨its, rv, ht, _⟩ := I.tuple hs
  rw [Vals.ref1 r]
  exact min_tupT (I.ok.hd hc) ht rv.ints hne fun h' tk m t' hk h1 h2 => ⟨.int _, H, I.kept hk, ⟨_, rfl⟩, q m h1 h2⟩

/-! ### one built-in after the other -/
theorem rep1 {xs : List V} {d : D} (h : RepRs c pn U H xs [d]) : ∃ v, xs = [v] ∧ RepR c pn U H v d := by
  cases h with
  | cons h1 h2 => cases h2; exact ⟨_, rfl, h1⟩
theorem rep2 {xs : List V} {d e : D} (h : RepRs c pn U H xs [d, e]) : ∃ v w, xs = [v, w] ∧ RepR c pn U H v d ∧ RepR c pn U H w e := by
  cases h with
  | cons h1 h2 =>
    cases h2 with
    | cons h2 h3 => cases h3; exact ⟨_, _, rfl, h1, h2⟩
theorem len_ok (hK : X.K = c.K) : CallR X (.builtin "len") (rlD c pn (biD .len)) := by
  rintro pins s σ H xs us Q I r ⟨U, ds, o, d, hr, hg, k⟩
  match ds, hg with
  | [.lst ys], hg =>
    cases hg
    obtain ⟨v, rfl, h⟩ := rep1 hr
    obtain ⟨a, vs, rfl, ha, ra⟩ := h.lst
    refine call_len pins s σ H _ us Q I r ⟨_, vs.length, rfl, .inl ⟨vs, .inl (.inl ha), rfl⟩, ?_⟩
    rw [ra.length]
    exact k _ _ (Same.refl H) (Rep.int _)
  | [.ro ys], hg =>
    cases hg
    obtain ⟨v, rfl, h⟩ := rep1 hr
    obtain ⟨a, vs, rfl, ha, ra⟩ := h.ro
    refine call_len pins s σ H _ us Q I r ⟨_, vs.length, rfl, .inl ⟨vs, hK ▸ ha, rfl⟩, ?_⟩
    rw [ra.length]
    exact k _ _ (Same.refl H) (Rep.int _)
  | [.tup ys], hg =>
    cases hg
    obtain ⟨v, rfl, h⟩ := rep1 hr
    obtain ⟨a, vs, rfl, ha, ra⟩ := h.tup
    refine call_len pins s σ H _ us Q I r ⟨_, vs.length, rfl, .inr ⟨vs, hK ▸ ha, rfl⟩, ?_⟩
    rw [ra.length]
    exact k _ _ (Same.refl H) (Rep.int _)
  | [.str z], hg =>
    obtain ⟨v, rfl, h⟩ := rep1 hr
    obtain rfl := h.str
    have hg' : (if z.length ≤ lim then some (false, D.int z.length) else none) = some (o, d) := hg
    split at hg'
    · rename_i hz
      cases hg'
      rw [lim_eq] at hz
      exact call_len pins s σ H _ us Q I r ⟨_, z.length, rfl, ⟨hz, rfl⟩, k _ _ (Same.refl H) (Rep.int _)⟩
    · cases hg'
  | [.dct ys], hg =>
    cases hg
    obtain ⟨v, rfl, h⟩ := rep1 hr
    obtain ⟨a, vs, rfl, ha, ra⟩ := h.dct
    have e : vs.length = ys.length := ra.length
    refine call_lenD pins s σ H _ us Q I r ⟨a, vs, rfl, ha, ?_⟩
    rw [e]
    exact k _ _ (Same.refl H) (Rep.int _)
theorem sum_ok (hc : X.calm = true) : CallR X (.builtin "sum") (rlD c pn (biD .sum)) := by
  rintro pins s σ H xs us Q I r ⟨U, ds, o, d, hr, hg, k⟩
  match ds, hg with
  | [.lst ys], hg =>
    obtain ⟨ns, e, q⟩ := Option.map_eq_some_iff.mp (show (intsOf ys).map _ = some (o, d) from hg)
    cases q
    obtain ⟨v, rfl, h⟩ := rep1 hr
    obtain ⟨a, vs, rfl, ha, ra⟩ := h.lst
    rw [ints_V ra e] at ha
    exact cr_sum hc pins s σ H _ us Q I r ⟨a, ns, rfl, .inl (.inl ha), k _ _ (Same.refl H) (Rep.int _)⟩
theorem all_ok (hc : X.calm = true) : CallR X (.builtin "all") (rlD c pn (biD .all)) := by
  rintro pins s σ H xs us Q I r ⟨U, ds, o, d, hr, hg, k⟩
  match ds, hg with
  | [.lst ys], hg =>
    obtain ⟨ns, e, q⟩ := Option.map_eq_some_iff.mp (show (blsOf ys).map _ = some (o, d) from hg)
    cases q
    obtain ⟨v, rfl, h⟩ := rep1 hr
    obtain ⟨a, vs, rfl, ha, ra⟩ := h.lst
    rw [bls_V ra e] at ha
    exact cr_all hc pins s σ H _ us Q I r ⟨a, ns, rfl, .inl (.inl ha), k _ _ (Same.refl H) (Rep.bl _)⟩
theorem any_ok (hc : X.calm = true) : CallR X (.builtin "any") (rlD c pn (biD .any)) := by
  rintro pins s σ H xs us Q I r ⟨U, ds, o, d, hr, hg, k⟩
  match ds, hg with
  | [.lst ys], hg =>
    obtain ⟨ns, e, q⟩ := Option.map_eq_some_iff.mp (show (blsOf ys).map _ = some (o, d) from hg)
    cases q
    obtain ⟨v, rfl, h⟩ := rep1 hr
    obtain ⟨a, vs, rfl, ha, ra⟩ := h.lst
    rw [bls_V ra e] at ha
    exact cr_any hc pins s σ H _ us Q I r ⟨a, ns, rfl, .inl (.inl ha), k _ _ (Same.refl H) (Rep.bl _)⟩
theorem max_ok (hc : X.calm = true) (hK : X.K = c.K) : CallR X (.builtin "max") (rlD c pn (biD .max)) := by
  rintro pins s σ H xs us Q I r ⟨U, ds, o, d, hr, hg, k⟩
  match ds, hg with
  | [.lst ys], hg =>
    obtain ⟨ns, e, q⟩ := Option.bind_eq_some_iff.mp (show (intsOf ys).bind _ = some (o, d) from hg)
    obtain ⟨m, em, q⟩ := Option.map_eq_some_iff.mp q
    cases q
    obtain ⟨v, rfl, h⟩ := rep1 hr
    obtain ⟨a, vs, rfl, ha, ra⟩ := h.lst
    rw [ints_V ra e] at ha
    refine cr_max hc pins s σ H _ us Q I r ⟨a, ns, rfl, .inl (.inl ha), ne_of_max em, fun m' h1 h2 => ?_⟩
    have := maxL_is h1 h2
    rw [em] at this
    cases this
    exact k _ _ (Same.refl H) (Rep.int _)
  | [.tup ys], hg =>
    obtain ⟨ns, e, q⟩ := Option.bind_eq_some_iff.mp (show (intsOf ys).bind _ = some (o, d) from hg)
    obtain ⟨m, em, q⟩ := Option.map_eq_some_iff.mp q
    cases q
    obtain ⟨v, rfl, h⟩ := rep1 hr
    obtain ⟨a, vs, rfl, ha, ra⟩ := h.tup
    rw [ints_V ra e] at ha
    refine cr_maxT hc pins s σ H _ us Q I r ⟨a, ns, rfl, hK ▸ ha, ne_of_max em, fun m' h1 h2 => ?_⟩
    have := maxL_is h1 h2
    rw [em] at this
    cases this
    exact k _ _ (Same.refl H) (Rep.int _)
  | [.int i, .int j], hg =>
    cases hg
    obtain ⟨v, w, rfl, h1, h2⟩ := rep2 hr
    obtain rfl := h1.int
    obtain rfl := h2.int
    exact call_max2 hc pins s σ H _ us Q I r ⟨i, j, rfl, k _ _ (Same.refl H) (Rep.int _)⟩
theorem min_ok (hc : X.calm = true) (hK : X.K = c.K) : CallR X (.builtin "min") (rlD c pn (biD .min)) := by
  rintro pins s σ H xs us Q I r ⟨U, ds, o, d, hr, hg, k⟩
  match ds, hg with
  | [.lst ys], hg =>
    obtain ⟨ns, e, q⟩ := Option.bind_eq_some_iff.mp (show (intsOf ys).bind _ = some (o, d) from hg)
    obtain ⟨m, em, q⟩ := Option.map_eq_some_iff.mp q
    cases q
    obtain ⟨v, rfl, h⟩ := rep1 hr
    obtain ⟨a, vs, rfl, ha, ra⟩ := h.lst
    rw [ints_V ra e] at ha
    refine cr_min hc pins s σ H _ us Q I r ⟨a, ns, rfl, .inl (.inl ha), ne_of_min em, fun m' h1 h2 => ?_⟩
    have := minL_is h1 h2
    rw [em] at this
    cases this
    exact k _ _ (Same.refl H) (Rep.int _)
  | [.tup ys], hg =>
    obtain ⟨ns, e, q⟩ := Option.bind_eq_some_iff.mp (show (intsOf ys).bind _ = some (o, d) from hg)
    obtain ⟨m, em, q⟩ := Option.map_eq_some_iff.mp q
    cases q
    obtain ⟨v, rfl, h⟩ := rep1 hr
    obtain ⟨a, vs, rfl, ha, ra⟩ := h.tup
    rw [ints_V ra e] at ha
    refine cr_minT hc pins s σ H _ us Q I r ⟨a, ns, rfl, hK ▸ ha, ne_of_min em, fun m' h1 h2 => ?_⟩
    have := minL_is h1 h2
    rw [em] at this
    cases this
    exact k _ _ (Same.refl H) (Rep.int _)
  | [.int i, .int j], hg =>
    cases hg
    obtain ⟨v, w, rfl, h1, h2⟩ := rep2 hr
    obtain rfl := h1.int
    obtain rfl := h2.int
    exact call_min2 hc pins s σ H _ us Q I r ⟨i, j, rfl, k _ _ (Same.refl H) (Rep.int _)⟩
theorem abs_ok : CallR X (.builtin "abs") (rlD c pn (biD .abs)) := by
  rintro pins s σ H xs us Q I r ⟨U, ds, o, d, hr, hg, k⟩
  match ds, hg with
  | [.int i], hg =>
    cases hg
    obtain ⟨v, rfl, h⟩ := rep1 hr
    obtain rfl := h.int
    exact call_abs pins s σ H _ us Q I r ⟨i, rfl, k _ _ (Same.refl H) (Rep.int _)⟩
theorem int_ok : CallR X (.type "int") (rlD c pn (biD .int)) := by
  rintro pins s σ H xs us Q I r ⟨U, ds, o, d, hr, hg, k⟩
  match ds, hg with
  | [.int i], hg =>
    cases hg
    obtain ⟨v, rfl, h⟩ := rep1 hr
    obtain rfl := h.int
    exact call_int1 pins s σ H _ us Q I r (.inl ⟨i, rfl, k _ _ (Same.refl H) (Rep.int _)⟩)
  | [.bl b], hg =>
    cases hg
    obtain ⟨v, rfl, h⟩ := rep1 hr
    obtain rfl := h.bl
    exact call_int1 pins s σ H _ us Q I r (.inr ⟨b, rfl, k _ _ (Same.refl H) (Rep.int _)⟩)
theorem bool_ok : CallR X (.type "bool") (rlD c pn (biD .bool)) := by
  rintro pins s σ H xs us Q I r ⟨U, ds, o, d, hr, hg, k⟩
  match ds, hg with
  | [.int i], hg =>
    cases hg
    obtain ⟨v, rfl, h⟩ := rep1 hr
    obtain rfl := h.int
    exact call_bool1 pins s σ H _ us Q I r (.inl ⟨i, rfl, k _ _ (Same.refl H) (Rep.bl _)⟩)
  | [.bl b], hg =>
    cases hg
    obtain ⟨v, rfl, h⟩ := rep1 hr
    obtain rfl := h.bl
    exact call_bool1 pins s σ H _ us Q I r (.inr ⟨b, rfl, k _ _ (Same.refl H) (Rep.bl _)⟩)
theorem repr_ok (hK : X.K = c.K) (hgd : X.A.guards = some []) (hu : X.A.units + 70 < cLine) : CallR X (.builtin "repr") (rlD c pn (biD .repr)) := by
  rintro pins s σ H xs us Q I r ⟨U, ds, o, d, hr, hg, k⟩
  match ds, hg with
  | [x], hg =>
    have hg' : (match toP x with | some d => if d.showable && decide (d.depth ≤ 64) && decide (d.shown.length ≤ lim) then some (false, D.str d.shown) else none | none => none) = some (o, d) := hg
    split at hg'
    · rename_i p hp
      split at hg'
      · rename_i hs
        cases hg'
        simp only [Bool.and_eq_true, decide_eq_true_eq] at hs
        obtain ⟨⟨h1, h2⟩, h3⟩ := hs
        rw [lim_eq] at h3
        obtain ⟨v, rfl, h⟩ := rep1 hr
        obtain ⟨u, rfl, ru⟩ := vals1 r
        obtain ⟨as, rd⟩ := Dp.reads I p v u (hK ▸ h.dp hp) ru
        have k' : ∀ s', L2.Inv X pins σ H s' → ∀ t, EP X pins σ Q (.str p.shown t) s' := fun s' I' t => ⟨.str p.shown, H, I', ⟨t, rfl⟩, k _ _ (Same.refl H) (Rep.str _)⟩
        have hnd := hasDict_toP x p hp
        have viaRef : ∀ a, u = .ref a → wpAny (model X.prog X.w) X.A (call (.builtin "repr") [u]) (EP X pins σ Q) X.xe s := fun a e => by
          subst e
          exact repr_of_reads' rd h1 (PyData.noDict_hsm hnd) hgd (by omega) (fun _ _ q => q) (fun h' t tk hk => k' _ (I.kept hk) t) h3
        cases rd with
        | none => exact P.repr_of_none (k' _ (I.tok _) _)
        | bool b => exact P.repr_of_bool (k' _ (I.tok _) _)
        | int i t => exact P.repr_of_int (by simpa [PyData.showable] using h1) (k' _ (I.tok _) _)
        | str z t => exact P.repr_of_str (k' _ (I.tok _) _) h3
        | list => exact viaRef _ rfl
        | tuple => exact viaRef _ rfl
        | dict => exact viaRef _ rfl
      · cases hg'
    · cases hg'
theorem tuple_ok (hK : X.K = c.K) : CallR X (.type "tuple") (rlD c pn (biD .tuple)) := by
  rintro pins s σ H xs us Q I r ⟨U, ds, o, d, hr, hg, k⟩
  match ds, hg with
  | [.lst ys], hg =>
    cases hg
    obtain ⟨v, rfl, h⟩ := rep1 hr
    obtain ⟨a, vs, rfl, ha, ra⟩ := h.lst
    exact call_tuple_of pins s σ H _ us Q I r ⟨a, vs, rfl, .inl ⟨.inl (.inl ha), fun p np => k _ _ (same_upd np) (new_tup np ra)⟩⟩
  | [.tup ys], hg =>
    cases hg
    obtain ⟨v, rfl, h⟩ := rep1 hr
    obtain ⟨a, vs, rfl, ha, ra⟩ := h.tup
    exact call_tuple_of pins s σ H _ us Q I r ⟨a, vs, rfl, .inr ⟨hK ▸ ha, k _ _ (Same.refl H) (Rep.tup ha ra)⟩⟩
theorem keys_reps : ∀ {kvs : List (Key × V)} {ds : List (D × D)}, KReps c U H kvs ds → Reps c U H (kvs.map fun kv => kV kv.1) (ds.map (·.1))
  | _, _, .nil => .nil
  | _, _, .cons (k := k) h r => .cons (match k with
    | .inl i => Rep.int i
    | .inr z => Rep.str z) (keys_reps r)
theorem list_ok (hc : X.calm = true) (hK : X.K = c.K) : CallR X (.type "list") (rlD c pn (biD .list)) := by
  rintro pins s σ H xs us Q I r ⟨U, ds, o, d, hr, hg, k⟩
  match ds, hg with
  | [.lst ys], hg =>
    cases hg
    obtain ⟨v, rfl, h⟩ := rep1 hr
    obtain ⟨a, vs, rfl, ha, ra⟩ := h.lst
    exact call_list_of pins s σ H _ us Q I r ⟨a, vs, rfl, .inl (.inl (.inl ha)), fun p np => k _ _ (same_upd np) (new_lst np ra)⟩
  | [.tup ys], hg =>
    cases hg
    obtain ⟨v, rfl, h⟩ := rep1 hr
    obtain ⟨a, vs, rfl, ha, ra⟩ := h.tup
    exact call_list_of pins s σ H _ us Q I r ⟨a, vs, rfl, .inr (hK ▸ ha), fun p np => k _ _ (same_upd np) (new_lst np ra)⟩
  | [.dct ys], hg =>
    cases hg
    obtain ⟨v, rfl, h⟩ := rep1 hr
    obtain ⟨a, vs, rfl, ha, ra⟩ := h.dct
    exact call_list_dK hc pins s σ H _ us Q I r ⟨a, vs, rfl, ha, fun p np => k _ _ (same_upd np) (new_lst np (keys_reps ra))⟩
theorem keys_ints : ∀ {kvs : List (Key × V)} {ds : List (D × D)} {ns : List Int}, KReps c U H kvs ds → intsOf (ds.map (·.1)) = some ns → kvs.map (·.1) = ns.map Sum.inl
  | _, _, _, .nil, e => by cases e; rfl
  | _, _, _, .cons (k := k) h r, e => by
    cases k with
    | inr z => cases e
    | inl i =>
      obtain ⟨ms, e1, rfl⟩ := Option.map_eq_some_iff.mp (show (intsOf (List.map _ _)).map _ = _ from e)
      rw [List.map_cons, keys_ints r e1]; rfl
theorem sorted_ok (hc : X.calm = true) : CallR X (.builtin "sorted") (rlD c pn (biD .sorted)) := by
  rintro pins s σ H xs us Q I r ⟨U, ds, o, d, hr, hg, k⟩
  match ds, hg with
  | [.lst ys], hg =>
    obtain ⟨ns, e, q⟩ := Option.map_eq_some_iff.mp (show (intsOf ys).map _ = some (o, d) from hg)
    cases q
    obtain ⟨v, rfl, h⟩ := rep1 hr
    obtain ⟨a, vs, rfl, ha, ra⟩ := h.lst
    rw [ints_V ra e] at ha
    refine cr_sortedI pins s σ H _ us Q I r ⟨a, ns, rfl, .inl (.inl ha), fun ms p hp hs np => ?_⟩
    rw [sortI_is hp hs]
    exact k _ _ (same_upd np) (new_lst np (reps_ints _))
  | [.dct ys], hg =>
    obtain ⟨ns, e, q⟩ := Option.bind_eq_some_iff.mp (show (intsOf (ys.map (·.1))).bind _ = some (o, d) from hg)
    split at q
    · rename_i h64
      cases q
      obtain ⟨v, rfl, h⟩ := rep1 hr
      obtain ⟨a, vs, rfl, ha, ra⟩ := h.dct
      refine call_sortedDI hc pins s σ H _ us Q I r ⟨a, vs, ns, rfl, .of ha, keys_ints ra e, h64, fun ms p hp hs np => ?_⟩
      rw [sortI_is hp hs]
      exact k _ _ (same_upd np) (new_lst np (reps_ints _))
    · cases q
theorem pairs_V : ∀ {vs : List V} {ds : List D} {ps : List (D × D)}, Reps c U H vs ds → pairsOf ds = some ps → ∃ (as : List Addr) (kvs : List (Key × V)), vs = as.map V.ref ∧ Paired (fun p kv => SqT c.K H p [kV kv.1, kv.2]) as kvs ∧ KReps c U H kvs ps
  | _, _, _, .nil, e => by cases e; exact ⟨[], [], rfl, .nil, .nil⟩
  | _, _, _, .cons (d := d) (ds := ds) h r, e => by
    match d, h, e with
    | .tup [kk, vv], h, e =>
      have e' : (if keyD kk then (pairsOf ds).map ((kk, vv) :: ·) else none) = some _ := e
      split at e'
      · rename_i hk
        obtain ⟨qs, e1, rfl⟩ := Option.map_eq_some_iff.mp e'
        obtain ⟨as, kvs, h1, h2, h3⟩ := pairs_V r e1
        cases h with
        | tup hT hR =>
          cases hR with
          | cons k1 k2 =>
            cases k2 with
            | cons v1 v2 =>
              cases v2
              obtain ⟨q, rfl, rfl⟩ := key_of (pn := []) (.inl k1.e) hk
              exact ⟨_ :: as, (q, _) :: kvs, by rw [h1]; rfl, .cons hT h2, .cons v1 h3⟩
      · cases e'
theorem KReps.any {k : Key} : ∀ {kvs : List (Key × V)} {ds : List (D × D)}, KReps c U H kvs ds → (kvs.any fun kv => decide (kv.1 = k)) = (ds.any fun p => eqK p.1 (kD k))
  | _, _, .nil => rfl
  | _, _, .cons h r => by rw [List.any_cons, List.any_cons, KReps.any r, eqK_kD]
theorem KReps.put {k : Key} {v : V} {d : D} (hv : Rep c U H v d) : ∀ {kvs : List (Key × V)} {ds : List (D × D)}, KReps c U H kvs ds → KReps c U H (kvs.map fun kv => if kv.1 = k then (kv.1, v) else kv) (ds.map fun p => if eqK p.1 (kD k) then (p.1, d) else p)
  | _, _, .nil => .nil
  | _, _, .cons (k := j) h r => by
    rw [List.map_cons, List.map_cons]
    dsimp only
    rw [eqK_kD]
    by_cases e : j = k
    · rw [if_pos e, decide_eq_true e, if_pos rfl]
      exact .cons hv (KReps.put hv r)
    · rw [if_neg e, decide_eq_false e, if_neg (fun z => nomatch z)]
      exact .cons h (KReps.put hv r)
theorem KReps.snoc {k : Key} {v : V} {d : D} (hv : Rep c U H v d) : ∀ {kvs : List (Key × V)} {ds : List (D × D)}, KReps c U H kvs ds → KReps c U H (kvs ++ [(k, v)]) (ds ++ [(kD k, d)])
  | _, _, .nil => .cons hv .nil
  | _, _, .cons h r => .cons h (KReps.snoc hv r)
theorem putK_reps {k : Key} {v : V} {d : D} (hv : Rep c U H v d) {kvs : List (Key × V)} {ds : List (D × D)} (h : KReps c U H kvs ds) : KReps c U H (putK kvs k v) (putKD ds (kD k) d) := by
  unfold putK putKD
  rw [h.any]
  split
  · exact h.put hv
  · exact h.snoc hv
theorem merge_reps : ∀ {more : List (Key × V)} {ms : List (D × D)} {kvs : List (Key × V)} {ds : List (D × D)}, KReps c U H more ms → KReps c U H kvs ds → KReps c U H (mergeK kvs more) (foldK ds ms)
  | _, _, _, _, .nil, h => h
  | _, _, kvs, ds, .cons (k := k) (v := v) (d := d) hv r, h => by
    have z : KReps c U H (putK kvs k v) (putKD ds (kD k) d) := putK_reps hv h
    have z2 := merge_reps r z
    exact z2
theorem new_dct {a : Addr} {vs : List (Key × V)} {ds : List (D × D)} (n : H a = none) (h : KReps c U H vs ds) : NewR c U H (upd H a (.dK vs)) (.ref a) true (.dct ds) :=
  ⟨a, rfl, n, vs, upd_same, h.mono (M := fun _ => False) (fr_new (same_upd n) n) fun _ z => z.elim⟩
theorem dict_ok (hc : X.calm = true) (hK : X.K = c.K) : CallR X (.type "dict") (rlD c pn (biD .dict)) := by
  rintro pins s σ H xs us Q I r ⟨U, ds, o, d, hr, hg, k⟩
  match ds, hg with
  | [.lst ys], hg =>
    obtain ⟨ns, e, q⟩ := Option.map_eq_some_iff.mp (show (pairsOf ys).map _ = some (o, d) from hg)
    cases q
    obtain ⟨v, rfl, h⟩ := rep1 hr
    obtain ⟨a, vs, rfl, ha, ra⟩ := h.lst
    obtain ⟨as, kvs, rfl, h2, h3⟩ := pairs_V ra e
    exact call_dictP hc pins s σ H _ us Q I r ⟨a, as, kvs, rfl, .inl (.inl ha), hK ▸ h2, fun p np => k _ _ (same_upd np) (new_dct np (merge_reps h3 .nil))⟩
end
end Ev

set_option Elab.async false
set_option linter.all false
set_option maxRecDepth 100000
set_option maxHeartbeats 2000000
/-! Part H: the context; plain expressions. -/
namespace Ev
open PySem L2 PyProof.Rows

/-! ### what a function promises -/
inductive ArgsR (c : RC) (pn : Pn) (U : AS) (H : Hp) : List V → List (Bool × D) → Prop
  | nil : ArgsR c pn U H [] []
  | val {v : V} {d : D} {vs : List V} {as : List (Bool × D)} : RepE c pn U H v d → ArgsR c pn U H vs as → ArgsR c pn U H (v :: vs) ((false, d) :: as)
  | own {a : Addr} {d : D} {vs : List V} {as : List (Bool × D)} : U a → OwnC c U H a d → (∀ e : D, ¬ (V.ref a, (true, e)) ∈ vs.zip as) → ArgsR c pn U H vs as → ArgsR c pn U H (.ref a :: vs) ((true, d) :: as)
/-- what is lent to be changed -/
def Lent (vs : List V) (as : List (Bool × D)) : AS := fun a => ∃ d, (V.ref a, (true, d)) ∈ vs.zip as
/-- the lent lists in the end -/
inductive OutsR (c : RC) (U : AS) (H : Hp) : List V → List (Bool × D) → List D → Prop
  | nil : OutsR c U H [] [] []
  | val {v : V} {d o : D} {vs : List V} {as : List (Bool × D)} {os : List D} : OutsR c U H vs as os → OutsR c U H (v :: vs) ((false, d) :: as) (o :: os)
  | own {a : Addr} {d o : D} {vs : List V} {as : List (Bool × D)} {os : List D} : U a → OwnC c U H a o → OutsR c U H vs as os → OutsR c U H (.ref a :: vs) ((true, d) :: as) (o :: os)
/-- an answer: a value, or a list of nobody else's -/
def AnsR (c : RC) (H0 : Hp) (U : AS) (H : Hp) (v : V) (o : Bool) (d : D) : Prop := if o then ∃ a, v = .ref a ∧ H0 a = none ∧ U a ∧ OwnC c U H a d else Rep c U H v d
def spC (c : RC) (call : List (Bool × D) → Option Res) (pn : Pn) : Sp := fun vs H Q E => ∃ U as, ArgsR c pn U H vs as ∧ (∀ a, U a → H a ≠ none) ∧ match call as with
  | none => False
  | some (.er e) => ∀ cls d U' H', ExcIs c e cls d → Fr' (Lent vs as) U U' H H' → (∀ a, U' a → H' a ≠ none) → E cls d H'
  | some (.ok o d outs) => ∀ v U' H', Fr' (Lent vs as) U U' H H' → (∀ a, U' a → H' a ≠ none) → AnsR c H U' H' v o d → OutsR c U' H' vs as outs → Q v H'
/-- what all functions' texts have about them -/
structure Md where
  c : RC
  P : Program
  w : World
  mg : Str → Option Value
  base : Heap
structure FnG (m : Md) (h : Bool) (k : Nat) (f : Addr) (sp : Pn → Sp) : Prop where
  run : ∀ (A : Around) (outer : List Env) (s : Shared) (H : Hp) (us : List Value) (vs : List V) (Q : VK) (E : XK) (pn : Pn), L2H.RoomH k A → A.guards = some [] → (h = false → A.handled = none ∧ pn = []) → (h = true → ∃ p, L2H.Hot1 A p ∧ L2H.PinOk outer H s p ∧ ∀ q ∈ pn, q = p) →
    Env0 m.P m.w m.c.K m.mg m.base A outer s H → Vals vs us → sp pn vs H Q E → codeAny (model m.P m.w) A (.call (.ref f) ⟨us, []⟩) (CR (L2N.CX m.P m.w) outer m.P m.w H s Q E) s
/-- a module's name -/
inductive Gk where | fn (g : Nat) | cls (k : Nat) | cst (n : Nat) | bn
/-- the names of the module: what the table says of them -/
structure NamesG (m : Md) (glb : Str → Option Gk) (cst : Nat → Option D) : Prop where
  no : ∀ x, glb x = some .bn → m.mg x = none
  fn : ∀ x g, glb x = some (.fn g) → m.mg x = some (.ref (m.c.fa g))
  cls : ∀ x k, glb x = some (.cls k) → m.mg x = some (.ref (m.c.ca k))
  cst : ∀ x n d, glb x = some (.cst n) → cst n = some d → ∃ v u, m.mg x = some u ∧ RelV v u ∧ ∀ U H, Rep m.c U H v d
/-- the classes of errors, all below one another as sub says -/
structure ClsG (m : Md) (sub : Nat → Nat → Bool) : Prop where
  exc : ∀ e, ExcC m.c.K (m.c.ca e)
  kit : ∀ e k, PySem.W.kitOne m.c.K (.ref (m.c.ca e)) (.ref (m.c.ca k)) = some (sub e k)
  exm : ∀ e k, PySem.W.exmOne m.c.K (.ref (m.c.ca e)) (.ref (m.c.ca k)) = some (sub e k)
  made : ∀ k, ∃ B n i bm, PySem.ExcBaseFacts B n i bm ∧ PySem.W.excIn m.c.K (m.c.ca k) bm n = true
  kp : ∀ k, PySem.W.keepIn m.c.K (.ref (m.c.ca k)) = true
  ty : ∀ k, PySem.W.typeIn m.c.K (.ref (m.c.ca k)) = some (.type "type")
/-- the context of a body (a block): X, what the evaluator takes it for -/
structure Gd (m : Md) (glb : Str → Option Gk) (k : Nat) (N : List Str) (sc : Scope) (r : Ar) (X : L2.Cx) (cx : Ev.Cx) : Prop where
  P : X.prog = m.P
  w : X.w = m.w
  K : X.K = r.c.K
  c : r.c = m.c
  mg : X.mg = m.mg
  base : X.base = m.base
  hN : X.N = N
  nd : N.Nodup
  hsc : X.env.scope = sc
  calm : cx.hot = false → X.calm = true
  hot : cx.hot = true → ∃ p, L2H.Hot1 X.A p ∧ p ∈ X.pn ∧ ∀ q ∈ r.pn, q = p
  room : L2H.RoomH k X.A
  gd : X.A.guards = some []
  pn : ∀ p ∈ r.pn, p ∈ X.pn
  pn0 : cx.hot = false → r.pn = []
  io : r.io = cx.io
  tk : L2N.Takes X r.W
  nm : NamesG m glb cx.cst
  cl : ClsG m cx.sub
  fns : ∀ h g, FnG m h k (m.c.fa g) (spC m.c (cx.call h g))
  kp : ∀ g, PySem.W.keepIn m.c.K (.ref (m.c.fa g)) = true
section
variable {m : Md} {glb : Str → Option Gk} {k : Nat} {N : List Str} {sc : Scope} {r : Ar} {X : L2.Cx} {cx : Ev.Cx}
theorem Gd.un (g : Gd m glb k N sc r X cx) : X.A.units + 190 < cLine := by have := g.room.un; omega
theorem Gd.gl (g : Gd m glb k N sc r X cx) {x : Str} (h : sc.names.lookup x = some .globalImplicit) : Gl X x := by
  show X.env.scope.names.lookup x = _
  rw [g.hsc]; exact h
theorem Gd.no (g : Gd m glb k N sc r X cx) {x : Str} (h : glb x = some .bn) : X.mg x = none := by rw [g.mg]; exact g.nm.no x h

/-! ### lists of operands, read -/
def rdOs (δ : Dst) : List Opd → Option (List D)
  | [] => some []
  | o :: os => match rdO δ o, rdOs δ os with
    | some d, some ds => some (d :: ds)
    | _, _ => none
theorem bind_ok {α β : Type} {m : M α} {f : α → M β} {δ δ' : Dst} {a : α} (h : m δ = some (.ok a δ')) : m.bind f δ = f a δ' := by unfold M.bind; rw [h]
theorem bind_er {α β : Type} {m : M α} {f : α → M β} {δ δ' : Dst} {e : Exc} (h : m δ = some (.er e δ')) : m.bind f δ = some (.er e δ') := by unfold M.bind; rw [h]
theorem bind_no {α β : Type} {m : M α} {f : α → M β} {δ : Dst} (h : m δ = none) : m.bind f δ = none := by unfold M.bind; rw [h]
theorem rdM_ok {δ : Dst} {o : Opd} {d : D} (h : rdO δ o = some d) : rdM o δ = some (.ok d δ) := by unfold rdM; rw [h]
theorem rdM_no {δ : Dst} {o : Opd} (h : rdO δ o = none) : rdM o δ = none := by unfold rdM; rw [h]
theorem rdsM_is (δ : Dst) : ∀ os : List Opd, rdsM os δ = (rdOs δ os).map fun ds => Rs.ok ds δ
  | [] => rfl
  | o :: os => by
    have ih := rdsM_is δ os
    unfold rdsM rdOs
    cases e : rdO δ o with
    | none => rw [bind_no (rdM_no e)]; rfl
    | some d =>
      rw [bind_ok (rdM_ok e)]
      cases e2 : rdOs δ os with
      | none => rw [e2] at ih; rw [bind_no ih]; rfl
      | some ds => rw [e2] at ih; rw [bind_ok ih]; rfl
theorem Cont.rds {α γ : Type} {R : Rl γ α} {Q : γ → Hp → Prop} {σ : Sg} {δ0 δ : Dst} {U0 : AS} {H0 : Hp} {os : List Opd} {f : List D → M α} (h : Cont r R Q σ δ0 U0 H0 ((rdsM os).bind f δ)) : ∃ ds, rdOs δ os = some ds ∧ Cont r R Q σ δ0 U0 H0 (f ds δ) := by
  unfold M.bind at h
  rw [rdsM_is] at h
  cases e : rdOs δ os with
  | none => rw [e] at h; exact h.elim
  | some d => rw [e] at h; exact ⟨d, rfl, h⟩
theorem Abs.rds {c : RC} {pn : Pn} {H0 : Hp} {U : AS} {H : Hp} {σ : Sg} {δ : Dst} (A : Abs c pn U H σ δ) : ∀ {vs : List V} {os : List Opd} {ds : List D}, OpdRs c pn H0 U H σ δ vs os → rdOs δ os = some ds → RepRs c pn U H vs ds
  | _, _, _, .nil, e => by cases e; exact .nil
  | _, _, _, .cons h _ t, e => by
    unfold rdOs at e
    split at e
    · rename_i d ds h1 h2
      cases e
      exact .cons (A.rd h h1) (Abs.rds A t h2)
    · cases e

/-! ### names, constants -/
theorem e_var (g : Gd m glb k N sc r X cx) {i : Nat} {x : Str} {pos : Pos} (hN : N[i]? = some x) (hv : Vis sc x) (hd : (x == ("__debug__" : Str)) = false) (hcd : (x == ("__classdict__" : Str)) = false) : PE X (.Name x pos) (tE r (evE cx (.var i))) := by
  refine pe_mono (pe_var (i := i) (by rw [g.hN]; exact hN) (by rw [g.hsc]; exact hv) hd hcd) fun σ H Q h => ?_
  obtain ⟨U, δ, A, h⟩ := h
  have e : evE cx (.var i) δ = (match δ[i]? with | some (.val d) => some (.ok (.t false d) δ) | some (.own _) => some (.ok (.s i) δ) | some (.lock _) => some (.ok (.s i) δ) | _ => none) := rfl
  rw [e] at h
  split at h
  · rename_i d hd
    obtain ⟨v, h1, h2⟩ := A.val i d hd
    exact ⟨v, h1, h _ _ _ A h2 StpE.refl⟩
  · rename_i d hd
    obtain ⟨a, h1, h2, h3⟩ := A.own i d (.inl hd)
    exact ⟨_, h1, h _ _ _ A ⟨h1, d, .inl hd⟩ StpE.refl⟩
  · rename_i d hd
    obtain ⟨a, h1, h2, h3⟩ := A.own i d (.inr hd)
    exact ⟨_, h1, h _ _ _ A ⟨h1, d, .inr (.inl hd)⟩ StpE.refl⟩
  · exact h.elim
def cnOk : D → Expr → Bool
  | .int i, .Constant (.int j) _ _ => i == j
  | .str x, .Constant (.str y) _ _ => x == y
  | .bl x, .Constant (.bool y) _ _ => x == y
  | .non, .Constant .none _ _ => true
  | _, _ => false
theorem e_cn {d : D} {e : Expr} (h : cnOk d e = true) : PE X e (tE r (evE cx (.cn d))) := by
  have fin : ∀ v, (∀ U H, Rep r.c U H v d) → ∀ σ H Q, tE r (evE cx (.cn d)) σ H Q → tC v σ H Q := fun v hv σ H Q h => by
    obtain ⟨U, δ, A, h⟩ := h
    exact h v U H A (Rep.e (hv U H)) StpE.refl
  unfold cnOk at h
  split at h
  · cases eq_of_beq h
    exact pe_mono pe_int (fin _ fun U H => .int _)
  · cases eq_of_beq h
    exact pe_mono pe_str (fin _ fun U H => .str _)
  · cases eq_of_beq h
    exact pe_mono pe_bl (fin _ fun U H => .bl _)
  · exact pe_mono pe_non (fin _ fun U H => .non)
  · cases h
theorem e_glob (g : Gd m glb k N sc r X cx) {x : Str} {n : Nat} {pos : Pos} (hx : glb x = some (.cst n)) (hs : sc.names.lookup x = some .globalImplicit) (hd : (x == ("__debug__" : Str)) = false) : PE X (.Name x pos) (tE r (evE cx (.glob n))) := by
  refine ⟨fun pins s σ H Q I h => ?_⟩
  obtain ⟨U, δ, A, h⟩ := h
  have e : evE cx (.glob n) δ = M.opt ((cx.cst n).map (Opd.t false)) δ := rfl
  rw [e] at h
  obtain ⟨o, ho, h⟩ := h.optE
  obtain ⟨d, hd', rfl⟩ := Option.map_eq_some_iff.mp ho
  obtain ⟨v, u, h1, h2, h3⟩ := g.nm.cst x n d hx hd'
  exact (pe_glob (v := v) (g.gl hs) (by rw [g.mg]; exact h1) h2 hd).run pins s σ H Q I (h v U H A (Rep.e (by rw [g.c]; exact h3 U H)) StpE.refl)
theorem e_fn (g : Gd m glb k N sc r X cx) {x : Str} {n : Nat} {pos : Pos} (hx : glb x = some (.fn n)) (hs : sc.names.lookup x = some .globalImplicit) (hd : (x == ("__debug__" : Str)) = false) : PE X (.Name x pos) (tE r (evE cx (.cn (.fn n)))) := by
  refine pe_mono (pe_glob (v := .ref (m.c.fa n)) (g.gl hs) (by rw [g.mg]; exact g.nm.fn x n hx) rfl hd) fun σ H Q h => ?_
  obtain ⟨U, δ, A, h⟩ := h
  exact h _ U H A (show RepE r.c r.pn U H (V.ref (m.c.fa n)) (D.fn n) from (by rw [← g.c]; exact Rep.fn n)) StpE.refl

/-! ### operators -/
variable {a b d : Expr} {pa pb pd : PX} {pos : Pos}
theorem e_bin (g : Gd m glb k N sc r X cx) {op : Operator} (ha : PE X a (tE r (evE cx pa))) (hb : PE X b (tE r (evE cx pb))) : PE X (.BinOp a op b pos) (tE r (evE cx (.bin op pa pb))) := by
  refine pe_mono (pe_op (bin_ok (c := r.c) (pn := r.pn) g.K op) ha hb) fun σ H Q h => ?_
  obtain ⟨U0, δ0, h⟩ := tM.bind (R1 := RO r) anti_RO (show tM r (RO r) ((evE cx pa).bind fun x => (evE cx pb).bind fun y => (rdM x).bind fun dx => (rdM y).bind fun dy => M.opt ((binD op dx dy).map fun p => .t p.1 p.2)) σ H Q from h)
  refine tM.mono h fun x H1 ⟨U1, δ1, ox, n1⟩ => ?_
  refine (n1.on (R2 := RO r) anti_RO rfl).mono fun y H2 ⟨U2, δ2, oy, n2, s2, _⟩ => ?_
  obtain ⟨dx, e1, kk⟩ := n2.k.rd
  obtain ⟨dy, e2, kk⟩ := kk.rd
  obtain ⟨o, e3, kk⟩ := kk.optE
  obtain ⟨⟨o, w⟩, e4, rfl⟩ := Option.map_eq_some_iff.mp e3
  exact ⟨U2, dx, dy, o, w, n2.A.rd (n1.rr.on n1.A n2.A s2) e1, n2.A.rd n2.rr e2, e4, fun v H' sm nw => kk.new rfl n2.A0 n2.A n2.s sm nw⟩
theorem e_un (g : Gd m glb k N sc r X cx) {op : UnaryOp} (ha : PE X a (tE r (evE cx pa))) : PE X (.UnaryOp op a pos) (tE r (evE cx (.un op pa))) := by
  refine pe_mono (pe_un (un_ok (c := r.c) (pn := r.pn) op) ha) fun σ H Q h => ?_
  obtain ⟨U0, δ0, h⟩ := tM.bind (R1 := RO r) anti_RO (show tM r (RO r) ((evE cx pa).bind fun x => (rdM x).bind fun d => M.opt ((unD op d).map (Opd.t false))) σ H Q from h)
  refine tM.mono h fun x H1 ⟨U1, δ1, ox, n1⟩ => ?_
  obtain ⟨dx, e1, kk⟩ := n1.k.rd
  obtain ⟨o, e3, kk⟩ := kk.optE
  obtain ⟨w, e4, rfl⟩ := Option.map_eq_some_iff.mp e3
  exact ⟨U1, dx, w, n1.A.rd n1.rr e1, e4, fun v rv => kk.ok rfl n1.A (Rep.e rv) n1.s⟩
theorem truM_is (o : Opd) (δ : Dst) : truM o δ = (rdO δ o).bind fun d => (truD d).map fun b => Rs.ok b δ := by
  unfold truM
  cases e : rdO δ o with
  | none => rw [bind_no (rdM_no e)]; rfl
  | some d =>
    rw [bind_ok (rdM_ok e)]
    unfold M.opt
    show _ = (truD d).map fun b => Rs.ok b δ
    cases truD d <;> rfl
theorem Cont.tru {α γ : Type} {R : Rl γ α} {Q : γ → Hp → Prop} {σ : Sg} {δ0 δ : Dst} {U0 : AS} {H0 : Hp} {o : Opd} {f : Bool → M α} (h : Cont r R Q σ δ0 U0 H0 ((truM o).bind f δ)) : ∃ d b, rdO δ o = some d ∧ truD d = some b ∧ Cont r R Q σ δ0 U0 H0 (f b δ) := by
  unfold M.bind at h
  rw [truM_is] at h
  cases e : rdO δ o with
  | none => rw [e] at h; exact h.elim
  | some d =>
    rw [e] at h
    cases e2 : truD d with
    | none => rw [show (some d).bind (fun d => (truD d).map fun b => Rs.ok b δ) = (truD d).map fun b => Rs.ok b δ from rfl, e2] at h; exact h.elim
    | some b => rw [show (some d).bind (fun d => (truD d).map fun b => Rs.ok b δ) = (truD d).map fun b => Rs.ok b δ from rfl, e2] at h; exact ⟨d, b, rfl, e2, h⟩
theorem e_nt (g : Gd m glb k N sc r X cx) (ha : PE X a (tE r (evE cx pa))) : PE X (.UnaryOp .Not a pos) (tE r (evE cx (.nt pa))) := by
  refine pe_mono (pe_notT ha) fun σ H Q h => ?_
  obtain ⟨U0, δ0, h⟩ := tM.bind (R1 := RO r) anti_RO (show tM r (RO r) ((evE cx pa).bind fun x => (truM x).bind fun b => M.pure (.t false (.bl (!b)))) σ H Q from h)
  refine tM.mono h fun x H1 ⟨U1, δ1, ox, n1⟩ => ?_
  obtain ⟨dx, b, e1, e2, kk⟩ := n1.k.tru
  exact ⟨b, by rw [g.K]; exact tru_V (n1.A.rd n1.rr e1) e2, kk.ok rfl n1.A (Rep.e (pn := r.pn) (.bl _)) n1.s⟩
theorem e_and (g : Gd m glb k N sc r X cx) {rest : List Expr} (ha : PE X a (tE r (evE cx pa))) (hb : PE X (.BoolOp .And (b :: rest) pos) (tE r (evE cx pb))) : PE X (.BoolOp .And (a :: b :: rest) pos) (tE r (evE cx (.andE pa pb))) := by
  refine pe_mono (pe_andT ha hb) fun σ H Q h => ?_
  obtain ⟨U0, δ0, h⟩ := tM.bind (R1 := RO r) anti_RO (show tM r (RO r) ((evE cx pa).bind fun x => (truM x).bind fun k => if k then evE cx pb else M.pure x) σ H Q from h)
  refine tM.mono h fun x H1 ⟨U1, δ1, ox, n1⟩ => ?_
  obtain ⟨dx, b, e1, e2, kk⟩ := n1.k.tru
  refine ⟨b, by rw [g.K]; exact tru_V (n1.A.rd n1.rr e1) e2, ?_⟩
  have n1' : Nx r (RO r) (RO r) Q σ δ0 U0 H (fun _ => if b = true then evE cx pb else M.pure ox) x U1 δ1 H1 ox := ⟨n1.A0, n1.A, n1.rr, n1.s, kk⟩
  cases b with
  | true => exact n1'.last anti_RO
  | false => exact kk.ok rfl n1.A n1.rr n1.s
theorem e_or (g : Gd m glb k N sc r X cx) {rest : List Expr} (ha : PE X a (tE r (evE cx pa))) (hb : PE X (.BoolOp .Or (b :: rest) pos) (tE r (evE cx pb))) : PE X (.BoolOp .Or (a :: b :: rest) pos) (tE r (evE cx (.orE pa pb))) := by
  refine pe_mono (pe_orT ha hb) fun σ H Q h => ?_
  obtain ⟨U0, δ0, h⟩ := tM.bind (R1 := RO r) anti_RO (show tM r (RO r) ((evE cx pa).bind fun x => (truM x).bind fun k => if k then M.pure x else evE cx pb) σ H Q from h)
  refine tM.mono h fun x H1 ⟨U1, δ1, ox, n1⟩ => ?_
  obtain ⟨dx, b, e1, e2, kk⟩ := n1.k.tru
  refine ⟨b, by rw [g.K]; exact tru_V (n1.A.rd n1.rr e1) e2, ?_⟩
  have n1' : Nx r (RO r) (RO r) Q σ δ0 U0 H (fun _ => if b = true then M.pure ox else evE cx pb) x U1 δ1 H1 ox := ⟨n1.A0, n1.A, n1.rr, n1.s, kk⟩
  cases b with
  | true => exact kk.ok rfl n1.A n1.rr n1.s
  | false => exact n1'.last anti_RO
theorem e_cmp (g : Gd m glb k N sc r X cx) {op : CmpOp} (ha : PE X a (tE r (evE cx pa))) (hb : PE X b (tE r (evE cx pb))) (hm : behindInMarks op b = false) : PE X (.Compare a [op] [b] pos) (tE r (evE cx (.cmp op pa pb))) := by
  refine pe_mono (pe_cmpR (cmp_ok (c := r.c) (pn := r.pn) g.K (by have := g.un; omega) op) ha hb hm) fun σ H Q h => ?_
  obtain ⟨U0, δ0, h⟩ := tM.bind (R1 := RO r) anti_RO (show tM r (RO r) ((evE cx pa).bind fun x => (evE cx pb).bind fun y => (rdM x).bind fun dx => (rdM y).bind fun dy => M.opt ((cmpD op dx dy).map fun k => .t false (.bl k))) σ H Q from h)
  refine tM.mono h fun x H1 ⟨U1, δ1, ox, n1⟩ => ?_
  refine (n1.on (R2 := RO r) anti_RO rfl).mono fun y H2 ⟨U2, δ2, oy, n2, s2, _⟩ => ?_
  obtain ⟨dx, e1, kk⟩ := n2.k.rd
  obtain ⟨dy, e2, kk⟩ := kk.rd
  obtain ⟨o, e3, kk⟩ := kk.optE
  obtain ⟨w, e4, rfl⟩ := Option.map_eq_some_iff.mp e3
  exact ⟨U2, dx, dy, w, n2.A.rd (n1.rr.on n1.A n2.A s2) e1, n2.A.rd n2.rr e2, e4, kk.ok rfl n2.A (Rep.e (pn := r.pn) (.bl _)) n2.s⟩
theorem cmp2_to {op op' : CmpOp} {σ : Sg} {H : Hp} {Q : VK} (h : tE r (evE cx (.cmp2 op op' pa pb pd)) σ H Q) : tChain (rcD r.c r.pn (cmpD op)) (rcD r.c r.pn (cmpD op')) (tE r (evE cx pa)) (tE r (evE cx pb)) (tE r (evE cx pd)) σ H Q := by
  obtain ⟨U0, δ0, h⟩ := tM.bind (R1 := RO r) anti_RO (show tM r (RO r) ((evE cx pa).bind fun x => (evE cx pb).bind fun y => (rdM x).bind fun dx => (rdM y).bind fun dy => (M.opt (cmpD op dx dy)).bind fun k =>
      if k then (evE cx pd).bind fun z => (rdM y).bind fun dy' => (rdM z).bind fun dz => M.opt ((cmpD op' dy' dz).map fun k' => .t false (.bl k')) else M.pure (.t false (.bl false))) σ H Q from h)
  refine tM.mono h fun x H1 ⟨U1, δ1, ox, n1⟩ => ?_
  refine (n1.on (R2 := RO r) anti_RO rfl).mono fun y H2 ⟨U2, δ2, oy, n2, s2, _⟩ => ?_
  obtain ⟨dx, e1, kk⟩ := n2.k.rd
  obtain ⟨dy, e2, kk⟩ := kk.rd
  obtain ⟨w, e4, kk⟩ := kk.opt
  refine ⟨U2, dx, dy, w, n2.A.rd (n1.rr.on n1.A n2.A s2) e1, n2.A.rd n2.rr e2, e4, w, rfl, ?_⟩
  cases w with
  | true =>
    have n2' : Nx r (RO r) (RO r) Q σ δ0 U0 H (fun _ => (evE cx pd).bind fun z => (rdM oy).bind fun dy' => (rdM z).bind fun dz => M.opt ((cmpD op' dy' dz).map fun k' => .t false (.bl k'))) y U2 δ2 H2 oy := ⟨n2.A0, n2.A, n2.rr, n2.s, kk⟩
    refine (n2'.on (R2 := RO r) anti_RO rfl).mono fun z H3 ⟨U3, δ3, oz, n3, s3, _⟩ => ?_
    obtain ⟨dx, e1, kk⟩ := n3.k.rd
    obtain ⟨dy, e2, kk⟩ := kk.rd
    obtain ⟨o, e3, kk⟩ := kk.optE
    obtain ⟨w, e4, rfl⟩ := Option.map_eq_some_iff.mp e3
    exact ⟨U3, dx, dy, w, n3.A.rd (n2.rr.on n2.A n3.A s3) e1, n3.A.rd n3.rr e2, e4, kk.ok rfl n3.A (Rep.e (pn := r.pn) (.bl _)) n3.s⟩
  | false => exact kk.ok rfl n2.A (Rep.e (pn := r.pn) (.bl _)) n2.s
theorem e_cmp2 (g : Gd m glb k N sc r X cx) {op op' : CmpOp} (ha : PE X a (tE r (evE cx pa))) (hb : PE X b (tE r (evE cx pb))) (hd : PE X d (tE r (evE cx pd))) (hm : lastMarks [op, op'] [b, d] = false) : PE X (.Compare a [op, op'] [b, d] pos) (tE r (evE cx (.cmp2 op op' pa pb pd))) :=
  pe_mono (pe_chain (cmp_ok (c := r.c) (pn := r.pn) g.K (by have := g.un; omega) op) (cmp_ok (c := r.c) (pn := r.pn) g.K (by have := g.un; omega) op') ha hb hd hm) fun σ H Q h => cmp2_to h
theorem e_sub (g : Gd m glb k N sc r X cx) (ha : PE X a (tE r (evE cx pa))) (hb : PE X b (tE r (evE cx pb))) (hp : PlainIx b) : PE X (.Subscript a b pos) (tE r (evE cx (.sub pa pb))) := by
  refine pe_mono (pe_ix (subs_ok (c := r.c) (pn := r.pn) g.K (by have := g.un; omega)) ha hb hp) fun σ H Q h => ?_
  obtain ⟨U0, δ0, h⟩ := tM.bind (R1 := RO r) anti_RO (show tM r (RO r) ((evE cx pa).bind fun x => (evE cx pb).bind fun y => (rdM x).bind fun dx => (rdM y).bind fun dy => M.opt ((subsD dx dy).map (Opd.t false))) σ H Q from h)
  refine tM.mono h fun x H1 ⟨U1, δ1, ox, n1⟩ => ?_
  refine (n1.on (R2 := RO r) anti_RO rfl).mono fun y H2 ⟨U2, δ2, oy, n2, s2, _⟩ => ?_
  obtain ⟨dx, e1, kk⟩ := n2.k.rd
  obtain ⟨dy, e2, kk⟩ := kk.rd
  obtain ⟨o, e3, kk⟩ := kk.optE
  obtain ⟨w, e4, rfl⟩ := Option.map_eq_some_iff.mp e3
  exact ⟨U2, dx, dy, w, n2.A.rd (n1.rr.on n1.A n2.A s2) e1, n2.A.rd n2.rr e2, e4, fun v rv => kk.ok rfl n2.A (Rep.e rv) n2.s⟩
end
end Ev

set_option Elab.async false
set_option linter.all false
set_option maxRecDepth 100000
set_option maxHeartbeats 2000000
/-! Part I: values given away; displays, slices, branches, tests, arguments. -/
namespace Ev
open PySem L2 PyProof.Rows
section
variable {c : RC} {pn : Pn} {io : List Bool} {H0 : Hp} {σ : Sg} {δ0 δ : Dst} {U0 U : AS} {H : Hp} {a : Addr}
def Uno (U : AS) (a : Addr) : AS := fun b => U b ∧ b ≠ a
theorem RepE.less {U' : AS} (hu : ∀ a, U' a → U a) {v : V} {d : D} (h : RepE c pn U H v d) : RepE c pn U' H v d := by
  cases d <;> first | exact h | exact Rep.less hu h
theorem at_lt {α : Type} {l : List α} {i : Nat} {x : α} (h : l[i]? = some x) : i < l.length := (List.getElem?_eq_some_iff.mp h).1
theorem set_at {α : Type} {l : List α} {i : Nat} {x y : α} (h : l[i]? = some x) : (l.set i y)[i]? = some y := List.getElem?_set_self (at_lt h)
theorem Abs.drop (A : Abs c pn U H σ δ) (nh : ∀ i e, ¬ Has σ δ i a e) : Abs c pn (Uno U a) H σ δ :=
  ⟨A.len, fun i d h => by
    obtain ⟨v, e, q⟩ := A.val i d h
    exact ⟨v, e, q.less fun _ z => z.1⟩, fun i d h => by
    obtain ⟨b, e, u, q⟩ := A.own i d h
    exact ⟨b, e, ⟨u, fun z => nh i d ⟨h, by rw [← z]; exact e⟩⟩, q.less fun _ z => z.1⟩, A.dis, fun b u => A.trk b u.1⟩
theorem StpE.drop (s : StpE io σ δ0 U0 H0 δ U H) (h0 : H0 a = none) (trk : ∀ a, U0 a → H0 a ≠ none) : StpE io σ δ0 U0 H0 δ (Uno U a) H :=
  ⟨⟨⟨s.st.fr.keep, s.st.fr.tup, s.st.fr.frz, s.st.fr.there, fun b h => s.st.fr.u1 b h.1, fun b h n => ⟨s.st.fr.u2 b h n, fun z => trk b h (by rw [z]; exact h0)⟩⟩, s.st.rt, s.st.io, s.st.lk⟩, s.ful, s.no⟩
theorem OpdR.drop {v : V} {o : Opd} (h : OpdR c pn H0 U H σ δ v o) (n : ∀ d, o = .t true d → v ≠ .ref a) : OpdR c pn H0 (Uno U a) H σ δ v o := by
  cases o with
  | t b d =>
    cases b with
    | false => exact RepE.less (fun _ z => z.1) h
    | true =>
      obtain ⟨b, e, h0, u, w, k⟩ := h
      exact ⟨b, e, h0, ⟨u, fun z => n d rfl (by rw [e, z])⟩, w.less fun _ z => z.1, k⟩
  | s i => exact h
theorem OpdRs.drop : ∀ {vs : List V} {os : List Opd}, OpdRs c pn H0 U H σ δ vs os → ¬ TmpIn a vs os → OpdRs c pn H0 (Uno U a) H σ δ vs os
  | _, _, .nil, _ => .nil
  | _, _, .cons h t r, n => .cons (h.drop fun d e z => n (.inl ⟨z, d, e⟩)) t (OpdRs.drop r fun z => n (.inr z))
/-- a slot's list may be found by others from here on -/
theorem Abs.give (A : Abs c pn U H σ δ) {i : Nat} {d : D} (hi : δ[i]? = some (Sl.own d)) (hv : σ[i]? = some (some (V.ref a))) : Abs c pn (Uno U a) H σ (δ.set i (.val d)) ∧ Rep c (Uno U a) H (.ref a) d ∧ StpE io σ δ U H (δ.set i (.val d)) (Uno U a) H := by
  obtain ⟨b, e, u, o⟩ := A.own i d (.inl hi)
  rw [hv] at e; cases e
  have o' : OwnC c (Uno U a) H a d := o.less fun _ z => z.1
  have rp : Rep c (Uno U a) H (.ref a) d := o'.rep fun z => z.2 rfl
  have old : ∀ (j : Nat) (x : Sl), (δ.set i (.val d))[j]? = some x → (j = i ∧ x = .val d) ∨ (j ≠ i ∧ δ[j]? = some x) := fun j x h => by
    by_cases z : j = i
    · subst z
      rw [set_at hi] at h
      cases h
      exact .inl ⟨rfl, rfl⟩
    · rw [List.getElem?_set_ne (Ne.symm z)] at h
      exact .inr ⟨z, h⟩
  have has : ∀ j b e, Has σ (δ.set i (.val d)) j b e → j ≠ i ∧ Has σ δ j b e := fun j b e ⟨h1, h2⟩ => by
    rcases h1 with h1 | h1
    · rcases old j _ h1 with ⟨_, z⟩ | ⟨n, z⟩
      · cases z
      · exact ⟨n, .inl z, h2⟩
    · rcases old j _ h1 with ⟨_, z⟩ | ⟨n, z⟩
      · cases z
      · exact ⟨n, .inr z, h2⟩
  refine ⟨⟨by rw [List.length_set]; exact A.len, fun j e h => ?_, fun j e h => ?_, fun j k b e f h1 h2 => A.dis j k b e f (has _ _ _ h1).2 (has _ _ _ h2).2, fun b z => A.trk b z.1⟩, rp, ⟨⟨⟨fun _ _ h _ => h, fun _ _ h => h, fun _ _ _ h => h, fun _ h => h, fun _ h => .inl h.1, fun b h n => ⟨h, fun z => n ⟨i, d, hi, by rw [z]; exact hv⟩⟩⟩, fun b h => ?_, fun _ _ => rfl, fun j e h => ⟨by rw [List.getElem?_set_ne (fun z => by rw [← z, hi] at h; cases h)]; exact h, rfl⟩⟩, fun j h => ?_, fun j e h => ?_⟩⟩
  · rcases old j _ h with ⟨z, y⟩ | ⟨n, z⟩
    · cases y
      rw [z]
      exact ⟨_, hv, rp.e⟩
    · obtain ⟨v, e1, q⟩ := A.val j e z
      exact ⟨v, e1, q.less fun _ z => z.1⟩
  · have hn : j ≠ i ∧ (δ[j]? = some (Sl.own e) ∨ δ[j]? = some (Sl.lock e)) := by
      rcases h with h | h
      · rcases old j _ h with ⟨_, y⟩ | ⟨n, z⟩
        · cases y
        · exact ⟨n, .inl z⟩
      · rcases old j _ h with ⟨_, y⟩ | ⟨n, z⟩
        · cases y
        · exact ⟨n, .inr z⟩
    obtain ⟨b, e1, u1, o1⟩ := A.own j e hn.2
    exact ⟨b, e1, ⟨u1, fun z => hn.1 (A.dis j i a e d ⟨hn.2, by rw [← z]; exact e1⟩ ⟨.inl hi, hv⟩)⟩, o1.less fun _ z => z.1⟩
  · obtain ⟨j, e, h1, h2⟩ := h
    rcases old j _ h1 with ⟨_, y⟩ | ⟨n, z⟩
    · cases y
    · exact .inl ⟨j, e, z, h2⟩
  · obtain ⟨e, h⟩ := h
    by_cases z : j = i
    · rw [z]
      exact ⟨d, .inr (.inr (set_at hi))⟩
    · exact ⟨e, by rw [List.getElem?_set_ne (Ne.symm z)]; exact h⟩
  · rcases h with h | h
    · rcases old j _ h with ⟨_, y⟩ | ⟨n, z⟩
      · cases y
      · exact ⟨e, .inl z⟩
    · rcases old j _ h with ⟨_, y⟩ | ⟨n, z⟩
      · cases y
      · exact ⟨e, .inr z⟩
/-- given away: the value, what is new or the slot's no more -/
theorem esc_any {x : Option (Rs (Bool × D))} {v : V} {o : Opd} (A0 : Abs c pn U0 H0 σ δ0) (A : Abs c pn U H σ δ) (s : StpE io σ δ0 U0 H0 δ U H) (h : OpdR c pn H0 U H σ δ v o) (e : escM io o δ = x) :
    x = none ∨ ∃ b d δ' U', x = some (.ok (b, d) δ') ∧ isExc d = false ∧ Abs c pn U' H σ δ' ∧ StpE io σ δ0 U0 H0 δ' U' H ∧ StpE io σ δ U H δ' U' H ∧ OpdR c pn H0 U' H σ δ' v (.t b d) ∧ (b = true → o = .t true d) := by
  cases o with
  | t b d =>
    have e' : (if isExc d then none else some (Rs.ok (b, d) δ)) = x := e
    by_cases hx : isExc d = true
    · rw [if_pos hx] at e'
      exact .inl e'.symm
    · rw [if_neg hx] at e'
      subst e'
      exact .inr ⟨b, d, δ, U, rfl, by simpa using hx, A, s, StpE.refl, h, fun z => by rw [z]⟩
  | s i =>
    have e' : (match δ[i]? with | some (.val d) => if isExc d then none else some (Rs.ok (false, d) δ) | some (.own d) => if io.getD i false then none else some (Rs.ok (false, d) (δ.set i (.val d))) | _ => none) = x := e
    split at e'
    · rename_i d hd
      by_cases hx : isExc d = true
      · rw [if_pos hx] at e'
        exact .inl e'.symm
      · rw [if_neg hx] at e'
        subst e'
        obtain ⟨w, h1, q⟩ := A.val i d hd
        rw [h.1] at h1; cases h1
        exact .inr ⟨false, d, δ, U, rfl, by simpa using hx, A, s, StpE.refl, q, fun z => nomatch z⟩
    · rename_i d hd
      split at e'
      · exact .inl e'.symm
      · subst e'
        obtain ⟨b, h1, u, ow⟩ := A.own i d (.inl hd)
        have hv := h.1
        rw [hv] at h1; cases h1
        obtain ⟨A', rp, s'⟩ := A.give (io := io) hd hv
        exact .inr ⟨false, d, _, _, rfl, rp.noExc, A', s.trans s' A0.trk, s', rp.e, fun z => nomatch z⟩
    · exact .inl e'.symm
/-- .. and all the same to others what becomes of it -/
theorem esc_val {v : V} {b : Bool} {d : D} (A0 : Abs c pn U0 H0 σ δ0) (A : Abs c pn U H σ δ) (s : StpE io σ δ0 U0 H0 δ U H) (hd : isExc d = false) (h : OpdR c pn H0 U H σ δ v (.t b d)) :
    ∃ U', Abs c pn U' H σ δ ∧ StpE io σ δ0 U0 H0 δ U' H ∧ Rep c U' H v d ∧ (U' = U ∨ ∃ a, v = .ref a ∧ b = true ∧ U' = Uno U a) := by
  cases b with
  | false => exact ⟨U, A, s, h.rep hd, .inl rfl⟩
  | true =>
    obtain ⟨a, e, h0, u, o, n⟩ := h
    subst e
    exact ⟨Uno U a, A.drop n, s.drop h0 A0.trk, (o.less fun _ z => z.1).rep fun z => z.2 rfl, .inr ⟨a, rfl, rfl, rfl⟩⟩
theorem escs_ok : ∀ {os : List Opd} {vs : List V} {δ : Dst} {U : AS}, Abs c pn U0 H0 σ δ0 → Abs c pn U H σ δ → StpE io σ δ0 U0 H0 δ U H → OpdRs c pn H0 U H σ δ vs os →
    escsM io os δ = none ∨ ∃ ds δ' U', escsM io os δ = some (.ok ds δ') ∧ Abs c pn U' H σ δ' ∧ StpE io σ δ0 U0 H0 δ' U' H ∧ Reps c U' H vs ds ∧ (∀ b, U' b → U b)
  | [], _, δ, U, A0, A, s, .nil => .inr ⟨[], δ, U, rfl, A, s, .nil, fun _ z => z⟩
  | o :: os, _, δ, U, A0, A, s, .cons (v := v) (vs := vs) h t r => by
    unfold escsM
    rcases esc_any A0 A s h rfl with e | ⟨b, d, δ1, U1, e, hd, A1, s1, s2, h1, hb⟩
    · exact .inl (bind_no e)
    · rw [bind_ok e]
      have r1 := r.on A A1 s2
      obtain ⟨U2, A2, s3, rp, hU⟩ := esc_val A0 A1 s1 hd h1
      have r2 : OpdRs c pn H0 U2 H σ δ1 vs os := by
        rcases hU with z | ⟨a, e1, e2, z⟩
        · rw [z]; exact r1
        · rw [z]
          exact r1.drop (t a d (hb e2) e1)
      have le2 : ∀ b, U2 b → U b := fun b z => by
        have z1 : U1 b := by
          rcases hU with y | ⟨a, _, _, y⟩
          · rw [y] at z; exact z
          · rw [y] at z; exact z.1
        rcases s2.st.fr.u1 b z1 with y | y
        · exact y
        · exact absurd y (A1.trk b z1)
      rcases escs_ok A0 A2 s3 r2 with e2 | ⟨ds, δ3, U3, e2, A3, s4, rs, le⟩
      · exact .inl (bind_no e2)
      · refine .inr ⟨d :: ds, δ3, U3, bind_ok e2, A3, s4, .cons (rp.less le) rs, fun b z => le2 b (le b z)⟩
end
section
variable {m : Md} {glb : Str → Option Gk} {k : Nat} {N : List Str} {sc : Scope} {r : Ar} {X : L2.Cx} {cx : Ev.Cx} {a b d : Expr} {pa pb pd : PX} {pos : Pos}
theorem Cont.escs {α γ : Type} {R : Rl γ α} {Q : γ → Hp → Prop} {σ : Sg} {δ0 δ : Dst} {U0 U : AS} {H0 H : Hp} {os : List Opd} {vs : List V} {f : List D → M α} (A0 : Abs r.c r.pn U0 H0 σ δ0) (A : Abs r.c r.pn U H σ δ) (s : StpE r.io σ δ0 U0 H0 δ U H) (rr : ROs r H0 U H σ δ vs os)
    (h : Cont r R Q σ δ0 U0 H0 ((escsM r.io os).bind f δ)) : ∃ ds δ' U', Abs r.c r.pn U' H σ δ' ∧ StpE r.io σ δ0 U0 H0 δ' U' H ∧ Reps r.c U' H vs ds ∧ Cont r R Q σ δ0 U0 H0 (f ds δ') := by
  rcases escs_ok A0 A s rr with e | ⟨ds, δ', U', e, A', s', rs, _⟩
  · rw [bind_no e] at h; exact h.elim
  · rw [bind_ok e] at h
    exact ⟨ds, δ', U', A', s', rs, h⟩
/-! ### argument lists -/
theorem a_nil : PA X [] (tA r (evEs cx [])) := pa_mono pa_nil fun σ H Q ⟨U, δ, A, h⟩ => h _ U H A .nil StpE.refl
theorem OpdRs.fresh {c : RC} {pn : Pn} {H0 : Hp} {U : AS} {H : Hp} {σ : Sg} {δ : Dst} {vs : List V} {os : List Opd} {a : Addr} (h : OpdRs c pn H0 U H σ δ vs os) (n : H0 a ≠ none) : ¬ TmpIn a vs os := fun z => n (h.tmp z)
theorem a_cons {es : List Expr} {ps : List PX} (ha : PE X a (tE r (evE cx pa))) (hb : PA X es (tA r (evEs cx ps))) (hs : starEach (a :: es) X.env = (false, eval a X.env) :: starEach es X.env) : PA X (a :: es) (tA r (evEs cx (pa :: ps))) := by
  refine pa_mono (pa_cons ha hb hs) fun σ H Q h => ?_
  obtain ⟨U0, δ0, h⟩ := tM.bind (R1 := RO r) anti_RO (show tM r (ROs r) ((evE cx pa).bind fun x => (evEs cx ps).bind fun xs => M.pure (x :: xs)) σ H Q from h)
  refine tM.mono h fun x H1 ⟨U1, δ1, ox, n1⟩ => ?_
  refine (n1.on (R2 := ROs r) anti_ROs rfl).mono fun y H2 ⟨U2, δ2, oy, n2, s2, y2⟩ => ?_
  refine n2.k.ok rfl n2.A (.cons (n1.rr.on n1.A n2.A s2) (fun b e z1 z2 => ?_) n2.rr) n2.s
  subst z1
  obtain ⟨b', e1, _, u, _⟩ := n1.rr
  rw [z2] at e1; cases e1
  exact OpdRs.fresh y2 (n1.A.trk b u)
/-! ### displays -/
theorem e_tup (g : Gd m glb k N sc r X cx) {es : List Expr} {ps : List PX} {x1} (ha : PA X es (tA r (evEs cx ps))) : PE X (.Tuple es x1 pos) (tE r (evE cx (.tup ps))) := by
  refine pe_mono (pe_tup ha) fun σ H Q h => ?_
  obtain ⟨U0, δ0, h⟩ := tM.bind (R1 := ROs r) anti_ROs (show tM r (RO r) ((evEs cx ps).bind fun os => (escsM cx.io os).bind fun ds => if ds.length ≤ lim then M.pure (.t false (.tup ds)) else M.stuck) σ H Q from h)
  refine tM.mono h fun xs H1 ⟨U1, δ1, os, n1⟩ => ?_
  have kk := n1.k
  rw [← g.io] at kk
  obtain ⟨ds, δ2, U2, A2, s2, rs, kk⟩ := Cont.escs n1.A0 n1.A n1.s n1.rr kk
  split at kk
  · rename_i hz
    rw [lim_eq, ← rs.length] at hz
    exact ⟨hz, fun p np => kk.new rfl n1.A0 A2 s2 (same_upd np) (new_tup np rs)⟩
  · exact kk.elim
theorem e_lst (g : Gd m glb k N sc r X cx) {es : List Expr} {ps : List PX} (ha : PA X es (tA r (evEs cx ps))) : PE X (.List es pos) (tE r (evE cx (.lst ps))) := by
  refine pe_mono (pe_lst ha) fun σ H Q h => ?_
  obtain ⟨U0, δ0, h⟩ := tM.bind (R1 := ROs r) anti_ROs (show tM r (RO r) ((evEs cx ps).bind fun os => (escsM cx.io os).bind fun ds => if ds.length ≤ lim then M.pure (.t true (.lst ds)) else M.stuck) σ H Q from h)
  refine tM.mono h fun xs H1 ⟨U1, δ1, os, n1⟩ => ?_
  have kk := n1.k
  rw [← g.io] at kk
  obtain ⟨ds, δ2, U2, A2, s2, rs, kk⟩ := Cont.escs n1.A0 n1.A n1.s n1.rr kk
  split at kk
  · rename_i hz
    rw [lim_eq, ← rs.length] at hz
    exact ⟨hz, fun p np => kk.new rfl n1.A0 A2 s2 (same_upd np) (new_lst np rs)⟩
  · exact kk.elim
/-! ### slices -/
abbrev ROp : Rl (Option Int) (Option Int) := fun _ _ _ _ _ g a => g = a
theorem anti_ROp : Anti ROp := fun _ _ _ _ _ _ _ _ _ h => h
def tP (r : Ar) (m : M (Option Int)) : TO := fun σ H Q => tM r ROp m σ H Q
theorem po_mono {e : Option Expr} {t t' : TO} (h : PO X e t) (m : ∀ σ H Q, t' σ H Q → t σ H Q) : PO X e t' := ⟨fun pins s σ H Q I q => h.run pins s σ H Q I (m σ H Q q)⟩
theorem o_none : PO X none (tP r (evO cx none)) := po_mono po_none fun σ H Q ⟨U, δ, A, h⟩ => h _ U H A rfl StpE.refl
theorem o_some (ha : PE X a (tE r (evE cx pa))) : PO X (some a) (tP r (evO cx (some pa))) := by
  refine po_mono (po_some ha) fun σ H Q h => ?_
  obtain ⟨U0, δ0, h⟩ := tM.bind (R1 := RO r) anti_RO (show tM r ROp ((evE cx pa).bind fun x => (rdM x).bind fun d => match d with | .int i => M.pure (some i) | _ => M.stuck) σ H Q from h)
  refine tM.mono h fun x H1 ⟨U1, δ1, ox, n1⟩ => ?_
  obtain ⟨dx, e1, kk⟩ := n1.k.rd
  split at kk
  · rename_i i
    exact ⟨i, (n1.A.rd n1.rr e1).int, kk.ok rfl n1.A rfl n1.s⟩
  · exact kk.elim
theorem e_slc (g : Gd m glb k N sc r X cx) {lo hi : Option Expr} {pl ph : Option PX} {p2 : Pos} (ha : PE X a (tE r (evE cx pa))) (hl : PO X lo (tP r (evO cx pl))) (hh : PO X hi (tP r (evO cx ph))) : PE X (.Subscript a (.Slice lo hi none p2) pos) (tE r (evE cx (.slc pa pl ph))) := by
  refine pe_mono (pe_slice (slc_ok (c := r.c) (pn := r.pn) g.K) ha hl hh) fun σ H Q h => ?_
  obtain ⟨U0, δ0, h⟩ := tM.bind (R1 := RO r) anti_RO (show tM r (RO r) ((evE cx pa).bind fun x => (evO cx pl).bind fun l => (evO cx ph).bind fun h => (rdM x).bind fun d => M.opt ((slcD d l h).map fun p => .t p.1 p.2)) σ H Q from h)
  refine tM.mono h fun x H1 ⟨U1, δ1, ox, n1⟩ => ?_
  refine (n1.on (R2 := ROp) anti_ROp rfl).mono fun y H2 ⟨U2, δ2, oy, n2, s2, e2⟩ => ?_
  refine (n2.on (R2 := ROp) anti_ROp rfl).mono fun z H3 ⟨U3, δ3, oz, n3, s3, e3⟩ => ?_
  have y1 : y = oy := e2
  have z1 : z = oz := e3
  subst y1 z1
  obtain ⟨dx, e1, kk⟩ := n3.k.rd
  obtain ⟨o, e4, kk⟩ := kk.optE
  obtain ⟨⟨o, w⟩, e5, rfl⟩ := Option.map_eq_some_iff.mp e4
  exact ⟨U3, dx, o, w, n3.A.rd ((n1.rr.on n1.A n2.A s2).on n2.A n3.A s3) e1, e5, fun v H' sm nw => kk.new rfl n3.A0 n3.A n3.s sm nw⟩
/-! ### tests -/
theorem t_val (g : Gd m glb k N sc r X cx) (ha : PE X a (tE r (evE cx pa))) (he : ∀ whole, isTrue a X.env whole = (do let v ← whole; standAt a.pos; holding [v] (truthy v))) : PT X a (tT r (evT cx pa)) := by
  refine pt_mono (pt_truth ha he) fun σ H Q h => ?_
  obtain ⟨U0, δ0, h⟩ := tM.bind (R1 := RO r) anti_RO (show tM r RT ((evE cx pa).bind truM) σ H Q from h)
  refine tM.mono h fun x H1 ⟨U1, δ1, ox, n1⟩ => ?_
  have kk := n1.k
  unfold truM at kk
  obtain ⟨dx, e1, kk⟩ := kk.rd
  obtain ⟨b, e2, kk⟩ := kk.optE
  exact ⟨b, by rw [g.K]; exact tru_V (n1.A.rd n1.rr e1) e2, kk.ok rfl n1.A rfl n1.s⟩
theorem bind_inv {α β : Type} {m : M α} {f : α → M β} {δ δ' : Dst} {y : β} (h : m.bind f δ = some (.ok y δ')) : ∃ x δ1, m δ = some (.ok x δ1) ∧ f x δ1 = some (.ok y δ') := by
  unfold M.bind at h
  split at h
  · cases h
  · cases h
  · exact ⟨_, _, by assumption, h⟩
theorem opt_inv {α : Type} {x : Option α} {δ δ' : Dst} {y : α} (h : M.opt x δ = some (.ok y δ')) : x = some y := by
  unfold M.opt at h
  split at h
  · cases h
  · cases h; rfl
/-- an answer that is a bool -/
def Bly (m : M Opd) : Prop := ∀ δ o δ', m δ = some (.ok o δ') → ∃ k, o = .t false (.bl k)
theorem bly_bind {α : Type} {m : M α} {f : α → M Opd} (h : ∀ x, Bly (f x)) : Bly (m.bind f) := fun δ o δ' e => by
  obtain ⟨x, δ1, _, e2⟩ := bind_inv e
  exact h x _ _ _ e2
theorem bly_opt {x : Option Bool} : Bly (M.opt (x.map fun k => .t false (.bl k))) := fun δ o δ' e => by
  obtain ⟨k, _, z⟩ := Option.map_eq_some_iff.mp (opt_inv e)
  exact ⟨k, z.symm⟩
theorem t_bly {p : PX} (hb : Bly (evE cx p)) {σ : Sg} {H : Hp} {Q : Bool → Hp → Prop} (h : tT r (evT cx p) σ H Q) : tE r (evE cx p) σ H fun x H1 => ∃ c, x = .bl c ∧ Q c H1 := by
  obtain ⟨U, δ, A, h⟩ := h
  refine ⟨U, δ, A, ?_⟩
  cases e : evE cx p δ with
  | none => rw [show evT cx p δ = none from bind_no e] at h; exact h
  | some y =>
    cases y with
    | er x δ' => rw [show evT cx p δ = _ from bind_er e] at h; exact h
    | ok o δ' =>
      obtain ⟨k, rfl⟩ := hb δ o δ' e
      rw [show evT cx p δ = some (.ok k δ') from bind_ok e] at h
      exact fun v U' H' A' R' s' => ⟨k, (RepR.bl (pn := r.pn) (.inl R')), h k U' H' A' rfl s'⟩
theorem cmp_to {op : CmpOp} {σ : Sg} {H : Hp} {Q : VK} (h : tE r (evE cx (.cmp op pa pb)) σ H Q) : tOp (rcD r.c r.pn (cmpD op)) (tE r (evE cx pa)) (tE r (evE cx pb)) σ H Q := by
  obtain ⟨U0, δ0, h⟩ := tM.bind (R1 := RO r) anti_RO (show tM r (RO r) ((evE cx pa).bind fun x => (evE cx pb).bind fun y => (rdM x).bind fun dx => (rdM y).bind fun dy => M.opt ((cmpD op dx dy).map fun k => .t false (.bl k))) σ H Q from h)
  refine tM.mono h fun x H1 ⟨U1, δ1, ox, n1⟩ => ?_
  refine (n1.on (R2 := RO r) anti_RO rfl).mono fun y H2 ⟨U2, δ2, oy, n2, s2, _⟩ => ?_
  obtain ⟨dx, e1, kk⟩ := n2.k.rd
  obtain ⟨dy, e2, kk⟩ := kk.rd
  obtain ⟨o, e3, kk⟩ := kk.optE
  obtain ⟨w, e4, rfl⟩ := Option.map_eq_some_iff.mp e3
  exact ⟨U2, dx, dy, w, n2.A.rd (n1.rr.on n1.A n2.A s2) e1, n2.A.rd n2.rr e2, e4, kk.ok rfl n2.A (Rep.e (pn := r.pn) (.bl _)) n2.s⟩
theorem bly_cmp {op : CmpOp} : Bly (evE cx (.cmp op pa pb)) := bly_bind fun _ => bly_bind fun _ => bly_bind fun _ => bly_bind fun _ => bly_opt
theorem t_cmp (g : Gd m glb k N sc r X cx) {op : CmpOp} (ha : PE X a (tE r (evE cx pa))) (hb : PE X b (tE r (evE cx pb))) (hm : behindInMarks op b = false) : PT X (.Compare a [op] [b] pos) (tT r (evT cx (.cmp op pa pb))) := by
  have pc : PC X op a b (tOp (rcD r.c r.pn (cmpD op)) (tE r (evE cx pa)) (tE r (evE cx pb))) := ⟨fun pins s σ H Q I h =>
    thn (ha.run pins s σ H _ I h) fun u s1 ⟨x, H1, I1, rx, q⟩ => thn (hb.run pins s1 σ H1 _ I1 q) fun w s2 ⟨y, H2, I2, ry, q⟩ => cmp_ok (c := r.c) (pn := r.pn) g.K (by have := g.un; omega) op pins s2 σ H2 x y u w Q I2 rx ry q⟩
  exact pt_mono (pt_cmp pc hm) fun σ H Q h => cmp_to (t_bly bly_cmp h)
theorem bly_pure {k : Bool} : Bly (M.pure (.t false (.bl k))) := fun δ o δ' e => by cases e; exact ⟨k, rfl⟩
theorem bly_cmp2 {op op' : CmpOp} : Bly (evE cx (.cmp2 op op' pa pb pd)) := bly_bind fun _ => bly_bind fun _ => bly_bind fun _ => bly_bind fun _ => bly_bind fun k => by
  cases k with
  | true => exact bly_bind fun _ => bly_bind fun _ => bly_bind fun _ => bly_opt
  | false => exact bly_pure
theorem t_cmp2 (g : Gd m glb k N sc r X cx) {op op' : CmpOp} (ha : PE X a (tE r (evE cx pa))) (hb : PE X b (tE r (evE cx pb))) (hd : PE X d (tE r (evE cx pd))) (hm : lastMarks [op, op'] [b, d] = false) : PT X (.Compare a [op, op'] [b, d] pos) (tT r (evT cx (.cmp2 op op' pa pb pd))) := by
  refine pt_mono (pt_chain (cmp_ok (c := r.c) (pn := r.pn) g.K (by have := g.un; omega) op) (cmp_ok (c := r.c) (pn := r.pn) g.K (by have := g.un; omega) op') ha hb hd hm) fun σ H Q h => ?_
  exact cmp2_to (t_bly bly_cmp2 h)
theorem pure_bind {α β : Type} (x : α) (f : α → M β) : (M.pure x).bind f = f x := rfl
theorem bind_assoc {α β γ : Type} (m : M α) (f : α → M β) (h : β → M γ) : (m.bind f).bind h = m.bind fun x => (f x).bind h := by
  funext δ
  unfold M.bind
  cases m δ with
  | none => rfl
  | some y => cases y <;> rfl
theorem truM_nt (b : Bool) : truM (.t false (.bl b)) = M.pure b := rfl
theorem evT_nt : evT cx (.nt pa) = (evT cx pa).bind fun b => M.pure (!b) := by
  show ((evE cx pa).bind fun x => (truM x).bind fun b => M.pure (.t false (.bl (!b)))).bind truM = ((evE cx pa).bind truM).bind _
  rw [bind_assoc, bind_assoc]
  congr 1
  funext x
  rw [bind_assoc]
  rfl
theorem t_nt (ha : PT X a (tT r (evT cx pa))) : PT X (.UnaryOp .Not a pos) (tT r (evT cx (.nt pa))) := by
  refine pt_mono (pt_not ha) fun σ H Q h => ?_
  rw [show tT r (evT cx (.nt pa)) σ H Q = tM r RT (evT cx (.nt pa)) σ H Q from rfl, evT_nt] at h
  obtain ⟨U0, δ0, h⟩ := tM.bind (R1 := RT) anti_RT h
  refine tM.mono h fun x H1 ⟨U1, δ1, ox, n1⟩ => ?_
  have e : x = ox := n1.rr
  subst e
  exact n1.k.ok rfl n1.A rfl n1.s
theorem evT_and : evT cx (.andE pa pb) = (evT cx pa).bind fun k => if k then evT cx pb else M.pure false := by
  show ((evE cx pa).bind fun x => (truM x).bind fun k => if k then evE cx pb else M.pure x).bind truM = ((evE cx pa).bind truM).bind _
  rw [bind_assoc, bind_assoc]
  congr 1
  funext x δ
  rw [bind_assoc]
  have e := truM_is x δ
  cases e1 : rdO δ x with
  | none =>
    rw [e1] at e
    rw [bind_no e, bind_no e]
  | some d =>
    rw [e1] at e
    cases e2 : truD d with
    | none =>
      rw [show (some d).bind (fun d => (truD d).map fun b => Rs.ok b δ) = (truD d).map fun b => Rs.ok b δ from rfl, e2] at e
      rw [bind_no e, bind_no e]
    | some b =>
      rw [show (some d).bind (fun d => (truD d).map fun b => Rs.ok b δ) = (truD d).map fun b => Rs.ok b δ from rfl, e2] at e
      rw [bind_ok e, bind_ok e]
      cases b with
      | true => rfl
      | false => exact e
theorem evT_or : evT cx (.orE pa pb) = (evT cx pa).bind fun k => if k then M.pure true else evT cx pb := by
  show ((evE cx pa).bind fun x => (truM x).bind fun k => if k then M.pure x else evE cx pb).bind truM = ((evE cx pa).bind truM).bind _
  rw [bind_assoc, bind_assoc]
  congr 1
  funext x δ
  rw [bind_assoc]
  have e := truM_is x δ
  cases e1 : rdO δ x with
  | none =>
    rw [e1] at e
    rw [bind_no e, bind_no e]
  | some d =>
    rw [e1] at e
    cases e2 : truD d with
    | none =>
      rw [show (some d).bind (fun d => (truD d).map fun b => Rs.ok b δ) = (truD d).map fun b => Rs.ok b δ from rfl, e2] at e
      rw [bind_no e, bind_no e]
    | some b =>
      rw [show (some d).bind (fun d => (truD d).map fun b => Rs.ok b δ) = (truD d).map fun b => Rs.ok b δ from rfl, e2] at e
      rw [bind_ok e, bind_ok e]
      cases b with
      | false => rfl
      | true => exact e
theorem t_and {rest : List Expr} (ha : PT X a (tT r (evT cx pa))) (hb : PW X (.BoolOp .And (b :: rest) pos) (tT r (evT cx pb))) : PW X (.BoolOp .And (a :: b :: rest) pos) (tT r (evT cx (.andE pa pb))) := by
  refine pw_mono (pw_and ha hb) fun σ H Q h => ?_
  rw [show tT r (evT cx (.andE pa pb)) σ H Q = tM r RT (evT cx (.andE pa pb)) σ H Q from rfl, evT_and] at h
  obtain ⟨U0, δ0, h⟩ := tM.bind (R1 := RT) anti_RT h
  refine tM.mono h fun x H1 ⟨U1, δ1, ox, n1⟩ => ?_
  have e : x = ox := n1.rr
  subst e
  cases x with
  | true => exact n1.last anti_RT
  | false => exact n1.k.ok rfl n1.A rfl n1.s
theorem t_or {rest : List Expr} (ha : PT X a (tT r (evT cx pa))) (hb : PW X (.BoolOp .Or (b :: rest) pos) (tT r (evT cx pb))) : PW X (.BoolOp .Or (a :: b :: rest) pos) (tT r (evT cx (.orE pa pb))) := by
  refine pw_mono (pw_or ha hb) fun σ H Q h => ?_
  rw [show tT r (evT cx (.orE pa pb)) σ H Q = tM r RT (evT cx (.orE pa pb)) σ H Q from rfl, evT_or] at h
  obtain ⟨U0, δ0, h⟩ := tM.bind (R1 := RT) anti_RT h
  refine tM.mono h fun x H1 ⟨U1, δ1, ox, n1⟩ => ?_
  have e : x = ox := n1.rr
  subst e
  cases x with
  | true => exact n1.k.ok rfl n1.A rfl n1.s
  | false => exact n1.last anti_RT
theorem evE_ite : evE cx (.ite pd pa pb) = (evT cx pd).bind fun k => if k then evE cx pa else evE cx pb := by
  show ((evE cx pd).bind fun x => (truM x).bind fun k => if k then evE cx pa else evE cx pb) = ((evE cx pd).bind truM).bind _
  rw [bind_assoc]
theorem e_ite (hd : PT X d (tT r (evT cx pd))) (ha : PE X a (tE r (evE cx pa))) (hb : PE X b (tE r (evE cx pb))) : PE X (.IfExp d a b pos) (tE r (evE cx (.ite pd pa pb))) := by
  refine pe_mono (pe_ifExp hd ha hb) fun σ H Q h => ?_
  rw [show tE r (evE cx (.ite pd pa pb)) σ H Q = tM r (RO r) (evE cx (.ite pd pa pb)) σ H Q from rfl, evE_ite] at h
  obtain ⟨U0, δ0, h⟩ := tM.bind (R1 := RT) anti_RT h
  refine tM.mono h fun x H1 ⟨U1, δ1, ox, n1⟩ => ?_
  have e : x = ox := n1.rr
  subst e
  cases x with
  | true => exact n1.last anti_RO
  | false => exact n1.last anti_RO
end
end Ev

set_option Elab.async false
set_option linter.all false
set_option maxRecDepth 100000
set_option maxHeartbeats 2000000
/-! Part Ia: t[::-1]. -/
namespace Ev
open PySem L2 PyProof.Rows
section
variable {prog : Program} {w : World} {A : Around} {E : Value → Shared → Prop} {s : Shared}
theorem applied_rev {sl : Addr} {u : Tok} {n : Nat} {Q : Int × Int × Nat → Shared → Prop} (hs : s.heap.IsSliceOf sl .none .none (.int (-1) u))
    (h : Q ((n : Int) - 1, -1, n) s) : wpAny (model prog w) A (Builtin.Slice.sliceApplied (.ref sl) (pure (n : Int))) Q E s := by
  obtain ⟨os, hos, hcs, hds⟩ := id hs
  unfold Builtin.Slice.sliceApplied Builtin.Slice.sliceFields
  refine wpAny_bind (wpAny_bind (wpAny_field hos hds (x := .none) rfl (wpAny_bind (wpAny_field hos hds (x := .none) rfl (wpAny_bind (wpAny_field hos hds (x := .int (-1) u) rfl (wpAny_pure ?_)))))))
  refine wpAny_bind (slicePart_int ?_)
  show wpAny _ _ (if ((-1 : Int) == 0) = true then _ else _) _ _ s
  rw [if_neg (by decide)]
  refine wpAny_bind (slicePart_none (wpAny_bind (slicePart_none (wpAny_bind (wpAny_pure ?_)))))
  show wpAny _ _ (pure ((n : Int) - 1, (-1 : Int), Builtin.Slice.slicePlaces ((n : Int) - 1) (-1) (-1))) _ _ s
  have e : Builtin.Slice.slicePlaces ((n : Int) - 1) (-1) (-1) = n := by
    unfold Builtin.Slice.slicePlaces
    rw [if_neg (by decide)]
    split
    · have : ((n : Int) - 1 - -1 - 1) / (- -1) + 1 = n := by
        rw [show (- -1 : Int) = 1 by rfl, Int.ediv_one]; omega
      rw [this]; rfl
    · omega
  rw [e]
  exact wpAny_pure h
theorem pick_rev (xs : Array Value) : ((List.range xs.size).filterMap fun (m : Nat) => xs[((xs.size : Int) - 1 + (m : Int) * -1).toNat]?).toArray = xs.toList.reverse.toArray := by
  have e : ((List.range xs.size).filterMap fun (m : Nat) => xs[((xs.size : Int) - 1 + (m : Int) * -1).toNat]?) = xs.toList.reverse := by
    have h1 : ((List.range xs.size).filterMap fun (m : Nat) => xs[((xs.size : Int) - 1 + (m : Int) * -1).toNat]?) = (List.range xs.size).filterMap fun m => xs.toList.reverse[m]? := by
      have : ∀ (l : List Nat), (∀ m ∈ l, m < xs.size) → (l.filterMap fun (m : Nat) => xs[((xs.size : Int) - 1 + (m : Int) * -1).toNat]?) = l.filterMap fun m => xs.toList.reverse[m]? := by
        intro l
        induction l with
        | nil => intro _; rfl
        | cons m l ih =>
          intro h
          have hm := h m (by simp)
          have e1 : xs[((xs.size : Int) - 1 + (m : Int) * -1).toNat]? = xs.toList.reverse[m]? := by
            rw [List.getElem?_reverse (by simpa using hm), Array.getElem?_toList, Array.length_toList]
            congr 1
            omega
          rw [List.filterMap_cons, List.filterMap_cons, e1, ih fun k hk => h k (List.mem_cons_of_mem _ hk)]
      exact this _ fun m hm => List.mem_range.mp hm
    rw [h1]
    have h2 : ∀ (l : List Value), (List.range l.length).filterMap (fun m => l[m]?) = l := by
      intro l
      apply List.ext_getElem?
      intro i
      induction l generalizing i with
      | nil => simp
      | cons x l ih =>
        rw [List.length_cons, List.range_succ_eq_map, List.filterMap_cons]
        cases i with
        | zero => rfl
        | succ i =>
          simp only [List.getElem?_cons_zero, List.getElem?_cons_succ]
          rw [List.filterMap_map]
          exact ih i
    have := h2 xs.toList.reverse
    rwa [List.length_reverse, Array.length_toList] at this
  rw [e]
theorem getItem_tuple_rev {t sl : Addr} {items : Array Value} {u : Tok} {Q : Value → Shared → Prop} (ht : IsTup s.heap t items) (hs : s.heap.IsSliceOf sl .none .none (.int (-1) u))
    (h : Q (.ref s.heap.objs.size) { s with heap := s.heap.push { cls := .type "tuple", data := .seq items.toList.reverse.toArray } })
    (hsz : items.size ≤ sizeLine) : wpAny (model prog w) A (getItem (.ref t) (.ref sl)) Q E s := by
  have htake : sizeOk (.seq items.toList.reverse.toArray) := by
    show items.toList.reverse.toArray.size ≤ sizeLine
    rw [List.size_toArray, List.length_reverse, Array.length_toList]
    omega
  obtain ⟨os, hos, hcs, hds⟩ := id hs
  have hTs : s.TypeIs (.ref sl) "slice" := ⟨os, hos, hcs⟩
  unfold getItem
  try with_reducible refine wpAny_holding ?_
  first | refine wpAny_bind (wpAny_pure ?_) | skip
  refine wpAny_bind (wpAny_sequenceKey ht.typeIs (by decide) ?_)
  refine wpAny_bind (wpAny_callSpecial?_slot (name := Str.ofString "__getitem__") ht.typeIs PyProof.Rows.slot_tuple_getitem
    (wpAny_call_entry PyProof.Rows.slot_tuple_getitem ht.typeIs entry_tuple_getitem ?_ (args_tuple_getitem _ _)))
  show wpAny _ _ (Builtin.Tuple.tupleItemsOf (.ref t) >>= _) _ _ s
  refine wpAny_bind (tupleItemsOf_ ht ?_)
  refine wpAny_bind (wpAny_typeOf hTs ?_)
  rw [if_pos (by decide)]
  refine wpAny_bind (applied_rev hs ?_)
  have hno : ¬ ((((items.size : Int) - 1) == 0 && (-1 : Int) == 1 && items.size == items.size) = true) := by simp
  show wpAny _ _ (if (((items.size : Int) - 1) == 0 && (-1 : Int) == 1 && items.size == items.size) = true then _ else _) _ _ s
  rw [if_neg hno, pick_rev]
  first
    | exact wpAny_bind (m := Builtin.Tuple.tupleExact _) (wpAny_newObj_type (wpAny_pure ⟨_, rfl, wpAny_pure h⟩) htake)
    | exact wpAny_bind (m := Builtin.Tuple.tupleExact _) (wpAny_newObj_type (wpAny_bind (wpAny_pure (wpAny_pure ⟨_, rfl, wpAny_pure h⟩))) htake)
    | exact wpAny_bind (wpAny_bind (m := Builtin.Tuple.tupleExact _) (wpAny_newObj_type (wpAny_pure (wpAny_pure ⟨_, rfl, wpAny_pure h⟩)) htake))
    | exact wpAny_bind (wpAny_bind (m := Builtin.Tuple.tupleExact _) (wpAny_newObj_type (wpAny_pure ⟨_, rfl, wpAny_pure h⟩) htake))
end
section
variable {X : L2.Cx}
def tRev (K : PySem.W.Frag) (te : TE) : TE := fun σ H Q => te σ H fun x H1 => ∃ a xs, x = .ref a ∧ ((SqL K H1 a xs ∧ ∀ p, H1 p = none → Q (.ref p) (upd H1 p (.lst xs.reverse))) ∨ (SqT K H1 a xs ∧ ∀ p, H1 p = none → Q (.ref p) (upd H1 p (.tup xs.reverse))))
theorem pe_rev {e : Expr} {te : TE} {k : Nat} {p1 p2 p3 pos : Pos} (he : PE X e te) : PE X (.Subscript e (.Slice none none (some (.UnaryOp .USub (.Constant (.int 1) k p1) p2)) p3) pos) (tRev X.K te) := by
  refine ⟨fun pins s σ H Q I h => ?_⟩
  refine Subscript_ (thn (he.run pins s σ H _ I h) fun v s1 ⟨x, H1, I1, r1, q1⟩ => ?_)
  obtain ⟨a, xs, ex, q⟩ := q1
  subst ex
  cases r1
  have hst : PO X (some (.UnaryOp .USub (.Constant (.int 1) k p1) p2)) (tPart (tUn (rU fun i => .int (-i)) (tC (.int 1)))) := po_some (pe_un un_neg pe_int)
  refine wpAny_Slice (thn (po_none.run pins s1 σ H1 (fun o H2 => o = none ∧ H2 = H1) I1 ⟨rfl, rfl⟩) fun vl s2 ⟨l, H2, I2, pl, el, e2⟩ => ?_)
  subst el e2
  refine thn (po_none.run pins s2 σ H2 (fun o H3 => o = none ∧ H3 = H2) I2 ⟨rfl, rfl⟩) fun vu s3 ⟨u, H3, I3, pu, eu, e3⟩ => ?_
  subst eu e3
  refine thn (hst.run pins s3 σ H3 (fun o H4 => o = some (-1) ∧ H4 = H3) I3 ⟨1, rfl, -1, rfl, rfl, rfl⟩) fun vs s4 ⟨o, H4, I4, ps, eo, e4⟩ => ?_
  subst eo e4
  have I5 : Inv X pins σ H4 { s4 with heap := s4.heap.push { cls := .type "slice", data := .fields #[vl, vu, vs] } } := I4.kept (t' := s4.toks) fun b ob q => Heap.get?_push_of_some _ q
  show wpAny (model X.prog X.w) X.A (subscriptTail e (.Slice none none (some (.UnaryOp .USub (.Constant (.int 1) k p1) p2)) p3) (.ref a) (.ref s4.heap.objs.size)) (EP X pins σ Q) X.xe { s4 with heap := s4.heap.push { cls := .type "slice", data := .fields #[vl, vu, vs] } }
  rcases q with ⟨hx, q⟩ | ⟨hx, q⟩
  · obtain ⟨its, r, ht, hz⟩ := I5.list hx
    have hlen := r.length
    refine tail_any (ops := [.ref a, .ref s4.heap.objs.size]) ht.isList.typeIs (PySem.slot_list_getitem.lookup) ?_ (by with_unfolding_all rfl)
    refine wpAny_getItem_list_slice ht.isList (Heap.IsSliceOf.new _ vl vu vs) pl pu ps (by decide) ?_ (by rw [List.size_toArray]; omega)
    rw [PySem.W.krv_pick]
    refine ⟨.ref _, _, I5.laid (t' := s4.toks) (o := .lst xs.reverse) (fun b ob q => Heap.get?_push_of_some _ q) (Nat.le_refl _) ?_, rfl, q _ (I5.hok.fresh (Nat.le_refl _))⟩
    exact ⟨by rw [List.length_reverse]; exact hz, _, 0, r.reverse, Heap.get?_push_size _ rfl⟩
  · obtain ⟨its, r, ht, hz⟩ := I5.tuple hx
    have hlen := r.length
    cases pl
    cases pu
    cases ps
    refine tail_any (ops := [.ref a, .ref s4.heap.objs.size]) ht.typeIs (PyProof.Rows.slot_tuple_getitem.lookup) ?_ (by with_unfolding_all rfl)
    refine getItem_tuple_rev ht (Heap.IsSliceOf.new _ _ _ _) ?_ (by rw [List.size_toArray]; omega)
    refine ⟨.ref _, _, I5.laid (t' := s4.toks) (o := .tup xs.reverse) (fun b ob q => Heap.get?_push_of_some _ q) (Nat.le_refl _) ?_, rfl, q _ (I5.hok.fresh (Nat.le_refl _))⟩
    exact ⟨by rw [List.length_reverse]; exact hz, _, r.reverse, IsTup.new _ _⟩
end
section
variable {m : Md} {glb : Str → Option Gk} {k : Nat} {N : List Str} {sc : Scope} {r : Ar} {X : L2.Cx} {cx : Ev.Cx} {a : Expr} {pa : PX} {pos : Pos}
theorem e_rev (g : Gd m glb k N sc r X cx) {kk : Nat} {p1 p2 p3 : Pos} (ha : PE X a (tE r (evE cx pa))) : PE X (.Subscript a (.Slice none none (some (.UnaryOp .USub (.Constant (.int 1) kk p1) p2)) p3) pos) (tE r (evE cx (.rev pa))) := by
  refine pe_mono (pe_rev ha) fun σ H Q h => ?_
  obtain ⟨U0, δ0, h⟩ := tM.bind (R1 := RO r) anti_RO (show tM r (RO r) ((evE cx pa).bind fun x => (rdM x).bind fun d => M.opt ((revD d).map fun p => .t p.1 p.2)) σ H Q from h)
  refine tM.mono h fun x H1 ⟨U1, δ1, ox, n1⟩ => ?_
  obtain ⟨dx, e1, kk⟩ := n1.k.rd
  obtain ⟨o, e4, kk⟩ := kk.optE
  obtain ⟨⟨o, w⟩, e5, rfl⟩ := Option.map_eq_some_iff.mp e4
  have hx := n1.A.rd n1.rr e1
  unfold revD at e5
  split at e5
  · cases e5
    obtain ⟨a, vs, rfl, ha, ra⟩ := hx.lst
    exact ⟨a, vs, rfl, .inl ⟨.inl (.inl ha), fun p np => kk.new rfl n1.A0 n1.A n1.s (same_upd np) (new_lst np ra.reverse)⟩⟩
  · cases e5
    obtain ⟨a, vs, rfl, ha, ra⟩ := hx.tup
    exact ⟨a, vs, rfl, .inr ⟨g.K ▸ ha, fun p np => kk.new rfl n1.A0 n1.A n1.s (same_upd np) (new_tup np ra.reverse)⟩⟩
  · cases e5
theorem opds_of {c : RC} {pn : Pn} {H0 : Hp} {U : AS} {H : Hp} {σ : Sg} {δ : Dst} : ∀ {vs : List V} {ds : List D}, Reps c U H vs ds → OpdRs c pn H0 U H σ δ vs (ds.map (Opd.t false))
  | _, _, .nil => .nil
  | _, _, .cons h r => .cons (Rep.e (pn := pn) h) (fun a d e => nomatch e) (opds_of r)
theorem opds_app {c : RC} {pn : Pn} {H0 : Hp} {U : AS} {H : Hp} {σ : Sg} {δ : Dst} {ws : List V} {os : List Opd} (h2 : OpdRs c pn H0 U H σ δ ws os) : ∀ {vs : List V} {ds : List D}, OpdRs c pn H0 U H σ δ vs (ds.map (Opd.t false)) → OpdRs c pn H0 U H σ δ (vs ++ ws) (ds.map (Opd.t false) ++ os)
  | [], [], _ => h2
  | [], _ :: _, h => nomatch h
  | _ :: _, [], h => nomatch h
  | v :: vs, d :: ds, .cons h t r => .cons h (fun a d e => nomatch e) (opds_app h2 r)
theorem seqR_of {c : RC} {pn : Pn} {U : AS} {H : Hp} {x : V} {d : D} {ds : List D} (h : RepR c pn U H x d) (e : seqR d = some ds) : ∃ a vs, x = .ref a ∧ (SqT c.K H a vs ∨ SqL c.K H a vs) ∧ Reps c U H vs ds := by
  unfold seqR at e
  split at e
  · cases e
    obtain ⟨a, vs, rfl, ha, ra⟩ := h.lst
    exact ⟨a, vs, rfl, .inr (.inl (.inl ha)), ra⟩
  · cases e
    obtain ⟨a, vs, rfl, ha, ra⟩ := h.tup
    exact ⟨a, vs, rfl, .inl ha, ra⟩
  · cases e
    obtain ⟨a, vs, rfl, ha, ra⟩ := h.ro
    exact ⟨a, vs, rfl, .inr ha, ra⟩
  · cases e
theorem as_nil {bs : List Bool} : PA X [] (tA r (evSs cx bs [])) := pa_mono pa_nil fun σ H Q ⟨U, δ, A, h⟩ => h _ U H A .nil StpE.refl
theorem as_cons {bs : List Bool} {es : List Expr} {ps : List PX} (ha : PE X a (tE r (evE cx pa))) (hb : PA X es (tA r (evSs cx bs ps))) (hs : starEach (a :: es) X.env = (false, eval a X.env) :: starEach es X.env) : PA X (a :: es) (tA r (evSs cx (false :: bs) (pa :: ps))) := by
  refine pa_mono (pa_cons ha hb hs) fun σ H Q h => ?_
  obtain ⟨U0, δ0, h⟩ := tM.bind (R1 := RO r) anti_RO (show tM r (ROs r) ((evE cx pa).bind fun x => (evSs cx bs ps).bind fun xs => M.pure (x :: xs)) σ H Q from h)
  refine tM.mono h fun x H1 ⟨U1, δ1, ox, n1⟩ => ?_
  refine (n1.on (R2 := ROs r) anti_ROs rfl).mono fun y H2 ⟨U2, δ2, oy, n2, s2, y2⟩ => ?_
  refine n2.k.ok rfl n2.A (.cons (n1.rr.on n1.A n2.A s2) (fun b e z1 z2 => ?_) n2.rr) n2.s
  subst z1
  obtain ⟨b', e1, _, u, _⟩ := n1.rr
  rw [z2] at e1; cases e1
  exact OpdRs.fresh y2 (n1.A.trk b u)
theorem as_star (g : Gd m glb k N sc r X cx) {bs : List Bool} {es : List Expr} {ps : List PX} {sp : Pos} (ha : PE X a (tE r (evE cx pa))) (hb : PA X es (tA r (evSs cx bs ps))) : PA X (.Starred a sp :: es) (tA r (evSs cx (true :: bs) (pa :: ps))) := by
  refine pa_mono (StX.pa_star ha hb) fun σ H Q h => ?_
  obtain ⟨U0, δ0, h⟩ := tM.bind (R1 := RO r) anti_RO (show tM r (ROs r) ((evE cx pa).bind fun x => (rdM x).bind fun d => (M.opt (seqR d)).bind fun ds => (evSs cx bs ps).bind fun xs => M.pure (ds.map (Opd.t false) ++ xs)) σ H Q from h)
  refine tM.mono h fun x H1 ⟨U1, δ1, ox, n1⟩ => ?_
  obtain ⟨d, e1, kk⟩ := n1.k.rd
  obtain ⟨ds, e2, kk⟩ := kk.opt
  obtain ⟨a, vs, rfl, hsq, ra⟩ := seqR_of (n1.A.rd n1.rr e1) e2
  refine ⟨a, vs, rfl, g.K ▸ hsq, ?_⟩
  have n1' : Nx r (RO r) (ROs r) Q σ δ0 U0 H (fun x => (evSs cx bs ps).bind fun xs => M.pure (ds.map (Opd.t false) ++ xs)) _ U1 δ1 H1 ox := ⟨n1.A0, n1.A, n1.rr, n1.s, kk⟩
  refine (n1'.on (R2 := ROs r) anti_ROs rfl).mono fun y H2 ⟨U2, δ2, oy, n2, s2, y2⟩ => ?_
  exact n2.k.ok rfl n2.A (opds_app n2.rr ((opds_of ra).on n1.A n2.A s2)) n2.s
theorem e_tupS (g : Gd m glb k N sc r X cx) {bs : List Bool} {es : List Expr} {ps : List PX} {x1} (ha : PA X es (tA r (evSs cx bs ps))) : PE X (.Tuple es x1 pos) (tE r (evE cx (.tupS bs ps))) := by
  refine pe_mono (pe_tup ha) fun σ H Q h => ?_
  obtain ⟨U0, δ0, h⟩ := tM.bind (R1 := ROs r) anti_ROs (show tM r (RO r) ((evSs cx bs ps).bind fun os => (escsM cx.io os).bind fun ds => if ds.length ≤ lim then M.pure (.t false (.tup ds)) else M.stuck) σ H Q from h)
  refine tM.mono h fun xs H1 ⟨U1, δ1, os, n1⟩ => ?_
  have kk := n1.k
  rw [← g.io] at kk
  obtain ⟨ds, δ2, U2, A2, s2, rs, kk⟩ := Cont.escs n1.A0 n1.A n1.s n1.rr kk
  split at kk
  · rename_i hz
    rw [lim_eq, ← rs.length] at hz
    exact ⟨hz, fun p np => kk.new rfl n1.A0 A2 s2 (same_upd np) (new_tup np rs)⟩
  · exact kk.elim
theorem e_lstS (g : Gd m glb k N sc r X cx) {bs : List Bool} {es : List Expr} {ps : List PX} (ha : PA X es (tA r (evSs cx bs ps))) : PE X (.List es pos) (tE r (evE cx (.lstS bs ps))) := by
  refine pe_mono (pe_lst ha) fun σ H Q h => ?_
  obtain ⟨U0, δ0, h⟩ := tM.bind (R1 := ROs r) anti_ROs (show tM r (RO r) ((evSs cx bs ps).bind fun os => (escsM cx.io os).bind fun ds => if ds.length ≤ lim then M.pure (.t true (.lst ds)) else M.stuck) σ H Q from h)
  refine tM.mono h fun xs H1 ⟨U1, δ1, os, n1⟩ => ?_
  have kk := n1.k
  rw [← g.io] at kk
  obtain ⟨ds, δ2, U2, A2, s2, rs, kk⟩ := Cont.escs n1.A0 n1.A n1.s n1.rr kk
  split at kk
  · rename_i hz
    rw [lim_eq, ← rs.length] at hz
    exact ⟨hz, fun p np => kk.new rfl n1.A0 A2 s2 (same_upd np) (new_lst np rs)⟩
  · exact kk.elim
end
end Ev

set_option Elab.async false
set_option linter.all false
set_option maxRecDepth 100000
set_option maxHeartbeats 2000000
/-! Part J: calls of built-in functions and methods. -/
namespace Ev
open PySem L2 PyProof.Rows
section
variable {m : Md} {glb : Str → Option Gk} {k : Nat} {N : List Str} {sc : Scope} {r : Ar} {X : L2.Cx} {cx : Ev.Cx} {a b d : Expr} {pa pb pd : PX} {pos : Pos}
def biName : Bi → Str
  | .len => "len" | .sum => "sum" | .all => "all" | .any => "any" | .min => "min" | .max => "max" | .abs => "abs" | .int => "int" | .str => "str" | .repr => "repr" | .bool => "bool" | .tuple => "tuple" | .list => "list" | .sorted => "sorted" | .dict => "dict" | .isin => "isinstance"
def biVal : Bi → Value
  | .len => .builtin "len" | .sum => .builtin "sum" | .all => .builtin "all" | .any => .builtin "any" | .min => .builtin "min" | .max => .builtin "max" | .abs => .builtin "abs" | .int => .type "int" | .str => .type "str" | .repr => .builtin "repr" | .bool => .type "bool"
  | .tuple => .type "tuple" | .list => .type "list" | .sorted => .builtin "sorted" | .dict => .type "dict" | .isin => .builtin "isinstance"
theorem bi_boot : ∀ b : Bi, bootBuiltins (biName b) = some (biVal b)
  | .len => PySem.boot_len
  | .sum => boot_sum
  | .all => boot_all
  | .any => boot_any
  | .min => boot_min
  | .max => boot_max
  | .abs => boot_abs
  | .int => boot_int
  | .str => boot_str
  | .repr => boot_repr
  | .bool => boot_bool
  | .tuple => boot_tuple
  | .list => boot_list
  | .sorted => boot_sorted
  | .dict => boot_dict
  | .isin => boot_isinstance
theorem bi_nm : ∀ b : Bi, biName b ≠ "__name__" := by intro b; cases b <;> decide +kernel
theorem bi_db : ∀ b : Bi, (biName b == ("__debug__" : Str)) = false := by intro b; cases b <;> decide +kernel
theorem bi_ok (hK : X.K = r.c.K) (hgd : X.A.guards = some []) (hu : X.A.units + 190 < cLine) : ∀ b : Bi, (X.calm = true ∨ hotBi b = true) → CallR X (biVal b) (rlD r.c r.pn (biD b))
  | .len, _ => len_ok hK
  | .sum, h => sum_ok (h.elim id fun z => nomatch z)
  | .all, h => all_ok (h.elim id fun z => nomatch z)
  | .any, h => any_ok (h.elim id fun z => nomatch z)
  | .min, h => min_ok (h.elim id fun z => nomatch z) hK
  | .max, h => max_ok (h.elim id fun z => nomatch z) hK
  | .abs, _ => abs_ok
  | .int, _ => int_ok
  | .repr, _ => repr_ok hK hgd (by omega)
  | .bool, _ => bool_ok
  | .tuple, _ => tuple_ok hK
  | .list, h => list_ok (h.elim id fun z => nomatch z) hK
  | .sorted, h => sorted_ok (h.elim id fun z => nomatch z)
  | .dict, h => dict_ok (h.elim id fun z => nomatch z) hK
  | .str, _ => fun pins s σ H xs us Q I r ⟨U, ds, o, d, hr, hg, k⟩ => nomatch hg
  | .isin, _ => fun pins s σ H xs us Q I r ⟨U, ds, o, d, hr, hg, k⟩ => nomatch hg
theorem pe_callV {x : Str} {p : Pos} {e : Expr} {es : List Expr} {t : TA} {rl : List V → Hp → VK → Prop} : ∀ b : Bi, CallR X (biVal b) rl → Gl X (biName b) → X.mg (biName b) = none → PA X (e :: es) t → starEach (e :: es) X.env = (false, eval e X.env) :: starEach es X.env → (backTo pos (starEach es X.env)).any (·.1) = false → PE X (.Call (.Name (biName b) p) (e :: es) [] pos) (tCB rl t) := by
  intro b hc hg hm ha he hpl
  have hb := bi_boot b
  have hn := bi_nm b
  have hd := bi_db b
  cases b <;> first
    | exact pe_callB hc hg hm hb ha hn hd he hpl
    | exact pe_callTy hc hg hm hb ha hn hd he hpl
theorem e_bi (g : Gd m glb k N sc r X cx) {bf : Bi} {p : Pos} {es : List Expr} {ps : List PX} (hs : sc.names.lookup (biName bf) = some .globalImplicit) (hg : glb (biName bf) = some .bn) (ha : PA X (a :: es) (tA r (evEs cx ps))) (he : starEach (a :: es) X.env = (false, eval a X.env) :: starEach es X.env) (hpl : (backTo pos (starEach es X.env)).any (·.1) = false) : PE X (.Call (.Name (biName bf) p) (a :: es) [] pos) (tE r (evE cx (.bi bf ps))) := by
  refine ⟨fun pins s σ H Q I h => ?_⟩
  have e : evE cx (.bi bf ps) = if cx.hot && !hotBi bf then M.stuck else (evEs cx ps).bind fun os => (rdsM os).bind fun ds => M.opt ((biD bf ds).map fun p => .t p.1 p.2) := rfl
  have hc : X.calm = true ∨ hotBi bf = true := by
    cases h1 : cx.hot with
    | false => exact .inl (g.calm h1)
    | true =>
      cases h2 : hotBi bf with
      | true => exact .inr rfl
      | false =>
        rw [show tE r (evE cx (.bi bf ps)) σ H Q = tM r (RO r) (evE cx (.bi bf ps)) σ H Q from rfl, e, h1, h2] at h
        obtain ⟨_, _, _, z⟩ := h
        exact z.elim
  refine (pe_callV (x := biName bf) bf (bi_ok (r := r) g.K g.gd g.un bf hc) (g.gl hs) (g.no hg) ha he hpl).run pins s σ H Q I ?_
  have h' : tM r (RO r) ((evEs cx ps).bind fun os => (rdsM os).bind fun ds => M.opt ((biD bf ds).map fun p => .t p.1 p.2)) σ H Q := by
    rw [show tE r (evE cx (.bi bf ps)) σ H Q = tM r (RO r) (evE cx (.bi bf ps)) σ H Q from rfl, e] at h
    split at h
    · obtain ⟨_, _, _, z⟩ := h
      exact z.elim
    · exact h
  obtain ⟨U0, δ0, h⟩ := tM.bind (R1 := ROs r) anti_ROs h'
  refine tM.mono h fun xs H1 ⟨U1, δ1, os, n1⟩ => ?_
  obtain ⟨ds, e1, kk⟩ := n1.k.rds
  obtain ⟨o, e3, kk⟩ := kk.optE
  obtain ⟨⟨o, w⟩, e4, rfl⟩ := Option.map_eq_some_iff.mp e3
  exact ⟨U1, ds, o, w, n1.A.rds n1.rr e1, e4, fun v H' sm nw => kk.new rfl n1.A0 n1.A n1.s sm nw⟩
/-! ### isinstance of a caught error -/
theorem call_isX (cl : ClsG m cx.sub) (hK : X.K = m.c.K) (pn : ∀ p ∈ r.pn, p ∈ X.pn) (hc : r.c = m.c) : CallR X (.builtin "isinstance") (fun xs H Q => ∃ v e f k, xs = [v, .ref (m.c.ca k)] ∧ ExcAt r.c r.pn v e f ∧ Q (.bl (cx.sub e k)) H) := by
  rintro pins s σ H xs us Q I rr ⟨v, e, f, k, rfl, ⟨a, oe, rfl, hm, hz, hf, _⟩, q⟩
  obtain ⟨u, w, rfl, ru, rw'⟩ := vals2 rr
  cases ru
  cases rw'
  obtain ⟨hget, _⟩ := I.pin (a, oe) (List.mem_append.mpr (.inl (pn _ hm)))
  obtain ⟨vs, hv⟩ := hf
  have J : PySem.W.InstAt s.heap a oe (m.c.ca e) none := by
    obtain ⟨oc, od, oda, osl⟩ := oe
    obtain ⟨h1, h2, _⟩ := hz
    dsimp only at h1 h2 hv
    rw [hc] at h1
    subst h1 h2 hv
    exact ⟨hget, rfl, rfl, trivial⟩
  have C := cl.exc e
  rw [← hK] at C
  have kt := cl.kit e k
  rw [← hK] at kt
  exact PySem.W.kia_one (PySem.W.handS_kitx_exc C.hg C.hk C.hs C.hd C.ha C.hn C.ht C.hm) I.kIn J kt (fun z => nomatch z) fun tk => ⟨.bl _, H, I.kept (t' := tk) fun _ _ z => z, rfl, q⟩
theorem e_isE (g : Gd m glb k N sc r X cx) {p p2 : Pos} {x : Str} {n : Nat} (hs : sc.names.lookup (biName .isin) = some .globalImplicit) (hg : glb (biName .isin) = some .bn) (ha : PE X a (tE r (evE cx pa))) (hx : glb x = some (.cls n)) (hxs : sc.names.lookup x = some .globalImplicit)
    (hdx : (x == ("__debug__" : Str)) = false) (he : ∀ es, starEach (a :: es) X.env = (false, eval a X.env) :: starEach es X.env) : PE X (.Call (.Name (biName .isin) p) [a, .Name x p2] [] pos) (tE r (evE cx (.isE pa n))) := by
  have hcl : PE X (.Name x p2) (tC (.ref (m.c.ca n))) := pe_glob (v := .ref (m.c.ca n)) (g.gl hxs) (by rw [g.mg]; exact g.nm.cls x n hx) rfl hdx
  refine pe_mono (pe_callV (x := biName .isin) .isin (call_isX (r := r) g.cl (by rw [g.K, g.c]) g.pn g.c) (g.gl hs) (g.no hg) (pa_cons ha (pa_cons hcl pa_nil) (he _)) (he _) rfl) fun σ H Q h => ?_
  obtain ⟨U0, δ0, h⟩ := tM.bind (R1 := RO r) anti_RO (show tM r (RO r) ((evE cx pa).bind fun x => (rdM x).bind fun d => match d with | .exc e _ => M.pure (.t false (.bl (cx.sub e n))) | _ => M.stuck) σ H Q from h)
  refine tM.mono h fun xs H1 ⟨U1, δ1, o, n1⟩ => ?_
  obtain ⟨dd, e1, kk⟩ := n1.k.rd
  split at kk
  · rename_i e f
    have ex := (n1.A.rd n1.rr e1).exc
    exact ⟨xs, e, f, n, rfl, ex, kk.ok rfl n1.A (Rep.e (pn := r.pn) (.bl _)) n1.s⟩
  · exact kk.elim
/-! ### methods that change nothing -/
theorem mt_countF : MtR X "list.count" (fun x xs H Q => ∃ (p : Addr) (ys : List V) (y : V), x = .ref p ∧ xs = [y] ∧ SqL X.K H p ys ∧ flatV y = true ∧ ys.all flatV = true ∧ Q (.int ((ys.countP fun z => eqV z y : Nat) : Int)) H) := by
  rintro pins s σ H x xs v us Q I rx rxs ⟨p, ys, y, rfl, rfl, hs, fy, fys, q⟩
  cases rx
  obtain ⟨u, rfl, ru⟩ := vals1 rxs
  obtain ⟨its, rv, ⟨⟨cls, dd, data, sl⟩, n, ho, hc, hdn, hd⟩, hlen⟩ := I.list hs
  simp only at hc hd
  subst hc hd
  have cnt : ∀ {ys : List V} {its : List Value}, Vals ys its → ys.all flatV = true → its.countP (eqU y) = ys.countP fun z => eqV z y := by
    intro ys its rv
    induction rv with
    | nil => intro _; rfl
    | cons r t ih =>
      intro f
      rw [List.all_cons, Bool.and_eq_true] at f
      rw [List.countP_cons, List.countP_cons, ih f.2, eqU_of r f.1]
  refine call_meets PySem.F.slot_list_count ⟨_, ho, rfl⟩ PySem.F.entry_list_count (PySem.F.args_list_count_2 _ _)
    (SeqAt.list_countAt p its.toArray n dd sl u (eqU y)) ⟨ho, fun z hz => mem_eqAt ru fy rv fys z (by simpa using hz), ?_⟩
  have ec : its.toArray.toList.countP (eqU y) = ys.countP fun z => eqV z y := by
    rw [List.toList_toArray]
    exact cnt rv fys
  refine ⟨.int ((ys.countP fun z => eqV z y : Nat) : Int), H, I.tok _, ⟨s.toks, ?_⟩, q⟩
  rw [ec]
def rmD (c : RC) (pn : Pn) (g : D → List D → Option (Bool × D)) : V → List V → Hp → VK → Prop := fun x xs H Q => ∃ U dx ds o d, RepR c pn U H x dx ∧ RepRs c pn U H xs ds ∧ g dx ds = some (o, d) ∧ ∀ v H', Same H H' → NewR c U H H' v o d → Q v H'
theorem idx_V {c : RC} {pn : Pn} {U : AS} {H : Hp} {x : V} {dx : D} (hx : RepR c pn U H x dx) (fx : flatD dx = true) : ∀ {vs : List V} {ds : List D} {j : Nat}, Reps c U H vs ds → ds.all flatD = true → idxF dx ds = some j → ∃ z, vs[j]? = some z ∧ eqV z x = true ∧ ∀ (n : Nat) (z' : V), n < j → vs[n]? = some z' → eqV z' x = false
  | _, _, _, .nil, _, e => by cases e
  | _, _, j, .cons (v := v) (d := d) h t, f, e => by
    rw [List.all_cons, Bool.and_eq_true] at f
    have q := (flat_V (pn := pn) (.inl h.e) f.1).2 hx fx
    unfold idxF at e
    split at e
    · rename_i y
      cases e
      exact ⟨v, rfl, by rw [q]; exact y, fun n z hn => absurd hn (Nat.not_lt_zero _)⟩
    · rename_i y
      obtain ⟨i, e1, rfl⟩ := Option.map_eq_some_iff.mp e
      obtain ⟨z, h1, h2, h3⟩ := idx_V hx fx t f.2 e1
      refine ⟨z, by simpa using h1, h2, fun n z' hn hz => ?_⟩
      cases n with
      | zero =>
        cases hz
        rw [q]; simpa using y
      | succ n => exact h3 n z' (by omega) (by simpa using hz)
theorem cnt_V {c : RC} {pn : Pn} {U : AS} {H : Hp} {x : V} {dx : D} (hx : RepR c pn U H x dx) (fx : flatD dx = true) : ∀ {vs : List V} {ds : List D}, Reps c U H vs ds → ds.all flatD = true → (vs.countP fun z => eqV z x) = ds.countP fun y => eqF y dx
  | _, _, .nil, _ => rfl
  | _, _, .cons h t, f => by
    rw [List.all_cons, Bool.and_eq_true] at f
    rw [List.countP_cons, List.countP_cons, cnt_V hx fx t f.2, (flat_V (pn := pn) (.inl h.e) f.1).2 hx fx]
def mtName : Mt → Str
  | .index => "index" | .count => "count" | .get => "get"
def mtId : Mt → String
  | .index => "list.index" | .count => "list.count" | .get => "dict.get"
def mtT : Mt → String
  | .index => "list" | .count => "list" | .get => "dict"
theorem mt_ok (hK : X.K = r.c.K) (hu : X.A.units + 190 < cLine) : ∀ t : Mt, MtR X (mtId t) (rmD r.c r.pn (mtD t))
  | .index => by
    rintro pins s σ H x xs v us Q I rx rxs ⟨U, dx, ds, o, d, hx, hxs, hg, q⟩
    match dx, ds, hg with
    | .lst ys, [y], hg =>
      have hg' : (if flatD y && ys.all flatD then (idxF y ys).map fun (k : Nat) => (false, D.int (k : Int)) else none) = some (o, d) := hg
      split at hg'
      · rename_i hf
        rw [Bool.and_eq_true] at hf
        obtain ⟨j, e1, e2⟩ := Option.map_eq_some_iff.mp hg'
        cases e2
        obtain ⟨w, rfl, hw⟩ := rep1 hxs
        obtain ⟨a, vs, rfl, ha, ra⟩ := hx.lst
        obtain ⟨z, h1, h2, h3⟩ := idx_V hw hf.1 ra hf.2 e1
        have fl := flats_V hw hf.1 ra hf.2
        exact mt_index pins s σ H _ _ v us Q I rx rxs ⟨a, vs, w, j, z, rfl, rfl, .inl (.inl ha), (flat_V hw hf.1).1, fl.1, h1, h2, h3, q _ _ (Same.refl H) (Rep.int _)⟩
      · cases hg'
  | .count => by
    rintro pins s σ H x xs v us Q I rx rxs ⟨U, dx, ds, o, d, hx, hxs, hg, q⟩
    match dx, ds, hg with
    | .lst ys, [y], hg =>
      have hg' : (if flatD y && ys.all flatD then some (false, D.int (ys.countP fun z => eqF z y)) else none) = some (o, d) := hg
      split at hg'
      · rename_i hf
        rw [Bool.and_eq_true] at hf
        cases hg'
        obtain ⟨w, rfl, hw⟩ := rep1 hxs
        obtain ⟨a, vs, rfl, ha, ra⟩ := hx.lst
        have fl := flats_V hw hf.1 ra hf.2
        refine mt_countF pins s σ H _ _ v us Q I rx rxs ⟨a, vs, w, rfl, rfl, .inl (.inl ha), (flat_V hw hf.1).1, fl.1, ?_⟩
        rw [cnt_V hw hf.1 ra hf.2]
        exact q _ _ (Same.refl H) (Rep.int _)
      · cases hg'
  | .get => by
    rintro pins s σ H x xs v us Q I rx rxs ⟨U, dx, ds, o, d, hx, hxs, hg, q⟩
    match dx, ds, hg with
    | .dct kvs, [kk], hg =>
      have hg' : (if keyD kk then some (false, (getK kvs kk).getD .non) else none) = some (o, d) := hg
      split at hg'
      · rename_i hk
        cases hg'
        obtain ⟨w, rfl, hw⟩ := rep1 hxs
        obtain ⟨a, vs, rfl, ha, ra⟩ := hx.dct
        obtain ⟨ky, rfl, rfl⟩ := key_of hw hk
        cases rx
        obtain ⟨u, rfl, ru⟩ := vals1 rxs
        have gg := DGet.k (k := ky) ha
        refine d_get1 (by omega) I gg ru fun w' s' I' rw' => ⟨(valV vs ky).getD .non, H, I', rw', q _ _ (Same.refl H) ?_⟩
        show Rep _ _ _ _ _
        rcases getK_kD ky ra with ⟨e1, e2⟩ | ⟨v', d', e1, e2, rp⟩
        · rw [e1, e2]; exact .non
        · rw [e1, e2]; exact rp
      · cases hg'
    | .dct kvs, [kk, y], hg =>
      have hg' : (if keyD kk && flatD y then some (false, (getK kvs kk).getD y) else none) = some (o, d) := hg
      split at hg'
      · rename_i hk
        rw [Bool.and_eq_true] at hk
        cases hg'
        obtain ⟨w, w2, rfl, hw, hw2⟩ := rep2 hxs
        obtain ⟨a, vs, rfl, ha, ra⟩ := hx.dct
        obtain ⟨ky, rfl, rfl⟩ := key_of hw hk.1
        cases rx
        obtain ⟨u, u2, rfl, ru, ru2⟩ := vals2 rxs
        have gg := DGet.k (k := ky) ha
        refine d_get2 (by omega) I gg ru ru2 fun w' s' I' rw' => ⟨(valV vs ky).getD w2, H, I', rw', q _ _ (Same.refl H) ?_⟩
        show Rep _ _ _ _ _
        rcases getK_kD ky ra with ⟨e1, e2⟩ | ⟨v', d', e1, e2, rp⟩
        · rw [e1, e2]
          rcases hw2 with h | ⟨b, _, _, ow⟩
          · exact h.rep (by cases y <;> first | rfl | cases hk.2)
          · cases y <;> first | exact ow.elim | cases hk.2
        · rw [e1, e2]; exact rp
      · cases hg'
theorem mt_slot : ∀ t : Mt, Slot (mtT t) (mtName t) (mtId t)
  | .index => PySem.F.slot_list_index
  | .count => PySem.F.slot_list_count
  | .get => PySem.F.slot_dict_get
theorem mt_plain : ∀ t : Mt, PlainAttrs (mtT t)
  | .index => PySem.F.plainAttrs_list
  | .count => PySem.F.plainAttrs_list
  | .get => PySem.F.plainAttrs_dict
theorem mt_type : ∀ t : Mt, typeOf (.builtin (mtId t)) = pure (.type "method_descriptor")
  | .index => PySem.F.type_list_index
  | .count => PySem.F.type_list_count
  | .get => PySem.F.type_dict_get
theorem mt_tyV {c : RC} {pn : Pn} {U : AS} {H : Hp} {x : V} {d : D} {K : PySem.W.Frag} : ∀ {t : Mt}, RepR c pn U H x d → mtTy t d = true → tyV K (mtT t) x H
  | .index, h, e => by
    cases d <;> first | cases e | skip
    obtain ⟨a, vs, rfl, ha, _⟩ := h.lst
    exact .inl ⟨rfl, vs, .inl (.inl ha)⟩
  | .count, h, e => by
    cases d <;> first | cases e | skip
    obtain ⟨a, vs, rfl, ha, _⟩ := h.lst
    exact .inl ⟨rfl, vs, .inl (.inl ha)⟩
  | .get, h, e => by
    cases d <;> first | cases e | skip
    obtain ⟨a, vs, rfl, ha, _⟩ := h.dct
    exact .inr (.inr (.inl ⟨rfl, .inl ⟨vs, ha⟩⟩))
theorem e_mt (g : Gd m glb k N sc r X cx) {t : Mt} {apos : Pos} {e : Expr} {es : List Expr} {ps : List PX} (ha : PE X a (tE r (evE cx pa))) (hes : PA X (e :: es) (tA r (evEs cx ps))) (hbase : attributeBase a (mtName t) X.env (eval a X.env) = eval a X.env)
    (hfew : ((backTo pos (starEach (e :: es) X.env)).all (fun x => !x.1) && (backToKw pos (keywordEach [] X.env)).all (fun x => x.1.isSome)
      && decide ((e :: es).length + ([] : List Keyword).length + (if ([] : List Keyword).isEmpty then 0 else 1) < 30)) = true)
    (hline : (apos.endLine == pos.line) = true) (hs : starEach (e :: es) X.env = (false, eval e X.env) :: starEach es X.env) (hpl : (backTo pos (starEach es X.env)).any (·.1) = false) : PE X (.Call (.Attribute a (mtName t) apos) (e :: es) [] pos) (tE r (evE cx (.mt t pa ps))) := by
  refine pe_mono (pe_bm (mt_plain t) (mt_slot t) (mt_type t) (mt_ok (r := r) g.K g.un t) ha hes hbase hfew hline hs hpl) fun σ H Q h => ?_
  obtain ⟨U0, δ0, h⟩ := tM.bind (R1 := RO r) anti_RO (show tM r (RO r) ((evE cx pa).bind fun x => (rdM x).bind fun d0 => if mtTy t d0 then (evEs cx ps).bind fun os => (rdM x).bind fun d => (rdsM os).bind fun ds => M.opt ((mtD t d ds).map fun p => .t p.1 p.2) else M.stuck) σ H Q from h)
  refine tM.mono h fun x H1 ⟨U1, δ1, ox, n1⟩ => ?_
  obtain ⟨d0, e0, kk⟩ := n1.k.rd
  split at kk
  · rename_i ht
    refine ⟨mt_tyV (n1.A.rd n1.rr e0) ht, ?_⟩
    have n1' : Nx r (RO r) (RO r) Q σ δ0 U0 H (fun x => (evEs cx ps).bind fun os => (rdM x).bind fun d => (rdsM os).bind fun ds => M.opt ((mtD t d ds).map fun p => .t p.1 p.2)) x U1 δ1 H1 ox := ⟨n1.A0, n1.A, n1.rr, n1.s, kk⟩
    refine (n1'.on (R2 := ROs r) anti_ROs rfl).mono fun xs H2 ⟨U2, δ2, os, n2, s2, _⟩ => ?_
    obtain ⟨dx, e1, kk⟩ := n2.k.rd
    obtain ⟨ds, e2, kk⟩ := kk.rds
    obtain ⟨o, e3, kk⟩ := kk.optE
    obtain ⟨⟨o, w⟩, e4, rfl⟩ := Option.map_eq_some_iff.mp e3
    exact ⟨U2, dx, ds, o, w, n2.A.rd (n1.rr.on n1.A n2.A s2) e1, n2.A.rds n2.rr e2, e4, fun v H' sm nw => kk.new rfl n2.A0 n2.A n2.s sm nw⟩
  · exact kk.elim

/-! ### methods that change a list -/
theorem Fr'.weak {M M' U U' : AS} {H H' : Hp} (f : Fr' M U U' H H') (h : ∀ a, M a → M' a) : Fr' M' U U' H H' := ⟨fun a o e n => f.keep a o e fun z => n (h a z), f.tup, f.frz, f.there, f.u1, fun a u n => f.u2 a u fun z => n (h a z)⟩
theorem fr_upd {U : AS} {H : Hp} {l : Addr} {o o' : HO} (hl : H l = some o) (h1 : ∀ xs, H l ≠ some (.tup xs)) (h2 : ∀ q u, H l ≠ some (.frz q u)) : Fr' (fun b => b = l) U U H (upd H l o') :=
  ⟨fun b u e n => by rw [upd_ne n]; exact e, fun b xs e => by rw [upd_ne (fun z => h1 xs (by rw [← z]; exact e))]; exact e, fun b q u e => by rw [upd_ne (fun z => h2 q u (by rw [← z]; exact e))]; exact e, fun b e => by
    by_cases z : b = l
    · rw [z, upd_same]; exact fun z => nomatch z
    · rw [upd_ne z]; exact e, fun _ h => .inl h, fun _ h _ => h⟩
/-- a slot's own list is written -/
theorem Abs.write {c : RC} {pn : Pn} {io : List Bool} {σ : Sg} {δ : Dst} {U : AS} {H : Hp} {l : Addr} {i : Nat} {d d' : D} {o' : HO} (A : Abs c pn U H σ δ) (hi : δ[i]? = some (Sl.own d)) (hv : σ[i]? = some (some (V.ref l))) (hw : OwnC c U (upd H l o') l d') :
    Abs c pn U (upd H l o') σ (δ.set i (.own d')) ∧ StpE io σ δ U H (δ.set i (.own d')) U (upd H l o') ∧ Fr' (fun b => b = l) U U H (upd H l o') ∧ U l := by
  obtain ⟨b, e, u, ow⟩ := A.own i d (.inl hi)
  rw [hv] at e; cases e
  have f : Fr' (fun b => b = l) U U H (upd H l o') := by
    cases q : H l with
    | none => exact absurd q ow.at_
    | some x => exact fr_upd q ow.mut.1 ow.mut.2
  have hm : ∀ b, b = l → U b := fun b z => by rw [z]; exact u
  have old : ∀ (j : Nat) (x : Sl), (δ.set i (.own d'))[j]? = some x → (j = i ∧ x = .own d') ∨ (j ≠ i ∧ δ[j]? = some x) := fun j x h => by
    by_cases z : j = i
    · subst z
      rw [set_at hi] at h
      cases h
      exact .inl ⟨rfl, rfl⟩
    · rw [List.getElem?_set_ne (Ne.symm z)] at h
      exact .inr ⟨z, h⟩
  have own' : ∀ j e, ((δ.set i (.own d'))[j]? = some (Sl.own e) ∨ (δ.set i (.own d'))[j]? = some (Sl.lock e)) → (j = i ∧ e = d') ∨ (j ≠ i ∧ (δ[j]? = some (Sl.own e) ∨ δ[j]? = some (Sl.lock e))) := fun j e h => by
    rcases h with h | h
    · rcases old j _ h with ⟨z, y⟩ | ⟨n, z⟩
      · cases y; exact .inl ⟨z, rfl⟩
      · exact .inr ⟨n, .inl z⟩
    · rcases old j _ h with ⟨_, y⟩ | ⟨n, z⟩
      · cases y
      · exact .inr ⟨n, .inr z⟩
  have has : ∀ j b e, Has σ (δ.set i (.own d')) j b e → ∃ e', Has σ δ j b e' := fun j b e ⟨h1, h2⟩ => by
    rcases own' j e h1 with ⟨z, _⟩ | ⟨n, z⟩
    · rw [z] at h2 ⊢
      exact ⟨d, .inl hi, h2⟩
    · exact ⟨e, z, h2⟩
  refine ⟨⟨by rw [List.length_set]; exact A.len, fun j e h => ?_, fun j e h => ?_, fun j k b e e2 h1 h2 => ?_, fun b z => f.there b (A.trk b z)⟩, ⟨⟨f.weak fun b z => ⟨i, d, hi, by rw [z]; exact hv⟩, fun b h => ?_, fun _ _ => rfl, fun j e h => ⟨by rw [List.getElem?_set_ne (fun z => by rw [← z, hi] at h; cases h)]; exact h, rfl⟩⟩, fun j h => ?_, fun j e h => ?_⟩, f, u⟩
  · rcases old j _ h with ⟨z, y⟩ | ⟨n, z⟩
    · cases y
    · obtain ⟨v, e1, q⟩ := A.val j e z
      exact ⟨v, e1, q.mono f hm⟩
  · rcases own' j e h with ⟨z, y⟩ | ⟨n, z⟩
    · rw [z, y]
      exact ⟨l, hv, u, hw⟩
    · obtain ⟨b, e1, u1, o1⟩ := A.own j e z
      exact ⟨b, e1, u1, o1.keep f hm fun y => n (A.dis j i l e d ⟨z, by rw [← y]; exact e1⟩ ⟨.inl hi, hv⟩)⟩
  · obtain ⟨e3, h3⟩ := has _ _ _ h1
    obtain ⟨e4, h4⟩ := has _ _ _ h2
    exact A.dis j k b e3 e4 h3 h4
  · obtain ⟨j, e, h1, h2⟩ := h
    rcases old j _ h1 with ⟨z, y⟩ | ⟨n, z⟩
    · rw [z] at h2
      exact .inl ⟨i, d, hi, h2⟩
    · exact .inl ⟨j, e, z, h2⟩
  · obtain ⟨e, h⟩ := h
    by_cases z : j = i
    · rw [z]
      exact ⟨d', .inl (set_at hi)⟩
    · exact ⟨e, by rw [List.getElem?_set_ne (Ne.symm z)]; exact h⟩
  · rcases own' j e h with ⟨z, y⟩ | ⟨n, z⟩
    · rw [z]; exact ⟨d, .inl hi⟩
    · exact ⟨e, z⟩
def mmName : Mm → Str
  | .append => "append" | .extend => "extend" | .pop => "pop" | .reverse => "reverse"
def mmId : Mm → String
  | .append => "list.append" | .extend => "list.extend" | .pop => "list.pop" | .reverse => "list.reverse"
theorem mm_slot : ∀ t : Mm, Slot "list" (mmName t) (mmId t)
  | .append => PySem.F.slot_list_append
  | .extend => PySem.F.slot_list_extend
  | .pop => PySem.F.slot_list_pop
  | .reverse => PySem.F.slot_list_reverse
theorem mm_type : ∀ t : Mm, typeOf (.builtin (mmId t)) = pure (.type "method_descriptor")
  | .append => PySem.F.type_list_append
  | .extend => PySem.F.type_list_extend
  | .pop => PySem.F.type_list_pop
  | .reverse => PySem.F.type_list_reverse
/-- what a method does: the list at l -/
def rmM (c : RC) (t : Mm) : V → List V → Hp → VK → Prop := fun x xs H Q => ∃ l U d ds res d', x = .ref l ∧ OwnC c U H l d ∧ U l ∧ (∀ a, U a → H a ≠ none) ∧ Reps c U H xs ds ∧ mmD t d ds = some (res, d') ∧ ∀ v o', OwnC c U (upd H l o') l d' → Rep c U (upd H l o') v res → Q v (upd H l o')
theorem mm_ok {c : RC} : ∀ t : Mm, MtR X (mmId t) (rmM c t)
  | .append => by
    rintro pins s σ H x xs v us Q I rx rxs ⟨l, U, d, ds, res, d', rfl, ow, ul, tr, rs, e, q⟩
    match d, ds, e, ow, rs with
    | .lst ys, [y], e, ow, rs =>
      have e' : (if ys.length < lim then some (D.non, D.lst (ys ++ [y])) else none) = some (res, d') := e
      split at e'
      · rename_i hz
        cases e'
        obtain ⟨vs, hl, r1⟩ := ow
        cases rs with
        | cons r2 r3 =>
          cases r3
          rename_i w
          rw [lim_eq, ← r1.length] at hz
          have f := fr_upd (U := U) (o' := .lst (vs ++ [w])) hl (fun xs z => by rw [hl] at z; cases z) (fun o u z => by rw [hl] at z; cases z)
          refine mt_append pins s σ H _ _ v us Q I rx rxs ⟨l, vs, _, rfl, rfl, hl, hz, q _ _ ⟨_, upd_same, ?_⟩ .non⟩
          exact (r1.append (.cons r2 .nil)).mono f fun b z => by rw [z]; exact ul
      · cases e'
  | .extend => by
    rintro pins s σ H x xs v us Q I rx rxs ⟨l, U, d, ds, res, d', rfl, ow, ul, tr, rs, e, q⟩
    match d, ds, e, ow, rs with
    | .lst ys, [.lst zs], e, ow, rs =>
      have e' : (if ys.length + zs.length ≤ lim then some (D.non, D.lst (ys ++ zs)) else none) = some (res, d') := e
      split at e'
      · rename_i hz
        cases e'
        obtain ⟨vs, hl, r1⟩ := ow
        cases rs with
        | cons r2 r3 =>
          cases r3
          obtain ⟨b, ws, rfl, hb, rb⟩ := RepR.lst (pn := []) (.inl r2.e)
          rw [lim_eq, ← r1.length, ← rb.length] at hz
          have f := fr_upd (U := U) (o' := .lst (vs ++ ws)) hl (fun xs z => by rw [hl] at z; cases z) (fun o u z => by rw [hl] at z; cases z)
          refine mt_extend pins s σ H _ _ v us Q I rx rxs ⟨l, b, vs, ws, rfl, rfl, hl, hb, hz, q _ _ ⟨_, upd_same, ?_⟩ .non⟩
          exact (r1.append rb).mono f fun b z => by rw [z]; exact ul
      · cases e'
  | .pop => by
    rintro pins s σ H x xs v us Q I rx rxs ⟨l, U, d, ds, res, d', rfl, ow, ul, tr, rs, e, q⟩
    match d, ds, e, ow, rs with
    | .lst ys, [], e, ow, rs =>
      obtain ⟨y, e1, e2⟩ := Option.map_eq_some_iff.mp (show (ys.getLast?).map (fun x => (x, D.lst ys.dropLast)) = some (res, d') from e)
      cases e2
      obtain ⟨vs, hl, r1⟩ := ow
      cases rs
      rw [List.getLast?_eq_getElem?] at e1
      obtain ⟨w, h1, h2⟩ := r1.get e1
      rw [← r1.length] at h1
      have f := fr_upd (U := U) (o' := .lst vs.dropLast) hl (fun xs z => by rw [hl] at z; cases z) (fun o u z => by rw [hl] at z; cases z)
      have hm : ∀ b, b = l → U b := fun b z => by rw [z]; exact ul
      refine mt_pop pins s σ H _ _ v us Q I rx rxs ⟨l, vs, w, rfl, rfl, hl, h1, q _ _ ⟨_, upd_same, ?_⟩ (h2.mono f hm)⟩
      rw [List.dropLast_eq_take, List.dropLast_eq_take, r1.length]
      rw [List.dropLast_eq_take, r1.length] at f
      exact (r1.take _).mono f hm
  | .reverse => by
    rintro pins s σ H x xs v us Q I rx rxs ⟨l, U, d, ds, res, d', rfl, ow, ul, tr, rs, e, q⟩
    match d, ds, e, ow, rs with
    | .lst ys, [], e, ow, rs =>
      have e' : some (D.non, D.lst ys.reverse) = some (res, d') := e
      cases e'
      obtain ⟨vs, hl, r1⟩ := ow
      cases rs
      have f := fr_upd (U := U) (o' := .lst vs.reverse) hl (fun xs z => by rw [hl] at z; cases z) (fun o u z => by rw [hl] at z; cases z)
      refine mt_reverse pins s σ H _ _ v us Q I rx rxs ⟨l, vs, rfl, rfl, hl, q _ _ ⟨_, upd_same, ?_⟩ .non⟩
      exact r1.reverse.mono f fun b z => by rw [z]; exact ul
theorem mm_to {t : Mm} {i : Nat} {ps : List PX} {ta : TA} (g : Gd m glb k N sc r X cx) (hta : ∀ σ H Q, tA r (evEs cx ps) σ H Q → ta σ H Q) {σ : Sg} {H : Hp} {Q : VK} (h : tE r (evE cx (.mm t i ps)) σ H Q) : tBM X.K "list" (rmM r.c t) (tVar i) ta σ H Q := by
  obtain ⟨U0, δ0, A0, h⟩ := h
  have e : evE cx (.mm t i ps) δ0 = ((isLst i).bind fun _ => (evEs cx ps).bind fun os => (escsM cx.io os).bind fun ds => mmM t i ds) δ0 := rfl
  rw [e] at h
  cases e1 : isLst i δ0 with
  | none => rw [bind_no e1] at h; exact h.elim
  | some y =>
    have e1' := e1
    unfold isLst at e1
    split at e1
    · rename_i ys hi
      cases e1
      rw [bind_ok e1'] at h
      obtain ⟨l, hl, ul, vs, hv, rv⟩ := A0.own i _ (.inl hi)
      refine ⟨_, hl, .inl ⟨rfl, vs, .inl (.inl hv)⟩, hta σ H _ ?_⟩
      refine ⟨U0, δ0, A0, (Cont.bind (R1 := ROs r) anti_ROs A0 A0 StpE.refl h).mono fun xs H1 ⟨U1, δ1, os, n1, _⟩ => ?_⟩
      have kk := n1.k
      rw [← g.io] at kk
      obtain ⟨ds, δ2, U2, A2, s2, rs, kk⟩ := Cont.escs n1.A0 n1.A n1.s n1.rr kk
      unfold mmM at kk
      split at kk
      · rename_i d hi2
        split at kk
        · exact kk.elim
        · rename_i res d' he
          obtain ⟨l2, hl2, ul2, ow2⟩ := A2.own i d (.inl hi2)
          have el : l2 = l := by
            rw [hl] at hl2
            cases hl2; rfl
          subst el
          refine ⟨l2, U2, d, ds, res, d', rfl, ow2, ul2, A2.trk, rs, he, fun v o' w rv => ?_⟩
          obtain ⟨A3, s3, _, _⟩ := A2.write (io := r.io) (d' := d') (o' := o') hi2 hl w
          exact kk.ok rfl A3 (Rep.e rv) (s2.trans s3 A0.trk)
      · exact kk.elim
    · cases e1
theorem e_mm (g : Gd m glb k N sc r X cx) {t : Mm} {i : Nat} {x : Str} {npos apos : Pos} {e : Expr} {es : List Expr} {ps : List PX} (hN : N[i]? = some x) (hv : Vis sc x) (hd : (x == ("__debug__" : Str)) = false) (hcd : (x == ("__classdict__" : Str)) = false) (hes : PA X (e :: es) (tA r (evEs cx ps)))
    (hfew : ((backTo pos (starEach (e :: es) X.env)).all (fun x => !x.1) && (backToKw pos (keywordEach [] X.env)).all (fun x => x.1.isSome)
      && decide ((e :: es).length + ([] : List Keyword).length + (if ([] : List Keyword).isEmpty then 0 else 1) < 30)) = true)
    (hline : (apos.endLine == pos.line) = true) (hs : starEach (e :: es) X.env = (false, eval e X.env) :: starEach es X.env) (hpl : (backTo pos (starEach es X.env)).any (·.1) = false) : PE X (.Call (.Attribute (.Name x npos) (mmName t) apos) (e :: es) [] pos) (tE r (evE cx (.mm t i ps))) :=
  pe_mono (pe_bm PySem.F.plainAttrs_list (mm_slot t) (mm_type t) (mm_ok (c := r.c) t) (pe_var (i := i) (by rw [g.hN]; exact hN) (by rw [g.hsc]; exact hv) hd hcd) hes rfl hfew hline hs hpl) fun σ H Q h => mm_to g (fun _ _ _ h => h) h
theorem e_mm0 (g : Gd m glb k N sc r X cx) {t : Mm} {i : Nat} {x : Str} {npos apos : Pos} (hN : N[i]? = some x) (hv : Vis sc x) (hd : (x == ("__debug__" : Str)) = false) (hcd : (x == ("__classdict__" : Str)) = false)
    (hline : (apos.endLine == pos.line) = true) : PE X (.Call (.Attribute (.Name x npos) (mmName t) apos) [] [] pos) (tE r (evE cx (.mm t i []))) :=
  pe_mono (pe_bm0 PySem.F.plainAttrs_list (mm_slot t) (mm_type t) (mm_ok (c := r.c) t) (pe_var (i := i) (by rw [g.hN]; exact hN) (by rw [g.hsc]; exact hv) hd hcd) rfl hline) fun σ H Q h => mm_to (ta := tNil) g (fun σ H Q ⟨U, δ, A, h⟩ => h _ U H A .nil StpE.refl) h
end
end Ev

set_option Elab.async false
set_option linter.all false
set_option maxRecDepth 100000
set_option maxHeartbeats 2000000
/-! Part K: what is walked. -/
namespace Ev
open PySem L2 PyProof.Rows

/-! ### enumerate(tuple) -/
theorem meets_enum1 {v : Value} {o : Obj} {H : Heap → Prop} (B : Begins v o H) :
    Meets (Builtin.«enumerate.__new__» ⟨[.type "enumerate", v], []⟩) (fun _ R s => H s.heap ∧
      R (.ok (.ret (.ref (s.heap.push o).objs.size))) { s with heap := (s.heap.push o).push { cls := .type "enumerate", data := .fields #[.none, .bool false, .ref s.heap.objs.size, rawInt 0, .none, .none] } }) :=
  .of_wp fun prog w A R s h => by
    obtain ⟨hp, g, d, tk, os⟩ := s
    obtain ⟨h1, h⟩ := h
    have hsub := sub_enumerate
    have q1 : ∀ {A' : Around} {E : Value → Shared → Prop} {Q : Value → Shared → Prop}, Q (.ref hp.objs.size) ⟨hp.push o, g, d, tk, os⟩ → wpAny (model prog w) A' (pyIter v) Q E ⟨hp, g, d, tk, os⟩ :=
      fun q => B.iter prog w _ _ ⟨hp, g, d, tk, os⟩ _ h1 q
    wp_walk using q1
    refine wpAny_stack_any fun st => wpAny_pure ?_
    split
    · rename_i c _ _ _ _ _
      cases (c == Value.type "enumerate")
      · wp_walk using q1
        exact ⟨_, rfl, h⟩
      · wp_walk using q1
        exact ⟨_, rfl, h⟩
    · wp_walk using q1
      exact ⟨_, rfl, h⟩
theorem call_enum1 {prog : Program} {w : World} {A : Around} {E : Value → Shared → Prop} {s : Shared} {v : Value} {o : Obj} {H : Heap → Prop} {Q : Value → Shared → Prop} (B : Begins v o H) (h1 : H s.heap)
    (h : ∀ h', IsEnum h' (s.heap.objs.size + 1) s.heap.objs.size 0 .none → h'.get? s.heap.objs.size = some o → (∀ b o, s.heap.get? b = some o → h'.get? b = some o) → Q (.ref (s.heap.objs.size + 1)) { s with heap := h' }) :
    wpAny (model prog w) A (call (.type "enumerate") [v]) Q E s := by
  refine callType_new F.called_enumerate (by decide) (F.typeCall_enumerate_1 _) (F.newCall_enumerate_1 _) (fun obj => F.args_object_init_2 obj _) F.entry_enumerate_new (meets_enum1 B) ⟨h1, ?_⟩
  have hz : (s.heap.push o).objs.size = s.heap.objs.size + 1 := Heap.size_push ..
  show _ ∧ _
  rw [hz]
  have he : IsEnum ((s.heap.push o).push { cls := .type "enumerate", data := .fields #[.none, .bool false, .ref s.heap.objs.size, rawInt 0, .none, .none] }) (s.heap.objs.size + 1) s.heap.objs.size 0 .none := by
    have := Heap.get?_push_size (s.heap.push o) (o := { cls := .type "enumerate", data := .fields #[.none, .bool false, .ref s.heap.objs.size, rawInt 0, .none, .none] }) rfl
    rw [hz] at this; exact this
  exact ⟨⟨_, he, rfl⟩, h _ he (Heap.get?_push_of_some _ (Heap.get?_push_size _ B.free)) fun b o x => Heap.get?_push_of_some _ (Heap.get?_push_of_some _ x)⟩
def IteT (K : PySem.W.Frag) (a : Addr) : It :=
  ⟨fun i H => ∃ (xs : List V) (x : V), SqT K H a xs ∧ xs[i]? = some x, fun i H v H' => ∃ T x, v = .ref T ∧ H T = none ∧ H' = upd H T (.tup [.int (i : Nat), x]) ∧ ∀ xs, SqT K H a xs → xs[i]? = some x, fun i H => ∃ xs : List V, SqT K H a xs ∧ xs.length = i⟩
theorem turn_enumT {P : Program} {w : World} {K : PySem.W.Frag} {elts : List Expr} {kk : Nat} {tpos : Pos} (a e it : Addr) (hea : a ≠ e) (hia : a ≠ it) :
    Turn P w K (.Tuple elts kk tpos) (IteT K a) [e, it] e (fun i h => (∃ old, IsEnum h e it ((i : Nat) : Int) old) ∧ h.IsTupleIter it a i ∧ e ≠ it) where
  mem := by simp
  obj := fun i h st b hb => by
    obtain ⟨⟨old, he⟩, ⟨o, ho, hc, hd⟩, _⟩ := st
    have e' : b = e ∨ b = it := by simpa using hb
    rcases e' with z | z
    · rw [z]; exact ⟨_, he, fun v q => nomatch q⟩
    · rw [z]; exact ⟨o, ho, fun v q => by rw [hd] at q; cases q⟩
  keep := fun i h h' st k => let ⟨⟨old, he⟩, hi, hne⟩ := st; ⟨⟨old, k e (by simp) _ he⟩, hi.at fun o q => k it (by simp) o q, hne⟩
  item := by
    intro X hP hw hK hc i pins s σ H E I hf st hg
    subst hP hw hK
    obtain ⟨⟨old, he⟩, hit, hne⟩ := st
    obtain ⟨xs, x, hq, hx⟩ := hg
    obtain ⟨its, rv, p, hz⟩ := I.tuple hq
    obtain ⟨u, hu, ru⟩ := rv.get hx
    have hel : e < s.heap.objs.size := Heap.lt_size he
    have hil : it < s.heap.objs.size := by obtain ⟨_, q, _⟩ := hit; exact Heap.lt_size q
    have hlt : i < its.toArray.size := by
      have := (List.getElem?_eq_some_iff.mp hu).1
      simpa using this
    have Dr := Draws.tuple (prog := X.prog) (w := X.w) (A := X.A.in1) (I.ok.hd hc) it a hia its.toArray
    refine wpAny_pyNext_enum_itemD Dr he ⟨hit, p⟩ hlt hne (by simp only [List.mem_cons, List.not_mem_nil, or_false, not_or]; exact ⟨hne, Ne.symm hea⟩) fun y h' tk hP ho hit' hT hsz hk => ?_
    have ey : y = u := by
      have h1 : its.toArray[i]? = some u := by simpa using hu
      rw [h1] at hP
      cases hP; rfl
    subst ey
    refine ⟨_, rfl, wpAny_letOwnedTupleGo_enum (s := { s with heap := h', toks := tk + 1 }) ho fun h'' he' sb => ?_⟩
    have hT2 : h''.get? s.heap.objs.size = some { cls := .type "tuple", data := .seq #[.int i tk, y] } := (sb.2 _ (Nat.ne_of_gt hel)).trans hT
    have new : ObjOk X.prog X.w (upd H s.heap.objs.size (.tup [.int (i : Nat), x])) h'' s.heap.objs.size (.tup [.int (i : Nat), x]) :=
      ⟨by show 2 ≤ sizeLine; decide, [.int i tk, y], .cons ⟨_, rfl⟩ (.cons ru .nil), ⟨_, hT2, rfl, _, rfl⟩⟩
    have I1 : L2.Inv X pins σ (upd H s.heap.objs.size (.tup [.int (i : Nat), x])) { s with heap := h'', toks := tk + 1 } :=
      I.turnedNew (ch := [e, it]) (fun b ob hb q => (sb.2 b (fun z => hb (by simp [z]))).trans (hk b ob (fun z => hb (by simp [z])) (fun z => hb (by simp [z])) q)) hf (Nat.le_refl _) new
    refine ⟨.ref s.heap.objs.size, _, I1, rfl, ⟨_, x, rfl, I.hok.fresh (Nat.le_refl _), rfl, fun ys hy => by rw [I.tuple_inj hy hq]; exact hx⟩, ⟨⟨y, ?_⟩, hit'.1.at fun o q => (sb.2 it (Ne.symm hne)).trans q, hne⟩, fun b hb => ?_⟩
    · have e1 : ((i + 1 : Nat) : Int) = (i : Int) + 1 := by omega
      rw [e1]; exact he'
    · have hb' : b < s.heap.objs.size := by
        have e' : b = e ∨ b = it := by simpa using hb
        rcases e' with z | z
        · rw [z]; exact hel
        · rw [z]; exact hil
      rw [upd_ne (Nat.ne_of_lt hb')]
      exact (hf b hb).1
  done := by
    intro X hP hw hK hc i pins s σ H E I hf st hg
    subst hP hw hK
    obtain ⟨⟨old, he⟩, hit, hne⟩ := st
    obtain ⟨xs, hq, hx⟩ := hg
    obtain ⟨its, rv, p, hz⟩ := I.tuple hq
    obtain ⟨f0, f1, f2, f3, f4, f5⟩ := hf it (by simp)
    have hl := rv.length
    have en : i = its.toArray.size := by rw [List.size_toArray]; omega
    have Dr := Draws.tuple (prog := X.prog) (w := X.w) (A := X.A.in1) (I.ok.hd hc) it a hia its.toArray
    exact wpAny_pyNext_enum_endD Dr he (by rw [← en]; exact ⟨hit, p⟩) fun h' eb => ⟨rfl, I.turned (t' := s.toks) (fun b o hb q => eb b o hb q) f0 f1 f3 f4 f5⟩
  self := fun A i s Q E st h => let ⟨⟨_, he⟩, _⟩ := st; wpAny_pyIter_enum he h
/-- enumerate of a list or of a tuple -/
def iEnumA (K : PySem.W.Frag) (ta : TA) : TI := fun σ H R => ta σ H fun vs H1 => ∃ a xs, vs = [.ref a] ∧ ((SqL K H1 a xs ∧ R (Ite K a) H1) ∨ (SqT K H1 a xs ∧ R (IteT K a) H1))
theorem pi_enumA {X : L2.Cx} {e : Expr} {ta : TA} {p pos tpos : Pos} {elts : List Expr} {kk : Nat} (hg : Gl X "enumerate") (hm : X.mg "enumerate" = none) (ha : PA X [e] ta) (hs : starEach [e] X.env = [(false, eval e X.env)]) :
    PI X (.Tuple elts kk tpos) (.Call (.Name "enumerate" p) [e] [] pos) (iEnumA X.K ta) := by
  refine ⟨fun pins s σ H R I h => ?_⟩
  refine Call_ (ld_blt I hg hm boot_enumerate (PyProof.Rows.callWith_type1 (thn (ha.run pos pins s σ H _ I h) fun us s1 ⟨vs, H1, I1, r1, q1⟩ => ?_) hs rfl))
  obtain ⟨a, xs, ex, q1⟩ := q1
  subst ex
  obtain ⟨u, rfl, r⟩ := vals1 r1
  cases r
  have fr : ∀ b, b ∈ [s1.heap.objs.size + 1, s1.heap.objs.size] → FpOk X pins H1 b := fun b hb => by
    have e' : b = s1.heap.objs.size + 1 ∨ b = s1.heap.objs.size := by simpa using hb
    have hle : s1.heap.objs.size ≤ b := by
      rcases e' with z | z
      · rw [z]; exact Nat.le_add_right _ _
      · rw [z]; exact Nat.le_refl _
    exact I1.fpOk hle (I1.hok.fresh hle)
  rcases q1 with ⟨hq, q⟩ | ⟨hq, q⟩
  · obtain ⟨its, rv, p', hz⟩ := I1.list hq
    refine call_enumerate_list p'.isList fun h' he hit hsz hk => wpAny_pyIter_enum he ?_
    have I2 : L2.Inv X pins σ H1 { s1 with heap := h' } := I1.kept (t' := s1.toks) hk
    exact ⟨s1.heap.objs.size + 1, [s1.heap.objs.size + 1, s1.heap.objs.size], _, _, H1, rfl, I2, turn_enum a (s1.heap.objs.size + 1) s1.heap.objs.size, ⟨⟨.none, he⟩, hit, Nat.succ_ne_self _⟩, fr, q⟩
  · obtain ⟨its, rv, p', hz⟩ := I1.tuple hq
    have hal : a < s1.heap.objs.size := by obtain ⟨_, e, _⟩ := p'; exact Heap.lt_size e
    refine call_enum1 (begins_tuple a its.toArray) (show s1.heap.IsTuple a its.toArray from p') fun h' he hit hk => wpAny_pyIter_enum he ?_
    have I2 : L2.Inv X pins σ H1 { s1 with heap := h' } := I1.kept (t' := s1.toks) hk
    exact ⟨s1.heap.objs.size + 1, [s1.heap.objs.size + 1, s1.heap.objs.size], _, _, H1, rfl, I2, turn_enumT a (s1.heap.objs.size + 1) s1.heap.objs.size (Nat.ne_of_lt (Nat.lt_succ_of_lt hal)) (Nat.ne_of_lt hal), ⟨⟨.none, he⟩, ⟨_, hit, rfl, rfl⟩, Nat.succ_ne_self _⟩, fr, q⟩
/-- a list's items, a tuple's -/
def iSeqA (K : PySem.W.Frag) (te : TE) : TI := fun σ H R => te σ H fun x H1 => ∃ a xs, x = .ref a ∧ ((SqL K H1 a xs ∧ R (Itl K a) H1) ∨ (SqT K H1 a xs ∧ R (Itt K a) H1))
theorem pi_seqA {X : L2.Cx} {tg l : Expr} {tl : TE} (hl : PE X l tl) : PI X tg l (iSeqA X.K tl) := by
  refine ⟨fun pins s σ H R I h => ?_⟩
  refine thn (hl.run pins s σ H _ I h) fun v s1 ⟨x, H1, I1, r1, q1⟩ => ?_
  obtain ⟨a, xs, e, q1⟩ := q1
  subst e
  cases r1
  have fr : ∀ b, b ∈ [s1.heap.objs.size] → FpOk X pins H1 b := fun b hb => by
    have e : b = s1.heap.objs.size := by simpa using hb
    subst e
    exact I1.fpOk (Nat.le_refl _) (I1.hok.fresh (Nat.le_refl _))
  rcases q1 with ⟨hq, q⟩ | ⟨hq, q⟩
  · obtain ⟨its, rv, p, hz⟩ := I1.list hq
    refine wpAny_pyIter_list p.isList ?_
    exact ⟨s1.heap.objs.size, [s1.heap.objs.size], _, _, H1, rfl, I1.kept (t' := s1.toks) fun b o e => Heap.get?_push_of_some _ e, turn_list a _, ⟨_, Heap.get?_push_size _ rfl, rfl, rfl⟩, fr, q⟩
  · obtain ⟨its, rv, p, hz⟩ := I1.tuple hq
    refine wpAny_pyIter_tuple (show s1.heap.IsTuple a its.toArray from p) ?_
    exact ⟨s1.heap.objs.size, [s1.heap.objs.size], _, _, H1, rfl, I1.kept (t' := s1.toks) fun b o e => Heap.get?_push_of_some _ e, turn_tuple a _, ⟨_, Heap.get?_push_size _ rfl, rfl, rfl⟩, fr, q⟩

/-! ### walks by data -/
def WkD (c : RC) (pn : Pn) (J : It) (vs : List V) (ds xs : List D) : Prop := Walk J xs.length (fun H => ∃ U, RepRs c pn U H vs ds) (fun i H x H' => Same H H' ∧ ∀ U, RepRs c pn U H vs ds → ∃ d, xs[i]? = some d ∧ Rep c U H' x d)
section
variable {c : RC} {pn : Pn}
theorem rep0 {U : AS} {H : Hp} {xs : List V} (h : RepRs c pn U H xs []) : xs = [] := by cases h; rfl
theorem wk_lst {a : Addr} {ds : List D} : WkD c pn (Itl c.K a) [.ref a] [.lst ds] ds := by
  have one : ∀ {U : AS} {H : Hp}, RepRs c pn U H [.ref a] [.lst ds] → ∃ vs, H a = some (.lst vs) ∧ Reps c U H vs ds := fun h => by
    obtain ⟨v, e, h⟩ := rep1 h
    cases e
    obtain ⟨b, vs, e, h1, h2⟩ := h.lst
    cases e
    exact ⟨vs, h1, h2⟩
  refine ⟨fun i H hi ⟨U, h⟩ => ?_, fun H ⟨U, h⟩ => ?_, fun i H x H' hi _ y => ⟨by rw [y.1]; exact Same.refl H, fun U h => ?_⟩⟩
  · obtain ⟨vs, h1, h2⟩ := one h
    have hl := h2.length
    exact ⟨vs, vs[i]'(by omega), .inl (.inl h1), by simp⟩
  · obtain ⟨vs, h1, h2⟩ := one h
    exact ⟨vs, .inl (.inl h1), by rw [h2.length]; exact Nat.le_refl _⟩
  · obtain ⟨vs, h1, h2⟩ := one h
    obtain ⟨d, e1, e2⟩ := h2.getV (y.2 vs (.inl (.inl h1)))
    exact ⟨d, e1, by rw [y.1]; exact e2⟩
theorem wk_ro {a : Addr} {ds : List D} : WkD c pn (Itl c.K a) [.ref a] [.ro ds] ds := by
  have one : ∀ {U : AS} {H : Hp}, RepRs c pn U H [.ref a] [.ro ds] → ∃ vs, SqL c.K H a vs ∧ Reps c U H vs ds := fun h => by
    obtain ⟨v, e, h⟩ := rep1 h
    cases e
    obtain ⟨b, vs, e, h1, h2⟩ := h.ro
    cases e
    exact ⟨vs, h1, h2⟩
  refine ⟨fun i H hi ⟨U, h⟩ => ?_, fun H ⟨U, h⟩ => ?_, fun i H x H' hi _ y => ⟨by rw [y.1]; exact Same.refl H, fun U h => ?_⟩⟩
  · obtain ⟨vs, h1, h2⟩ := one h
    have hl := h2.length
    exact ⟨vs, vs[i]'(by omega), h1, by simp⟩
  · obtain ⟨vs, h1, h2⟩ := one h
    exact ⟨vs, h1, by rw [h2.length]; exact Nat.le_refl _⟩
  · obtain ⟨vs, h1, h2⟩ := one h
    obtain ⟨d, e1, e2⟩ := h2.getV (y.2 vs h1)
    exact ⟨d, e1, by rw [y.1]; exact e2⟩
theorem one_tup {a : Addr} {ds : List D} {U : AS} {H : Hp} (h : RepRs c pn U H [.ref a] [.tup ds]) : ∃ vs, SqT c.K H a vs ∧ Reps c U H vs ds := by
  obtain ⟨v, e, h⟩ := rep1 h
  cases e
  obtain ⟨b, vs, e, h1, h2⟩ := h.tup
  cases e
  exact ⟨vs, h1, h2⟩
theorem one_lst {a : Addr} {ds : List D} {U : AS} {H : Hp} (h : RepRs c pn U H [.ref a] [.lst ds]) : ∃ vs, SqL c.K H a vs ∧ Reps c U H vs ds := by
  obtain ⟨v, e, h⟩ := rep1 h
  cases e
  obtain ⟨b, vs, e, h1, h2⟩ := h.lst
  cases e
  exact ⟨vs, .inl (.inl h1), h2⟩
theorem wk_tup {a : Addr} {ds : List D} : WkD c pn (Itt c.K a) [.ref a] [.tup ds] ds := by
  refine ⟨fun i H hi ⟨U, h⟩ => ?_, fun H ⟨U, h⟩ => ?_, fun i H x H' hi _ y => ⟨by rw [y.1]; exact Same.refl H, fun U h => ?_⟩⟩
  · obtain ⟨vs, h1, h2⟩ := one_tup h
    have hl := h2.length
    exact ⟨vs, vs[i]'(by omega), h1, by simp⟩
  · obtain ⟨vs, h1, h2⟩ := one_tup h
    exact ⟨vs, h1, by rw [h2.length]; exact Nat.le_refl _⟩
  · obtain ⟨vs, h1, h2⟩ := one_tup h
    obtain ⟨d, e1, e2⟩ := h2.getV (y.2 vs h1)
    exact ⟨d, e1, by rw [y.1]; exact e2⟩
theorem upTo_len (lo : Int) : ∀ n, (upTo lo n).length = n
  | 0 => rfl
  | n + 1 => by show (upTo (lo + 1) n).length + 1 = n + 1; rw [upTo_len]
theorem upTo_at : ∀ (n : Nat) (lo : Int) (i : Nat), i < n → (upTo lo n)[i]? = some (.int (lo + i))
  | n + 1, lo, 0, _ => by show some (D.int lo) = _; simp
  | n + 1, lo, i + 1, h => by
    show (upTo (lo + 1) n)[i]? = _
    rw [upTo_at n (lo + 1) i (by omega)]
    congr 2
    omega
theorem wk_rng {lo : Int} {n : Nat} {vs : List V} {ds : List D} : WkD c pn (Itr lo n) vs ds (upTo lo n) := by
  unfold WkD
  rw [upTo_len]
  refine ⟨fun i H hi _ => hi, fun H _ => Nat.le_refl _, fun i H x H' hi _ y => ⟨by rw [y.1]; exact Same.refl H, fun U h => ⟨_, upTo_at n lo i hi, ?_⟩⟩⟩
  rw [y.2]
  exact .int _
theorem enumL_len : ∀ (xs : List D) (k : Nat), (enumL k xs).length = xs.length
  | [], _ => rfl
  | x :: r, k => by show (enumL (k + 1) r).length + 1 = r.length + 1; rw [enumL_len]
theorem enumL_at : ∀ (xs : List D) (k i : Nat) (d : D), xs[i]? = some d → (enumL k xs)[i]? = some (.tup [.int ((k + i : Nat) : Int), d])
  | [], _, _, _, h => by simp at h
  | x :: r, k, 0, d, h => by
    simp at h
    subst h
    rfl
  | x :: r, k, i + 1, d, h => by
    show (enumL (k + 1) r)[i]? = _
    rw [enumL_at r (k + 1) i d (by simpa using h)]
    congr 4
    omega
theorem pair_rep {U : AS} {H : Hp} {T : Addr} {x y : V} {d e : D} (n : H T = none) (hx : Rep c U H x d) (hy : Rep c U H y e) : Rep c U (upd H T (.tup [x, y])) (.ref T) (.tup [d, e]) :=
  .tup (.inl (.inl upd_same)) (Reps.same (same_upd n) (.cons hx (.cons hy .nil)))
theorem wk_enumL {a : Addr} {ds : List D} : WkD c pn (Ite c.K a) [.ref a] [.lst ds] (enumL 0 ds) := by
  unfold WkD
  rw [enumL_len]
  refine ⟨fun i H hi ⟨U, h⟩ => ?_, fun H ⟨U, h⟩ => ?_, fun i H x H' hi _ y => ?_⟩
  · obtain ⟨vs, h1, h2⟩ := one_lst h
    have hl := h2.length
    exact ⟨vs, vs[i]'(by omega), h1, by simp⟩
  · obtain ⟨vs, h1, h2⟩ := one_lst h
    exact ⟨vs, h1, by rw [h2.length]; exact Nat.le_refl _⟩
  · obtain ⟨T, w, rfl, hT, rfl, hw⟩ := y
    refine ⟨same_upd hT, fun U h => ?_⟩
    obtain ⟨vs, h1, h2⟩ := one_lst h
    obtain ⟨d, e1, e2⟩ := h2.getV (hw vs h1)
    refine ⟨_, enumL_at ds 0 i d e1, ?_⟩
    rw [Nat.zero_add]
    exact pair_rep hT (.int _) e2
theorem wk_enumT {a : Addr} {ds : List D} : WkD c pn (IteT c.K a) [.ref a] [.tup ds] (enumL 0 ds) := by
  unfold WkD
  rw [enumL_len]
  refine ⟨fun i H hi ⟨U, h⟩ => ?_, fun H ⟨U, h⟩ => ?_, fun i H x H' hi _ y => ?_⟩
  · obtain ⟨vs, h1, h2⟩ := one_tup h
    have hl := h2.length
    exact ⟨vs, vs[i]'(by omega), h1, by simp⟩
  · obtain ⟨vs, h1, h2⟩ := one_tup h
    exact ⟨vs, h1, by rw [h2.length]⟩
  · obtain ⟨T, w, rfl, hT, rfl, hw⟩ := y
    refine ⟨same_upd hT, fun U h => ?_⟩
    obtain ⟨vs, h1, h2⟩ := one_tup h
    obtain ⟨d, e1, e2⟩ := h2.getV (hw vs h1)
    refine ⟨_, enumL_at ds 0 i d e1, ?_⟩
    rw [Nat.zero_add]
    exact pair_rep hT (.int _) e2
theorem zipL_len : ∀ (xs ys : List D), (zipL xs ys).length = min xs.length ys.length
  | [], _ => by simp [zipL]
  | _ :: _, [] => by simp [zipL]
  | x :: xs, y :: ys => by
    show (zipL xs ys).length + 1 = min (xs.length + 1) (ys.length + 1)
    rw [zipL_len]
    omega
theorem zipL_at : ∀ (xs ys : List D) (i : Nat) (d e : D), xs[i]? = some d → ys[i]? = some e → (zipL xs ys)[i]? = some (.tup [d, e])
  | [], _, _, _, _, h, _ => by simp at h
  | _ :: _, [], _, _, _, _, h => by simp at h
  | x :: xs, y :: ys, 0, d, e, h1, h2 => by
    simp at h1 h2
    subst h1 h2
    rfl
  | x :: xs, y :: ys, i + 1, d, e, h1, h2 => zipL_at xs ys i d e (by simpa using h1) (by simpa using h2)
theorem two_of {a b : Addr} {d e : D} {U : AS} {H : Hp} (h : RepRs c pn U H [.ref a, .ref b] [d, e]) : RepRs c pn U H [.ref a] [d] ∧ RepRs c pn U H [.ref b] [e] := by
  cases h with
  | cons h1 h2 => exact ⟨.cons h1 .nil, h2⟩
theorem wk_zipL {a b : Addr} {ds es : List D} : WkD c pn (Itz c.K a b) [.ref a, .ref b] [.lst ds, .lst es] (zipL ds es) := by
  unfold WkD
  rw [zipL_len]
  refine ⟨fun i H hi ⟨U, h⟩ => ?_, fun H ⟨U, h⟩ => ?_, fun i H x H' hi _ y => ?_⟩
  · obtain ⟨vs, h1, h2⟩ := one_lst (two_of h).1
    obtain ⟨ws, h3, h4⟩ := one_lst (two_of h).2
    have hl := h2.length
    have hl2 := h4.length
    exact ⟨vs, ws, vs[i]'(by omega), ws[i]'(by omega), h1, h3, by simp, by simp⟩
  · obtain ⟨vs, h1, h2⟩ := one_lst (two_of h).1
    obtain ⟨ws, h3, h4⟩ := one_lst (two_of h).2
    have hl := h2.length
    have hl2 := h4.length
    exact ⟨vs, ws, h1, h3, by omega⟩
  · obtain ⟨T, w, w2, rfl, hT, rfl, hw, hw2⟩ := y
    refine ⟨same_upd hT, fun U h => ?_⟩
    obtain ⟨vs, h1, h2⟩ := one_lst (two_of h).1
    obtain ⟨ws, h3, h4⟩ := one_lst (two_of h).2
    obtain ⟨d, e1, e2⟩ := h2.getV (hw vs h1)
    obtain ⟨e, e3, e4⟩ := h4.getV (hw2 ws h3)
    exact ⟨_, zipL_at ds es i d e e1 e3, pair_rep hT e2 e4⟩
theorem wk_zipT {a b : Addr} {ds es : List D} : WkD c pn (RZ.ItzT c.K a b) [.ref a, .ref b] [.tup ds, .tup es] (zipL ds es) := by
  unfold WkD
  rw [zipL_len]
  refine ⟨fun i H hi ⟨U, h⟩ => ?_, fun H ⟨U, h⟩ => ?_, fun i H x H' hi _ y => ?_⟩
  · obtain ⟨vs, h1, h2⟩ := one_tup (two_of h).1
    obtain ⟨ws, h3, h4⟩ := one_tup (two_of h).2
    have hl := h2.length
    have hl2 := h4.length
    exact ⟨vs, ws, vs[i]'(by omega), ws[i]'(by omega), h1, h3, by simp, by simp⟩
  · obtain ⟨vs, h1, h2⟩ := one_tup (two_of h).1
    obtain ⟨ws, h3, h4⟩ := one_tup (two_of h).2
    have hl := h2.length
    have hl2 := h4.length
    exact ⟨vs, ws, h1, h3, by omega⟩
  · obtain ⟨T, w, w2, rfl, hT, rfl, hw, hw2⟩ := y
    refine ⟨same_upd hT, fun U h => ?_⟩
    obtain ⟨vs, h1, h2⟩ := one_tup (two_of h).1
    obtain ⟨ws, h3, h4⟩ := one_tup (two_of h).2
    obtain ⟨d, e1, e2⟩ := h2.getV (hw vs h1)
    obtain ⟨e, e3, e4⟩ := h4.getV (hw2 ws h3)
    exact ⟨_, zipL_at ds es i d e e1 e3, pair_rep hT e2 e4⟩
end
/-- what is walked, by data -/
def iD (c : RC) (pn : Pn) (kd : Nat) (ta : TA) : TI := fun σ H R => ta σ H fun vs H1 => ∃ U ds xs, RepRs c pn U H1 vs ds ∧ items kd ds = some xs ∧ ∀ J, WkD c pn J vs ds xs → R J H1
section
variable {c : RC} {pn : Pn} {X : L2.Cx} {tg : Expr}
theorem pi_imp {iter : Expr} {wi wi' : TI} (h : PI X tg iter wi) (m : ∀ σ H R, wi' σ H R → wi σ H R) : PI X tg iter wi' := ⟨fun pins s σ H R I q => h.run pins s σ H R I (m σ H R q)⟩
end
section
variable {m : Md} {glb : Str → Option Gk} {k : Nat} {N : List Str} {sc : Scope} {r : Ar} {X : L2.Cx} {cx : Ev.Cx} {a b d : Expr} {pa pb pd : PX} {pos : Pos} {tg : Expr}
theorem tA_one {p : PX} {σ : Sg} {H : Hp} {Q : List V → Hp → Prop} (h : tA r (evEs cx [p]) σ H Q) : tE r (evE cx p) σ H fun v H1 => Q [v] H1 := by
  obtain ⟨U0, δ0, h⟩ := tM.bind (R1 := RO r) anti_RO (show tM r (ROs r) ((evE cx p).bind fun x => (evEs cx []).bind fun xs => M.pure (x :: xs)) σ H Q from h)
  exact tM.mono h fun x H1 ⟨U1, δ1, ox, n1⟩ => n1.k.ok rfl n1.A (.cons n1.rr (fun _ _ _ _ z => z) .nil) n1.s
theorem OpdRs.length {c : RC} {pn : Pn} {H0 : Hp} {U : AS} {H : Hp} {σ : Sg} {δ : Dst} : ∀ {vs : List V} {os : List Opd}, OpdRs c pn H0 U H σ δ vs os → vs.length = os.length
  | _, _, .nil => rfl
  | _, _, .cons _ _ r => by rw [List.length_cons, List.length_cons, OpdRs.length r]
theorem RepRs.length {c : RC} {pn : Pn} {U : AS} {H : Hp} : ∀ {vs : List V} {ds : List D}, RepRs c pn U H vs ds → vs.length = ds.length
  | _, _, .nil => rfl
  | _, _, .cons _ r => by rw [List.length_cons, List.length_cons, RepRs.length r]
theorem evEs_len : ∀ {ps : List PX} {δ δ' : Dst} {os : List Opd}, evEs cx ps δ = some (.ok os δ') → os.length = ps.length
  | [], _, _, _, e => by cases e; rfl
  | p :: ps, δ, δ', os, e => by
    obtain ⟨x, δ1, _, e⟩ := bind_inv (show ((evE cx p).bind fun x => (evEs cx ps).bind fun xs => M.pure (x :: xs)) δ = some (.ok os δ') from e)
    obtain ⟨xs, δ2, e1, e⟩ := bind_inv e
    cases e
    rw [List.length_cons, List.length_cons, evEs_len e1]
theorem tA_len {ps : List PX} {σ : Sg} {H : Hp} {Q : List V → Hp → Prop} (h : tA r (evEs cx ps) σ H Q) : tA r (evEs cx ps) σ H fun vs H1 => vs.length = ps.length ∧ Q vs H1 := by
  obtain ⟨U, δ, A, h⟩ := h
  refine ⟨U, δ, A, ?_⟩
  cases e : evEs cx ps δ with
  | none => rw [e] at h; exact h
  | some y =>
    rw [e] at h
    cases y with
    | er x δ' => exact h
    | ok os δ' => exact fun vs U' H' A' R' s' => ⟨R'.length.trans (evEs_len e), h vs U' H' A' R' s'⟩
theorem tA_two {pa pb : PX} {σ : Sg} {H : Hp} {Q : List V → Hp → Prop} (h : tA r (evEs cx [pa, pb]) σ H Q) : tE r (evE cx pa) σ H fun x H1 => tE r (evE cx pb) σ H1 fun y H2 => Q [x, y] H2 := by
  obtain ⟨U0, δ0, h⟩ := tM.bind (R1 := RO r) anti_RO (show tM r (ROs r) ((evE cx pa).bind fun x => (evEs cx [pb]).bind fun xs => M.pure (x :: xs)) σ H Q from h)
  refine tM.mono h fun x H1 ⟨U1, δ1, ox, n1⟩ => ?_
  refine tM.mono (tA_one ((n1.on (R2 := ROs r) anti_ROs rfl).mono fun y H2 z => z)) fun y H2 ⟨U2, δ2, oy, n2, s2, y2⟩ => ?_
  refine n2.k.ok rfl n2.A (.cons (n1.rr.on n1.A n2.A s2) (fun b e z1 z2 => ?_) n2.rr) n2.s
  subst z1
  obtain ⟨b', e1, _, u, _⟩ := n1.rr
  rw [z2] at e1; cases e1
  exact OpdRs.fresh y2 (n1.A.trk b u)
theorem p_D0 (g : Gd m glb k N sc r X cx) (ha : PE X a (tE r (evE cx pa))) : PI X tg a (iD r.c r.pn 0 (tA r (evEs cx [pa]))) := by
  refine pi_imp (pi_seqA ha) fun σ H R h => ?_
  refine tM.mono (tA_one h) fun v H1 ⟨U, ds, xs, hr, hi, q⟩ => ?_
  match ds, hi with
  | [.lst ys], hi =>
    cases hi
    obtain ⟨w, e, h⟩ := rep1 hr
    cases e
    obtain ⟨a, vs, rfl, h1, h2⟩ := h.lst
    exact ⟨a, vs, rfl, .inl ⟨.inl (.inl h1), q _ (by rw [g.K]; exact wk_lst)⟩⟩
  | [.ro ys], hi =>
    cases hi
    obtain ⟨w, e, h⟩ := rep1 hr
    cases e
    obtain ⟨a, vs, rfl, h1, h2⟩ := h.ro
    exact ⟨a, vs, rfl, .inl ⟨by rw [g.K]; exact h1, q _ (by rw [g.K]; exact wk_ro)⟩⟩
  | [.tup ys], hi =>
    cases hi
    obtain ⟨w, e, h⟩ := rep1 hr
    cases e
    obtain ⟨a, vs, rfl, h1, h2⟩ := h.tup
    exact ⟨a, vs, rfl, .inr ⟨by rw [g.K]; exact h1, q _ (by rw [g.K]; exact wk_tup)⟩⟩
theorem sml62_is {j : Int} (h : sml62 j = true) : -(2 ^ 62) ≤ j ∧ j < 2 ^ 62 := by
  unfold sml62 at h
  simp only [Bool.and_eq_true, decide_eq_true_eq] at h
  exact h
theorem p_D1 (g : Gd m glb k N sc r X cx) {p : Pos} (hs : sc.names.lookup ("range" : Str) = some .globalImplicit) (hg : glb ("range" : Str) = some .bn) (ha : PA X [a] (tA r (evEs cx [pa]))) (he : starEach [a] X.env = [(false, eval a X.env)]) :
    PI X tg (.Call (.Name "range" p) [a] [] pos) (iD r.c r.pn 1 (tA r (evEs cx [pa]))) := by
  refine pi_imp (pi_range1 (g.gl hs) (g.no hg) ha he) fun σ H R h => ?_
  refine tM.mono (tA_len h) fun vs H1 ⟨hl, U, ds, xs, hr, hi, q⟩ => ?_
  rw [hr.length] at hl
  match ds, hi with
  | [.int j], hi =>
    have hi' : (if sml62 j then some (upTo 0 j.toNat) else none) = some xs := hi
    split at hi'
    · rename_i hz
      cases hi'
      obtain ⟨w, rfl, h⟩ := rep1 hr
      obtain rfl := h.int
      obtain ⟨h1, h2⟩ := sml62_is hz
      exact ⟨j, rfl, h1, h2, q _ wk_rng⟩
    · cases hi'
  | [.int j, .int j2], hi => cases hl
theorem p_D1' (g : Gd m glb k N sc r X cx) {p : Pos} (hs : sc.names.lookup ("range" : Str) = some .globalImplicit) (hg : glb ("range" : Str) = some .bn) (ha : PA X [a, b] (tA r (evEs cx [pa, pb]))) (he : starEach [a, b] X.env = [(false, eval a X.env), (false, eval b X.env)]) (he2 : starEach [b] X.env = [(false, eval b X.env)]) :
    PI X tg (.Call (.Name "range" p) [a, b] [] pos) (iD r.c r.pn 1 (tA r (evEs cx [pa, pb]))) := by
  refine pi_imp (pi_range2 (g.gl hs) (g.no hg) ha he he2) fun σ H R h => ?_
  refine tM.mono (tA_len h) fun vs H1 ⟨hl, U, ds, xs, hr, hi, q⟩ => ?_
  rw [hr.length] at hl
  match ds, hi with
  | [.int j], hi => cases hl
  | [.int i, .int j], hi =>
    have hi' : (if sml62 i && sml62 j then some (upTo i (j - i).toNat) else none) = some xs := hi
    split at hi'
    · rename_i hz
      cases hi'
      obtain ⟨w, w2, rfl, h, h'⟩ := rep2 hr
      obtain rfl := h.int
      obtain rfl := h'.int
      rw [Bool.and_eq_true] at hz
      obtain ⟨h1, h2⟩ := sml62_is hz.1
      obtain ⟨h3, h4⟩ := sml62_is hz.2
      exact ⟨i, j, rfl, ⟨h1, h2, h3, h4⟩, q _ wk_rng⟩
    · cases hi'
theorem p_D2 (g : Gd m glb k N sc r X cx) {p tpos : Pos} {elts : List Expr} {kk : Nat} (hs : sc.names.lookup ("enumerate" : Str) = some .globalImplicit) (hg : glb ("enumerate" : Str) = some .bn) (ha : PA X [a] (tA r (evEs cx [pa]))) (he : starEach [a] X.env = [(false, eval a X.env)]) :
    PI X (.Tuple elts kk tpos) (.Call (.Name "enumerate" p) [a] [] pos) (iD r.c r.pn 2 (tA r (evEs cx [pa]))) := by
  refine pi_imp (pi_enumA (g.gl hs) (g.no hg) ha he) fun σ H R h => ?_
  refine tM.mono h fun vs H1 ⟨U, ds, xs, hr, hi, q⟩ => ?_
  match ds, hi with
  | [.lst ys], hi =>
    cases hi
    obtain ⟨w, rfl, h⟩ := rep1 hr
    obtain ⟨a, vs, rfl, h1, h2⟩ := h.lst
    exact ⟨a, vs, rfl, .inl ⟨.inl (.inl h1), q _ (by rw [g.K]; exact wk_enumL)⟩⟩
  | [.tup ys], hi =>
    cases hi
    obtain ⟨w, rfl, h⟩ := rep1 hr
    obtain ⟨a, vs, rfl, h1, h2⟩ := h.tup
    exact ⟨a, vs, rfl, .inr ⟨by rw [g.K]; exact h1, q _ (by rw [g.K]; exact wk_enumT)⟩⟩
theorem p_D3 (g : Gd m glb k N sc r X cx) {p tpos : Pos} {elts : List Expr} {kk : Nat} (hs : sc.names.lookup ("zip" : Str) = some .globalImplicit) (hg : glb ("zip" : Str) = some .bn) (ha : PA X [a, b] (tA r (evEs cx [pa, pb]))) (he : starEach [a, b] X.env = (false, eval a X.env) :: starEach [b] X.env) (hpl : (backTo pos (starEach [b] X.env)).any (·.1) = false) :
    PI X (.Tuple elts kk tpos) (.Call (.Name "zip" p) [a, b] [] pos) (iD r.c r.pn 3 (tA r (evEs cx [pa, pb]))) := by
  refine pi_imp (RZ.pi_zipA (g.gl hs) (g.no hg) ha he hpl) fun σ H R h => ?_
  refine tM.mono h fun vs H1 ⟨U, ds, xs, hr, hi, q⟩ => ?_
  match ds, hi with
  | [.lst ys, .lst zs], hi =>
    cases hi
    obtain ⟨w, w2, rfl, h, h'⟩ := rep2 hr
    obtain ⟨a, vs, rfl, h1, h2⟩ := h.lst
    obtain ⟨b, ws, rfl, h3, h4⟩ := h'.lst
    exact ⟨a, b, vs, ws, rfl, .inl ⟨.inl (.inl h1), .inl (.inl h3), q _ (by rw [g.K]; exact wk_zipL)⟩⟩
  | [.tup ys, .tup zs], hi =>
    cases hi
    obtain ⟨w, w2, rfl, h, h'⟩ := rep2 hr
    obtain ⟨a, vs, rfl, h1, h2⟩ := h.tup
    obtain ⟨b, ws, rfl, h3, h4⟩ := h'.tup
    exact ⟨a, b, vs, ws, rfl, .inr ⟨by rw [g.K]; exact h1, by rw [g.K]; exact h3, q _ (by rw [g.K]; exact wk_zipT)⟩⟩
/-- list(range(..)) -/
theorem rg_reps {c : RC} {U : AS} {H : Hp} (lo : Int) : ∀ n : Nat, Reps c U H ((List.range n).map fun i => V.int (lo + (i : Nat))) (upTo lo n) := by
  intro n
  induction n generalizing lo with
  | zero => exact .nil
  | succ n ih =>
    rw [List.range_succ_eq_map, List.map_cons, List.map_map]
    have e : lo + ((0 : Nat) : Int) = lo := by omega
    rw [e]
    refine .cons (.int _) ?_
    have z := ih (lo + 1)
    have e2 : ((fun i : Nat => V.int (lo + (i : Nat))) ∘ Nat.succ) = fun i : Nat => V.int (lo + 1 + (i : Nat)) := by
      funext i
      show V.int _ = V.int _
      congr 1
      rw [Nat.succ_eq_add_one]
      omega
    rw [e2]
    exact z
theorem lrng_eq {ps : List PX} : evE cx (.lrng ps) = if cx.hot then M.stuck else (evEs cx ps).bind fun os => (rdsM os).bind fun ds => M.opt ((items 1 ds).bind fun xs => if xs.length ≤ lim then some (.t true (.lst xs)) else none) := rfl
theorem lrng_in {ps : List PX} {σ : Sg} {H : Hp} {Q : VK} (h : tE r (evE cx (.lrng ps)) σ H Q) : cx.hot = false ∧ tA r (evEs cx ps) σ H fun vs H1 => vs.length = ps.length ∧ ∃ U ds xs, RepRs r.c r.pn U H1 vs ds ∧ items 1 ds = some xs ∧ xs.length ≤ sizeLine ∧ ∀ p us, H1 p = none → (∀ U, Reps r.c U H1 us xs) → Q (.ref p) (upd H1 p (.lst us)) := by
  rw [show tE r (evE cx (.lrng ps)) σ H Q = tM r (RO r) (evE cx (.lrng ps)) σ H Q from rfl, lrng_eq] at h
  cases hh : cx.hot with
  | true =>
    rw [hh] at h
    obtain ⟨_, _, _, z⟩ := h
    exact z.elim
  | false =>
    rw [hh] at h
    refine ⟨rfl, ?_⟩
    obtain ⟨U0, δ0, h⟩ := tM.bind (R1 := ROs r) anti_ROs (show tM r (RO r) ((evEs cx ps).bind fun os => (rdsM os).bind fun ds => M.opt ((items 1 ds).bind fun xs => if xs.length ≤ lim then some (.t true (.lst xs)) else none)) σ H Q from h)
    refine tM.mono (tA_len h) fun vs H1 ⟨hl, U1, δ1, os, n1⟩ => ?_
    obtain ⟨ds, e1, kk⟩ := n1.k.rds
    obtain ⟨o, e3, kk⟩ := kk.optE
    obtain ⟨xs, e4, e5⟩ := Option.bind_eq_some_iff.mp e3
    split at e5
    · rename_i hz
      cases e5
      rw [lim_eq] at hz
      exact ⟨hl, U1, ds, xs, n1.A.rds n1.rr e1, e4, hz, fun p us np rp => kk.new rfl n1.A0 n1.A n1.s (same_upd np) (new_lst np (rp U1))⟩
    · cases e5
theorem rg_ok {a b : Int} {n : Nat} (h1 : sml62 a = true) (h2 : sml62 b = true) (h3 : n ≤ sizeLine) (e : n = (b - a).toNat) : RgOk a b := by
  obtain ⟨a1, a2⟩ := sml62_is h1
  obtain ⟨b1, b2⟩ := sml62_is h2
  refine ⟨a1, a2, b1, b2, ?_⟩
  rw [← e]
  rw [sizeLine_eq] at h3
  omega
theorem e_lrng1 (g : Gd m glb k N sc r X cx) {p p2 pos2 : Pos} (hs : sc.names.lookup ("range" : Str) = some .globalImplicit) (hg : glb ("range" : Str) = some .bn) (hs2 : sc.names.lookup ("list" : Str) = some .globalImplicit) (hg2 : glb ("list" : Str) = some .bn) (ha : PE X a (tE r (evE cx pa))) (na : starEach [a] X.env = (false, eval a X.env) :: starEach [] X.env) :
    PE X (.Call (.Name "list" p2) [.Call (.Name "range" p) [a] [] pos] [] pos2) (tE r (evE cx (.lrng [pa]))) := by
  refine ⟨fun pins s σ H Q I h => ?_⟩
  obtain ⟨hh, h'⟩ := lrng_in h
  refine (pe_listRg (g.calm hh) (g.gl hs2) (g.no hg2) (prg_1 (g.gl hs) (g.no hg) ha na) rfl).run pins s σ H Q I ?_
  refine tM.mono (tA_one h') fun x H1 ⟨hl, U, ds, xs, hr, hi, hz, q⟩ => ?_
  rw [hr.length] at hl
  match ds, hi with
  | [.int j], hi =>
    have hi' : (if sml62 j then some (upTo 0 j.toNat) else none) = some xs := hi
    split at hi'
    · rename_i hy
      cases hi'
      obtain ⟨w, e, h⟩ := rep1 hr
      cases e
      obtain rfl := h.int
      rw [upTo_len] at hz
      have e0 : (j - 0).toNat = j.toNat := by rw [Int.sub_zero]
      refine ⟨j, rfl, rg_ok (n := j.toNat) (by decide) hy hz e0.symm, fun p np => q p _ np fun U => ?_⟩
      unfold rgV
      rw [e0]
      exact rg_reps 0 _
    · cases hi'
  | [.int _, .int _], hi => cases hl
theorem e_lrng2 (g : Gd m glb k N sc r X cx) {p p2 pos2 : Pos} (hs : sc.names.lookup ("range" : Str) = some .globalImplicit) (hg : glb ("range" : Str) = some .bn) (hs2 : sc.names.lookup ("list" : Str) = some .globalImplicit) (hg2 : glb ("list" : Str) = some .bn) (ha : PE X a (tE r (evE cx pa))) (hb : PE X b (tE r (evE cx pb))) (na : starEach [a, b] X.env = (false, eval a X.env) :: starEach [b] X.env) (nb : starEach [b] X.env = (false, eval b X.env) :: starEach [] X.env) (hp : (backTo pos (starEach [b] X.env)).any (·.1) = false) :
    PE X (.Call (.Name "list" p2) [.Call (.Name "range" p) [a, b] [] pos] [] pos2) (tE r (evE cx (.lrng [pa, pb]))) := by
  refine ⟨fun pins s σ H Q I h => ?_⟩
  obtain ⟨hh, h'⟩ := lrng_in h
  refine (pe_listRg (g.calm hh) (g.gl hs2) (g.no hg2) (prg_2 (g.gl hs) (g.no hg) ha hb na nb hp) rfl).run pins s σ H Q I ?_
  refine tM.mono (tA_two h') fun x H1 h2 => tM.mono h2 fun y H2 ⟨hl, U, ds, xs, hr, hi, hz, q⟩ => ?_
  rw [hr.length] at hl
  match ds, hi with
  | [.int _], hi => cases hl
  | [.int i, .int j], hi =>
    have hi' : (if sml62 i && sml62 j then some (upTo i (j - i).toNat) else none) = some xs := hi
    split at hi'
    · rename_i hy
      cases hi'
      obtain ⟨w, w2, e, h, h'⟩ := rep2 hr
      cases e
      obtain rfl := h.int
      obtain rfl := h'.int
      rw [upTo_len] at hz
      rw [Bool.and_eq_true] at hy
      exact ⟨i, j, rfl, rfl, rg_ok hy.1 hy.2 hz rfl, fun p np => q p _ np fun U => rg_reps i _⟩
    · cases hi'
end
end Ev

set_option Elab.async false
set_option linter.all false
set_option maxRecDepth 100000
set_option maxHeartbeats 2000000
/-! Part Ka: tuple(range(..)). -/
namespace Ev
open PySem L2 PyProof.Rows
section
variable {m : Md} {glb : Str → Option Gk} {k : Nat} {N : List Str} {sc : Scope} {r : Ar} {X : L2.Cx} {cx : Ev.Cx} {a b d : Expr} {pa pb pd : PX} {pos : Pos} {tg : Expr}
theorem trng_eq {ps : List PX} : evE cx (.trng ps) = if cx.hot then M.stuck else (evEs cx ps).bind fun os => (rdsM os).bind fun ds => M.opt ((items 1 ds).bind fun xs => if xs.length ≤ lim then some (.t false (.tup xs)) else none) := rfl
theorem trng_in {ps : List PX} {σ : Sg} {H : Hp} {Q : VK} (h : tE r (evE cx (.trng ps)) σ H Q) : cx.hot = false ∧ tA r (evEs cx ps) σ H fun vs H1 => vs.length = ps.length ∧ ∃ U ds xs, RepRs r.c r.pn U H1 vs ds ∧ items 1 ds = some xs ∧ xs.length ≤ sizeLine ∧ ∀ p us, H1 p = none → (∀ U, Reps r.c U H1 us xs) → Q (.ref p) (upd H1 p (.tup us)) := by
  rw [show tE r (evE cx (.trng ps)) σ H Q = tM r (RO r) (evE cx (.trng ps)) σ H Q from rfl, trng_eq] at h
  cases hh : cx.hot with
  | true =>
    rw [hh] at h
    obtain ⟨_, _, _, z⟩ := h
    exact z.elim
  | false =>
    rw [hh] at h
    refine ⟨rfl, ?_⟩
    obtain ⟨U0, δ0, h⟩ := tM.bind (R1 := ROs r) anti_ROs (show tM r (RO r) ((evEs cx ps).bind fun os => (rdsM os).bind fun ds => M.opt ((items 1 ds).bind fun xs => if xs.length ≤ lim then some (.t false (.tup xs)) else none)) σ H Q from h)
    refine tM.mono (tA_len h) fun vs H1 ⟨hl, U1, δ1, os, n1⟩ => ?_
    obtain ⟨ds, e1, kk⟩ := n1.k.rds
    obtain ⟨o, e3, kk⟩ := kk.optE
    obtain ⟨xs, e4, e5⟩ := Option.bind_eq_some_iff.mp e3
    split at e5
    · rename_i hz
      cases e5
      rw [lim_eq] at hz
      exact ⟨hl, U1, ds, xs, n1.A.rds n1.rr e1, e4, hz, fun p us np rp => kk.new rfl n1.A0 n1.A n1.s (same_upd np) (new_tup np (rp U1))⟩
    · cases e5
theorem e_trng1 (g : Gd m glb k N sc r X cx) {p p2 pos2 : Pos} (hs : sc.names.lookup ("range" : Str) = some .globalImplicit) (hg : glb ("range" : Str) = some .bn) (hs2 : sc.names.lookup ("tuple" : Str) = some .globalImplicit) (hg2 : glb ("tuple" : Str) = some .bn) (ha : PE X a (tE r (evE cx pa))) (na : starEach [a] X.env = (false, eval a X.env) :: starEach [] X.env) :
    PE X (.Call (.Name "tuple" p2) [.Call (.Name "range" p) [a] [] pos] [] pos2) (tE r (evE cx (.trng [pa]))) := by
  refine ⟨fun pins s σ H Q I h => ?_⟩
  obtain ⟨hh, h'⟩ := trng_in h
  refine (pe_tupRg (g.calm hh) (g.gl hs2) (g.no hg2) (prg_1 (g.gl hs) (g.no hg) ha na) rfl).run pins s σ H Q I ?_
  refine tM.mono (tA_one h') fun x H1 ⟨hl, U, ds, xs, hr, hi, hz, q⟩ => ?_
  rw [hr.length] at hl
  match ds, hi with
  | [.int j], hi =>
    have hi' : (if sml62 j then some (upTo 0 j.toNat) else none) = some xs := hi
    split at hi'
    · rename_i hy
      cases hi'
      obtain ⟨w, e, h⟩ := rep1 hr
      cases e
      obtain rfl := h.int
      rw [upTo_len] at hz
      have e0 : (j - 0).toNat = j.toNat := by rw [Int.sub_zero]
      refine ⟨j, rfl, rg_ok (n := j.toNat) (by decide) hy hz e0.symm, fun p np => q p _ np fun U => ?_⟩
      unfold rgV
      rw [e0]
      exact rg_reps 0 _
    · cases hi'
  | [.int _, .int _], hi => cases hl
theorem e_trng2 (g : Gd m glb k N sc r X cx) {p p2 pos2 : Pos} (hs : sc.names.lookup ("range" : Str) = some .globalImplicit) (hg : glb ("range" : Str) = some .bn) (hs2 : sc.names.lookup ("tuple" : Str) = some .globalImplicit) (hg2 : glb ("tuple" : Str) = some .bn) (ha : PE X a (tE r (evE cx pa))) (hb : PE X b (tE r (evE cx pb))) (na : starEach [a, b] X.env = (false, eval a X.env) :: starEach [b] X.env) (nb : starEach [b] X.env = (false, eval b X.env) :: starEach [] X.env) (hp : (backTo pos (starEach [b] X.env)).any (·.1) = false) :
    PE X (.Call (.Name "tuple" p2) [.Call (.Name "range" p) [a, b] [] pos] [] pos2) (tE r (evE cx (.trng [pa, pb]))) := by
  refine ⟨fun pins s σ H Q I h => ?_⟩
  obtain ⟨hh, h'⟩ := trng_in h
  refine (pe_tupRg (g.calm hh) (g.gl hs2) (g.no hg2) (prg_2 (g.gl hs) (g.no hg) ha hb na nb hp) rfl).run pins s σ H Q I ?_
  refine tM.mono (tA_two h') fun x H1 h2 => tM.mono h2 fun y H2 ⟨hl, U, ds, xs, hr, hi, hz, q⟩ => ?_
  rw [hr.length] at hl
  match ds, hi with
  | [.int _], hi => cases hl
  | [.int i, .int j], hi =>
    have hi' : (if sml62 i && sml62 j then some (upTo i (j - i).toNat) else none) = some xs := hi
    split at hi'
    · rename_i hy
      cases hi'
      obtain ⟨w, w2, e, h, h'⟩ := rep2 hr
      cases e
      obtain rfl := h.int
      obtain rfl := h'.int
      rw [upTo_len] at hz
      rw [Bool.and_eq_true] at hy
      exact ⟨i, j, rfl, rfl, rg_ok hy.1 hy.2 hz rfl, fun p np => q p _ np fun U => rg_reps i _⟩
    · cases hi'
end
end Ev

set_option Elab.async false
set_option linter.all false
set_option maxRecDepth 100000
set_option maxHeartbeats 2000000
/-! Part L: targets, slots that are walked, comprehensions. -/
namespace Ev
open PySem L2 PyProof.Rows

/-! ### targets -/
/-- what a store leaves -/
structure TgS (io : List Bool) (V0 : Nat → Prop) (o : Bool) (v : V) (σ : Sg) (δ : Dst) (σ' : Sg) (δ' : Dst) : Prop where
  len : σ'.length = σ.length
  io : ∀ i, io.getD i false = true → σ'[i]? = σ[i]?
  lk : ∀ (i : Nat) (d : D), δ[i]? = some (Sl.lock d) → δ'[i]? = some (Sl.lock d) ∧ σ'[i]? = σ[i]?
  out : ∀ i, ¬ V0 i → σ'[i]? = σ[i]? ∧ δ'[i]? = δ[i]?
  own : ∀ (j : Nat) (e : D), (δ'[j]? = some (Sl.own e) ∨ δ'[j]? = some (Sl.lock e)) → (δ'[j]? = δ[j]? ∧ σ'[j]? = σ[j]?) ∨ (o = true ∧ σ'[j]? = some (some v))
mutual
def TgIn (i : Nat) : Tgt → Prop
  | .nm j => j = i
  | .tp ts => TgIns i ts
def TgIns (i : Nat) : List Tgt → Prop
  | [] => False
  | t :: ts => TgIn i t ∨ TgIns i ts
end
theorem TgS.refl {io : List Bool} {V0 : Nat → Prop} {o : Bool} {v : V} {σ : Sg} {δ : Dst} : TgS io V0 o v σ δ σ δ := ⟨rfl, fun _ _ => rfl, fun _ _ h => ⟨h, rfl⟩, fun _ _ => ⟨rfl, rfl⟩, fun _ _ _ => .inl ⟨rfl, rfl⟩⟩
theorem TgS.trans {io : List Bool} {V1 V2 V3 : Nat → Prop} {v w x : V} {σ σ1 σ2 : Sg} {δ δ1 δ2 : Dst} (a : TgS io V1 false v σ δ σ1 δ1) (b : TgS io V2 false w σ1 δ1 σ2 δ2) (h1 : ∀ i, V1 i → V3 i) (h2 : ∀ i, V2 i → V3 i) : TgS io V3 false x σ δ σ2 δ2 :=
  ⟨b.len.trans a.len, fun i h => (b.io i h).trans (a.io i h), fun i d h => by
    obtain ⟨e1, e2⟩ := a.lk i d h
    obtain ⟨e3, e4⟩ := b.lk i d e1
    exact ⟨e3, e4.trans e2⟩, fun i n => by
    obtain ⟨e1, e2⟩ := a.out i fun z => n (h1 i z)
    obtain ⟨e3, e4⟩ := b.out i fun z => n (h2 i z)
    exact ⟨e3.trans e1, e4.trans e2⟩, fun j e h => by
    rcases b.own j e h with ⟨e1, e2⟩ | ⟨z, _⟩
    · rw [e1] at h
      rcases a.own j e h with ⟨e3, e4⟩ | ⟨z, _⟩
      · exact .inl ⟨e1.trans e3, e2.trans e4⟩
      · cases z
    · cases z⟩
def tG (r : Ar) (t : Tgt) (o : Bool) : TG := fun v σ H Q => ∃ H0 U δ d, Abs r.c r.pn U H σ δ ∧ OpdR r.c r.pn H0 U H σ δ v (.t o d) ∧ match tgt r.io t o d δ with
  | none => False
  | some δ' => ∀ σ', Abs r.c r.pn U H σ' δ' → TgS r.io (fun i => TgIn i t) o v σ δ σ' δ' → Q σ' H
def tGs (r : Ar) (ts : List Tgt) : TGs := fun vs σ H Q => ∃ U δ ds, Abs r.c r.pn U H σ δ ∧ Reps r.c U H vs ds ∧ match tgts r.io ts ds δ with
  | none => False
  | some δ' => ∀ σ', Abs r.c r.pn U H σ' δ' → TgS r.io (fun i => TgIns i ts) false .non σ δ σ' δ' → Q σ' H
/-- a slot is written -/
theorem Abs.put {c : RC} {pn : Pn} {H0 : Hp} {U : AS} {H : Hp} {σ : Sg} {δ : Dst} {i : Nat} {v : V} {o : Bool} {d : D} {s : Sl} (A : Abs c pn U H σ δ) (hi : δ[i]? = some s) (h : OpdR c pn H0 U H σ δ v (.t o d)) :
    Abs c pn U H (σ.set i (some v)) (δ.set i (if o then .own d else .val d)) := by
  have lt : i < δ.length := at_lt hi
  have lt2 : i < σ.length := by rw [A.len]; exact lt
  have old : ∀ (j : Nat) (x : Sl), (δ.set i (if o then .own d else .val d))[j]? = some x → (j = i ∧ x = if o then .own d else .val d) ∨ (j ≠ i ∧ δ[j]? = some x ∧ (σ.set i (some v))[j]? = σ[j]?) := fun j x h => by
    by_cases z : j = i
    · subst z
      rw [set_at hi] at h
      cases h
      exact .inl ⟨rfl, rfl⟩
    · rw [List.getElem?_set_ne (Ne.symm z)] at h
      exact .inr ⟨z, h, List.getElem?_set_ne (Ne.symm z)⟩
  have at_i : (σ.set i (some v))[i]? = some (some v) := List.getElem?_set_self lt2
  have own' : ∀ j e, ((δ.set i (if o then .own d else .val d))[j]? = some (Sl.own e) ∨ (δ.set i (if o then .own d else .val d))[j]? = some (Sl.lock e)) → (j = i ∧ o = true ∧ e = d) ∨ (j ≠ i ∧ (δ[j]? = some (Sl.own e) ∨ δ[j]? = some (Sl.lock e)) ∧ (σ.set i (some v))[j]? = σ[j]?) := fun j e h => by
    rcases h with h | h
    · rcases old j _ h with ⟨z, y⟩ | ⟨n, z, w⟩
      · cases o
        · cases y
        · cases y; exact .inl ⟨z, rfl, rfl⟩
      · exact .inr ⟨n, .inl z, w⟩
    · rcases old j _ h with ⟨z, y⟩ | ⟨n, z, w⟩
      · cases o <;> cases y
      · exact .inr ⟨n, .inr z, w⟩
  refine ⟨by rw [List.length_set, List.length_set]; exact A.len, fun j e h2 => ?_, fun j e h2 => ?_, fun j k b e e2 ⟨h1, g1⟩ ⟨h2, g2⟩ => ?_, A.trk⟩
  · rcases old j _ h2 with ⟨z, y⟩ | ⟨n, z, w⟩
    · cases o
      · cases y
        rw [z]
        exact ⟨v, at_i, h⟩
      · cases y
    · rw [w]
      exact A.val j e z
  · rcases own' j e h2 with ⟨z, y, w⟩ | ⟨n, z, w⟩
    · subst y w
      obtain ⟨a, e1, _, u, ow, _⟩ := h
      rw [z]
      exact ⟨a, by rw [at_i, e1], u, ow⟩
    · rw [w]
      exact A.own j e z
  · rcases own' j e h1 with ⟨z, y, w⟩ | ⟨n, z, w⟩
    · rcases own' k e2 h2 with ⟨z2, y2, w2⟩ | ⟨n2, z2, w2⟩
      · rw [z, z2]
      · subst y w z
        obtain ⟨a, e1, _, u, ow, nh⟩ := h
        rw [at_i, e1] at g1
        cases g1
        rw [w2] at g2
        exact absurd ⟨z2, g2⟩ (nh k e2)
    · rcases own' k e2 h2 with ⟨z2, y2, w2⟩ | ⟨n2, z2, w2⟩
      · subst y2 w2 z2
        obtain ⟨a, e1, _, u, ow, nh⟩ := h
        rw [at_i, e1] at g2
        cases g2
        rw [w] at g1
        exact absurd ⟨z, g1⟩ (nh j e)
      · rw [w] at g1
        rw [w2] at g2
        exact A.dis j k b e e2 ⟨z, g1⟩ ⟨z2, g2⟩
theorem put_s {io : List Bool} {σ : Sg} {δ : Dst} {i : Nat} {v : V} {o : Bool} {d : D} {s : Sl} (hl : σ.length = δ.length) (hi : δ[i]? = some s) (nl : ∀ d, s ≠ .lock d) (hio : io.getD i false = false) : TgS io (fun j => i = j) o v σ δ (σ.set i (some v)) (δ.set i (if o then .own d else .val d)) := by
  have lt2 : i < σ.length := by rw [hl]; exact at_lt hi
  refine ⟨by rw [List.length_set], fun j h => List.getElem?_set_ne (fun z => by rw [← z, hio] at h; cases h), fun j e h => ?_, fun j n => ⟨List.getElem?_set_ne n, List.getElem?_set_ne n⟩, fun j e h => ?_⟩
  · have n : i ≠ j := fun z => by
      rw [← z, hi] at h
      cases h
      exact nl e rfl
    exact ⟨by rw [List.getElem?_set_ne n]; exact h, List.getElem?_set_ne n⟩
  · by_cases z : i = j
    · subst z
      rw [set_at hi] at h
      cases o
      · rcases h with h | h <;> cases h
      · exact .inr ⟨rfl, List.getElem?_set_self lt2⟩
    · exact .inl ⟨List.getElem?_set_ne z, List.getElem?_set_ne z⟩
theorem tgt_nm {io : List Bool} {i : Nat} {o : Bool} {d : D} {δ : Dst} : tgt io (.nm i) o d δ = if io.getD i false then none else match δ[i]? with
    | none => none
    | some (.lock _) => none
    | some _ => some (δ.set i (if o then .own d else .val d)) := rfl
theorem tgt_nm_in {io : List Bool} {i : Nat} {o : Bool} {d : D} {δ δ' : Dst} (h : tgt io (.nm i) o d δ = some δ') : ∃ s, δ[i]? = some s ∧ (∀ d, s ≠ .lock d) ∧ io.getD i false = false ∧ δ' = δ.set i (if o then .own d else .val d) := by
  rw [tgt_nm] at h
  split at h
  · cases h
  · rename_i hio
    split at h
    · cases h
    · cases h
    · rename_i s hn hs
      cases h
      exact ⟨s, hs, fun d z => hn d z, by simpa using hio, rfl⟩
section
variable {m : Md} {glb : Str → Option Gk} {k : Nat} {N : List Str} {sc : Scope} {r : Ar} {X : L2.Cx} {cx : Ev.Cx} {a b d : Expr} {pa pb pd : PX} {pos : Pos}
theorem g_nm (g : Gd m glb k N sc r X cx) {i : Nat} {x : Str} {o : Bool} (hN : N[i]? = some x) (hv : L2.Loc X.env.scope x) (hf : X.fn x = true ∨ X.env.scope.names.lookup x = some .local) : PG X (.Name x pos) (tG r (.nm i) o) := by
  refine pg_mono (pg_name (i := i) (by rw [g.hN]; exact g.nd) (by rw [g.hN]; exact hN) hv hf) fun v σ H Q h => ?_
  obtain ⟨H0, U, δ, d, A, rp, h⟩ := h
  cases e : tgt r.io (.nm i) o d δ with
  | none => rw [e] at h; exact h.elim
  | some δ' =>
    rw [e] at h
    obtain ⟨s, hi, nl, hio, rfl⟩ := tgt_nm_in e
    exact h _ (A.put hi rp) (put_s A.len hi nl hio)
theorem gs_nil : PGs X [] (tGs r []) := ⟨fun pins s σ H vs us Q I rl ⟨U, δ, ds, A, rp, h⟩ => by
  cases ds with
  | nil =>
    cases rp
    exact pgs_nil.run pins s σ H [] us Q I rl ⟨rfl, h σ A TgS.refl⟩
  | cons _ _ => exact h.elim⟩
theorem gs_cons {es : List Expr} {t : Tgt} {ts : List Tgt} (h1 : PG X a (tG r t false)) (h2 : PGs X es (tGs r ts)) (hs : (assignEach (a :: es) X.env).map (·.2) = assign a X.env :: (assignEach es X.env).map (·.2)) : PGs X (a :: es) (tGs r (t :: ts)) := by
  refine ⟨fun pins s σ H vs us Q I rl ⟨U, δ, ds, A, rp, h⟩ => ?_⟩
  refine (pgs_cons h1 h2 hs).run pins s σ H vs us Q I rl ?_
  cases ds with
  | nil => exact h.elim
  | cons d ds =>
    cases rp with
    | cons rv rr =>
      refine ⟨_, _, rfl, H, U, δ, d, A, Rep.e rv, ?_⟩
      have e0 : tgts r.io (t :: ts) (d :: ds) δ = match tgt r.io t false d δ with | none => none | some δ1 => tgts r.io ts ds δ1 := rfl
      rw [e0] at h
      cases e : tgt r.io t false d δ with
      | none => rw [e] at h; exact h.elim
      | some δ1 =>
        rw [e] at h
        intro σ1 A1 s1
        refine ⟨U, δ1, ds, A1, rr, ?_⟩
        dsimp only at h
        cases e2 : tgts r.io ts ds δ1 with
        | none => rw [e2] at h; exact h.elim
        | some δ2 =>
          rw [e2] at h
          intro σ2 A2 s2
          exact h σ2 A2 (s1.trans s2 (fun i z => .inl z) fun i z => .inr z)
theorem g_tp (g : Gd m glb k N sc r X cx) {es : List Expr} {ts : List Tgt} {o : Bool} {kk n : Nat} (hc : X.calm = true) (h : PGs X es (tGs r ts)) (hn : (assignEach es X.env).length = n) (hst : (assignEach es X.env).findIdx? (·.1) = none) (hl : ts.length = n) : PG X (.Tuple es kk pos) (tG r (.tp ts) o) := by
  refine pg_mono (pg_tup hc h hn hst) fun v σ H Q h => ?_
  obtain ⟨H0, U, δ, d, A, rp, h⟩ := h
  have len : ∀ (ts : List Tgt) (ds : List D) (δ δ' : Dst), tgts r.io ts ds δ = some δ' → ts.length = ds.length := by
    intro ts
    induction ts with
    | nil =>
      intro ds δ δ' e
      cases ds with
      | nil => rfl
      | cons _ _ => cases e
    | cons t ts ih =>
      intro ds δ δ' e
      cases ds with
      | nil => cases e
      | cons d ds =>
        have e0 : (match tgt r.io t false d δ with | none => none | some δ1 => tgts r.io ts ds δ1) = some δ' := e
        split at e0
        · cases e0
        · rw [List.length_cons, List.length_cons, ih _ _ _ e0]
  match d, rp, h with
  | .tup ds, rp, h =>
    have e0 : tgt r.io (.tp ts) o (.tup ds) δ = tgts r.io ts ds δ := rfl
    rw [e0] at h
    have rp' : Rep r.c U H v (.tup ds) := by
      cases o
      · exact rp
      · obtain ⟨_, _, _, _, w, _⟩ := rp
        exact w.elim
    · obtain ⟨a, vs, rfl, hT, rs⟩ := RepR.tup (pn := r.pn) (.inl rp'.e)
      cases e : tgts r.io ts ds δ with
      | none => rw [e] at h; exact h.elim
      | some δ' =>
        rw [e] at h
        refine ⟨a, vs, rfl, by rw [g.K]; exact hT, by rw [rs.length, ← len _ _ _ _ e]; exact hl, U, δ, ds, A, rs, ?_⟩
        rw [e]
        intro σ' A' s'
        refine h σ' A' ⟨s'.len, s'.io, s'.lk, s'.out, fun j e2 h2 => (s'.own j e2 h2).imp id fun z => nomatch z.1⟩
end

/-! ### slots that are walked -/
structure SL (δ δ' : Dst) : Prop where
  len : δ'.length = δ.length
  at_ : ∀ (i : Nat), δ'[i]? = δ[i]? ∨ ∃ d, (δ[i]? = some (Sl.own d) ∨ δ[i]? = some (Sl.lock d)) ∧ (δ'[i]? = some (Sl.own d) ∨ δ'[i]? = some (Sl.lock d))
theorem SL.refl {δ : Dst} : SL δ δ := ⟨rfl, fun _ => .inl rfl⟩
theorem SL.hold {δ δ' : Dst} (s : SL δ δ') {i : Nat} {d : D} (h : δ'[i]? = some (Sl.own d) ∨ δ'[i]? = some (Sl.lock d)) : δ[i]? = some (Sl.own d) ∨ δ[i]? = some (Sl.lock d) := by
  rcases s.at_ i with z | ⟨e, h1, h2⟩
  · rw [z] at h; exact h
  · have : e = d := by
      rcases h with h | h <;> rcases h2 with h2 | h2 <;> rw [h] at h2 <;> cases h2 <;> rfl
    rw [← this]; exact h1
theorem SL.symm {δ δ' : Dst} (s : SL δ δ') : SL δ' δ := ⟨s.len.symm, fun i => (s.at_ i).imp Eq.symm fun ⟨d, h1, h2⟩ => ⟨d, h2, h1⟩⟩
theorem SL.trans {a b c : Dst} (s : SL a b) (t : SL b c) : SL a c := ⟨t.len.trans s.len, fun i => by
  rcases t.at_ i with z | ⟨d, h1, h2⟩
  · rcases s.at_ i with y | ⟨e, h3, h4⟩
    · exact .inl (z.trans y)
    · exact .inr ⟨e, h3, by rw [z]; exact h4⟩
  · exact .inr ⟨d, s.hold h1, h2⟩⟩
theorem SL.val {δ δ' : Dst} (s : SL δ δ') {i : Nat} {d : D} (h : δ'[i]? = some (Sl.val d)) : δ[i]? = some (Sl.val d) := by
  rcases s.at_ i with z | ⟨e, h1, h2⟩
  · rw [← z]; exact h
  · rcases h2 with h2 | h2 <;> rw [h] at h2 <;> cases h2
theorem Abs.sl {c : RC} {pn : Pn} {U : AS} {H : Hp} {σ : Sg} {δ δ' : Dst} (A : Abs c pn U H σ δ) (s : SL δ δ') : Abs c pn U H σ δ' :=
  ⟨A.len.trans s.len.symm, fun i d h => A.val i d (s.val h), fun i d h => A.own i d (s.hold h), fun i j a d e h1 h2 => A.dis i j a d e ⟨s.hold h1.1, h1.2⟩ ⟨s.hold h2.1, h2.2⟩, A.trk⟩
theorem SL.set {δ : Dst} {i : Nat} {d : D} {x : Sl} (h : δ[i]? = some (Sl.own d) ∨ δ[i]? = some (Sl.lock d)) (hx : x = .own d ∨ x = .lock d) : SL δ (δ.set i x) := ⟨by rw [List.length_set], fun j => by
  by_cases z : i = j
  · subst z
    refine .inr ⟨d, h, ?_⟩
    have e : (δ.set i x)[i]? = some x := by
      rcases h with h | h
      · exact set_at h
      · exact set_at h
    rcases hx with y | y <;> rw [y] at e ⊢ <;> rw [e]
    · exact .inl rfl
    · exact .inr rfl
  · exact .inl (List.getElem?_set_ne z)⟩
/-- all of these are locked, where they own -/
structure LK (is : List Nat) (δ δ' : Dst) : Prop where
  sl : SL δ δ'
  own : ∀ (i : Nat) (d : D), δ'[i]? = some (Sl.own d) → δ[i]? = some (Sl.own d) ∧ i ∉ is
  lk : ∀ (i : Nat) (d : D), δ[i]? = some (Sl.lock d) → δ'[i]? = some (Sl.lock d)
theorem lock_one {i : Nat} {δ : Dst} {d : D} (h : δ[i]? = some (Sl.own d)) : LK [i] δ (δ.set i (.lock d)) := ⟨SL.set (.inl h) (.inr rfl), fun j e h2 => by
    by_cases z : i = j
    · subst z
      rw [set_at h] at h2
      cases h2
    · rw [List.getElem?_set_ne z] at h2
      exact ⟨h2, fun y => z (List.mem_singleton.mp y).symm⟩, fun j e h2 => by
    by_cases z : i = j
    · subst z
      rw [h] at h2; cases h2
    · rw [List.getElem?_set_ne z]; exact h2⟩
theorem lock_all : ∀ (is : List Nat) (δ : Dst), LK is δ (lockAll is δ)
  | [], δ => ⟨SL.refl, fun i d h => ⟨h, by simp⟩, fun _ _ h => h⟩
  | i :: r, δ => by
    unfold lockAll
    split
    · rename_i d h
      have a := lock_one h
      have b := lock_all r (δ.set i (.lock d))
      refine ⟨a.sl.trans b.sl, fun j e h2 => ?_, fun j e h2 => b.lk j e (a.lk j e h2)⟩
      obtain ⟨h3, h4⟩ := b.own j e h2
      obtain ⟨h5, h6⟩ := a.own j e h3
      exact ⟨h5, by simp at h6 ⊢; exact ⟨h6, h4⟩⟩
    · rename_i hn
      have b := lock_all r δ
      refine ⟨b.sl, fun j e h2 => ?_, b.lk⟩
      obtain ⟨h3, h4⟩ := b.own j e h2
      refine ⟨h3, fun z => ?_⟩
      rcases List.mem_cons.mp z with y | y
      · rw [← y] at hn
        exact hn e h3
      · exact h4 y
structure UL (is : List Nat) (δ δ' : Dst) : Prop where
  sl : SL δ δ'
  own : ∀ (i : Nat) (d : D), δ'[i]? = some (Sl.own d) → δ[i]? = some (Sl.own d) ∨ (i ∈ is ∧ δ[i]? = some (Sl.lock d))
  lk : ∀ (i : Nat) (d : D), δ[i]? = some (Sl.lock d) → i ∉ is → δ'[i]? = some (Sl.lock d)
theorem unlock_all : ∀ (is : List Nat) (δ δ' : Dst), unlockAll is δ = some δ' → UL is δ δ'
  | [], δ, δ', e => by cases e; exact ⟨SL.refl, fun i d h => .inl h, fun _ _ h _ => h⟩
  | i :: r, δ, δ', e => by
    unfold unlockAll at e
    split at e
    · rename_i d h
      have b := unlock_all r _ δ' e
      refine ⟨(SL.set (.inr h) (.inl rfl)).trans b.sl, fun j e2 h2 => ?_, fun j e2 h2 n => ?_⟩
      · rcases b.own j e2 h2 with h3 | ⟨h3, h4⟩
        · by_cases z : i = j
          · subst z
            rw [set_at h] at h3
            cases h3
            exact .inr ⟨by simp, h⟩
          · rw [List.getElem?_set_ne z] at h3
            exact .inl h3
        · by_cases z : i = j
          · subst z
            rw [set_at h] at h4
            cases h4
          · rw [List.getElem?_set_ne z] at h4
            exact .inr ⟨by simp [h3], h4⟩
      · have n1 : i ≠ j := fun z => n (by simp [z])
        exact b.lk j e2 (by rw [List.getElem?_set_ne n1]; exact h2) fun z => n (by simp [z])
    · cases e
theorem stp_lock {io : List Bool} {σ : Sg} {δ δ' : Dst} {U : AS} {H : Hp} {is : List Nat} (l : LK is δ δ') : StpE io σ δ U H δ' U H :=
  ⟨⟨Fr'.refl, fun a ⟨i, d, h1, h2⟩ => .inl ⟨i, d, (l.own i d h1).1, h2⟩, fun _ _ => rfl, fun i d h => ⟨l.lk i d h, rfl⟩⟩, fun i ⟨d, h⟩ => by
    rcases l.sl.at_ i with z | ⟨e, h1, h2⟩
    · exact ⟨d, by rw [z]; exact h⟩
    · exact ⟨e, h2.imp id .inl⟩, fun i d h => ⟨d, l.sl.hold h⟩⟩
/-- what is held through a walk: a value, or what nobody changes meanwhile -/
def HeldR (c : RC) (pn : Pn) (U : AS) (H : Hp) (σ : Sg) (δ : Dst) (v : V) (d : D) : Prop := RepE c pn U H v d ∨ ∃ a, v = .ref a ∧ U a ∧ OwnC c U H a d ∧ ¬ Root σ δ a
inductive HeldRs (c : RC) (pn : Pn) (U : AS) (H : Hp) (σ : Sg) (δ : Dst) : List V → List D → Prop
  | nil : HeldRs c pn U H σ δ [] []
  | cons {v : V} {d : D} {vs : List V} {ds : List D} : HeldR c pn U H σ δ v d → HeldRs c pn U H σ δ vs ds → HeldRs c pn U H σ δ (v :: vs) (d :: ds)
theorem HeldRs.rep {c : RC} {pn : Pn} {U : AS} {H : Hp} {σ : Sg} {δ : Dst} : ∀ {vs : List V} {ds : List D}, HeldRs c pn U H σ δ vs ds → RepRs c pn U H vs ds
  | _, _, .nil => .nil
  | _, _, .cons h r => .cons (h.imp id fun ⟨a, e, u, o, _⟩ => ⟨a, e, u, o⟩) (HeldRs.rep r)
theorem HeldRs.step {c : RC} {pn : Pn} {io : List Bool} {U U' : AS} {H H' : Hp} {σ σ' : Sg} {δ δ' : Dst} (A : Abs c pn U H σ δ) (s : Stp io σ δ U H σ' δ' U' H') : ∀ {vs : List V} {ds : List D}, HeldRs c pn U H σ δ vs ds → HeldRs c pn U' H' σ' δ' vs ds
  | _, _, .nil => .nil
  | _, _, .cons h r => by
    refine .cons ?_ (HeldRs.step A s r)
    rcases h with h | ⟨a, e, u, o, n⟩
    · exact .inl (h.mono s.fr A.root)
    · refine .inr ⟨a, e, s.fr.u2 a u n, o.keep s.fr A.root n, fun z => ?_⟩
      rcases s.rt a z with y | y
      · exact n y
      · exact A.trk a u y
theorem held_at {c : RC} {pn : Pn} {H0 : Hp} {U : AS} {H : Hp} {σ : Sg} {δ δ' : Dst} {is : List Nat} (A : Abs c pn U H σ δ) (l : LK is δ δ') : ∀ {vs : List V} {os : List Opd} {ds : List D}, (∀ i ∈ walked δ os, i ∈ is) → OpdRs c pn H0 U H σ δ vs os → rdOs δ os = some ds → HeldRs c pn U H σ δ' vs ds
  | _, _, _, _, .nil, e => by cases e; exact .nil
  | _, o :: os, _, hw, .cons (v := v) h t r, e => by
    unfold rdOs at e
    split at e
    · rename_i d ds h1 h2
      cases e
      have hr : ∀ i ∈ walked δ os, i ∈ is := fun i hi => hw i (by
        cases o with
        | t _ _ => exact hi
        | s j => exact List.mem_append_right _ hi)
      refine .cons ?_ (held_at A l hr r h2)
      cases o with
      | t b d' =>
        cases h1
        cases b with
        | false => exact .inl h
        | true =>
          obtain ⟨a, e1, _, u, ow, n⟩ := h
          exact .inr ⟨a, e1, u, ow, fun ⟨i, e, h3, h4⟩ => n i e ⟨.inl (l.own i e h3).1, h4⟩⟩
      | s i =>
        obtain ⟨hv, _⟩ := h
        have e' : (match δ[i]? with | some (.val d) => some d | some (.own d) => some d | some (.lock d) => some d | _ => none) = some d := h1
        have held : (δ[i]? = some (Sl.own d) ∨ δ[i]? = some (Sl.lock d)) → (∀ e, δ'[i]? ≠ some (Sl.own e)) → HeldR c pn U H σ δ' v d := fun ho hn => by
          obtain ⟨a, h5, u, ow⟩ := A.own i d ho
          rw [hv] at h5; cases h5
          refine .inr ⟨a, rfl, u, ow, fun ⟨j, e, h3, h4⟩ => ?_⟩
          have ej : j = i := A.dis j i a e d ⟨.inl (l.own j e h3).1, h4⟩ ⟨ho, hv⟩
          rw [ej] at h3
          exact hn e h3
        split at e'
        · rename_i d' hd
          cases e'
          obtain ⟨w, h5, q⟩ := A.val i _ hd
          rw [hv] at h5; cases h5
          exact .inl q
        · rename_i d' hd
          cases e'
          refine held (.inl hd) fun e h3 => (l.own i e h3).2 (hw i ?_)
          show i ∈ (match δ[i]? with | some (.own _) => [i] | _ => []) ++ walked δ os
          rw [hd]
          simp
        · rename_i d' hd
          cases e'
          exact held (.inr hd) fun e h3 => by
            have := (l.own i e h3).1
            rw [hd] at this
            cases this
        · cases e'
    · cases e
end Ev

set_option Elab.async false
set_option linter.all false
set_option maxRecDepth 100000
set_option maxHeartbeats 2000000
/-! Part M: comprehensions. -/
namespace Ev
open PySem L2 PyProof.Rows
section
variable {c : RC} {pn : Pn} {io : List Bool} {U U0 : AS} {H H0 : Hp} {σ σ0 : Sg} {δ δ0 : Dst} {vs : List Nat}
theorem wipe_out {j : Nat} (n : j ∉ vs) : (wipe σ vs)[j]? = σ[j]? := by
  induction vs with
  | nil => rfl
  | cons v vs ih =>
    unfold wipe
    rw [List.getElem?_set_ne fun z => n (by simp [z])]
    exact ih fun z => n (by simp [z])
theorem wipeD_len (δ : Dst) : ∀ vs : List Nat, (wipeD vs δ).length = δ.length
  | [] => rfl
  | v :: vs => by unfold wipeD; rw [List.length_set, wipeD_len δ vs]
theorem wipeD_out {j : Nat} (n : j ∉ vs) : (wipeD vs δ)[j]? = δ[j]? := by
  induction vs with
  | nil => rfl
  | cons v vs ih =>
    unfold wipeD
    rw [List.getElem?_set_ne fun z => n (by simp [z])]
    exact ih fun z => n (by simp [z])
theorem wipeD_in {j : Nat} {x : Sl} (h : (wipeD vs δ)[j]? = some x) : j ∉ vs ∨ x = .non := by
  induction vs with
  | nil => exact .inl (by simp)
  | cons v vs ih =>
    unfold wipeD at h
    by_cases z : v = j
    · subst z
      by_cases lt : v < (wipeD vs δ).length
      · rw [List.getElem?_set_self lt] at h
        cases h
        exact .inr rfl
      · rw [List.getElem?_eq_none (by simpa using lt)] at h
        cases h
    · rw [List.getElem?_set_ne z] at h
      rcases ih h with y | y
      · exact .inl (by simp only [List.mem_cons, not_or]; exact ⟨fun e => z e.symm, y⟩)
      · exact .inr y
theorem backD_len (old δ : Dst) : ∀ vs : List Nat, (backD old vs δ).length = δ.length
  | [] => rfl
  | v :: vs => by unfold backD; rw [List.length_set, backD_len old δ vs]
theorem backD_out {j : Nat} (n : j ∉ vs) : (backD δ0 vs δ)[j]? = δ[j]? := by
  induction vs with
  | nil => rfl
  | cons v vs ih =>
    unfold backD
    rw [List.getElem?_set_ne fun z => n (by simp [z])]
    exact ih fun z => n (by simp [z])
theorem backD_in {j : Nat} (h : j ∈ vs) (lt : j < δ.length) : (backD δ0 vs δ)[j]? = some (δ0.getD j .non) := by
  induction vs with
  | nil => simp at h
  | cons v vs ih =>
    unfold backD
    by_cases z : v = j
    · subst z
      exact List.getElem?_set_self (by rw [backD_len]; exact lt)
    · rw [List.getElem?_set_ne z]
      rcases List.mem_cons.mp h with y | y
      · exact absurd y.symm z
      · exact ih y
theorem Abs.wipe (A : Abs c pn U H σ δ) : Abs c pn U H (wipe σ vs) (wipeD vs δ) := by
  have out : ∀ (j : Nat) (x : Sl), (wipeD vs δ)[j]? = some x → x ≠ .non → δ[j]? = some x ∧ (L2.wipe σ vs)[j]? = σ[j]? := fun j x h n => by
    rcases wipeD_in h with z | z
    · rw [wipeD_out z] at h
      exact ⟨h, wipe_out z⟩
    · exact absurd z n
  have own : ∀ (j : Nat) (d : D), ((wipeD vs δ)[j]? = some (Sl.own d) ∨ (wipeD vs δ)[j]? = some (Sl.lock d)) → (δ[j]? = some (Sl.own d) ∨ δ[j]? = some (Sl.lock d)) ∧ (L2.wipe σ vs)[j]? = σ[j]? := fun j d h => by
    rcases h with h | h
    · obtain ⟨h1, h2⟩ := out j _ h fun z => nomatch z
      exact ⟨.inl h1, h2⟩
    · obtain ⟨h1, h2⟩ := out j _ h fun z => nomatch z
      exact ⟨.inr h1, h2⟩
  refine ⟨by rw [wipe_length, wipeD_len]; exact A.len, fun j d h => ?_, fun j d h => ?_, fun i j a d e h1 h2 => ?_, A.trk⟩
  · obtain ⟨h1, h2⟩ := out j _ h fun z => nomatch z
    rw [h2]
    exact A.val j d h1
  · obtain ⟨h1, h2⟩ := own j d h
    rw [h2]
    exact A.own j d h1
  · obtain ⟨h3, h4⟩ := own i d h1.1
    obtain ⟨h5, h6⟩ := own j e h2.1
    exact A.dis i j a d e ⟨h3, by rw [← h4]; exact h1.2⟩ ⟨h5, by rw [← h6]; exact h2.2⟩
theorem stp_wipe (hio : ∀ j ∈ vs, io.getD j false = false) (nl : ∀ j ∈ vs, ∀ d, δ[j]? ≠ some (Sl.lock d)) : Stp io σ δ U H (wipe σ vs) (wipeD vs δ) U H where
  fr := Fr'.refl
  rt := fun a ⟨i, d, h1, h2⟩ => by
    rcases wipeD_in h1 with z | z
    · rw [wipeD_out z] at h1
      rw [wipe_out z] at h2
      exact .inl ⟨i, d, h1, h2⟩
    · cases z
  io := fun i h => wipe_out fun z => by rw [hio i z] at h; cases h
  lk := fun i d h => by
    have n : i ∉ vs := fun z => nl i z d h
    exact ⟨by rw [wipeD_out n]; exact h, wipe_out n⟩
theorem stp_same' {H' : Hp} (s : Same H H') : Stp io σ δ U H σ δ U H' := (stp_same s).st
/-- a store, as a step -/
theorem TgS.stp {V0 : Nat → Prop} {v : V} {σ' : Sg} {δ' : Dst} (s : TgS io V0 false v σ δ σ' δ') : Stp io σ δ U H σ' δ' U H where
  fr := Fr'.refl
  rt := fun a ⟨i, d, h1, h2⟩ => by
    rcases s.own i d (.inl h1) with ⟨e1, e2⟩ | ⟨z, _⟩
    · exact .inl ⟨i, d, by rw [← e1]; exact h1, by rw [← e2]; exact h2⟩
    · cases z
  io := s.io
  lk := s.lk
/-- what is new since the start is written -/
theorem Stp.poke {U' : AS} {H' : Hp} {σ' : Sg} {δ' : Dst} {a : Addr} {o : HO} (s : Stp io σ δ U H σ' δ' U' H') (n : H a = none) : Stp io σ δ U H σ' δ' U' (upd H' a o) :=
  ⟨⟨fun b x e nm => by rw [upd_ne (ne_of_none e n)]; exact s.fr.keep b x e nm, fun b xs e => by rw [upd_ne (ne_of_none e n)]; exact s.fr.tup b xs e, fun b q u e => by rw [upd_ne (ne_of_none e n)]; exact s.fr.frz b q u e, fun b e => by
    by_cases z : b = a
    · rw [z, upd_same]; exact fun z => nomatch z
    · rw [upd_ne z]; exact s.fr.there b e, s.fr.u1, s.fr.u2⟩, s.rt, s.io, s.lk⟩
theorem Abs.poke {a : Addr} {d : D} {o : HO} (A : Abs c pn U H σ δ) (u : U a) (ow : OwnC c U H a d) (nh : ∀ i e, ¬ Has σ δ i a e) : Abs c pn U (upd H a o) σ δ ∧ Fr' (fun b => b = a) U U H (upd H a o) := by
  have f : Fr' (fun b => b = a) U U H (upd H a o) := by
    cases q : H a with
    | none => exact absurd q ow.at_
    | some x => exact fr_upd q ow.mut.1 ow.mut.2
  have hm : ∀ b, b = a → U b := fun b z => by rw [z]; exact u
  refine ⟨⟨A.len, fun i d h => ?_, fun i d h => ?_, A.dis, fun b z => f.there b (A.trk b z)⟩, f⟩
  · obtain ⟨v, e, q⟩ := A.val i d h
    exact ⟨v, e, q.mono f hm⟩
  · obtain ⟨b, e, u1, q⟩ := A.own i d h
    exact ⟨b, e, u1, q.keep f hm fun z => nh i d ⟨h, by rw [← z]; exact e⟩⟩
end
abbrev Ar.nox (r : Ar) : Ar := { r with W := fun _ _ _ _ => False }
section
variable {m : Md} {glb : Str → Option Gk} {k : Nat} {N : List Str} {sc : Scope} {r : Ar} {X : L2.Cx} {cx : Ev.Cx} {a b d : Expr} {pa pb pd : PX} {pos : Pos}
/-- one turn of a comprehension -/
def lcB (cx : Ev.Cx) (tg : Tgt) (ifs : Option PX) (elt : PX) (d : D) : M (Option D) := (tgtM cx tg false d).bind fun _ => (evI cx ifs).bind fun k => if k then (evE cx elt).bind fun x => (escM cx.io x).bind fun y => M.pure (some y.2) else M.pure none
def lcF (cx : Ev.Cx) (vs : List Nat) (tg : Tgt) (kd : Nat) (ifs : Option PX) (elt : PX) (os : List Opd) (xs : List D) : M Opd := fun δ =>
  if vs.all (fun i => plainAt δ i && !cx.io.getD i false) && decide (xs.length ≤ lim) && tgVs vs tg then
    match gather vs (lcB cx tg ifs elt) xs [] (wipeD vs (lockAll (walked δ os) δ)) with
    | some (.ok ys δ') => match unlockAll (walked δ os) (backD δ vs δ') with
      | none => none
      | some δ2 => some (.ok (.t true (.lst ys)) δ2)
    | _ => none
  else none
theorem lc_eq {vs : List Nat} {tg : Tgt} {kd : Nat} {as : List PX} {ifs : Option PX} {elt : PX} : evE cx (.lc vs tg kd as ifs elt) = if cx.hot then M.stuck else (evEs cx as).bind fun os => (rdsM os).bind fun ds => (M.opt (items kd ds)).bind fun xs => lcF cx vs tg kd ifs elt os xs := rfl
mutual
theorem tgVs_in {vs : List Nat} {i : Nat} : ∀ {t : Tgt}, tgVs vs t = true → TgIn i t → i ∈ vs
  | .nm j, h, e => by
    have e' : j = i := e
    subst e'
    have h' : vs.contains j = true := h
    simpa using h'
  | .tp ts, h, e => tgVss_in (ts := ts) h e
theorem tgVss_in {vs : List Nat} {i : Nat} : ∀ {ts : List Tgt}, tgVss vs ts = true → TgIns i ts → i ∈ vs
  | [], _, e => e.elim
  | t :: ts, h, e => by
    have h' : (tgVs vs t && tgVss vs ts) = true := h
    rw [Bool.and_eq_true] at h'
    rcases e with e | e
    · exact tgVs_in h'.1 e
    · exact tgVss_in h'.2 e
end
theorem wipe_eq {vs : List Nat} {σ σ2 : Sg} (hl : σ2.length = (wipe σ vs).length) (ho : ∀ i, i ∉ vs → σ2[i]? = (wipe σ vs)[i]?) : wipe σ2 vs = wipe σ vs := by
  refine List.ext_getElem? fun j => ?_
  by_cases hj : j ∈ vs
  · have w : ∀ (τ : Sg), j < τ.length → (wipe τ vs)[j]? = some none := fun τ lt => by
      have lt' : j < (wipe τ vs).length := by rw [wipe_length]; exact lt
      cases e : (wipe τ vs)[j]? with
      | none => rw [List.getElem?_eq_none_iff] at e; omega
      | some x =>
        cases x with
        | none => rfl
        | some x => exact absurd hj (wipe_some e).2
    rw [wipe_length] at hl
    by_cases lt : j < σ.length
    · rw [w σ lt, w σ2 (by omega)]
    · rw [List.getElem?_eq_none (by rw [wipe_length]; omega), List.getElem?_eq_none (by rw [wipe_length]; omega)]
  · rw [wipe_out hj, ho j hj]
/-- the state of a comprehension at a turn: the new list at q holds ds -/
structure LcI (r : Ar) (vs : List Nat) (σ : Sg) (δL δw : Dst) (U1 : AS) (H1 : Hp) (q : Addr) (i : Nat) (H : Hp) (U : AS) (δ : Dst) (x : D) (n : Nat) : Prop where
  A : Abs r.c r.pn U H (wipe σ vs) δ
  uD : U q
  oD : OwnC r.c U H q x
  nD : ∀ j e, ¬ Has (wipe σ vs) δ j q e
  st : Stp r.io σ δL U1 H1 (wipe σ vs) δ U H
  no : ∀ (j : Nat) (e : D), (δ[j]? = some (Sl.own e) ∨ δ[j]? = some (Sl.lock e)) → ∃ e', δw[j]? = some (Sl.own e') ∨ δw[j]? = some (Sl.lock e')
  ful : ∀ j, j ∉ vs → Full δw j → Full δ j
  len : n ≤ i
/-- what is left of a turn -/
theorem gather_cons {vs : List Nat} {B : D → M (Option D)} {d : D} {xs acc ys : List D} {δ δ' : Dst} (h : gather vs B (d :: xs) acc δ = some (.ok ys δ')) : ∃ x δ1, B d δ = some (.ok x δ1) ∧ gather vs B xs (match x with | none => acc | some y => acc ++ [y]) (wipeD vs δ1) = some (.ok ys δ') := by
  have e : gather vs B (d :: xs) acc δ = (match B d δ with | some (.ok x δ') => gather vs B xs (match x with | none => acc | some y => acc ++ [y]) (wipeD vs δ') | _ => none) := rfl
  rw [e] at h
  split at h
  · exact ⟨_, _, by assumption, h⟩
  · cases h
theorem tgtM_in {c : Ev.Cx} {t : Tgt} {o : Bool} {d : D} {δ δ' : Dst} {u : Unit} (h : tgtM c t o d δ = some (.ok u δ')) : tgt c.io t o d δ = some δ' := by
  unfold tgtM at h
  split at h
  · split at h
    · cases h
    · split at h
      · cases h
      · cases h; assumption
  · split at h
    · cases h
    · cases h; assumption
/-- the end of a turn: from a state behind the chain to the next turn -/
theorem LcI.next {vs : List Nat} {σ σ2 : Sg} {δL δw δ δ1 : Dst} {U1 U U3 : AS} {H1 H H4 : Hp} {q : Addr} {i : Nat} {x0 x1 : D} {n0 n1 : Nat} {v0 : V} {V0 : Nat → Prop} {δa : Dst} (I : LcI r vs σ δL δw U1 H1 q i H U δ x0 n0) (hq : H1 q = none) (trk : ∀ a, U1 a → H1 a ≠ none)
    (hio : ∀ j ∈ vs, r.io.getD j false = false) (hw : ∀ (j : Nat), j ∈ vs → ∀ e, δw[j]? ≠ some (Sl.own e) ∧ δw[j]? ≠ some (Sl.lock e)) (t : TgS r.io V0 false v0 (wipe σ vs) δ σ2 δa) (tv : ∀ j, V0 j → j ∈ vs)
    (s : StpE r.io σ2 δa U H δ1 U3 H4) (A : Abs r.c r.pn U3 H4 σ2 δ1) (u3 : U3 q) (nh : ∀ j e, ¬ Has σ2 δ1 j q e) (le : n1 ≤ i + 1) {o : HO} (o3 : OwnC r.c U3 (upd H4 q o) q x1) (A4 : Abs r.c r.pn U3 (upd H4 q o) σ2 δ1) :
    LcI r vs σ δL δw U1 H1 q (i + 1) (upd H4 q o) U3 (wipeD vs δ1) x1 n1 := by
  have we : wipe σ2 vs = wipe σ vs := wipe_eq t.len fun j n => (t.out j fun z => n (tv j z)).1
  have hold : ∀ (j : Nat) (e : D), (δ1[j]? = some (Sl.own e) ∨ δ1[j]? = some (Sl.lock e)) → ∃ e', (δ[j]? = some (Sl.own e') ∨ δ[j]? = some (Sl.lock e')) := fun j e h => by
    obtain ⟨e1, h1⟩ := s.no j e h
    rcases t.own j e1 h1 with ⟨z, _⟩ | ⟨z, _⟩
    · rw [z] at h1; exact ⟨e1, h1⟩
    · cases z
  have nl : ∀ j ∈ vs, ∀ d, δ1[j]? ≠ some (Sl.lock d) := fun j hj d h => by
    obtain ⟨e1, h1⟩ := hold j d (.inr h)
    obtain ⟨e2, h2⟩ := I.no j e1 h1
    rcases h2 with h2 | h2
    · exact (hw j hj e2).1 h2
    · exact (hw j hj e2).2 h2
  have st1 : Stp r.io σ δL U1 H1 σ2 δ1 U3 H4 := (I.st.trans t.stp trk).trans s.st trk
  have st2 : Stp r.io σ δL U1 H1 σ2 δ1 U3 (upd H4 q o) := st1.poke hq
  have st3 := st2.trans (stp_wipe (io := r.io) (U := U3) (H := upd H4 q o) (σ := σ2) hio nl) trk
  have Aw := Abs.wipe (vs := vs) A4
  rw [we] at st3 Aw
  refine ⟨Aw, u3, o3, fun j e ⟨h1, h2⟩ => ?_, st3, fun j e h => ?_, fun j n h => ?_, le⟩
  · have n : j ∉ vs := by
      rcases h1 with h1 | h1
      · rcases wipeD_in h1 with z | z
        · exact z
        · cases z
      · rcases wipeD_in h1 with z | z
        · exact z
        · cases z
    rw [wipeD_out n] at h1
    rw [← we, wipe_out n] at h2
    exact nh j e ⟨h1, h2⟩
  · have n : j ∉ vs := by
      rcases h with h1 | h1
      · rcases wipeD_in h1 with z | z
        · exact z
        · cases z
      · rcases wipeD_in h1 with z | z
        · exact z
        · cases z
    rw [wipeD_out n] at h
    obtain ⟨e1, h1⟩ := hold j e h
    exact I.no j e1 h1
  · obtain ⟨x, hx⟩ := s.ful j (by
      obtain ⟨x, hx⟩ := I.ful j n h
      exact ⟨x, by rw [(t.out j fun z => n (tv j z)).2]; exact hx⟩)
    exact ⟨x, by rw [wipeD_out n]; exact hx⟩
theorem SL.full {δ δ' : Dst} (s : SL δ δ') {i : Nat} (h : Full δ i) : Full δ' i := by
  obtain ⟨d, h⟩ := h
  rcases s.at_ i with z | ⟨e, h1, h2⟩
  · exact ⟨d, by rw [z]; exact h⟩
  · exact ⟨e, h2.imp id .inl⟩
theorem walked_own {δ : Dst} {i : Nat} : ∀ {os : List Opd}, i ∈ walked δ os → ∃ d, δ[i]? = some (Sl.own d)
  | [], h => by cases h
  | .t _ _ :: os, h => walked_own (os := os) h
  | .s j :: os, h => by
    have h' : i ∈ (match δ[j]? with | some (.own _) => [j] | _ => []) ++ walked δ os := h
    rcases List.mem_append.mp h' with z | z
    · split at z
      · rename_i d hd
        have e : i = j := by simpa using z
        rw [e]; exact ⟨d, hd⟩
      · cases z
    · exact walked_own z
theorem plain_in {δ : Dst} {i : Nat} (h : plainAt δ i = true) : δ[i]? = some .non ∨ ∃ d, δ[i]? = some (Sl.val d) := by
  unfold plainAt at h
  split at h
  · exact .inr ⟨_, by assumption⟩
  · exact .inl (by assumption)
  · cases h
/-- the end of a comprehension -/
theorem LcI.fin {vs is : List Nat} {σ : Sg} {δ1 δL δ' δ2 : Dst} {U1 U : AS} {H1 H : Hp} {q : Addr} {n : Nat} {x0 : D} {n0 : Nat} {os : List Opd} (A1 : Abs r.c r.pn U1 H1 σ δ1) (L : LK (walked δ1 os) δ1 δL) (hv : ∀ j ∈ vs, plainAt δ1 j = true) (I : LcI r vs σ δL (wipeD vs δL) U1 H1 q n H U δ' x0 n0)
    (hu : unlockAll (walked δ1 os) (backD δ1 vs δ') = some δ2) : Abs r.c r.pn U H σ δ2 ∧ (∀ j e, ¬ Has σ δ2 j q e) ∧ StpE r.io σ δ1 U1 H1 δ2 U H := by
  have UL' := unlock_all _ _ _ hu
  have AL : Abs r.c r.pn U1 H1 σ δL := A1.sl L.sl
  have hl : δ'.length = σ.length := by rw [← I.A.len, wipe_length]
  have plain : ∀ (j : Nat) (x : Sl), j ∈ vs → (backD δ1 vs δ')[j]? = some x → δ1[j]? = some x ∧ (x = .non ∨ ∃ d, x = .val d) := fun j x hj h => by
    have lt : j < δ'.length := by
      have := at_lt h
      rw [backD_len] at this
      exact this
    rw [backD_in hj lt] at h
    cases h
    rcases plain_in (hv j hj) with z | ⟨d, z⟩
    · rw [List.getD_eq_getElem?_getD, z]; exact ⟨rfl, .inl rfl⟩
    · rw [List.getD_eq_getElem?_getD, z]; exact ⟨rfl, .inr ⟨d, rfl⟩⟩
  have hold : ∀ (j : Nat) (d : D), ((backD δ1 vs δ')[j]? = some (Sl.own d) ∨ (backD δ1 vs δ')[j]? = some (Sl.lock d)) → j ∉ vs ∧ (δ'[j]? = some (Sl.own d) ∨ δ'[j]? = some (Sl.lock d)) := fun j d h => by
    have n : j ∉ vs := fun hj => by
      rcases h with h | h
      · obtain ⟨_, z | ⟨e, z⟩⟩ := plain j _ hj h <;> cases z
      · obtain ⟨_, z | ⟨e, z⟩⟩ := plain j _ hj h <;> cases z
    rw [backD_out n] at h
    exact ⟨n, h⟩
  have Ab : Abs r.c r.pn U H σ (backD δ1 vs δ') := by
    refine ⟨by rw [backD_len, hl], fun j d h => ?_, fun j d h => ?_, fun i j a d e h1 h2 => ?_, I.A.trk⟩
    · by_cases hj : j ∈ vs
      · obtain ⟨h1, _⟩ := plain j _ hj h
        obtain ⟨v, e, rp⟩ := A1.val j d h1
        exact ⟨v, e, rp.mono I.st.fr AL.root⟩
      · rw [backD_out hj] at h
        obtain ⟨v, e, rp⟩ := I.A.val j d h
        rw [wipe_out hj] at e
        exact ⟨v, e, rp⟩
    · obtain ⟨n, h1⟩ := hold j d h
      obtain ⟨a, e, u, o⟩ := I.A.own j d h1
      rw [wipe_out n] at e
      exact ⟨a, e, u, o⟩
    · obtain ⟨n, h3⟩ := hold i d h1.1
      obtain ⟨n2, h4⟩ := hold j e h2.1
      exact I.A.dis i j a d e ⟨h3, by rw [wipe_out n]; exact h1.2⟩ ⟨h4, by rw [wipe_out n2]; exact h2.2⟩
  refine ⟨Ab.sl UL'.sl, fun j e ⟨h1, h2⟩ => ?_, ⟨?_, fun i h => ?_, fun i d h => ?_⟩⟩
  · obtain ⟨n, h3⟩ := hold j e (UL'.sl.hold h1)
    exact I.nD j e ⟨h3, by rw [wipe_out n]; exact h2⟩
  · refine ⟨I.st.fr.weak fun a ⟨i, d, h1, h2⟩ => ⟨i, d, (L.own i d h1).1, h2⟩, fun a ⟨j, d, h1, h2⟩ => ?_, fun _ _ => rfl, fun i d h => ⟨?_, rfl⟩⟩
    · rcases UL'.own j d h1 with h3 | ⟨h3, _⟩
      · obtain ⟨n, h4⟩ := hold j d (.inl h3)
        rw [backD_out n] at h3
        rcases I.st.rt a ⟨j, d, h3, by rw [wipe_out n]; exact h2⟩ with ⟨i, e, h5, h6⟩ | z
        · exact .inl ⟨i, e, (L.own i e h5).1, h6⟩
        · exact .inr z
      · obtain ⟨e, h4⟩ := walked_own h3
        exact .inl ⟨j, e, h4, h2⟩
    · have n : i ∉ vs := fun z => by
        rcases plain_in (hv i z) with y | ⟨e, y⟩ <;> rw [h] at y <;> cases y
      have h2 := (I.st.lk i d (L.lk i d h)).1
      refine UL'.lk i d (by rw [backD_out n]; exact h2) fun z => ?_
      obtain ⟨e, h3⟩ := walked_own z
      rw [h] at h3; cases h3
  · by_cases hj : i ∈ vs
    · refine UL'.sl.full ?_
      have lt : i < δ'.length := by
        obtain ⟨d, h⟩ := h
        have : i < δ1.length := by
          rcases h with h | h | h
          · exact at_lt h
          · exact at_lt h
          · exact at_lt h
        rw [hl, A1.len]; exact this
      rcases plain_in (hv i hj) with y | ⟨e, y⟩
      · obtain ⟨d, h⟩ := h
        rw [y] at h
        rcases h with h | h | h <;> cases h
      · exact ⟨e, .inr (.inr (by rw [backD_in hj lt, List.getD_eq_getElem?_getD, y]; rfl))⟩
    · refine UL'.sl.full ?_
      obtain ⟨e, he⟩ := I.ful i hj (by
        obtain ⟨e, he⟩ := L.sl.full h
        exact ⟨e, by rw [wipeD_out hj]; exact he⟩)
      exact ⟨e, by rw [backD_out hj]; exact he⟩
  · obtain ⟨n, h3⟩ := hold i d (UL'.sl.hold h)
    obtain ⟨e, h4⟩ := I.no i d h3
    rw [wipeD_out n] at h4
    exact ⟨e, L.sl.hold h4⟩
theorem Cont.pick {α γ : Type} {R : Rl γ α} {Q : γ → Hp → Prop} {σ : Sg} {δ0 δ' : Dst} {U0 : AS} {H0 : Hp} {x : Option (Rs α)} {a : α} (e : x = some (.ok a δ')) (h : ∀ g U' H', Abs r.c r.pn U' H' σ δ' → R H0 U' H' σ δ' g a → StpE r.io σ δ0 U0 H0 δ' U' H' → Q g H') : Cont r R Q σ δ0 U0 H0 x := by
  subst e
  exact h
theorem lc_to (g : Gd m glb k N sc r X cx) (hh : cx.hot = false) {vs : List Nat} {tg : Tgt} {kd : Nat} {as : List PX} {ifs : Option PX} {elt : PX} {σ : Sg} {H : Hp} {Q : VK} (h : tE r (evE cx (.lc vs tg kd as ifs elt)) σ H Q) :
    tLc (iD r.c r.pn kd (tA r (evEs cx as))) (tG r.nox tg false) (tT r.nox (evI cx ifs)) (tE r.nox (evE cx elt)) vs σ H Q := by
  rw [show tE r (evE cx (.lc vs tg kd as ifs elt)) σ H Q = tM r (RO r) (evE cx (.lc vs tg kd as ifs elt)) σ H Q from rfl, lc_eq, hh] at h
  obtain ⟨U0, δ0, h⟩ := tM.bind (R1 := ROs r) anti_ROs (show tM r (RO r) ((evEs cx as).bind fun os => (rdsM os).bind fun ds => (M.opt (items kd ds)).bind fun xs => lcF cx vs tg kd ifs elt os xs) σ H Q from h)
  refine tM.mono h fun ws H1 ⟨U1, δ1, os, n1⟩ => ?_
  obtain ⟨ds, e1, kk⟩ := n1.k.rds
  obtain ⟨xs, e2, kk⟩ := kk.opt
  refine ⟨U1, ds, xs, n1.A.rds n1.rr e1, e2, fun J wk q hq => ?_⟩
  unfold lcF at kk
  split at kk
  · rename_i hcond
    split at kk
    · rename_i ys δ' hga
      split at kk
      · exact kk.elim
      · rename_i δ2 hun
        simp only [Bool.and_eq_true, List.all_eq_true, decide_eq_true_eq, Bool.not_eq_true'] at hcond
        obtain ⟨⟨hv, hlen⟩, htv⟩ := hcond
        have hio : ∀ j ∈ vs, r.io.getD j false = false := fun j hj => by rw [g.io]; exact (hv j hj).2
        have L := lock_all (walked δ1 os) δ1
        generalize hδL : lockAll (walked δ1 os) δ1 = δL at L hga
        have AL : Abs r.c r.pn U1 H1 σ δL := n1.A.sl L.sl
        have hw : ∀ (j : Nat), j ∈ vs → ∀ e, (wipeD vs δL)[j]? ≠ some (Sl.own e) ∧ (wipeD vs δL)[j]? ≠ some (Sl.lock e) := fun j hj e => by
          constructor
          · intro z
            rcases wipeD_in z with y | y
            · exact y hj
            · cases y
          · intro z
            rcases wipeD_in z with y | y
            · exact y hj
            · cases y
        have nlL : ∀ j ∈ vs, ∀ d, δL[j]? ≠ some (Sl.lock d) := fun j hj d z => by
          have := L.sl.hold (.inr z)
          rcases plain_in (hv j hj).1 with y | ⟨e, y⟩ <;> rw [y] at this <;> rcases this with w | w <;> cases w
        have Aw : Abs r.c r.pn U1 H1 (wipe σ vs) (wipeD vs δL) := AL.wipe
        obtain ⟨Aq, nq⟩ := Aw.more (same_upd (o := .lst []) hq) hq (by rw [upd_same]; exact fun z => nomatch z)
        have I0 : LcI r vs σ δL (wipeD vs δL) U1 H1 q 0 (upd H1 q (.lst [])) (fun b => U1 b ∨ b = q) (wipeD vs δL) (.lst []) 0 :=
          ⟨Aq, .inr rfl, ⟨[], upd_same, .nil⟩, nq, (stp_wipe hio nlL).trans (stp_new (same_upd hq) hq).st AL.trk, fun j e h => ⟨e, h⟩, fun _ _ h => h, Nat.le_refl _⟩
        refine lc_it wk (fun i H => ∃ U δ acc, LcI r vs σ δL (wipeD vs δL) U1 H1 q i H U δ (.lst acc) acc.length ∧ gather vs (lcB cx tg ifs elt) (xs.drop i) acc δ = some (.ok ys δ')) ⟨_, _, _, I0, hga⟩ (fun i H _ ⟨U, δ, acc, I, _⟩ => ?_) (fun i x H2 H3 hi ⟨U, δ, acc, I, hg⟩ ⟨sm, hy⟩ => ?_) (fun H2 ⟨U, δ, acc, I, hg⟩ => ?_)
        · exact ⟨U, (HeldRs.step AL I.st (held_at n1.A L (fun _ z => z) n1.rr e1)).rep⟩
        · have hr : RepRs r.c r.pn U H2 ws ds := (HeldRs.step AL I.st (held_at n1.A L (fun _ z => z) n1.rr e1)).rep
          obtain ⟨dd, hd, rx⟩ := hy U hr
          have hdrop : xs.drop i = dd :: xs.drop (i + 1) := by
            obtain ⟨h1, h2⟩ := List.getElem?_eq_some_iff.mp hd
            rw [← h2]
            exact List.drop_eq_getElem_cons h1
          rw [hdrop] at hg
          obtain ⟨xo, δ4, hB, hg⟩ := gather_cons hg
          -- the state, the heap a bit later
          have f3 : Fr' (fun _ => False) U U H2 H3 := same_fr sm
          have A3 : Abs r.c r.pn U H3 (wipe σ vs) δ := I.A.same sm
          have I3 : LcI r vs σ δL (wipeD vs δL) U1 H1 q i H3 U δ (.lst acc) acc.length := ⟨A3, I.uD, I.oD.keep f3 (fun _ z => z.elim) (fun z => z), I.nD, I.st.trans (stp_same' sm) AL.trk, I.no, I.ful, I.len⟩
          obtain ⟨_, δa, hT, hB⟩ := bind_inv hB
          have hT' := tgtM_in hT
          rw [← g.io] at hT'
          refine ⟨H3, U, δ, dd, A3, Rep.e rx, ?_⟩
          show (match tgt r.io tg false dd δ with | none => False | some δ' => _)
          rw [hT']
          intro σ2 A2 t2
          have tv : ∀ j, TgIn j tg → j ∈ vs := fun j z => tgVs_in htv z
          refine ⟨wipe_eq t2.len fun j n => (t2.out j fun z => n (tv j z)).1, ?_⟩
          have nh2 : ∀ j e, ¬ Has σ2 δa j q e := fun j e ⟨h1, h2⟩ => by
            rcases t2.own j e h1 with ⟨z1, z2⟩ | ⟨z, _⟩
            · exact I3.nD j e ⟨by rw [← z1]; exact h1, by rw [← z2]; exact h2⟩
            · cases z
          obtain ⟨kb, δb, hI, hB⟩ := bind_inv hB
          refine ⟨U, δa, A2, Cont.pick hI fun b5 U5 H5 A5 e5 s5 => ?_⟩
          have e5' : b5 = kb := e5
          subst e5'
          have opq : OpdR r.c r.pn H1 U H3 σ2 δa (.ref q) (.t true (.lst acc)) := ⟨q, rfl, hq, I3.uD, I3.oD, nh2⟩
          have opq5 : OpdR r.c r.pn H1 U5 H5 σ2 δb (.ref q) (.t true (.lst acc)) := opq.on A2 A5 s5
          have fold : ∀ {δ1 : Dst} {U3 : AS} {H4 : Hp}, OpdR r.c r.pn H1 U3 H4 σ2 δ1 (.ref q) (.t true (.lst acc)) → U3 q ∧ OwnC r.c U3 H4 q (.lst acc) ∧ ∀ j e, ¬ Has σ2 δ1 j q e := fun h => by
            obtain ⟨a, ea, _, u, o, n⟩ := h
            cases ea
            exact ⟨u, o, n⟩
          cases b5 with
          | true =>
            obtain ⟨oe, δc, hE, hB⟩ := bind_inv hB
            obtain ⟨ye, δd, hS, hB⟩ := bind_inv hB
            cases hB
            refine ⟨U5, δb, A5, Cont.pick hE fun v U6 H6 A6 r6 s6 => ?_⟩
            rw [← g.io] at hS
            have s56 : StpE r.io σ2 δa U H3 δc U6 H6 := s5.trans s6 A2.trk
            have opq6 : OpdR r.c r.pn H1 U6 H6 σ2 δc (.ref q) (.t true (.lst acc)) := opq5.on A5 A6 s6
            rcases esc_any A5 A6 s6 r6 hS with z | ⟨b7, d7, δ7, U7, e7, x7, A7, s7, s67, o7, hb7⟩
            · cases z
            · cases e7
              obtain ⟨U8, A8, s8, r8, hU8⟩ := esc_val A5 A7 s7 x7 o7
              have opq7 : OpdR r.c r.pn H1 U7 H6 σ2 δ4 (.ref q) (.t true (.lst acc)) := opq6.on A6 A7 s67
              have nv : ∀ a, v = .ref a → b7 = true → a ≠ q := fun a ea eb z => by
                subst ea eb
                have e9 := hb7 rfl
                subst e9
                obtain ⟨a', ea, h0, _⟩ := r6
                cases ea
                have := (fold opq5).2.1.at_
                rw [← z] at this
                exact this h0
              have u8 : U8 q := by
                rcases hU8 with z | ⟨a, ea, eb, z⟩
                · rw [z]; exact (fold opq7).1
                · rw [z]; exact ⟨(fold opq7).1, fun y => nv a ea eb y.symm⟩
              have le8 : ∀ b, U8 b → U7 b := fun b z => by
                rcases hU8 with y | ⟨a, _, _, y⟩
                · rw [y] at z; exact z
                · rw [y] at z; exact z.1
              have o8 : OwnC r.c U8 H6 q (.lst acc) := (fold opq7).2.1.less le8
              have n8 := (fold opq7).2.2
              obtain ⟨accV, hacc, racc⟩ := o8
              obtain ⟨A9, f9⟩ := A8.poke (o := .lst (accV ++ [v])) (d := .lst acc) u8 ⟨accV, hacc, racc⟩ n8
              have rp9 : Reps r.c U8 (upd H6 q (.lst (accV ++ [v]))) (accV ++ [v]) (acc ++ [d7]) := (racc.append (.cons r8 .nil)).mono f9 fun b z => by rw [z]; exact u8
              have hle := I.len
              have hal : accV.length = acc.length := racc.length
              refine ⟨accV, hacc, by rw [hal, ← lim_eq]; omega, U8, wipeD vs δ4, acc ++ [d7], ?_, hg⟩
              exact I3.next hq AL.trk hio hw t2 tv (s5.trans s8 A2.trk) A8 u8 n8 (by rw [List.length_append, List.length_singleton]; omega) ⟨_, upd_same, rp9⟩ A9
          | false =>
            cases hB
            refine ⟨U5, wipeD vs δ4, acc, ?_, hg⟩
            obtain ⟨u5, o5, n5⟩ := fold opq5
            obtain ⟨accV, hacc, racc⟩ := id o5
            have eu : upd H5 q (.lst accV) = H5 := by
              funext b
              by_cases z : b = q
              · rw [z, upd_same, hacc]
              · rw [upd_ne z]
            have z := I3.next (o := .lst accV) (x1 := .lst acc) (n1 := acc.length) hq AL.trk hio hw t2 tv s5 A5 u5 n5 (by have := I.len; omega) (by rw [eu]; exact o5) (by rw [eu]; exact A5)
            rw [eu] at z
            exact z
        · rw [List.drop_length] at hg
          cases hg
          obtain ⟨A9, n9, s9⟩ := I.fin (is := []) n1.A (hδL ▸ L) (fun j hj => (hv j hj).1) (hun)
          exact kk.ok rfl A9 ⟨q, rfl, n1.s.gone q hq, I.uD, I.oD, n9⟩ (n1.s.trans s9 n1.A0.trk)
    · exact kk.elim
  · exact kk.elim
end
end Ev

set_option Elab.async false
set_option linter.all false
set_option maxRecDepth 100000
set_option maxHeartbeats 2000000
/-! Part Ma: dict comprehensions. -/
namespace Ev
open PySem L2 PyProof.Rows
theorem putKD_len (kvs : List (D × D)) (k v : D) : (putKD kvs k v).length ≤ kvs.length + 1 := by
  unfold putKD
  split
  · rw [List.length_map]; omega
  · rw [List.length_append]; exact Nat.le_refl _
section
variable {m : Md} {glb : Str → Option Gk} {k : Nat} {N : List Str} {sc : Scope} {r : Ar} {X : L2.Cx} {cx : Ev.Cx} {a b d : Expr} {pa pb pd : PX} {pos : Pos}
/-- one turn -/
def dcB (cx : Ev.Cx) (tg : Tgt) (ifs : Option PX) (ke ve : PX) (d : D) : M (Option (D × D)) := (tgtM cx tg false d).bind fun _ => (evI cx ifs).bind fun k => if k then (evE cx ke).bind fun x => (rdM x).bind fun dk => if keyD dk then (evE cx ve).bind fun y => (escM cx.io y).bind fun z => M.pure (some (dk, z.2)) else M.stuck else M.pure none
def dcF (cx : Ev.Cx) (vs : List Nat) (tg : Tgt) (kd : Nat) (ifs : Option PX) (ke ve : PX) (os : List Opd) (xs : List D) : M Opd := fun δ =>
  if vs.all (fun i => plainAt δ i && !cx.io.getD i false) && decide (xs.length ≤ lim) && tgVs vs tg then
    match gatherK vs (dcB cx tg ifs ke ve) xs [] (wipeD vs (lockAll (walked δ os) δ)) with
    | some (.ok ys δ') => match unlockAll (walked δ os) (backD δ vs δ') with
      | none => none
      | some δ2 => some (.ok (.t true (.dct ys)) δ2)
    | _ => none
  else none
theorem dc_eq {vs : List Nat} {tg : Tgt} {kd : Nat} {as : List PX} {ifs : Option PX} {ke ve : PX} : evE cx (.dc vs tg kd as ifs ke ve) = if cx.hot then M.stuck else (evEs cx as).bind fun os => (rdsM os).bind fun ds => (M.opt (items kd ds)).bind fun xs => dcF cx vs tg kd ifs ke ve os xs := rfl
theorem gatherK_cons {vs : List Nat} {B : D → M (Option (D × D))} {d : D} {xs : List D} {acc ys : List (D × D)} {δ δ' : Dst} (h : gatherK vs B (d :: xs) acc δ = some (.ok ys δ')) : ∃ x δ1, B d δ = some (.ok x δ1) ∧ gatherK vs B xs (match x with | none => acc | some y => putKD acc y.1 y.2) (wipeD vs δ1) = some (.ok ys δ') := by
  have e : gatherK vs B (d :: xs) acc δ = (match B d δ with | some (.ok x δ') => gatherK vs B xs (match x with | none => acc | some y => putKD acc y.1 y.2) (wipeD vs δ') | _ => none) := rfl
  rw [e] at h
  split at h
  · exact ⟨_, _, by assumption, h⟩
  · cases h
theorem dc_it {n : Nat} {J : It} {G : Hp → Prop} {Y : Nat → Hp → V → Hp → Prop} (w : Walk J n G Y) {g : TG} {tt : TT} {tk tv : TE} {vs : List Nat} {σ : Sg} {H1 : Hp} {D : Addr} {Qd : Hp → Prop} (Pv : Nat → Hp → Prop) (h0 : Pv 0 (upd H1 D (.dK []))) (hG : ∀ i H, i ≤ n → Pv i H → G H)
    (hs : ∀ i x H H', i < n → Pv i H → Y i H x H' → g x (wipe σ vs) H' fun σ2 H2 => wipe σ2 vs = wipe σ vs ∧ tt σ2 H2 fun b H3 =>
      if b = true then tk σ2 H3 fun y H4 => tv σ2 H4 fun z H5 => ∃ kvs k, y = kV k ∧ H5 D = some (.dK kvs) ∧ kvs.length < sizeLine ∧ Pv (i + 1) (upd H5 D (.dK (putK kvs k z))) else Pv (i + 1) H3) (hd : ∀ H, Pv n H → Qd H) :
    ∃ W : Nat → Nat → Hp → Prop, (∃ m, W 0 m (upd H1 D (.dK []))) ∧ ∀ i m H, W i m H →
      (J.stop i H ∧ Qd H) ∨ (J.go i H ∧ ∃ Nx : Hp → Prop, (∀ H', Nx H' → ∃ m', m' < m ∧ W (i + 1) m' H') ∧ ∀ x H', J.yld i H x H' → g x (wipe σ vs) H' fun σ2 H2 => wipe σ2 vs = wipe σ vs ∧ tt σ2 H2 fun b H3 =>
        if b = true then tk σ2 H3 fun y H4 => tv σ2 H4 fun z H5 => ∃ kvs k, y = kV k ∧ H5 D = some (.dK kvs) ∧ kvs.length < sizeLine ∧ Nx (upd H5 D (.dK (putK kvs k z))) else Nx H3) := by
  refine ⟨fun i m H => m = n - i ∧ i ≤ n ∧ Pv i H, ⟨n, by simp, Nat.zero_le _, h0⟩, ?_⟩
  rintro i m H ⟨rfl, hi, p⟩
  have q := hG i H hi p
  by_cases hlt : i < n
  · refine .inr ⟨w.goes i H hlt q, Pv (i + 1), fun H' p' => ⟨n - (i + 1), by omega, rfl, hlt, p'⟩, fun x H' y => hs i x H H' hlt p (w.yields i H x H' hlt q y)⟩
  · have e : i = n := by omega
    subst e
    exact .inl ⟨w.stops H q, hd H p⟩
theorem dc_to (g : Gd m glb k N sc r X cx) (hh : cx.hot = false) {vs : List Nat} {tg : Tgt} {kd : Nat} {as : List PX} {ifs : Option PX} {ke ve : PX} {σ : Sg} {H : Hp} {Q : VK} (h : tE r (evE cx (.dc vs tg kd as ifs ke ve)) σ H Q) :
    tDc (iD r.c r.pn kd (tA r (evEs cx as))) (tG r.nox tg false) (tT r.nox (evI cx ifs)) (tE r.nox (evE cx ke)) (tE r.nox (evE cx ve)) vs σ H Q := by
  rw [show tE r (evE cx (.dc vs tg kd as ifs ke ve)) σ H Q = tM r (RO r) (evE cx (.dc vs tg kd as ifs ke ve)) σ H Q from rfl, dc_eq, hh] at h
  obtain ⟨U0, δ0, h⟩ := tM.bind (R1 := ROs r) anti_ROs (show tM r (RO r) ((evEs cx as).bind fun os => (rdsM os).bind fun ds => (M.opt (items kd ds)).bind fun xs => dcF cx vs tg kd ifs ke ve os xs) σ H Q from h)
  refine tM.mono h fun ws H1 ⟨U1, δ1, os, n1⟩ => ?_
  obtain ⟨ds, e1, kk⟩ := n1.k.rds
  obtain ⟨xs, e2, kk⟩ := kk.opt
  refine ⟨U1, ds, xs, n1.A.rds n1.rr e1, e2, fun J wk q hq => ?_⟩
  unfold dcF at kk
  split at kk
  · rename_i hcond
    split at kk
    · rename_i ys δ' hga
      split at kk
      · exact kk.elim
      · rename_i δ2 hun
        simp only [Bool.and_eq_true, List.all_eq_true, decide_eq_true_eq, Bool.not_eq_true'] at hcond
        obtain ⟨⟨hv, hlen⟩, htv⟩ := hcond
        have hio : ∀ j ∈ vs, r.io.getD j false = false := fun j hj => by rw [g.io]; exact (hv j hj).2
        have L := lock_all (walked δ1 os) δ1
        generalize hδL : lockAll (walked δ1 os) δ1 = δL at L hga
        have AL : Abs r.c r.pn U1 H1 σ δL := n1.A.sl L.sl
        have hw : ∀ (j : Nat), j ∈ vs → ∀ e, (wipeD vs δL)[j]? ≠ some (Sl.own e) ∧ (wipeD vs δL)[j]? ≠ some (Sl.lock e) := fun j hj e => by
          constructor
          · intro z
            rcases wipeD_in z with y | y
            · exact y hj
            · cases y
          · intro z
            rcases wipeD_in z with y | y
            · exact y hj
            · cases y
        have nlL : ∀ j ∈ vs, ∀ d, δL[j]? ≠ some (Sl.lock d) := fun j hj d z => by
          have := L.sl.hold (.inr z)
          rcases plain_in (hv j hj).1 with y | ⟨e, y⟩ <;> rw [y] at this <;> rcases this with w | w <;> cases w
        have Aw : Abs r.c r.pn U1 H1 (wipe σ vs) (wipeD vs δL) := AL.wipe
        obtain ⟨Aq, nq⟩ := Aw.more (same_upd (o := .dK []) hq) hq (by rw [upd_same]; exact fun z => nomatch z)
        have I0 : LcI r vs σ δL (wipeD vs δL) U1 H1 q 0 (upd H1 q (.dK [])) (fun b => U1 b ∨ b = q) (wipeD vs δL) (.dct []) 0 :=
          ⟨Aq, .inr rfl, ⟨[], upd_same, .nil⟩, nq, (stp_wipe hio nlL).trans (stp_new (same_upd hq) hq).st AL.trk, fun j e h => ⟨e, h⟩, fun _ _ h => h, Nat.le_refl _⟩
        refine dc_it wk (fun i H => ∃ U δ acc, LcI r vs σ δL (wipeD vs δL) U1 H1 q i H U δ (.dct acc) acc.length ∧ gatherK vs (dcB cx tg ifs ke ve) (xs.drop i) acc δ = some (.ok ys δ')) ⟨_, _, _, I0, hga⟩ (fun i H _ ⟨U, δ, acc, I, _⟩ => ?_) (fun i x H2 H3 hi ⟨U, δ, acc, I, hg⟩ ⟨sm, hy⟩ => ?_) (fun H2 ⟨U, δ, acc, I, hg⟩ => ?_)
        · exact ⟨U, (HeldRs.step AL I.st (held_at n1.A L (fun _ z => z) n1.rr e1)).rep⟩
        · have hr : RepRs r.c r.pn U H2 ws ds := (HeldRs.step AL I.st (held_at n1.A L (fun _ z => z) n1.rr e1)).rep
          obtain ⟨dd, hd, rx⟩ := hy U hr
          have hdrop : xs.drop i = dd :: xs.drop (i + 1) := by
            obtain ⟨h1, h2⟩ := List.getElem?_eq_some_iff.mp hd
            rw [← h2]
            exact List.drop_eq_getElem_cons h1
          rw [hdrop] at hg
          obtain ⟨xo, δ4, hB, hg⟩ := gatherK_cons hg
          -- the state, the heap a bit later
          have f3 : Fr' (fun _ => False) U U H2 H3 := same_fr sm
          have A3 : Abs r.c r.pn U H3 (wipe σ vs) δ := I.A.same sm
          have I3 : LcI r vs σ δL (wipeD vs δL) U1 H1 q i H3 U δ (.dct acc) acc.length := ⟨A3, I.uD, I.oD.keep f3 (fun _ z => z.elim) (fun z => z), I.nD, I.st.trans (stp_same' sm) AL.trk, I.no, I.ful, I.len⟩
          obtain ⟨_, δa, hT, hB⟩ := bind_inv hB
          have hT' := tgtM_in hT
          rw [← g.io] at hT'
          refine ⟨H3, U, δ, dd, A3, Rep.e rx, ?_⟩
          show (match tgt r.io tg false dd δ with | none => False | some δ' => _)
          rw [hT']
          intro σ2 A2 t2
          have tv : ∀ j, TgIn j tg → j ∈ vs := fun j z => tgVs_in htv z
          refine ⟨wipe_eq t2.len fun j n => (t2.out j fun z => n (tv j z)).1, ?_⟩
          have nh2 : ∀ j e, ¬ Has σ2 δa j q e := fun j e ⟨h1, h2⟩ => by
            rcases t2.own j e h1 with ⟨z1, z2⟩ | ⟨z, _⟩
            · exact I3.nD j e ⟨by rw [← z1]; exact h1, by rw [← z2]; exact h2⟩
            · cases z
          obtain ⟨kb, δb, hI, hB⟩ := bind_inv hB
          refine ⟨U, δa, A2, Cont.pick hI fun b5 U5 H5 A5 e5 s5 => ?_⟩
          have e5' : b5 = kb := e5
          subst e5'
          have opq : OpdR r.c r.pn H1 U H3 σ2 δa (.ref q) (.t true (.dct acc)) := ⟨q, rfl, hq, I3.uD, I3.oD, nh2⟩
          have opq5 : OpdR r.c r.pn H1 U5 H5 σ2 δb (.ref q) (.t true (.dct acc)) := opq.on A2 A5 s5
          have fold : ∀ {δ1 : Dst} {U3 : AS} {H4 : Hp}, OpdR r.c r.pn H1 U3 H4 σ2 δ1 (.ref q) (.t true (.dct acc)) → U3 q ∧ OwnC r.c U3 H4 q (.dct acc) ∧ ∀ j e, ¬ Has σ2 δ1 j q e := fun h => by
            obtain ⟨a, ea, _, u, o, n⟩ := h
            cases ea
            exact ⟨u, o, n⟩
          cases b5 with
          | true =>
            obtain ⟨ok, δk, hK, hB⟩ := bind_inv hB
            obtain ⟨dk, δk', hR, hB2⟩ := bind_inv hB
            clear hB
            have hrd : rdO δk ok = some dk ∧ δk' = δk := by
              unfold rdM at hR
              split at hR
              · cases hR
              · rename_i d hd
                cases hR
                exact ⟨hd, rfl⟩
            obtain ⟨hrd, z⟩ := hrd
            subst z
            have hkey : keyD dk = true := by
              by_cases z : keyD dk = true
              · exact z
              · rw [if_neg z] at hB2
                cases hB2
            rw [if_pos hkey] at hB2
            obtain ⟨oe, δc, hE, hB⟩ := bind_inv hB2
            obtain ⟨ye, δd, hS, hB⟩ := bind_inv hB
            cases hB
            refine ⟨U5, δb, A5, Cont.pick hK fun kv U5' H5' A5' r5' s5' => ?_⟩
            obtain ⟨key, ekv, edk⟩ := key_of (A5'.rd r5' hrd) hkey
            subst ekv edk
            refine ⟨U5', δk', A5', Cont.pick hE fun v U6 H6 A6 r6 s6' => ?_⟩
            have s6 : StpE r.io σ2 δb U5 H5 δc U6 H6 := s5'.trans s6' A5.trk
            rw [← g.io] at hS
            have s56 : StpE r.io σ2 δa U H3 δc U6 H6 := s5.trans s6 A2.trk
            have opq5' : OpdR r.c r.pn H1 U5' H5' σ2 δk' (.ref q) (.t true (.dct acc)) := opq5.on A5 A5' s5'
            have opq6 : OpdR r.c r.pn H1 U6 H6 σ2 δc (.ref q) (.t true (.dct acc)) := opq5'.on A5' A6 s6'
            rcases esc_any A5' A6 s6' r6 hS with z | ⟨b7, d7, δ7, U7, e7, x7, A7, s7, s67, o7, hb7⟩
            · cases z
            · cases e7
              obtain ⟨U8, A8, s8, r8, hU8⟩ := esc_val A5' A7 s7 x7 o7
              have opq7 : OpdR r.c r.pn H1 U7 H6 σ2 δ4 (.ref q) (.t true (.dct acc)) := opq6.on A6 A7 s67
              have nv : ∀ a, v = .ref a → b7 = true → a ≠ q := fun a ea eb z => by
                subst ea eb
                have e9 := hb7 rfl
                subst e9
                obtain ⟨a', ea, h0, _⟩ := r6
                cases ea
                have := (fold opq5').2.1.at_
                rw [← z] at this
                exact this h0
              have u8 : U8 q := by
                rcases hU8 with z | ⟨a, ea, eb, z⟩
                · rw [z]; exact (fold opq7).1
                · rw [z]; exact ⟨(fold opq7).1, fun y => nv a ea eb y.symm⟩
              have le8 : ∀ b, U8 b → U7 b := fun b z => by
                rcases hU8 with y | ⟨a, _, _, y⟩
                · rw [y] at z; exact z
                · rw [y] at z; exact z.1
              have o8 : OwnC r.c U8 H6 q (.dct acc) := (fold opq7).2.1.less le8
              have n8 := (fold opq7).2.2
              obtain ⟨accV, hacc, racc⟩ := o8
              obtain ⟨A9, f9⟩ := A8.poke (o := .dK (putK accV key v)) (d := .dct acc) u8 ⟨accV, hacc, racc⟩ n8
              have rp9 : KReps r.c U8 (upd H6 q (.dK (putK accV key v))) (putK accV key v) (putKD acc (kD key) d7) := (putK_reps r8 racc).mono f9 fun b z => by rw [z]; exact u8
              have hle := I.len
              have hal : accV.length = acc.length := racc.length
              have hpl := putKD_len acc (kD key) d7
              refine ⟨accV, key, rfl, hacc, by rw [hal, ← lim_eq]; omega, U8, wipeD vs δ4, putKD acc (kD key) d7, ?_, hg⟩
              exact I3.next (x1 := .dct (putKD acc (kD key) d7)) (n1 := (putKD acc (kD key) d7).length) hq AL.trk hio hw t2 tv (s5.trans (s5'.trans s8 A5.trk) A2.trk) A8 u8 n8 (by omega) ⟨_, upd_same, rp9⟩ A9
          | false =>
            cases hB
            refine ⟨U5, wipeD vs δ4, acc, ?_, hg⟩
            obtain ⟨u5, o5, n5⟩ := fold opq5
            obtain ⟨accV, hacc, racc⟩ := id o5
            have eu : upd H5 q (.dK accV) = H5 := by
              funext b
              by_cases z : b = q
              · rw [z, upd_same, hacc]
              · rw [upd_ne z]
            have z := I3.next (o := .dK accV) (x1 := .dct acc) (n1 := acc.length) hq AL.trk hio hw t2 tv s5 A5 u5 n5 (by have := I.len; omega) (by rw [eu]; exact o5) (by rw [eu]; exact A5)
            rw [eu] at z
            exact z
        · rw [List.drop_length] at hg
          cases hg
          obtain ⟨A9, n9, s9⟩ := I.fin (is := []) n1.A (hδL ▸ L) (fun j hj => (hv j hj).1) (hun)
          exact kk.ok rfl A9 ⟨q, rfl, n1.s.gone q hq, I.uD, I.oD, n9⟩ (n1.s.trans s9 n1.A0.trk)
    · exact kk.elim
  · exact kk.elim
end
end Ev

set_option Elab.async false
set_option linter.all false
set_option maxRecDepth 100000
set_option maxHeartbeats 2000000
/-! Part Mb: name = {.. for ..}. -/
namespace Ev
open PySem L2 PyProof.Rows PySem.Spec
section
variable {X : L2.Cx}
theorem ps_setDc {i : Nat} {y : Str} {py : Pos} {kx vx tg iter : Expr} {ifs : List Expr} {scope : Scope} {own : List (Str × Nat)} {pos spos : Pos} {wi : TI} {g : TG} {tt : TT} {tk tv : TE} (hc : X.calm = true) (hN : X.N.Nodup) (hy : X.N[i]? = some y) (hyl : X.env.scope.names.lookup y = some .local)
    (hsw : swapsWith (.DictComp kx vx [⟨tg, iter, ifs, 0⟩] scope pos) (some (.Name y py)) spos.line X.env = pure true) (hi : PI X tg iter wi) (ok : BlkOk X.N X.env.scope scope own)
    (hg : ∀ (s : Shared) (H : Hp) (C : Addr) (cl : List (Str × Addr)) (fp : List Addr), PG (X.blk s H scope (compEnvC scope cl C X.env) fp) tg g) (ht : ∀ (s : Shared) (H : Hp) (C : Addr) (cl : List (Str × Addr)) (fp : List Addr), PTs (X.blk s H scope (compEnvC scope cl C X.env) fp) ifs tt)
    (hk : ∀ (s : Shared) (H : Hp) (C : Addr) (cl : List (Str × Addr)) (fp : List Addr), PE (X.blk s H scope (compEnvC scope cl C X.env) fp) kx tk)
    (he : ∀ (s : Shared) (H : Hp) (C : Addr) (cl : List (Str × Addr)) (fp : List Addr), PE (X.blk s H scope (compEnvC scope cl C X.env) fp) vx tv) (hs : ∀ x, foldedSetIterable iter X.env x = pure x := by intro _; rfl) :
    PS X (.Assign [.Name y py] (.DictComp kx vx [⟨tg, iter, ifs, 0⟩] scope pos) spos) (tAsg (tDc wi g tt tk tv (own.map (·.2))) (gName i)) := by
  refine ⟨fun pins s σ H D I h => ?_⟩
  rw [exec_Assign_Name_used _ _ _ _ hsw]
  refine wpAny_bind (wpAny_standAt (wpAny_bind ?_))
  show wpAny _ X.A (do let _ ← comprehension (.DictComp kx vx [⟨tg, iter, ifs, 0⟩] scope pos) scope X.env (firstIterPos [⟨tg, iter, ifs, 0⟩] pos) newDict false (eval iter X.env) (some (assign (.Name y py) X.env))) _ _ s
  have h : tDc wi g tt tk tv (own.map (·.2)) σ H (fun x H1 => gName i x σ H1 D.nx) := h
  refine wpAny_bind (thn (dc_core (Qf := fun _ s' => SP X pins D .next s') hc hN I hi ok hg ht hk he hs h fun L C s' m H' I' q hn f => ?_) fun _ s' hq => wpAny_pure (wpAny_pure hq))
  show wpAny _ _ (assign (.Name y py) X.env (.ref L)) _ _ _
  refine wpAny_assign_Name (store_ok2 (v := V.ref L) I' hN hy (.inl hyl) rfl (fun s2 I2 ⟨a, sb, ha⟩ => ?_) (.inr hyl))
  obtain ⟨f0, f1, f2, f3, f4, f5⟩ := f
  have haC : C ≠ a := by
    rcases ha with z | z
    · rw [z]; exact f1
    · exact fun e => f4 y a z e.symm
  refine ⟨m, hn.sameBut sb haC, fun h3 sb3 => ?_⟩
  exact ⟨_, H', I2.turned (t' := s2.toks) (fun b o hb e => (sb3.2 b hb).trans e) f0 f1 f3 f4 f5, q⟩
end
end Ev

set_option Elab.async false
set_option linter.all false
set_option maxRecDepth 100000
set_option maxHeartbeats 2000000
/-! Part N: calls of own functions. -/
namespace Ev
open PySem L2 PyProof.Rows
inductive ArgI (δ : Dst) : List V → List Opd → List Ax → Prop
  | nil : ArgI δ [] [] []
  | tv {v : V} {o : Bool} {d : D} {vs : List V} {os : List Opd} {as : List Ax} : ArgI δ vs os as → ArgI δ (v :: vs) (.t o d :: os) (((false, d), none, none) :: as)
  | to {v : V} {d : D} {vs : List V} {os : List Opd} {as : List Ax} : ArgI δ vs os as → ArgI δ (v :: vs) (.t true d :: os) (((true, d), none, none) :: as)
  | so {v : V} {i : Nat} {d : D} {vs : List V} {os : List Opd} {as : List Ax} : δ[i]? = some (Sl.own d) → ArgI δ vs os as → ArgI δ (v :: vs) (.s i :: os) (((true, d), some i, none) :: as)
  | sr {v : V} {i : Nat} {d : D} {vs : List V} {os : List Opd} {as : List Ax} : (δ[i]? = some (Sl.own d) ∨ δ[i]? = some (Sl.lock d)) → ArgI δ vs os as → ArgI δ (v :: vs) (.s i :: os) (((false, d), none, some i) :: as)
  | sv {v : V} {i : Nat} {d : D} {vs : List V} {os : List Opd} {as : List Ax} : δ[i]? = some (Sl.val d) → ArgI δ vs os as → ArgI δ (v :: vs) (.s i :: os) (((false, d), none, none) :: as)
theorem argI_of {δ : Dst} : ∀ {os : List Opd} {vs : List V} {fs : List Bool} {as : List Ax}, vs.length = os.length → argsM δ fs os = some as → ArgI δ vs os as
  | [], [], _, _, _, e => by cases e; exact .nil
  | o :: os, v :: vs, fs, as, hl, e => by
    have e' : (match argM δ (fs.headD false) o, argsM δ fs.tail os with | some a, some r => some (a :: r) | _, _ => none) = some as := e
    split at e'
    · rename_i x r h1 h2
      cases e'
      have ih := argI_of (os := os) (vs := vs) (by simpa using hl) h2
      cases o with
      | t b d =>
        have h3 : (if fs.headD false then (if b then some ((true, d), none, none) else none) else some ((false, d), (none : Option Nat), (none : Option Nat))) = some x := h1
        split at h3
        · split at h3
          · rename_i hb
            cases h3
            subst hb
            exact .to ih
          · cases h3
        · cases h3
          exact .tv ih
      | s i =>
        have h3 : (match δ[i]? with
          | some (.own d) => if fs.headD false then some ((true, d), some i, none) else some ((false, d), none, some i)
          | some (.val d) => if fs.headD false then none else some ((false, d), none, none)
          | some (.lock d) => if fs.headD false then none else some ((false, d), none, some i)
          | _ => none) = some x := h1
        split at h3
        · rename_i d hd
          split at h3
          · cases h3; exact .so hd ih
          · cases h3; exact .sr (.inl hd) ih
        · rename_i d hd
          split at h3
          · cases h3
          · cases h3; exact .sv hd ih
        · rename_i d hd
          split at h3
          · cases h3
          · cases h3; exact .sr (.inr hd) ih
        · cases h3
    · cases e'
section
variable {c : RC} {pn : Pn} {io : List Bool} {H0 : Hp} {σ : Sg} {δ0 δ : Dst} {U0 U : AS} {H : Hp}
/-- a is an operand's own list -/
def AdrIn (δ : Dst) (a : Addr) : List V → List Opd → Prop
  | v :: vs, o :: os => (v = .ref a ∧ ((∃ d, o = .t true d) ∨ ∃ i d, o = .s i ∧ (δ[i]? = some (Sl.own d) ∨ δ[i]? = some (Sl.lock d)))) ∨ AdrIn δ a vs os
  | _, _ => False
theorem adr_slot {a : Addr} : ∀ {vs : List V} {os : List Opd} {as : List Ax}, ArgI δ vs os as → OpdRs c pn H0 U H σ δ vs os → AdrIn δ a vs os → TmpIn a vs os ∨ ∃ i d, i ∈ as.filterMap slO ∧ (δ[i]? = some (Sl.own d) ∨ δ[i]? = some (Sl.lock d)) ∧ σ[i]? = some (some (.ref a))
  | _, _, _, .nil, _, h => h.elim
  | _, _, _, .tv r, .cons ho t rr, h => by
    rcases h with ⟨e, ⟨d, e2⟩ | ⟨i, d, e2, _⟩⟩ | h
    · exact .inl (.inl ⟨e, d, e2⟩)
    · cases e2
    · exact (adr_slot r rr h).imp .inr fun ⟨i, d, h1, h2⟩ => ⟨i, d, h1, h2⟩
  | _, _, _, .to r, .cons ho t rr, h => by
    rcases h with ⟨e, ⟨d, e2⟩ | ⟨i, d, e2, _⟩⟩ | h
    · exact .inl (.inl ⟨e, d, e2⟩)
    · cases e2
    · exact (adr_slot r rr h).imp .inr fun ⟨i, d, h1, h2⟩ => ⟨i, d, h1, h2⟩
  | _, _, _, .so (i := j) hi r, .cons ho t rr, h => by
    rcases h with ⟨e, ⟨d, e2⟩ | ⟨i, d, e2, h2⟩⟩ | h
    · cases e2
    · cases e2
      exact .inr ⟨j, d, by simp [slO], h2, by rw [← e]; exact ho.1⟩
    · refine (adr_slot r rr h).imp .inr fun ⟨i, d, h1, h2⟩ => ⟨i, d, ?_, h2⟩
      rw [List.filterMap_cons]
      exact List.mem_cons_of_mem _ h1
  | _, _, _, .sr (i := j) hi r, .cons ho t rr, h => by
    rcases h with ⟨e, ⟨d, e2⟩ | ⟨i, d, e2, h2⟩⟩ | h
    · cases e2
    · cases e2
      exact .inr ⟨j, d, by simp [slO], h2, by rw [← e]; exact ho.1⟩
    · refine (adr_slot r rr h).imp .inr fun ⟨i, d, h1, h2⟩ => ⟨i, d, ?_, h2⟩
      rw [List.filterMap_cons]
      exact List.mem_cons_of_mem _ h1
  | _, _, _, .sv (i := j) hi r, .cons ho t rr, h => by
    rcases h with ⟨e, ⟨d, e2⟩ | ⟨i, d, e2, h2⟩⟩ | h
    · cases e2
    · cases e2
      rcases h2 with h2 | h2 <;> rw [hi] at h2 <;> cases h2
    · exact (adr_slot r rr h).imp .inr fun ⟨i, d, h1, h2⟩ => ⟨i, d, h1, h2⟩
theorem tmp_has {a : Addr} : ∀ {vs : List V} {os : List Opd}, OpdRs c pn H0 U H σ δ vs os → TmpIn a vs os → ∀ i e, ¬ Has σ δ i a e
  | _, _, .nil, t => t.elim
  | _, _, .cons h _ r, t => by
    rcases t with ⟨e, d, e2⟩ | t
    · subst e2
      obtain ⟨b, e3, _, _, _, n⟩ := h
      rw [e] at e3; cases e3
      exact n
    · exact tmp_has r t
theorem args_less {U U' : AS} (le : ∀ a, U' a → U a) : ∀ {vs : List V} {as : List (Bool × D)}, ArgsR c pn U H vs as → (∀ a, U a → Lent vs as a → U' a) → ArgsR c pn U' H vs as
  | _, _, .nil, _ => .nil
  | _, _, .val h r, q => .val (RepE.less le h) (args_less le r fun a u ⟨e, z⟩ => q a u ⟨e, List.mem_cons_of_mem _ z⟩)
  | _, _, .own (d := d) u o n r, q => .own (q _ u ⟨d, List.mem_cons_self⟩) (o.less le) n (args_less le r fun a u ⟨e, z⟩ => q a u ⟨e, List.mem_cons_of_mem _ z⟩)
/-- read by the callee: a slot's own list, or what was made just now -/
def RdI (σ : Sg) (δ : Dst) (a : Addr) (vs : List V) (os : List Opd) (as : List Ax) : Prop := TmpIn a vs os ∨ ∃ i d, i ∈ as.filterMap (·.2.2) ∧ (δ[i]? = some (Sl.own d) ∨ δ[i]? = some (Sl.lock d)) ∧ σ[i]? = some (some (V.ref a))
/-- changed by the callee -/
def LtI (σ : Sg) (δ : Dst) (a : Addr) (vs : List V) (os : List Opd) (as : List Ax) : Prop := TmpIn a vs os ∨ ∃ i d, i ∈ as.filterMap (·.2.1) ∧ δ[i]? = some (Sl.own d) ∧ σ[i]? = some (some (V.ref a))
theorem rdI_skip {a : Addr} {v : V} {o : Opd} {x : Bool × D} {vs : List V} {os : List Opd} {as : List Ax} {y : Option Nat} (h : RdI σ δ a vs os as) (z : Option Nat) : RdI σ δ a (v :: vs) (o :: os) ((x, y, z) :: as) := by
  rcases h with h | ⟨i, d, h1, h2⟩
  · exact .inl (.inr h)
  · refine .inr ⟨i, d, ?_, h2⟩
    cases z with
    | none => exact h1
    | some w => rw [List.filterMap_cons]; exact List.mem_cons_of_mem _ h1
theorem ltI_skip {a : Addr} {v : V} {o : Opd} {x : Bool × D} {vs : List V} {os : List Opd} {as : List Ax} {y : Option Nat} (h : LtI σ δ a vs os as) (z : Option Nat) : LtI σ δ a (v :: vs) (o :: os) ((x, y, z) :: as) := by
  rcases h with h | ⟨i, d, h1, h2⟩
  · exact .inl (.inr h)
  · refine .inr ⟨i, d, ?_, h2⟩
    cases y with
    | none => exact h1
    | some w => rw [List.filterMap_cons]; exact List.mem_cons_of_mem _ h1
theorem rd_sl : ∀ {as : List Ax} {i : Nat}, (∀ x ∈ as, x.2.1 = none ∨ x.2.2 = none) → i ∈ as.filterMap (·.2.2) → i ∈ as.filterMap slO := by
  intro as i h hi
  obtain ⟨x, hx, e⟩ := List.mem_filterMap.mp hi
  refine List.mem_filterMap.mpr ⟨x, hx, ?_⟩
  unfold slO
  rcases h x hx with z | z
  · rw [z]; exact e
  · rw [z] at e; cases e
theorem lt_sl : ∀ {as : List Ax} {i : Nat}, i ∈ as.filterMap (·.2.1) → i ∈ as.filterMap slO := by
  intro as i hi
  obtain ⟨x, hx, e⟩ := List.mem_filterMap.mp hi
  refine List.mem_filterMap.mpr ⟨x, hx, ?_⟩
  unfold slO
  rw [e]
theorem ax_one : ∀ {vs : List V} {os : List Opd} {as : List Ax}, ArgI δ vs os as → ∀ x ∈ as, x.2.1 = none ∨ x.2.2 = none
  | _, _, _, .nil => fun x hx => by cases hx
  | _, _, _, .tv r => fun x hx => by
    rcases List.mem_cons.mp hx with z | z
    · rw [z]; exact .inl rfl
    · exact ax_one r x z
  | _, _, _, .to r => fun x hx => by
    rcases List.mem_cons.mp hx with z | z
    · rw [z]; exact .inl rfl
    · exact ax_one r x z
  | _, _, _, .so _ r => fun x hx => by
    rcases List.mem_cons.mp hx with z | z
    · rw [z]; exact .inr rfl
    · exact ax_one r x z
  | _, _, _, .sr _ r => fun x hx => by
    rcases List.mem_cons.mp hx with z | z
    · rw [z]; exact .inl rfl
    · exact ax_one r x z
  | _, _, _, .sv _ r => fun x hx => by
    rcases List.mem_cons.mp hx with z | z
    · rw [z]; exact .inl rfl
    · exact ax_one r x z
/-- the arguments, as the callee finds them: Uc is what stays hers alone -/
structure ArgsIn (c : RC) (pn : Pn) (σ : Sg) (δ : Dst) (U : AS) (H : Hp) (vs : List V) (os : List Opd) (as : List Ax) (Uc : AS) : Prop where
  le : ∀ a, Uc a → U a
  ar : ArgsR c pn Uc H vs (as.map (·.1))
  rd : ∀ a, U a → ¬ Uc a → RdI σ δ a vs os as
  lt : ∀ a, Lent vs (as.map (·.1)) a → LtI σ δ a vs os as
  no : ∀ i ∈ as.filterMap (·.2.2), ∀ a, σ[i]? = some (some (V.ref a)) → ¬ Uc a
theorem args_in (A : Abs c pn U H σ δ) : ∀ {vs : List V} {os : List Opd} {as : List Ax}, ArgI δ vs os as → OpdRs c pn H0 U H σ δ vs os → (as.filterMap slO).Nodup → ∃ Uc : AS, ArgsIn c pn σ δ U H vs os as Uc
  | _, _, _, .nil, .nil, _ => ⟨U, fun _ h => h, .nil, fun a h n => absurd h n, fun a ⟨d, h⟩ => by simp at h, fun i h => by cases h⟩
  | _, _, _, .tv (v := v) (o := o) (d := d) (vs := vs) (os := os) (as := as) r, .cons h t rr, nd => by
    obtain ⟨Uc, u1, ar, u2, u3, u5⟩ := args_in A r rr nd
    cases o with
    | false =>
      exact ⟨Uc, u1, .val (RepE.less u1 h) ar, fun a x y => rdI_skip (u2 a x y) _, fun a ⟨e, z⟩ => by
        rcases List.mem_cons.mp z with y | y
        · cases y
        · exact ltI_skip (u3 a ⟨e, y⟩) _, u5⟩
    | true =>
      obtain ⟨b, e, h0, ub, ow, nh⟩ := h
      subst e
      have nt := t b d rfl rfl
      refine ⟨Uno Uc b, fun a z => u1 a z.1, .val (Rep.e (((ow.less u1).less fun _ z => z.1).rep fun z => z.2 rfl)) (args_less (fun a z => z.1) ar fun a z1 z2 => ⟨z1, ?_⟩), fun a x y => ?_, fun a ⟨e, z⟩ => ?_, fun i hi a ha z => u5 i hi a ha z.1⟩
      · rintro rfl
        rcases u3 a z2 with y | ⟨i, e, _, y1, y2⟩
        · exact nt y
        · exact nh i e ⟨.inl y1, y2⟩
      · by_cases z : a = b
        · rw [z]; exact .inl (.inl ⟨rfl, d, rfl⟩)
        · exact rdI_skip (u2 a x fun w => y ⟨w, z⟩) _
      · rcases List.mem_cons.mp z with y | y
        · cases y
        · exact ltI_skip (u3 a ⟨e, y⟩) _
  | _, _, _, .to (v := v) (d := d) (vs := vs) (os := os) (as := as) r, .cons h t rr, nd => by
    obtain ⟨Uc, u1, ar, u2, u3, u5⟩ := args_in A r rr nd
    obtain ⟨b, e, h0, ub, ow, nh⟩ := h
    subst e
    have nt := t b d rfl rfl
    have ubc : Uc b := Classical.byContradiction fun z => by
      rcases u2 b ub z with y | ⟨i, e, _, y1, y2⟩
      · exact nt y
      · exact nh i e ⟨y1, y2⟩
    exact ⟨Uc, u1, .own ubc (ow.less u1) (fun e z => by
      rcases u3 b ⟨e, z⟩ with y | ⟨i, e, _, y1, y2⟩
      · exact nt y
      · exact nh i e ⟨.inl y1, y2⟩) ar, fun a x y => rdI_skip (u2 a x y) _, fun a ⟨e, z⟩ => by
      rcases List.mem_cons.mp z with y | y
      · cases y
        exact .inl (.inl ⟨rfl, d, rfl⟩)
      · exact ltI_skip (u3 a ⟨e, y⟩) _, u5⟩
  | _, _, _, .so (v := v) (i := i) (d := d) (vs := vs) (os := os) (as := as) hi r, .cons h t rr, nd => by
    have nd' : i ∉ as.filterMap slO ∧ (as.filterMap slO).Nodup := List.nodup_cons.mp nd
    obtain ⟨Uc, u1, ar, u2, u3, u5⟩ := args_in A r rr nd'.2
    obtain ⟨b, e, ub, ow⟩ := A.own i d (.inl hi)
    have hv := h.1
    rw [hv] at e; cases e
    have ubc : Uc b := Classical.byContradiction fun z => by
      rcases u2 b ub z with y | ⟨j, e, y0, y1, y2⟩
      · exact tmp_has rr y i d ⟨.inl hi, hv⟩
      · have ej : j = i := A.dis j i b e d ⟨y1, y2⟩ ⟨.inl hi, hv⟩
        rw [ej] at y0
        exact nd'.1 (rd_sl (ax_one r) y0)
    exact ⟨Uc, u1, .own ubc (ow.less u1) (fun e z => by
      rcases u3 b ⟨e, z⟩ with y | ⟨j, e, y0, y1, y2⟩
      · exact tmp_has rr y i d ⟨.inl hi, hv⟩
      · have ej : j = i := A.dis j i b e d ⟨.inl y1, y2⟩ ⟨.inl hi, hv⟩
        rw [ej] at y0
        exact nd'.1 (lt_sl y0)) ar, fun a x y => rdI_skip (u2 a x y) _, fun a ⟨e, z⟩ => by
      rcases List.mem_cons.mp z with y | y
      · cases y
        exact .inr ⟨i, d, by simp, hi, hv⟩
      · exact ltI_skip (u3 a ⟨e, y⟩) _, u5⟩
  | _, _, _, .sr (v := v) (i := i) (d := d) (vs := vs) (os := os) (as := as) hi r, .cons h t rr, nd => by
    have nd' : i ∉ as.filterMap slO ∧ (as.filterMap slO).Nodup := List.nodup_cons.mp nd
    obtain ⟨Uc, u1, ar, u2, u3, u5⟩ := args_in A r rr nd'.2
    obtain ⟨b, e, ub, ow⟩ := A.own i d hi
    have hv := h.1
    rw [hv] at e; cases e
    refine ⟨Uno Uc b, fun a z => u1 a z.1, .val (Rep.e (((ow.less u1).less fun _ z => z.1).rep fun z => z.2 rfl)) (args_less (fun a z => z.1) ar fun a z1 z2 => ⟨z1, ?_⟩), fun a x y => ?_, fun a ⟨e, z⟩ => ?_, fun j hj a ha z => ?_⟩
    · rintro rfl
      rcases u3 a z2 with y | ⟨j, e, y0, y1, y2⟩
      · exact tmp_has rr y i d ⟨hi, hv⟩
      · have ej : j = i := A.dis j i a e d ⟨.inl y1, y2⟩ ⟨hi, hv⟩
        rw [ej] at y0
        exact nd'.1 (lt_sl y0)
    · by_cases z : a = b
      · rw [z]
        exact .inr ⟨i, d, by simp, hi, hv⟩
      · exact rdI_skip (u2 a x fun w => y ⟨w, z⟩) _
    · rcases List.mem_cons.mp z with y | y
      · cases y
      · exact ltI_skip (u3 a ⟨e, y⟩) _
    · have hj' : j = i ∨ j ∈ as.filterMap (·.2.2) := by
        rw [List.filterMap_cons] at hj
        exact List.mem_cons.mp hj
      rcases hj' with y | y
      · rw [y, hv] at ha
        cases ha
        exact z.2 rfl
      · exact u5 j y a ha z.1
  | _, _, _, .sv (v := v) (i := i) (d := d) (vs := vs) (os := os) (as := as) hi r, .cons h t rr, nd => by
    obtain ⟨Uc, u1, ar, u2, u3, u5⟩ := args_in A r rr nd
    obtain ⟨w, e, rp⟩ := A.val i d hi
    have hv := h.1
    rw [hv] at e; cases e
    exact ⟨Uc, u1, .val (rp.less u1) ar, fun a x y => rdI_skip (u2 a x y) _, fun a ⟨e, z⟩ => by
      rcases List.mem_cons.mp z with y | y
      · cases y
      · exact ltI_skip (u3 a ⟨e, y⟩) _, u5⟩
theorem Abs.lessU {Uc : AS} (A : Abs c pn U H σ δ) (le : ∀ a, Uc a → U a) (own : ∀ i d a, Has σ δ i a d → Uc a) : Abs c pn Uc H σ δ :=
  ⟨A.len, fun i d h => by
    obtain ⟨v, e, q⟩ := A.val i d h
    exact ⟨v, e, q.less le⟩, fun i d h => by
    obtain ⟨b, e, u, q⟩ := A.own i d h
    exact ⟨b, e, own i d b ⟨h, e⟩, q.less le⟩, A.dis, fun b u => A.trk b (le b u)⟩
theorem StpE.lessU {Uc : AS} (s : StpE io σ δ0 U0 H0 δ U H) (le : ∀ a, Uc a → U a) (u : ∀ a, U0 a → ¬ Root σ δ0 a → U a → Uc a) : StpE io σ δ0 U0 H0 δ Uc H :=
  ⟨⟨⟨s.st.fr.keep, s.st.fr.tup, s.st.fr.frz, s.st.fr.there, fun a h => s.st.fr.u1 a (le a h), fun a h n => u a h n (s.st.fr.u2 a h n)⟩, s.st.rt, s.st.io, s.st.lk⟩, s.ful, s.no⟩
/-- lists lent to be read are given away -/
theorem demote_ok : ∀ {as : List Ax} {δ δd : Dst} {U : AS}, Abs c pn U H σ δ → demote io δ as = some δd → ∃ Ud : AS, Abs c pn Ud H σ δd ∧ StpE io σ δ U H δd Ud H ∧ (∀ a, Ud a → U a) ∧ (∀ i ∈ as.filterMap (·.2.2), (∀ a, σ[i]? = some (some (V.ref a)) → ¬ Ud a) ∧ (∃ d, δ[i]? = some (Sl.own d)) ∧ ∀ d, δd[i]? ≠ some (Sl.own d)) ∧
      (∀ a, U a → ¬ Ud a → ∃ i ∈ as.filterMap (·.2.2), σ[i]? = some (some (V.ref a))) ∧ ∀ i, i ∉ as.filterMap (·.2.2) → δd[i]? = δ[i]?
  | [], δ, δd, U, A, e => by
    cases e
    exact ⟨U, A, StpE.refl, fun _ h => h, (fun i h => by cases h), fun a h n => absurd h n, fun _ _ => rfl⟩
  | (_, _, none) :: r, δ, δd, U, A, e => demote_ok (as := r) A e
  | (_, _, some i) :: r, δ, δd, U, A, e => by
    have e' : (match δ[i]? with
      | some (.own d) => if io.getD i false then none else demote io (δ.set i (.val d)) r
      | _ => none) = some δd := e
    split at e'
    · rename_i d hd
      split at e'
      · cases e'
      · obtain ⟨a, ha, u, ow⟩ := A.own i d (.inl hd)
        obtain ⟨A1, _, s1⟩ := A.give (io := io) hd ha
        obtain ⟨Ud, A2, s2, le, h1, h2, h3⟩ := demote_ok (as := r) A1 e'
        refine ⟨Ud, A2, s1.trans s2 A.trk, fun b z => (le b z).1, fun j hj => ?_, fun b ub nb => ?_, fun j hj => ?_⟩
        · have hj' : j = i ∨ j ∈ r.filterMap (·.2.2) := by
            rw [List.filterMap_cons] at hj
            exact List.mem_cons.mp hj
          by_cases hji : j = i
          · rw [hji]
            refine ⟨fun b hb z => ?_, ⟨d, hd⟩, fun e2 z => ?_⟩
            · rw [ha] at hb; cases hb
              exact (le a z).2 rfl
            · by_cases hr : i ∈ r.filterMap (·.2.2)
              · obtain ⟨_, ⟨d2, y⟩, _⟩ := h1 i hr
                rw [set_at hd] at y; cases y
              · rw [h3 i hr, set_at hd] at z
                cases z
          · have hr := hj'.resolve_left hji
            obtain ⟨y1, ⟨d2, y2⟩, y3⟩ := h1 j hr
            rw [List.getElem?_set_ne (Ne.symm hji)] at y2
            exact ⟨y1, ⟨d2, y2⟩, y3⟩
        · by_cases z : b = a
          · rw [z]
            exact ⟨i, by simp, ha⟩
          · obtain ⟨j, hj, hb⟩ := h2 b ⟨ub, z⟩ nb
            exact ⟨j, by rw [List.filterMap_cons]; exact List.mem_cons_of_mem _ hj, hb⟩
        · rw [List.filterMap_cons] at hj
          have n1 : j ≠ i := fun z => hj (by rw [z]; exact List.mem_cons_self)
          rw [h3 j fun z => hj (List.mem_cons_of_mem _ z), List.getElem?_set_ne (Ne.symm n1)]
    · cases e'
theorem outs_own {U' : AS} {H' : Hp} {v : V} {d : D} {vs : List V} {as : List (Bool × D)} {outs : List D} (h : OutsR c U' H' (v :: vs) ((true, d) :: as) outs) : ∃ a o os, v = .ref a ∧ outs = o :: os ∧ U' a ∧ OwnC c U' H' a o ∧ OutsR c U' H' vs as os := by
  cases h with
  | own h1 h2 h3 => exact ⟨_, _, _, rfl, rfl, h1, h2, h3⟩
theorem setOuts_at {U' : AS} {H' : Hp} {δ1 : Dst} : ∀ {vs : List V} {os : List Opd} {as : List Ax} {outs : List D} {δ : Dst}, ArgI δ1 vs os as → OpdRs c pn H0 U H σ δ1 vs os → OutsR c U' H' vs (as.map (·.1)) outs → (∀ i ∈ as.filterMap (·.2.1), i < δ.length) →
    ∀ (j : Nat) (x : Sl), (setOuts δ as outs)[j]? = some x → (δ[j]? = some x ∧ j ∉ as.filterMap (·.2.1)) ∨ ∃ e a, x = .own e ∧ j ∈ as.filterMap (·.2.1) ∧ OwnC c U' H' a e ∧ U' a ∧ σ[j]? = some (some (V.ref a)) ∧ e ∈ outs
  | _, _, _, _, δ, .nil, _, .nil, _, j, x, h => .inl ⟨h, fun z => by cases z⟩
  | _, _, _, _, δ, .tv r, .cons _ _ rr, .val ro, hl, j, x, h => by
    rcases setOuts_at r rr ro hl j x h with ⟨y1, y2⟩ | ⟨e, a, y1, y2, y3, y4, y5, y6⟩
    · exact .inl ⟨y1, y2⟩
    · exact .inr ⟨e, a, y1, y2, y3, y4, y5, List.mem_cons_of_mem _ y6⟩
  | _, _, _, _, δ, .to r, .cons _ _ rr, .own _ _ ro, hl, j, x, h => by
    rcases setOuts_at r rr ro hl j x h with ⟨y1, y2⟩ | ⟨e, a, y1, y2, y3, y4, y5, y6⟩
    · exact .inl ⟨y1, y2⟩
    · exact .inr ⟨e, a, y1, y2, y3, y4, y5, List.mem_cons_of_mem _ y6⟩
  | _, _, _, _, δ, .so (i := i) (as := as) hi r, .cons ho _ rr, ro0, hl, j, x, h => by
    obtain ⟨a, o, outs, ew, eo, ua, oa, ro⟩ := outs_own ro0
    subst ew eo
    have hm : ∀ n ∈ as.filterMap (·.2.1), n < (δ.set i (.own o)).length := fun n hn => by
      rw [List.length_set]
      exact hl n (by rw [List.filterMap_cons]; exact List.mem_cons_of_mem _ hn)
    have li : i < δ.length := hl i (by simp)
    rcases setOuts_at (δ := δ.set i (.own o)) r rr ro hm j x h with ⟨y1, y2⟩ | ⟨e, b, y1, y2, y3, y4, y5, y6⟩
    · by_cases z : i = j
      · subst z
        rw [List.getElem?_set_self li] at y1
        cases y1
        exact .inr ⟨o, a, rfl, by simp, oa, ua, ho.1, List.mem_cons_self⟩
      · rw [List.getElem?_set_ne z] at y1
        refine .inl ⟨y1, fun w => ?_⟩
        rw [List.filterMap_cons] at w
        rcases List.mem_cons.mp w with w | w
        · exact z w.symm
        · exact y2 w
    · exact .inr ⟨e, b, y1, by rw [List.filterMap_cons]; exact List.mem_cons_of_mem _ y2, y3, y4, y5, List.mem_cons_of_mem _ y6⟩
  | _, _, _, _, δ, .sr _ r, .cons _ _ rr, .val ro, hl, j, x, h => by
    rcases setOuts_at r rr ro hl j x h with ⟨y1, y2⟩ | ⟨e, a, y1, y2, y3, y4, y5, y6⟩
    · exact .inl ⟨y1, y2⟩
    · exact .inr ⟨e, a, y1, y2, y3, y4, y5, List.mem_cons_of_mem _ y6⟩
  | _, _, _, _, δ, .sv _ r, .cons _ _ rr, .val ro, hl, j, x, h => by
    rcases setOuts_at r rr ro hl j x h with ⟨y1, y2⟩ | ⟨e, a, y1, y2, y3, y4, y5, y6⟩
    · exact .inl ⟨y1, y2⟩
    · exact .inr ⟨e, a, y1, y2, y3, y4, y5, List.mem_cons_of_mem _ y6⟩
theorem setOuts_len : ∀ (as : List Ax) (outs : List D) (δ : Dst), (setOuts δ as outs).length = δ.length
  | [], _, _ => rfl
  | (_, some i, _) :: r, [], δ => rfl
  | (_, none, _) :: r, [], δ => rfl
  | (_, some i, _) :: r, d :: ds, δ => by
    show (setOuts (δ.set i (.own d)) r ds).length = _
    rw [setOuts_len r ds, List.length_set]
  | (_, none, _) :: r, d :: ds, δ => setOuts_len r ds δ
theorem setOuts_out {j : Nat} : ∀ (as : List Ax) (outs : List D) (δ : Dst), j ∉ as.filterMap (·.2.1) → (setOuts δ as outs)[j]? = δ[j]?
  | [], _, _, _ => rfl
  | (_, some i, _) :: r, [], δ, _ => rfl
  | (_, none, _) :: r, [], δ, _ => rfl
  | (_, some i, _) :: r, d :: ds, δ, h => by
    rw [List.filterMap_cons] at h
    show (setOuts (δ.set i (.own d)) r ds)[j]? = _
    rw [setOuts_out r ds _ fun z => h (List.mem_cons_of_mem _ z), List.getElem?_set_ne fun z => h (by rw [z]; exact List.mem_cons_self)]
  | (_, none, _) :: r, d :: ds, δ, h => setOuts_out r ds δ h
end
mutual
theorem Rep.noMut {c : RC} {U U' : AS} {H : Hp} : ∀ {v : V} {d : D}, Rep c U H v d → Ev.noMut d = true → Rep c U' H v d
  | _, _, .non, _ => .non
  | _, _, .bl b, _ => .bl b
  | _, _, .int i, _ => .int i
  | _, _, .str i, _ => .str i
  | _, _, .tup (ds := ds) h r, e => .tup h (Reps.noMut r e)
  | _, _, .lst _ _ _, e => nomatch e
  | _, _, .ro _ _, e => nomatch e
  | _, _, .dct _ _ _, e => nomatch e
  | _, _, .fn g, _ => .fn g
  | _, _, .cls g, _ => .cls g
  | _, _, .ty g, _ => .ty g
theorem Reps.noMut {c : RC} {U U' : AS} {H : Hp} : ∀ {v : List V} {d : List D}, Reps c U H v d → Ev.noMuts d = true → Reps c U' H v d
  | _, _, .nil, _ => .nil
  | _, _, .cons (d := d) (ds := ds) h r, e => by
    have e' : (Ev.noMut d && Ev.noMuts ds) = true := e
    rw [Bool.and_eq_true] at e'
    exact .cons (Rep.noMut h e'.1) (Reps.noMut r e'.2)
end
theorem OwnC.elems {c : RC} {U U' : AS} {H : Hp} {a : Addr} {d : D} (h : OwnC c U H a d) (e : elemsOk d = true) : OwnC c U' H a d := by
  cases d with
  | lst ds =>
    obtain ⟨vs, h1, h2⟩ := h
    exact ⟨vs, h1, h2.noMut e⟩
  | dct ds => cases e
  | _ => exact h.elim
theorem ws_own {δ : Dst} : ∀ {vs : List V} {os : List Opd} {as : List Ax}, ArgI δ vs os as → ∀ i ∈ as.filterMap (·.2.1), ∃ d, δ[i]? = some (Sl.own d)
  | _, _, _, .nil => fun i h => by cases h
  | _, _, _, .tv r => fun i h => ws_own r i h
  | _, _, _, .to r => fun i h => ws_own r i h
  | _, _, _, .so (d := d) hi r => fun i h => by
    rw [List.filterMap_cons] at h
    rcases List.mem_cons.mp h with z | z
    · rw [z]; exact ⟨d, hi⟩
    · exact ws_own r i z
  | _, _, _, .sr _ r => fun i h => ws_own r i h
  | _, _, _, .sv _ r => fun i h => ws_own r i h
theorem ws_ls : ∀ {as : List Ax} {i : Nat}, (∀ x ∈ as, x.2.1 = none ∨ x.2.2 = none) → (as.filterMap slO).Nodup → i ∈ as.filterMap (·.2.1) → i ∉ as.filterMap (·.2.2)
  | [], _, _, _, h => by cases h
  | x :: r, i, one, nd, h => by
    have one' : ∀ y ∈ r, y.2.1 = none ∨ y.2.2 = none := fun y hy => one y (List.mem_cons_of_mem _ hy)
    obtain ⟨x1, x2, x3⟩ := x
    cases x2 with
    | some n =>
      have e3 : x3 = none := (one _ List.mem_cons_self).resolve_left fun z => nomatch z
      subst e3
      have nd' : n ∉ r.filterMap slO ∧ (r.filterMap slO).Nodup := List.nodup_cons.mp nd
      rw [List.filterMap_cons] at h
      rcases List.mem_cons.mp h with z | z
      · rw [z]
        exact fun y => nd'.1 (rd_sl (as := r) one' y)
      · exact show i ∉ r.filterMap (·.2.2) from ws_ls one' nd'.2 z
    | none =>
      cases x3 with
      | none => exact ws_ls (as := r) one' nd h
      | some n =>
        have nd' : n ∉ r.filterMap slO ∧ (r.filterMap slO).Nodup := List.nodup_cons.mp nd
        intro y
        rw [List.filterMap_cons] at y
        rcases List.mem_cons.mp y with z | z
        · exact nd'.1 (by rw [← z]; exact lt_sl (as := r) h)
        · exact ws_ls one' nd'.2 (show i ∈ r.filterMap (·.2.1) from h) z
/-- behind a call -/
theorem call_post {c : RC} {pn : Pn} {io : List Bool} {H0 : Hp} {σ : Sg} {δ0 δ1 δP : Dst} {U0 U1 UP Uc U' : AS} {H1 H' : Hp} {vs : List V} {os : List Opd} {as : List Ax} {outs : List D} (trk0 : ∀ a, U0 a → H0 a ≠ none) (AP : Abs c pn UP H1 σ δP) (sP : StpE io σ δ0 U0 H0 δP UP H1) (hc : ∀ a, Uc a → UP a)
    (rr : OpdRs c pn H0 U1 H1 σ δ1 vs os) (ai : ArgI δ1 vs os as) (lt : ∀ a, Lent vs (as.map (·.1)) a → TmpIn a vs os ∨ ∃ i d, i ∈ as.filterMap (·.2.1) ∧ δP[i]? = some (Sl.own d) ∧ σ[i]? = some (some (V.ref a))) (ws : ∀ i ∈ as.filterMap (·.2.1), ∃ d, δP[i]? = some (Sl.own d))
    (tmpH : ∀ a, TmpIn a vs os → ∀ i e, ¬ Has σ δP i a e) (f : Fr' (Lent vs (as.map (·.1))) Uc U' H1 H') (trk' : ∀ a, U' a → H' a ≠ none) (lc : ∀ a, Lent vs (as.map (·.1)) a → Uc a) (or : OutsR c U' H' vs (as.map (·.1)) outs) (good : (∀ b, UP b → Uc b) ∨ outs.all elemsOk = true) :
    Abs c pn (fun b => U' b ∨ (UP b ∧ ¬ Uc b)) H' σ (setOuts δP as outs) ∧ StpE io σ δ0 U0 H0 (setOuts δP as outs) (fun b => U' b ∨ (UP b ∧ ¬ Uc b)) H' ∧ ∀ i a e, Has σ (setOuts δP as outs) i a e → ∃ e', Has σ δP i a e' := by
  have f2 : Fr' (Lent vs (as.map (·.1))) UP (fun b => U' b ∨ (UP b ∧ ¬ Uc b)) H1 H' := ⟨f.keep, f.tup, f.frz, f.there, fun a h => by
    rcases h with h | h
    · exact (f.u1 a h).imp (hc a) id
    · exact .inl h.1, fun a h n => by
    by_cases z : Uc a
    · exact .inl (f.u2 a z n)
    · exact .inr ⟨h, z⟩⟩
  have lP : ∀ a, Lent vs (as.map (·.1)) a → UP a := fun a h => hc a (lc a h)
  have wl : ∀ i ∈ as.filterMap (·.2.1), i < δP.length := fun i hi => by
    obtain ⟨d, hd⟩ := ws i hi
    exact at_lt hd
  have sa := setOuts_at (δ := δP) ai rr or wl
  have hold : ∀ (j : Nat) (d : D), ((setOuts δP as outs)[j]? = some (Sl.own d) ∨ (setOuts δP as outs)[j]? = some (Sl.lock d)) → ((δP[j]? = some (Sl.own d) ∨ δP[j]? = some (Sl.lock d)) ∧ j ∉ as.filterMap (·.2.1)) ∨ (j ∈ as.filterMap (·.2.1) ∧ ∃ a, OwnC c U' H' a d ∧ U' a ∧ σ[j]? = some (some (V.ref a)) ∧ d ∈ outs) := fun j d h => by
    rcases h with h | h
    · rcases sa j _ h with ⟨y1, y2⟩ | ⟨e, a, y1, y2, y3, y4, y5, y6⟩
      · exact .inl ⟨.inl y1, y2⟩
      · cases y1
        exact .inr ⟨y2, a, y3, y4, y5, y6⟩
    · rcases sa j _ h with ⟨y1, y2⟩ | ⟨e, a, y1, y2, y3, y4, y5, y6⟩
      · exact .inl ⟨.inr y1, y2⟩
      · cases y1
  have has : ∀ i a e, Has σ (setOuts δP as outs) i a e → ∃ e', Has σ δP i a e' := fun i a e ⟨h1, h2⟩ => by
    rcases hold i e h1 with ⟨y1, _⟩ | ⟨y1, _⟩
    · exact ⟨e, y1, h2⟩
    · obtain ⟨d, hd⟩ := ws i y1
      exact ⟨d, .inl hd, h2⟩
  have nL : ∀ j d a, Has σ δP j a d → j ∉ as.filterMap (·.2.1) → ¬ Lent vs (as.map (·.1)) a := fun j d a h n l => by
    rcases lt a l with y | ⟨i, e, y1, y2, y3⟩
    · exact tmpH a y j d h
    · exact n (by rw [AP.dis j i a d e h ⟨.inl y2, y3⟩]; exact y1)
  refine ⟨⟨by rw [setOuts_len]; exact AP.len, fun j d h => ?_, fun j d h => ?_, fun i j a d e h1 h2 => ?_, fun a h => ?_⟩, ⟨⟨sP.st.fr.trans f2 trk0 fun a h => ?_, fun a ⟨j, d, h1, h2⟩ => ?_, fun _ _ => rfl, fun j d h => ⟨?_, rfl⟩⟩, fun j h => ?_, fun j d h => ?_⟩, has⟩
  · rcases sa j _ h with ⟨y1, y2⟩ | ⟨e, a, y1, _⟩
    · obtain ⟨v, e, q⟩ := AP.val j d y1
      exact ⟨v, e, q.mono f2 lP⟩
    · cases y1
  · rcases hold j d h with ⟨y1, y2⟩ | ⟨_, a, y1, y2, y3, y4⟩
    · obtain ⟨a, e, u, ow⟩ := AP.own j d y1
      have n := nL j d a ⟨y1, e⟩ y2
      exact ⟨a, e, f2.u2 a u n, ow.keep f2 lP n⟩
    · refine ⟨a, y3, .inl y2, ?_⟩
      rcases good with g | g
      · exact y1.less fun b z => z.elim id fun w => absurd (g b w.1) w.2
      · exact y1.elems (List.all_eq_true.mp g d y4)
  · obtain ⟨e1, h3⟩ := has i a d h1
    obtain ⟨e2, h4⟩ := has j a e h2
    exact AP.dis i j a e1 e2 h3 h4
  · rcases h with h | h
    · exact trk' a h
    · exact f.there a (AP.trk a h.1)
  · rcases lt a h with y | ⟨i, e, y1, y2, y3⟩
    · exact .inr (rr.tmp y)
    · exact sP.st.rt a ⟨i, e, y2, y3⟩
  · obtain ⟨e, h3, h4⟩ := has j a d ⟨.inl h1, h2⟩
    rcases hold j d (.inl h1) with ⟨y1, y2⟩ | ⟨y1, _⟩
    · rcases sa j _ h1 with ⟨y3, _⟩ | ⟨_, _, _, y4, _⟩
      · exact sP.st.rt a ⟨j, d, y3, h2⟩
      · exact absurd y4 y2
    · obtain ⟨d', hd⟩ := ws j y1
      exact sP.st.rt a ⟨j, d', hd, h2⟩
  · have h2 := (sP.st.lk j d h).1
    rw [setOuts_out as outs δP fun z => by
      obtain ⟨e, he⟩ := ws j z
      rw [h2] at he; cases he]
    exact h2
  · obtain ⟨e, he⟩ := sP.ful j h
    have lj : j < (setOuts δP as outs).length := by
      rw [setOuts_len]
      rcases he with he | he | he
      · exact at_lt he
      · exact at_lt he
      · exact at_lt he
    have hx : (setOuts δP as outs)[j]? = some (setOuts δP as outs)[j] := List.getElem?_eq_getElem lj
    rcases sa j _ hx with ⟨y1, _⟩ | ⟨e2, a, y1, _⟩
    · refine ⟨e, ?_⟩
      rw [y1] at he
      rw [hx]
      exact he
    · exact ⟨e2, .inl (by rw [hx, y1])⟩
  · rcases hold j d h with ⟨y1, _⟩ | ⟨y1, _⟩
    · exact sP.no j d y1
    · obtain ⟨d', hd⟩ := ws j y1
      exact sP.no j d' (.inl hd)
theorem lent_own {c : RC} {pn : Pn} {U : AS} {H : Hp} {a : Addr} : ∀ {vs : List V} {as : List (Bool × D)}, ArgsR c pn U H vs as → Lent vs as a → U a
  | _, _, .nil, ⟨d, h⟩ => by simp at h
  | _, _, .val _ r, ⟨d, h⟩ => by
    rcases List.mem_cons.mp h with z | z
    · cases z
    · exact lent_own r ⟨d, z⟩
  | _, _, .own u _ _ r, ⟨d, h⟩ => by
    rcases List.mem_cons.mp h with z | z
    · cases z; exact u
    · exact lent_own r ⟨d, z⟩
section
variable {m : Md} {glb : Str → Option Gk} {k : Nat} {N : List Str} {sc : Scope} {r : Ar} {X : L2.Cx} {cx : Ev.Cx} {a b d : Expr} {pa pb pd : PX} {pos : Pos}
theorem ans_opd {c : RC} {pn : Pn} {H0 H1 H' : Hp} {U' U2 : AS} {σ : Sg} {δ : Dst} {v : V} {o : Bool} {d : D} (h : AnsR c H1 U' H' v o d) (h0 : ∀ a, H1 a = none → H0 a = none) (u : ∀ a, U' a → U2 a) (nh : ∀ i a e, Has σ δ i a e → H1 a ≠ none) (good : (∀ a, U2 a → U' a) ∨ (if o then elemsOk d else noMut d) = true) : OpdR c pn H0 U2 H' σ δ v (.t o d) := by
  cases o with
  | false =>
    refine Rep.e ?_
    rcases good with g | g
    · exact Rep.less g h
    · exact Rep.noMut h g
  | true =>
    obtain ⟨a, e, n, ua, ow⟩ := h
    refine ⟨a, e, h0 a n, u a ua, ?_, fun i e z => nh i a e z n⟩
    rcases good with g | g
    · exact ow.less g
    · exact ow.elems g
theorem call_to {f : Nat} {os : List Opd} {vs : List V} {σ : Sg} {δ0 δ1 : Dst} {U0 U1 : AS} {H0 H1 : Hp} {Q : VK} (hio : r.io = cx.io) (A0 : Abs r.c r.pn U0 H0 σ δ0) (A : Abs r.c r.pn U1 H1 σ δ1) (s : StpE r.io σ δ0 U0 H0 δ1 U1 H1) (rr : OpdRs r.c r.pn H0 U1 H1 σ δ1 vs os)
    (h : Cont r (RO r) Q σ δ0 U0 H0 (callM cx f os δ1)) : spC r.c (cx.call cx.hot f) r.pn vs H1 Q (fun cls d H' => r.W cls d σ H') := by
  unfold callM at h
  split at h
  · exact h.elim
  · rename_i as has
    have ai := argI_of rr.length has
    split at h
    · rename_i hnd
      have nd : (as.filterMap slO).Nodup := of_decide_eq_true hnd
      obtain ⟨Uc, q⟩ := args_in A ai rr nd
      refine ⟨Uc, as.map (·.1), q.ar, fun a u => A.trk a (q.le a u), ?_⟩
      -- without the lists made just now that are read
      have AK : Abs r.c r.pn (fun b => U1 b ∧ (Uc b ∨ ¬ TmpIn b vs os)) H1 σ δ1 := A.lessU (fun b z => z.1) fun i d a z => ⟨by
        obtain ⟨b, e, u, _⟩ := A.own i d z.1
        rw [z.2] at e; cases e
        exact u, .inr fun t => tmp_has rr t i d z⟩
      have sK : StpE r.io σ δ0 U0 H0 δ1 (fun b => U1 b ∧ (Uc b ∨ ¬ TmpIn b vs os)) H1 := s.lessU (fun b z => z.1) fun b u0 _ u1 => ⟨u1, .inr fun t => A0.trk b u0 (rr.tmp t)⟩
      have cK : ∀ a, Uc a → U1 a ∧ (Uc a ∨ ¬ TmpIn a vs os) := fun a z => ⟨q.le a z, .inl z⟩
      have tK : ∀ a, TmpIn a vs os → ∀ i e, ¬ Has σ δ1 i a e := fun a t => tmp_has rr t
      have lc : ∀ a, Lent vs (as.map (·.1)) a → Uc a := fun a z => lent_own q.ar z
      split at h
      · exact h.elim
      · rename_i e hcall
        split at h
        · rename_i hall
          try rw [hcall]
          intro cls d U' H' hx fr trk'
          have noL : as.filterMap (·.2.1) = [] := by
            rw [List.filterMap_eq_nil_iff]
            intro x hx
            have := List.all_eq_true.mp hall x hx
            simpa using this
          have f2 : Fr' (Lent vs (as.map (·.1))) (fun b => U1 b ∧ (Uc b ∨ ¬ TmpIn b vs os)) (fun b => U' b ∨ ((U1 b ∧ (Uc b ∨ ¬ TmpIn b vs os)) ∧ ¬ Uc b)) H1 H' := ⟨fr.keep, fr.tup, fr.frz, fr.there, fun a z => by
            rcases z with z | z
            · exact (fr.u1 a z).imp (cK a) id
            · exact .inl z.1, fun a z n => by
            by_cases y : Uc a
            · exact .inl (fr.u2 a y n)
            · exact .inr ⟨z, y⟩⟩
          have nl : ∀ a, Lent vs (as.map (·.1)) a → TmpIn a vs os := fun a z => by
            rcases q.lt a z with y | ⟨i, e, y1, _⟩
            · exact y
            · rw [noL] at y1; cases y1
          have lP : ∀ a, Lent vs (as.map (·.1)) a → U1 a ∧ (Uc a ∨ ¬ TmpIn a vs os) := fun a z => cK a (lc a z)
          refine h cls d (fun b => U' b ∨ ((U1 b ∧ (Uc b ∨ ¬ TmpIn b vs os)) ∧ ¬ Uc b)) H' hx ⟨AK.len, fun j e z => ?_, fun j e z => ?_, AK.dis, fun a z => ?_⟩ ⟨⟨sK.st.fr.trans f2 A0.trk fun a z => .inr (rr.tmp (nl a z)), sK.st.rt, fun _ _ => rfl, sK.st.lk⟩, sK.ful, sK.no⟩
          · obtain ⟨v, e1, rp⟩ := AK.val j e z
            exact ⟨v, e1, rp.mono f2 lP⟩
          · obtain ⟨b, e1, u, ow⟩ := AK.own j e z
            have n : ¬ Lent vs (as.map (·.1)) b := fun y => tK b (nl b y) j e ⟨z, e1⟩
            exact ⟨b, e1, f2.u2 b u n, ow.keep f2 lP n⟩
          · rcases z with z | z
            · exact trk' a z
            · exact fr.there a (AK.trk a z.1)
        · exact h.elim
      · rename_i o d outs hcall
        try rw [hcall]
        intro v U' H' fr trk' ans ors
        split at h
        · by_cases hgood : ((as.all fun x => x.2.2.isNone) || ((if o then elemsOk d else noMut d) && outs.all elemsOk)) = true
          · rw [if_pos hgood] at h
            have gd : (∀ b, (U1 b ∧ (Uc b ∨ ¬ TmpIn b vs os)) → Uc b) ∨ ((if o then elemsOk d else noMut d) = true ∧ outs.all elemsOk = true) := by
              rw [Bool.or_eq_true] at hgood
              rcases hgood with z | z
              · refine .inl fun b ⟨u, y⟩ => Classical.byContradiction fun n => ?_
                rcases q.rd b u n with t | ⟨i, e, y1, _⟩
                · exact (y.resolve_left n) t
                · have noL : as.filterMap (·.2.2) = [] := by
                    rw [List.filterMap_eq_nil_iff]
                    intro x hx
                    have := List.all_eq_true.mp z x hx
                    simpa using this
                  rw [noL] at y1; cases y1
              · rw [Bool.and_eq_true] at z
                exact .inr z
            obtain ⟨A2, s2, hs⟩ := call_post A0.trk AK sK cK rr ai (fun a z => q.lt a z) (ws_own ai) tK fr trk' lc ors (gd.imp id fun z => z.2)
            refine h v _ H' A2 (ans_opd ans s.gone (fun a z => .inl z) (fun i a e z => ?_) (gd.imp (fun z a y => y.elim id fun w => absurd (z a w.1) w.2) fun z => z.1)) s2
            obtain ⟨e', z'⟩ := hs i a e z
            obtain ⟨b, e1, u, _⟩ := A.own i e' z'.1
            rw [z'.2] at e1; cases e1
            exact A.trk a u
          · rw [if_neg hgood] at h
            split at h
            · exact h.elim
            · rename_i δd hdem
              rw [← hio] at hdem
              obtain ⟨Ud, Ad, sd, le, h1, h2, h3⟩ := demote_ok A hdem
              have cd : ∀ a, Uc a → Ud a := fun a z => Classical.byContradiction fun n => by
                obtain ⟨i, hi, hs⟩ := h2 a (q.le a z) n
                exact q.no i hi a hs z
              have AP : Abs r.c r.pn Uc H1 σ δd := Ad.lessU cd fun i d a z => Classical.byContradiction fun n => by
                obtain ⟨e, he⟩ := sd.no i d z.1
                obtain ⟨b, e1, u, _⟩ := Ad.own i d z.1
                rw [z.2] at e1; cases e1
                rcases q.rd a (le a u) n with t | ⟨i', e', y1, y2, y3⟩
                · exact tK a t i e ⟨he, z.2⟩
                · exact (h1 i' y1).1 a y3 u
              have sP : StpE r.io σ δ0 U0 H0 δd Uc H1 := (s.trans sd A0.trk).lessU cd fun b u0 _ u => Classical.byContradiction fun n => by
                rcases q.rd b (le b u) n with t | ⟨i', e', y1, y2, y3⟩
                · exact A0.trk b u0 (rr.tmp t)
                · exact (h1 i' y1).1 b y3 u
              have wd : ∀ i ∈ as.filterMap (·.2.1), δd[i]? = δ1[i]? := fun i hi => h3 i (ws_ls (ax_one ai) nd hi)
              obtain ⟨A2, s2, hs⟩ := call_post A0.trk AP sP (fun _ z => z) rr ai (fun a z => by
                rcases q.lt a z with t | ⟨i, e, y1, y2, y3⟩
                · exact .inl t
                · exact .inr ⟨i, e, y1, by rw [wd i y1]; exact y2, y3⟩) (fun i hi => by
                obtain ⟨e, he⟩ := ws_own ai i hi
                exact ⟨e, by rw [wd i hi]; exact he⟩) (fun a t i e z => by
                obtain ⟨e', he⟩ := sd.no i e z.1
                exact tK a t i e' ⟨he, z.2⟩) fr trk' lc ors (.inl fun _ z => z)
              refine h v _ H' A2 (ans_opd ans s.gone (fun a z => .inl z) (fun i a e z => ?_) (.inl fun a y => y.elim id fun w => absurd w.1 w.2)) s2
              obtain ⟨e', z'⟩ := hs i a e z
              obtain ⟨b, e1, u, _⟩ := AP.own i e' z'.1
              rw [z'.2] at e1; cases e1
              exact AP.trk a u
        · exact h.elim
    · exact h.elim
/-- a function runs -/
theorem run_g (g : Gd m glb k N sc r X cx) {f : Nat} {pins : List (Addr × Obj)} {σ : L2.St} {H : Hp} {s : Shared} {Q : VK} {us : List Value} {vs : List V} (I : L2.Inv X pins σ H s) (rv : Vals vs us) (h : spC r.c (cx.call cx.hot f) r.pn vs H Q (fun cls d H' => r.W cls d σ H')) :
    wpAny (model X.prog X.w) X.A (call (.ref (m.c.fa f)) us) (EP X pins σ Q) X.xe s := by
  have F := g.fns cx.hot f
  have e0 : Env0 m.P m.w m.c.K m.mg m.base X.A X.stack s H := by
    have := I.env0
    rw [g.P, g.w, g.K, g.c, g.mg, g.base] at this
    exact this
  have go := F.run X.A X.stack s H us vs Q (fun cls d H' => r.W cls d σ H') r.pn g.room g.gd (fun hh => ⟨I.ok.hd (g.calm hh), g.pn0 hh⟩) (fun hh => by
    obtain ⟨p, h1, h2, h3⟩ := g.hot hh
    have P1 := I.pin p (List.mem_append_left _ h2)
    exact ⟨p, h1, ⟨P1.1, P1.2.1, fun hm => (List.mem_cons.mp (I.stkSub p.1 hm)).elim P1.2.2.1 P1.2.2.2.1, P1.2.2.2.2⟩, h3⟩) e0 rv (by rw [← g.c]; exact h)
  rw [← g.P, ← g.w] at go
  refine wpAny_call (codeAny_mono go fun rs s' hq => ?_)
  cases rs with
  | error e => exact g.tk e s' (L2N.XE.of_call I (fun _ _ _ h => h) hq)
  | ok fl =>
    cases fl with
    | ret u => exact I.after hq
    | next => exact False.elim hq
    | brk => exact False.elim hq
    | cont => exact False.elim hq
theorem e_call (g : Gd m glb k N sc r X cx) {f : Nat} {x : Str} {q : Pos} {es : List Expr} {ps : List PX} (hx : glb x = some (.fn f)) (hs : sc.names.lookup x = some .globalImplicit) (hdb : (x == ("__debug__" : Str)) = false) (ha : PA X (a :: es) (tA r (evEs cx ps))) (he : starEach (a :: es) X.env = (false, eval a X.env) :: starEach es X.env) (hpl : (backTo pos (starEach es X.env)).any (·.1) = false) :
    PE X (.Call (.Name x q) (a :: es) [] pos) (tE r (evE cx (.call f ps))) := by
  refine ⟨fun pins s σ H Q I h => ?_⟩
  have hk := g.kp f
  rw [← g.c, ← g.K] at hk
  refine wpAny_Call_Name_kw (ld_glob I (g.gl hs) (by rw [g.mg]; exact g.nm.fn x f hx) ?_ hdb)
  obtain ⟨U0, δ0, h⟩ := tM.bind (R1 := ROs r) anti_ROs (show tM r (RO r) ((evEs cx ps).bind fun os => callM cx f os) σ H Q from h)
  rw [g.c] at hk
  refine PySem.W.callWith_K (h₀ := X.base) I.ok.mod.kin hk (thn (ha.run pos pins s σ H (fun vs H1 => spC r.c (cx.call cx.hot f) r.pn vs H1 Q (fun cls d H' => r.W cls d σ H')) I (tM.mono h fun vs H1 ⟨U1, δ1, os, n1⟩ => call_to g.io n1.A0 n1.A n1.s n1.rr n1.k)) fun us s1 ⟨vs, H1, I1, rv, q⟩ => ⟨I1.kIn, run_g g I1 rv q⟩) he hpl
theorem e_call0 (g : Gd m glb k N sc r X cx) {f : Nat} {x : Str} {q : Pos} (hx : glb x = some (.fn f)) (hs : sc.names.lookup x = some .globalImplicit) (hdb : (x == ("__debug__" : Str)) = false) : PE X (.Call (.Name x q) [] [] pos) (tE r (evE cx (.call f []))) := by
  refine ⟨fun pins s σ H Q I h => ?_⟩
  have hk := g.kp f
  rw [← g.c, ← g.K] at hk
  refine wpAny_Call_Name_kw (ld_glob I (g.gl hs) (by rw [g.mg]; exact g.nm.fn x f hx) ?_ hdb)
  obtain ⟨U0, δ0, A0, h⟩ := h
  have e : evE cx (.call f []) δ0 = callM cx f [] δ0 := rfl
  rw [e] at h
  rw [g.c] at hk
  exact PySem.W.callWith_K0 I.kIn hk (run_g (us := []) (vs := []) g I .nil (call_to g.io A0 A0 StpE.refl .nil h))
def notAttr : Expr → Bool
  | .Attribute _ _ _ => false
  | _ => true
theorem call_eq {func : Expr} {args : List Expr} {env : Env} (h : notAttr func = true) : eval (.Call func args [] pos) env = (do callWith pos (← eval func env) [] (backTo pos (starEach args env)) (backToKw pos (keywordEach [] env))) := by
  cases func <;> first | rfl | cases h
theorem e_callv (g : Gd m glb k N sc r X cx) {e : Expr} {es : List Expr} {ps : List PX} (hf : PE X b (tE r (evE cx pb))) (hn : notAttr b = true) (ha : PA X (e :: es) (tA r (evEs cx ps))) (he : starEach (e :: es) X.env = (false, eval e X.env) :: starEach es X.env) (hpl : (backTo pos (starEach es X.env)).any (·.1) = false) :
    PE X (.Call b (e :: es) [] pos) (tE r (evE cx (.callv pb ps))) := by
  refine ⟨fun pins s σ H Q I h => ?_⟩
  obtain ⟨U0, δ0, h⟩ := tM.bind (R1 := RO r) anti_RO (show tM r (RO r) ((evE cx pb).bind fun x => (rdM x).bind fun d => match d with | .fn g => (evEs cx ps).bind fun os => callM cx g os | _ => M.stuck) σ H Q from h)
  refine Call_ (thn (hf.run pins s σ H _ I h) fun u s1 ⟨v, H1, I1, rv, U1, δ1, o, n1⟩ => ?_) (call_eq hn)
  obtain ⟨dd, e1, kk⟩ := n1.k.rd
  split at kk
  · rename_i f
    have ev := (n1.A.rd n1.rr e1).fn
    subst ev
    cases rv
    have hk := g.kp f
    rw [← g.c, ← g.K, g.c] at hk
    have n1' : Nx r (RO r) (RO r) Q σ δ0 U0 H (fun _ => (evEs cx ps).bind fun os => callM cx f os) (.ref (r.c.fa f)) U1 δ1 H1 o := ⟨n1.A0, n1.A, n1.rr, n1.s, kk⟩
    rw [g.c]
    refine PySem.W.callWith_K (h₀ := X.base) I.ok.mod.kin hk (thn (ha.run pos pins s1 σ H1 (fun vs H2 => spC r.c (cx.call cx.hot f) r.pn vs H2 Q (fun cls d H' => r.W cls d σ H')) I1 ((n1'.on (R2 := ROs r) anti_ROs rfl).mono fun vs H2 ⟨U2, δ2, os, n2, _, _⟩ => call_to g.io n2.A0 n2.A n2.s n2.rr n2.k)) fun us s2 ⟨vs, H2, I2, rvs, q⟩ => ⟨I2.kIn, run_g g I2 rvs q⟩) he hpl
  · exact kk.elim
end
end Ev

set_option Elab.async false
set_option linter.all false
set_option maxRecDepth 100000
set_option maxHeartbeats 2000000
/-! Part O: statements. -/
namespace Ev
open PySem L2 PyProof.Rows
/-- what a def gives back -/
def AnsS (c : RC) (σ0 : Sg) (δ0 : Dst) (H0 : Hp) (U : AS) (H : Hp) (σ : Sg) (δ : Dst) (v : V) (o : Bool) (d : D) : Prop := if o then ∃ a, v = .ref a ∧ U a ∧ OwnC c U H a d ∧ (∀ i e, ¬ Has σ δ i a e) ∧ (Root σ0 δ0 a ∨ H0 a = none) else Rep c U H v d
def ContS (r : Ar) (E : Ends) (σ0 : Sg) (δ0 : Dst) (U0 : AS) (H0 : Hp) : Option (Rs Fl) → Prop
  | none => False
  | some (.er e δ') => ∀ cls d σ' U' H', ExcIs r.c e cls d → Abs r.c r.pn U' H' σ' δ' → Stp r.io σ0 δ0 U0 H0 σ' δ' U' H' → r.W cls d σ' H'
  | some (.ok .nx δ') => ∀ σ' U' H', Abs r.c r.pn U' H' σ' δ' → Stp r.io σ0 δ0 U0 H0 σ' δ' U' H' → E.nx σ' H'
  | some (.ok .bk δ') => ∀ σ' U' H', Abs r.c r.pn U' H' σ' δ' → Stp r.io σ0 δ0 U0 H0 σ' δ' U' H' → E.bk σ' H'
  | some (.ok .ct δ') => ∀ σ' U' H', Abs r.c r.pn U' H' σ' δ' → Stp r.io σ0 δ0 U0 H0 σ' δ' U' H' → E.ct σ' H'
  | some (.ok (.rt o d) δ') => ∀ v σ' U' H', Abs r.c r.pn U' H' σ' δ' → AnsS r.c σ0 δ0 H0 U' H' σ' δ' v o d → Stp r.io σ0 δ0 U0 H0 σ' δ' U' H' → E.rt v H'
def tS (r : Ar) (m : M Fl) : TS := fun E σ H => ∃ U δ, Abs r.c r.pn U H σ δ ∧ ContS r E σ δ U H (m δ)
section
variable {r : Ar} {E : Ends} {σ0 σ1 : Sg} {δ0 δ1 : Dst} {U0 U1 : AS} {H0 H1 : Hp}
theorem Stp.none {io : List Bool} {σ σ' : Sg} {δ δ' : Dst} {U U' : AS} {H H' : Hp} (s : Stp io σ δ U H σ' δ' U' H') (a : Addr) (h : H' a = Option.none) : H a = Option.none := by
  by_cases z : H a = Option.none
  · exact z
  · exact absurd h (s.fr.there a z)
theorem AnsS.back {c : RC} {U : AS} {H : Hp} {σ : Sg} {δ : Dst} {v : V} {o : Bool} {d : D} {io : List Bool} (s : Stp io σ0 δ0 U0 H0 σ1 δ1 U1 H1) (h : AnsS c σ1 δ1 H1 U H σ δ v o d) : AnsS c σ0 δ0 H0 U H σ δ v o d := by
  cases o with
  | false => exact h
  | true =>
    obtain ⟨a, e, u, ow, n, z⟩ := h
    refine ⟨a, e, u, ow, n, ?_⟩
    rcases z with z | z
    · exact s.rt a z
    · exact .inr (s.none a z)
theorem ContS.rebase {x : Option (Rs Fl)} (s : Stp r.io σ0 δ0 U0 H0 σ1 δ1 U1 H1) (trk : ∀ a, U0 a → H0 a ≠ Option.none) (h : ContS r E σ0 δ0 U0 H0 x) : ContS r E σ1 δ1 U1 H1 x := by
  match x, h with
  | some (.er e δ'), h => exact fun cls d σ' U' H' x A s' => h cls d σ' U' H' x A (s.trans s' trk)
  | some (.ok .nx δ'), h => exact fun σ' U' H' A s' => h σ' U' H' A (s.trans s' trk)
  | some (.ok .bk δ'), h => exact fun σ' U' H' A s' => h σ' U' H' A (s.trans s' trk)
  | some (.ok .ct δ'), h => exact fun σ' U' H' A s' => h σ' U' H' A (s.trans s' trk)
  | some (.ok (.rt o d) δ'), h => exact fun v σ' U' H' A w s' => h v σ' U' H' A (w.back s) (s.trans s' trk)
/-- behind an expression of a statement -/
structure NxS {γ α : Type} (r : Ar) (R1 : Rl γ α) (E : Ends) (σ : Sg) (δ0 : Dst) (U0 : AS) (H0 : Hp) (f : α → M Fl) (g : γ) (U1 : AS) (δ1 : Dst) (H1 : Hp) (x : α) : Prop where
  A0 : Abs r.c r.pn U0 H0 σ δ0
  A : Abs r.c r.pn U1 H1 σ δ1
  rr : R1 H0 U1 H1 σ δ1 g x
  s : StpE r.io σ δ0 U0 H0 δ1 U1 H1
  k : ContS r E σ δ0 U0 H0 (f x δ1)
theorem ContS.pre {γ α : Type} {R1 : Rl γ α} {σ : Sg} {m : M α} {f : α → M Fl} (A0 : Abs r.c r.pn U0 H0 σ δ0) (h : ContS r E σ δ0 U0 H0 (m.bind f δ0)) : Cont r R1 (fun g H1 => ∃ U1 δ1 x, NxS r R1 E σ δ0 U0 H0 f g U1 δ1 H1 x) σ δ0 U0 H0 (m δ0) := by
  unfold M.bind at h
  cases e : m δ0 with
  | none => rw [e] at h; exact h
  | some y =>
    rw [e] at h
    cases y with
    | er e δ' => exact fun cls d U' H' x A' s' => h cls d σ U' H' x A' s'.st
    | ok a δ' => exact fun g U' H' A' R' s' => ⟨U', δ', a, ⟨A0, A', R', s', h⟩⟩
theorem tS.pre {γ α : Type} {R1 : Rl γ α} {σ : Sg} {H : Hp} {m : M α} {f : α → M Fl} (h : tS r (m.bind f) E σ H) : ∃ U0 δ0, tM r R1 m σ H fun g H1 => ∃ U1 δ1 x, NxS r R1 E σ δ0 U0 H f g U1 δ1 H1 x := by
  obtain ⟨U, δ, A, k⟩ := h
  exact ⟨U, δ, U, δ, A, ContS.pre A k⟩
theorem NxS.on {γ γ2 α β : Type} {R1 : Rl γ α} {R2 : Rl γ2 β} {σ : Sg} {g : γ} {x : α} {f : α → M Fl} {m : M β} {f2 : β → M Fl} (n : NxS r R1 E σ δ0 U0 H0 f g U1 δ1 H1 x) (an : Anti R2) (e : f x = m.bind f2) : tM r R2 m σ H1 fun g2 H2 => ∃ U2 δ2 y, NxS r R2 E σ δ0 U0 H0 f2 g2 U2 δ2 H2 y ∧ StpE r.io σ δ1 U1 H1 δ2 U2 H2 := by
  refine ⟨U1, δ1, n.A, ?_⟩
  have k := n.k
  rw [e] at k
  unfold M.bind at k
  cases e : m δ1 with
  | none => rw [e] at k; exact k
  | some y =>
    rw [e] at k
    cases y with
    | er e δ' => exact fun cls d U' H' x A' s' => k cls d σ U' H' x A' (n.s.st.trans s'.st n.A0.trk)
    | ok a δ' => exact fun g U' H' A' R' s' => ⟨U', δ', a, ⟨n.A0, A', an _ _ _ _ _ _ _ _ n.s.gone R', n.s.trans s' n.A0.trk, k⟩, s'⟩
/-- what is left, as a statement's reading -/
theorem NxS.last {γ α : Type} {R1 : Rl γ α} {σ : Sg} {g : γ} {x : α} {f : α → M Fl} (n : NxS r R1 E σ δ0 U0 H0 f g U1 δ1 H1 x) : tS r (f x) E σ H1 := ⟨U1, δ1, n.A, n.k.rebase n.s.st n.A0.trk⟩
theorem ContS.rd {σ : Sg} {δ : Dst} {o : Opd} {f : D → M Fl} (h : ContS r E σ δ0 U0 H0 ((rdM o).bind f δ)) : ∃ d, rdO δ o = some d ∧ ContS r E σ δ0 U0 H0 (f d δ) := by
  cases e : rdO δ o with
  | none => rw [bind_no (rdM_no e)] at h; exact h.elim
  | some d => rw [bind_ok (rdM_ok e)] at h; exact ⟨d, rfl, h⟩
theorem ContS.rds {σ : Sg} {δ : Dst} {os : List Opd} {f : List D → M Fl} (h : ContS r E σ δ0 U0 H0 ((rdsM os).bind f δ)) : ∃ d, rdOs δ os = some d ∧ ContS r E σ δ0 U0 H0 (f d δ) := by
  have e0 := rdsM_is δ os
  cases e : rdOs δ os with
  | none => rw [e] at e0; rw [bind_no e0] at h; exact h.elim
  | some d => rw [e] at e0; rw [bind_ok e0] at h; exact ⟨d, rfl, h⟩
theorem ContS.opt {α : Type} {σ : Sg} {δ : Dst} {x : Option α} {f : α → M Fl} (h : ContS r E σ δ0 U0 H0 ((M.opt x).bind f δ)) : ∃ d, x = some d ∧ ContS r E σ δ0 U0 H0 (f d δ) := by
  cases e : x with
  | none => rw [e] at h; rw [bind_no (show M.opt none δ = none from rfl)] at h; exact h.elim
  | some d => rw [e] at h; exact ⟨d, rfl, h⟩
end
section
variable {m : Md} {glb : Str → Option Gk} {k : Nat} {N : List Str} {sc : Scope} {r : Ar} {X : L2.Cx} {cx : Ev.Cx} {a b d : Expr} {pa pb pd : PX} {pos : Pos} {E : Ends}
theorem s_nil : PSs X [] (tS r (exSs cx [])) := pss_mono pss_nil fun E σ H ⟨U, δ, A, h⟩ => h σ U H A Stp.refl
theorem s_cons {st : Stmt} {rest : List Stmt} {s : Stm} {ss : List Stm} (h1 : PS X st (tS r (exS cx s))) (h2 : PSs X rest (tS r (exSs cx ss))) : PSs X (st :: rest) (tS r (exSs cx (s :: ss))) := by
  refine pss_mono (pss_cons h1 h2) fun E σ H ⟨U, δ, A, h⟩ => ?_
  refine ⟨U, δ, A, ?_⟩
  have e : exSs cx (s :: ss) δ = ((exS cx s).bind fun f => match f with | .nx => exSs cx ss | r => M.pure r) δ := rfl
  rw [e] at h
  cases e1 : exS cx s δ with
  | none => rw [bind_no e1] at h; exact h
  | some y =>
    cases y with
    | er x δ' => rw [bind_er e1] at h; exact h
    | ok f δ' =>
      rw [bind_ok e1] at h
      cases f with
      | nx => exact fun σ' U' H' A' s' => ⟨U', δ', A', h.rebase s' A.trk⟩
      | bk => exact h
      | ct => exact h
      | rt o d => exact h
theorem s_pass : PS X (.Pass pos) (tS r (exS cx .pass)) := ps_mono ps_pass fun E σ H ⟨U, δ, A, h⟩ => h σ U H A Stp.refl
theorem s_brk : PS X (.Break pos) (tS r (exS cx .brk)) := ps_mono ps_break fun E σ H ⟨U, δ, A, h⟩ => h σ U H A Stp.refl
theorem s_cnt : PS X (.Continue pos) (tS r (exS cx .cnt)) := ps_mono ps_continue fun E σ H ⟨U, δ, A, h⟩ => h σ U H A Stp.refl
theorem s_retN : PS X (.Return none pos) (tS r (exS cx .retN)) := ps_mono ps_retN fun E σ H ⟨U, δ, A, h⟩ => h .non σ U H A (show Rep _ _ _ _ _ from .non) Stp.refl
def noSwap : Expr → Bool
  | .ListComp _ _ _ _ => false
  | .SetComp _ _ _ _ => false
  | .DictComp _ _ _ _ _ => false
  | _ => true
theorem swaps_no {e : Expr} {t : Option Expr} {l : Nat} {env : Env} (h : noSwap e = true) : swapsWith e t l env = pure false := by
  cases e <;> first | rfl | cases h
theorem s_ex (ha : PE X a (tE r (evE cx pa))) (h : noSwap a = true) : PS X (.Expr a pos) (tS r (exS cx (.ex pa))) := by
  refine ps_mono (ps_expr ha (swaps_no h)) fun E σ H h => ?_
  obtain ⟨U0, δ0, h⟩ := tS.pre (R1 := RO r) (show tS r ((evE cx pa).bind fun _ => M.pure .nx) E σ H from h)
  exact tM.mono h fun v H1 ⟨U1, δ1, x, n⟩ => n.k σ U1 H1 n.A n.s.st
theorem s_if {as bs : List Stmt} {sa sb : List Stm} (ht : PT X d (tT r (evT cx pd))) (ha : PSs X as (tS r (exSs cx sa))) (hb : PSs X bs (tS r (exSs cx sb))) : PS X (.If d as bs pos) (tS r (exS cx (.ifS pd sa sb))) := by
  refine ps_mono (ps_if ht ha hb) fun E σ H h => ?_
  obtain ⟨U0, δ0, h⟩ := tS.pre (R1 := RT) (show tS r ((evT cx pd).bind fun k => if k then exSs cx sa else exSs cx sb) E σ H from h)
  refine tM.mono h fun v H1 ⟨U1, δ1, x, n⟩ => ?_
  have e : v = x := n.rr
  subst e
  have := n.last
  cases v with
  | true => exact this
  | false => exact this
theorem stp_non {io : List Bool} {σ : Sg} {δ : Dst} {U : AS} {H : Hp} {i : Nat} {d : D} (h : δ[i]? = some (Sl.own d)) : Stp io σ δ U H σ (δ.set i .non) U H where
  fr := Fr'.refl
  rt := fun a ⟨j, e, h1, h2⟩ => by
    by_cases z : i = j
    · subst z
      rw [set_at h] at h1; cases h1
    · rw [List.getElem?_set_ne z] at h1
      exact .inl ⟨j, e, h1, h2⟩
  io := fun _ _ => rfl
  lk := fun j e h1 => ⟨by
    rw [List.getElem?_set_ne fun z => by rw [z, h1] at h; cases h]
    exact h1, rfl⟩
theorem Abs.non {c : RC} {pn : Pn} {σ : Sg} {δ : Dst} {U : AS} {H : Hp} {i : Nat} {x : Sl} (A : Abs c pn U H σ δ) (h : δ[i]? = some x) : Abs c pn U H σ (δ.set i .non) ∧ ∀ j y, (δ.set i .non)[j]? = some y → y ≠ .non → j ≠ i ∧ δ[j]? = some y := by
  have old : ∀ j y, (δ.set i .non)[j]? = some y → y ≠ .non → j ≠ i ∧ δ[j]? = some y := fun j y h1 n => by
    by_cases z : i = j
    · subst z
      rw [set_at h] at h1; cases h1
      exact absurd rfl n
    · rw [List.getElem?_set_ne z] at h1
      exact ⟨fun w => z w.symm, h1⟩
  have hold : ∀ j d, ((δ.set i .non)[j]? = some (Sl.own d) ∨ (δ.set i .non)[j]? = some (Sl.lock d)) → δ[j]? = some (Sl.own d) ∨ δ[j]? = some (Sl.lock d) := fun j d h => by
    rcases h with h | h
    · exact .inl (old j _ h fun z => nomatch z).2
    · exact .inr (old j _ h fun z => nomatch z).2
  exact ⟨⟨by rw [List.length_set]; exact A.len, fun j d h1 => A.val j d (old j _ h1 fun z => nomatch z).2, fun j d h1 => A.own j d (hold j d h1), fun j l b d e h1 h2 => A.dis j l b d e ⟨hold j d h1.1, h1.2⟩ ⟨hold l e h2.1, h2.2⟩, A.trk⟩, old⟩
theorem s_ret (ha : PE X a (tE r (evE cx pa))) (g : Gd m glb k N sc r X cx) : PS X (.Return (some a) pos) (tS r (exS cx (.ret pa))) := by
  refine ps_mono (ps_ret ha) fun E σ H h => ?_
  obtain ⟨U0, δ0, h⟩ := tS.pre (R1 := RO r) (show tS r ((evE cx pa).bind (retM cx.io)) E σ H from h)
  refine tM.mono h fun v H1 ⟨U1, δ1, x, n⟩ => ?_
  have kk := n.k
  cases x with
  | t b d =>
    have e : retM cx.io (.t b d) δ1 = if isExc d then none else some (.ok (.rt b d) δ1) := rfl
    rw [e] at kk
    split at kk
    · exact kk.elim
    · rename_i hd
      refine kk v σ U1 H1 n.A ?_ n.s.st
      cases b with
      | false => exact n.rr.rep (by simpa using hd)
      | true =>
        obtain ⟨a, e, h0, u, ow, nh⟩ := n.rr
        exact ⟨a, e, u, ow, nh, .inr h0⟩
  | s i =>
    have e : retM cx.io (.s i) δ1 = (match δ1[i]? with
      | some (.val d) => if isExc d then none else some (.ok (.rt false d) δ1)
      | some (.own d) => if cx.io.getD i false then none else some (.ok (.rt true d) (δ1.set i .non))
      | _ => none) := rfl
    rw [e] at kk
    have hv := n.rr.1
    split at kk
    · rename_i d hi
      split at kk
      · exact kk.elim
      · rename_i hd
        obtain ⟨w, e1, rp⟩ := n.A.val i d hi
        rw [hv] at e1; cases e1
        exact kk v σ U1 H1 n.A (rp.rep (by simpa using hd)) n.s.st
    · rename_i d hi
      split at kk
      · exact kk.elim
      · obtain ⟨b, e1, u, ow⟩ := n.A.own i d (.inl hi)
        rw [hv] at e1; cases e1
        obtain ⟨A2, old⟩ := n.A.non hi
        refine kk _ σ U1 H1 A2 ⟨b, rfl, u, ow, fun j e ⟨h1, h2⟩ => ?_, ?_⟩ (n.s.st.trans (stp_non hi) n.A0.trk)
        · have hj : j ≠ i ∧ (δ1[j]? = some (Sl.own e) ∨ δ1[j]? = some (Sl.lock e)) := by
            rcases h1 with h1 | h1
            · obtain ⟨y1, y2⟩ := old j _ h1 fun z => nomatch z
              exact ⟨y1, .inl y2⟩
            · obtain ⟨y1, y2⟩ := old j _ h1 fun z => nomatch z
              exact ⟨y1, .inr y2⟩
          exact hj.1 (n.A.dis j i b e d ⟨hj.2, h2⟩ ⟨.inl hi, hv⟩)
        · exact n.s.st.rt b ⟨i, d, hi, hv⟩
    · exact kk.elim
/-! ### stores -/
theorem TgS.step {io : List Bool} {V0 : Nat → Prop} {o : Bool} {v : V} {σ σ0 σ' : Sg} {δ δ0 δ' : Dst} {U U0 : AS} {H H0 : Hp} (s : Stp io σ0 δ0 U0 H0 σ δ U H) (t : TgS io V0 o v σ δ σ' δ') (hn : o = true → ∀ a, v = .ref a → H0 a = none) : Stp io σ0 δ0 U0 H0 σ' δ' U H where
  fr := s.fr
  rt := fun a ⟨j, d, h1, h2⟩ => by
    rcases t.own j d (.inl h1) with ⟨e1, e2⟩ | ⟨z, e⟩
    · exact s.rt a ⟨j, d, by rw [← e1]; exact h1, by rw [← e2]; exact h2⟩
    · rw [e] at h2
      cases h2
      exact .inr (hn z a rfl)
  io := fun i h => (t.io i h).trans (s.io i h)
  lk := fun i d h => by
    obtain ⟨h1, h2⟩ := s.lk i d h
    obtain ⟨h3, h4⟩ := t.lk i d h1
    exact ⟨h3, h4.trans h2⟩
def tGx (r : Ar) (t : Tgt) : TG := fun v σ H Q => ∃ o, tG r t o v σ H Q
theorem g_x {tg : Expr} {t : Tgt} (h : ∀ o, PG X tg (tG r t o)) : PG X tg (tGx r t) := ⟨fun pins s σ H v u Q I rl ⟨o, q⟩ => (h o).run pins s σ H v u Q I rl q⟩
theorem asg_in {t : Tgt} {σ : Sg} {H : Hp} (h : tS r (exS cx (.asg t pa)) E σ H) : (cx.hot && tgTp t) = false ∧ tS r ((evE cx pa).bind fun x => (escM cx.io x).bind fun p => (tgtM cx t p.1 p.2).bind fun _ => M.pure .nx) E σ H := by
  have e : exS cx (.asg t pa) = if cx.hot && tgTp t then M.stuck else (evE cx pa).bind fun x => (escM cx.io x).bind fun p => (tgtM cx t p.1 p.2).bind fun _ => M.pure .nx := rfl
  rw [e] at h
  cases z : (cx.hot && tgTp t) with
  | true =>
    rw [z] at h
    obtain ⟨_, _, _, w⟩ := h
    exact w.elim
  | false =>
    rw [z] at h
    exact ⟨rfl, h⟩
theorem asg_to (g : Gd m glb k N sc r X cx) {t : Tgt} {σ : Sg} {H : Hp} (h : tS r (exS cx (.asg t pa)) E σ H) : tAsg (tE r (evE cx pa)) (tGx r t) E σ H := by
  obtain ⟨U0, δ0, h⟩ := tS.pre (R1 := RO r) (show tS r ((evE cx pa).bind fun x => (escM cx.io x).bind fun p => (tgtM cx t p.1 p.2).bind fun _ => M.pure .nx) E σ H from (asg_in h).2)
  refine tM.mono h fun v H1 ⟨U1, δ1, x, n⟩ => ?_
  have kk := n.k
  rw [← g.io] at kk
  rcases esc_any n.A0 n.A n.s n.rr rfl with e | ⟨bb, dd, δ2, U2, e, hd, A2, s2, s12, op, hb⟩
  · rw [bind_no e] at kk; exact kk.elim
  · rw [bind_ok e] at kk
    dsimp only at kk
    cases e2 : tgtM cx t bb dd δ2 with
    | none => rw [bind_no e2] at kk; exact kk.elim
    | some y =>
      cases y with
      | er x δ' =>
        unfold tgtM at e2
        split at e2
        · split at e2
          · cases e2
          · split at e2 <;> cases e2
        · split at e2 <;> cases e2
      | ok w δ3 =>
        rw [bind_ok e2] at kk
        have e3 := tgtM_in e2
        rw [← g.io] at e3
        refine ⟨bb, H, U2, δ2, dd, A2, op, ?_⟩
        rw [e3]
        intro σ' A' ts
        refine kk σ' U2 H1 A' (ts.step s2.st fun hb2 a ea => ?_)
        subst hb2 ea
        obtain ⟨a', e5, h0, _⟩ := op
        cases e5
        exact h0
theorem s_set (g : Gd m glb k N sc r X cx) {i : Nat} {x : Str} {npos : Pos} (ha : PE X a (tE r (evE cx pa))) (hs : swapsWith a (some (.Name x npos)) pos.line X.env = pure false) (hN : N[i]? = some x) (hv : L2.Loc X.env.scope x) (hf : X.fn x = true ∨ X.env.scope.names.lookup x = some .local) : PS X (.Assign [.Name x npos] a pos) (tS r (exS cx (.asg (.nm i) pa))) := by
  have p := ps_set (X := X) (i := i) (pos := pos) (pos' := npos) (by rw [g.hN]; exact g.nd) (by rw [g.hN]; exact hN) hv ha hs hf
  refine ⟨fun pins s σ H D I h => p.run pins s σ H D I ?_⟩
  refine tM.mono (asg_to g h) fun v H1 ⟨o, H0, U, δ, d, A, rp, h⟩ => ?_
  show D.nx _ _
  cases e : tgt r.io (.nm i) o d δ with
  | none => rw [e] at h; exact h.elim
  | some δ' =>
    rw [e] at h
    obtain ⟨s, hi, nl, hio, rfl⟩ := tgt_nm_in e
    exact h _ (A.put hi rp) (put_s A.len hi nl hio)
theorem s_asg (g : Gd m glb k N sc r X cx) {t : Tgt} {tg : Expr} (ha : PE X a (tE r (evE cx pa))) (hg : ∀ o, PG X tg (tG r t o)) (hs : noSwap a = true) (hw : swappedStores [tg] a X.env = pure none) (h1 : (assignEach [tg] X.env).map (·.2) = [assign tg X.env]) : PS X (.Assign [tg] a pos) (tS r (exS cx (.asg t pa))) :=
  ps_mono (ps_asg ha (g_x hg) (show swapsWith a (some tg) pos.line X.env = pure false from swaps_no hs) hw h1) fun E σ H h => asg_to g h
theorem iop_mulW : OpR X (inplaceOp .Mult) (rI CMulW fun i j => .int (i * j)) := opI fun _ _ _ _ _ _ _ hc q => imul_int q hc.ok
theorem s_aug (g : Gd m glb k N sc r X cx) {i : Nat} {x : Str} {npos : Pos} {op : Operator} (ha : PE X a (tE r (evE cx pa))) (hN : N[i]? = some x) (hv : L2.Loc X.env.scope x) (hf : X.fn x = true ∨ X.env.scope.names.lookup x = some .local) : PS X (.AugAssign (.Name x npos) op a pos) (tS r (exS cx (.aug i op pa))) := by
  have hp : PIp X op (fun x y H Q => ∃ n dy d, x = .int n ∧ (∃ U, RepR r.c r.pn U H y dy) ∧ augD op n dy = some d ∧ ∀ v, (∃ w, d = .int w ∧ v = .int w) → Q v H) := by
    rintro pins s σ H x y v u Q I rx ry ⟨n, dy, d, rfl, ⟨U, hy⟩, e, q⟩
    unfold augD at e
    split at e
    · cases e
      obtain rfl := hy.int
      exact ip_add pins s σ H _ _ v u Q I rx ry ⟨_, _, rfl, rfl, q _ ⟨_, rfl, rfl⟩⟩
    · cases e
      obtain rfl := hy.int
      exact ip_sub pins s σ H _ _ v u Q I rx ry ⟨_, _, rfl, rfl, q _ ⟨_, rfl, rfl⟩⟩
    · split at e
      · cases e
        rename_i hm
        obtain rfl := hy.int
        unfold mulOk sml at hm
        simp only [Bool.or_eq_true, Bool.and_eq_true, decide_eq_true_eq] at hm
        rcases hm with hm | hm
        · exact iop_mul pins s σ H _ _ v u Q I rx ry ⟨_, _, rfl, rfl, hm, q _ ⟨_, rfl, rfl⟩⟩
        · exact iop_mulW pins s σ H _ _ v u Q I rx ry ⟨_, _, rfl, rfl, hm, q _ ⟨_, rfl, rfl⟩⟩
      · cases e
    · split at e
      · cases e
        rename_i hm
        obtain rfl := hy.int
        simp only [Bool.and_eq_true, decide_eq_true_eq] at hm
        exact iop_fdiv pins s σ H _ _ v u Q I rx ry ⟨_, _, rfl, rfl, hm, q _ ⟨_, rfl, rfl⟩⟩
      · cases e
    · split at e
      · cases e
        rename_i hm
        obtain rfl := hy.int
        exact iop_shr pins s σ H _ _ v u Q I rx ry ⟨_, _, rfl, rfl, of_decide_eq_true hm, q _ ⟨_, rfl, rfl⟩⟩
      · cases e
    · cases e
      obtain rfl := hy.int
      exact iop_and pins s σ H _ _ v u Q I rx ry ⟨_, _, rfl, rfl, q _ ⟨_, rfl, rfl⟩⟩
    · cases e
      obtain rfl := hy.int
      exact iop_or pins s σ H _ _ v u Q I rx ry ⟨_, _, rfl, rfl, q _ ⟨_, rfl, rfl⟩⟩
    · cases e
      obtain rfl := hy.int
      exact iop_xor pins s σ H _ _ v u Q I rx ry ⟨_, _, rfl, rfl, q _ ⟨_, rfl, rfl⟩⟩
    · cases e
  have p := ps_aug (X := X) (i := i) (pos := pos) (pos' := npos) (by rw [g.hN]; exact g.nd) (by rw [g.hN]; exact hN) hv ha hp hf
  refine ⟨fun pins s σ H D I h => p.run pins s σ H D I ?_⟩
  obtain ⟨U0, δ0, A0, h⟩ := h
  have e : exS cx (.aug i op pa) δ0 = ((intAt i).bind fun x => (evE cx pa).bind fun y => (rdM y).bind fun dy => (M.opt (augD op x dy)).bind fun p => (tgtM cx (.nm i) false p).bind fun _ => M.pure .nx) δ0 := rfl
  rw [e] at h
  cases e1 : intAt i δ0 with
  | none => rw [bind_no e1] at h; exact h.elim
  | some y =>
    have e1' := e1
    unfold intAt at e1
    split at e1
    · rename_i n hi
      cases e1
      rw [bind_ok e1'] at h
      obtain ⟨v, hv1, rp⟩ := A0.val i _ hi
      have ev : v = .int n := RepR.int (pn := r.pn) (U := U0) (.inl rp)
      subst ev
      refine ⟨_, hv1, U0, δ0, A0, (ContS.pre (R1 := RO r) A0 h).mono fun w H1 ⟨U1, δ1, o, n1⟩ => ?_⟩
      obtain ⟨dy, h1, kk⟩ := n1.k.rd
      obtain ⟨p, h2, kk⟩ := kk.opt
      refine ⟨n, dy, p, rfl, ⟨U1, n1.A.rd n1.rr h1⟩, h2, fun v ⟨w, ed, ev⟩ => ?_⟩
      subst ed ev
      cases e2 : tgtM cx (.nm i) false (.int w) δ1 with
      | none => rw [bind_no e2] at kk; exact kk.elim
      | some y =>
        cases y with
        | er x δ' =>
          have e3 : (match tgt cx.io (.nm i) false (.int w) δ1 with | none => none | some δ1 => some (Rs.ok () δ1)) = some (.er x δ') := e2
          split at e3 <;> cases e3
        | ok u δ3 =>
          rw [bind_ok e2] at kk
          have e3 := tgtM_in e2
          rw [← g.io] at e3
          obtain ⟨s, hi, nl, hio, rfl⟩ := tgt_nm_in e3
          have rp1 : OpdR r.c r.pn H U1 H1 σ δ1 (.int w) (.t false (.int w)) := Rep.e (pn := r.pn) (.int w)
          exact kk _ U1 H1 (n1.A.put hi rp1) ((put_s n1.A.len hi nl hio).step n1.s.st fun z => nomatch z)
    · cases e1
/-! ### several stores at once -/
theorem escPs_ok {c : RC} {pn : Pn} {io : List Bool} {H0 : Hp} {σ : Sg} {δ0 : Dst} {U0 : AS} {H : Hp} : ∀ {os : List Opd} {vs : List V} {δ : Dst} {U : AS}, Abs c pn U0 H0 σ δ0 → Abs c pn U H σ δ → StpE io σ δ0 U0 H0 δ U H → OpdRs c pn H0 U H σ δ vs os →
    escPs io os δ = none ∨ ∃ ps δ' U', escPs io os δ = some (.ok ps δ') ∧ Abs c pn U' H σ δ' ∧ StpE io σ δ0 U0 H0 δ' U' H ∧ StpE io σ δ U H δ' U' H ∧ OpdRs c pn H0 U' H σ δ' vs (ps.map fun (p : Bool × D) => Opd.t p.1 p.2) ∧ ∀ a, TmpIn a vs (ps.map fun (p : Bool × D) => Opd.t p.1 p.2) → TmpIn a vs os
  | [], _, δ, U, A0, A, s, .nil => .inr ⟨[], δ, U, rfl, A, s, StpE.refl, .nil, fun _ z => z⟩
  | o :: os, _, δ, U, A0, A, s, .cons (v := v) (vs := vs) h t r => by
    unfold escPs
    rcases esc_any A0 A s h rfl with e | ⟨b, d, δ1, U1, e, hd, A1, s1, s2, h1, hb⟩
    · exact .inl (bind_no e)
    · rw [bind_ok e]
      rcases escPs_ok A0 A1 s1 (r.on A A1 s2) with e2 | ⟨ps, δ3, U3, e2, A3, s3, s4, rs, tt⟩
      · exact .inl (bind_no e2)
      · refine .inr ⟨(b, d) :: ps, δ3, U3, bind_ok e2, A3, s3, s2.trans s4 A.trk, .cons (h1.on A1 A3 s4) (fun a dd z1 z2 z3 => ?_) rs, fun a z => ?_⟩
        · have e5 : b = true := by cases z1; rfl
          exact t a d (hb e5) z2 (tt a z3)
        · rcases z with ⟨z1, dd, z2⟩ | z
          · have e5 : b = true := by cases z2; rfl
            exact .inl ⟨z1, d, hb e5⟩
          · exact .inr (tt a z)
def setAll (σ : Sg) : List Nat → List V → Sg
  | i :: is, v :: vs => setAll (σ.set i (some v)) is vs
  | _, _ => σ
theorem par_ok {c : RC} {pn : Pn} {io : List Bool} {H0 : Hp} {U : AS} {H : Hp} {σ0 : Sg} {δ0 : Dst} {U0 : AS} : ∀ {is : List Nat} {ps : List (Bool × D)} {vs : List V} {σ : Sg} {δ δ' : Dst}, (∀ i ∈ is, io.getD i false = false) → Abs c pn U H σ δ → Stp io σ0 δ0 U0 H0 σ δ U H → OpdRs c pn H0 U H σ δ vs (ps.map fun (p : Bool × D) => Opd.t p.1 p.2) → parM is ps δ = some δ' →
    Abs c pn U H (setAll σ is vs) δ' ∧ Stp io σ0 δ0 U0 H0 (setAll σ is vs) δ' U H ∧ vs.length = is.length
  | [], [], _, σ, δ, δ', _, A, s, .nil, e => by cases e; exact ⟨A, s, rfl⟩
  | [], _ :: _, _, _, _, _, _, _, _, _, e => by cases e
  | _ :: _, [], _, _, _, _, _, _, _, _, e => by cases e
  | i :: is, (o, d) :: ps, _, σ, δ, δ', hio, A, s, .cons (v := v) (vs := vs) h t r, e => by
    have e' : (match δ[i]? with
      | some (.lock _) => none
      | some _ => parM is ps (δ.set i (if o then .own d else .val d))
      | none => none) = some δ' := e
    split at e'
    · cases e'
    · rename_i sl hn hi
      have nl : ∀ d, sl ≠ .lock d := fun d z => hn d z
      have A1 := A.put hi h
      have ts := put_s (io := io) (v := v) (o := o) (d := d) A.len hi nl (hio i List.mem_cons_self)
      have s1 := ts.step s fun hb a ea => by
        subst hb ea
        obtain ⟨a', e5, h0, _⟩ := h
        cases e5
        exact h0
      have r1 : OpdRs c pn H0 U H (σ.set i (some v)) (δ.set i (if o then .own d else .val d)) vs (ps.map fun (p : Bool × D) => Opd.t p.1 p.2) := by
        refine keep r fun a ha => ?_
        rintro j e ⟨h1, h2⟩
        rcases ts.own j e h1 with ⟨z1, z2⟩ | ⟨z1, z2⟩
        · exact tmp_has r ha j e ⟨by rw [← z1]; exact h1, by rw [← z2]; exact h2⟩
        · rw [h2] at z2
          injection z2 with z3
          injection z3 with z4
          subst z1
          exact t a d rfl z4.symm ha
      obtain ⟨A2, s2, hl⟩ := par_ok (fun j hj => hio j (List.mem_cons_of_mem _ hj)) A1 s1 r1 e'
      exact ⟨A2, s2, by rw [List.length_cons, List.length_cons, hl]⟩
    · cases e'
where
  keep {c : RC} {pn : Pn} {H0 : Hp} {U : AS} {H : Hp} {σ σ' : Sg} {δ δ' : Dst} : ∀ {vs : List V} {ps : List (Bool × D)}, OpdRs c pn H0 U H σ δ vs (ps.map fun (p : Bool × D) => Opd.t p.1 p.2) → (∀ a, TmpIn a vs (ps.map fun (p : Bool × D) => Opd.t p.1 p.2) → ∀ j e, ¬ Has σ' δ' j a e) → OpdRs c pn H0 U H σ' δ' vs (ps.map fun (p : Bool × D) => Opd.t p.1 p.2)
    | _, [], .nil, _ => .nil
    | _, (b, d) :: ps, .cons h t r, q => by
      refine .cons ?_ t (keep r fun a ha => q a (.inr ha))
      cases b with
      | false => exact h
      | true =>
        obtain ⟨a, e, h0, u, ow, _⟩ := h
        exact ⟨a, e, h0, u, ow, q a (.inl ⟨e, d, rfl⟩)⟩
theorem par_to (g : Gd m glb k N sc r X cx) {is : List Nat} {es : List PX} {σ : Sg} {H : Hp} (h : tS r (exS cx (.par is es)) E σ H) : cx.hot = false ∧ tA r (evEs cx es) σ H fun vs H1 => vs.length = is.length ∧ E.nx (setAll σ is vs) H1 := by
  have e : exS cx (.par is es) = if cx.hot then M.stuck else (evEs cx es).bind fun os => (escPs cx.io os).bind fun ps => fun δ =>
      if is.all (fun i => !cx.io.getD i false) then match parM is ps δ with
        | none => none
        | some δ' => some (.ok .nx δ')
      else none := rfl
  rw [e] at h
  cases hh : cx.hot with
  | true =>
    rw [hh] at h
    obtain ⟨_, _, _, z⟩ := h
    exact z.elim
  | false =>
    rw [hh] at h
    obtain ⟨U0, δ0, h⟩ := tS.pre (R1 := ROs r) (show tS r ((evEs cx es).bind fun os => (escPs cx.io os).bind fun ps => fun δ =>
      if is.all (fun i => !cx.io.getD i false) then match parM is ps δ with
        | none => none
        | some δ' => some (.ok .nx δ')
      else none) E σ H from h)
    refine ⟨rfl, tM.mono h fun vs H1 ⟨U1, δ1, os, n⟩ => ?_⟩
    have kk := n.k
    rw [← g.io] at kk
    rcases escPs_ok n.A0 n.A n.s n.rr with e2 | ⟨ps, δ3, U3, e2, A3, s3, s4, rs, tt⟩
    · rw [bind_no e2] at kk; exact kk.elim
    · rw [bind_ok e2] at kk
      split at kk
      · rename_i hcond
        split at kk
        · exact kk.elim
        · rename_i δ4 hp
          rw [List.all_eq_true] at hcond
          obtain ⟨A5, s5, hl⟩ := par_ok (fun i hi => by simpa using hcond i hi) A3 s3.st rs hp
          exact ⟨hl, kk _ U3 H1 A5 s5⟩
      · exact kk.elim
end
end Ev

set_option Elab.async false
set_option linter.all false
set_option maxRecDepth 100000
set_option maxHeartbeats 2000000
/-! Part P: loops, errors. -/
namespace Ev
open PySem L2 PyProof.Rows
def isTup : Expr → Bool
  | .Tuple _ _ _ => true
  | _ => false
theorem swap_val {ts : List Expr} {k : Nat} {p : Pos} {a : Expr} {env : Env} (h : isTup a = false) : swappedStores [.Tuple ts k p] a env = pure none := by
  cases a <;> first | rfl | cases h
theorem swap_folded {ts vs : List Expr} {k k2 : Nat} {p p2 : Pos} {env : Env} (h : vs.all (foldedForSure 8) = true) : swappedStores [.Tuple ts k p] (.Tuple vs k2 p2) env = pure none := by
  unfold swappedStores
  dsimp only
  repeat' split
  all_goals first
    | rfl
    | (rename_i hn; exact absurd h hn)
theorem swap_par {ts vs : List Expr} {k k2 : Nat} {p p2 : Pos} {env : Env} {names : List Str} (hb : env.blockKind = .function) (h1 : (ts.length == 2 || ts.length == 3) = true) (h2 : vs.length = ts.length) (h3 : (vs.any fun | .Starred .. => true | _ => false) = false)
    (h4 : (ts.filterMap fun | .Name id pos => if env.kindOf id == some .local && pos.line == ((ts.head?.map (·.pos.line)).getD 0) then some id else none | _ => none) = names) (h5 : names.length = ts.length) (h6 : names.eraseDups.length = names.length) (h7 : vs.all (foldedForSure 8) = false) (h8 : vs.all (constantsAlone 8) = false) :
    swappedStores [.Tuple ts k p] (.Tuple vs k2 p2) env = pure (some names) := by
  unfold swappedStores
  dsimp only
  have c1 : (!(ts.length == 2 || ts.length == 3) || vs.length != ts.length || env.blockKind != .function) = false := by
    rw [h1, hb, h2]
    simp
  have c3 : ((ts.filterMap fun | .Name id pos => if env.kindOf id == some .local && pos.line == ((ts.head?.map (·.pos.line)).getD 0) then some id else none | _ => none).length != ts.length || (ts.filterMap fun | .Name id pos => if env.kindOf id == some .local && pos.line == ((ts.head?.map (·.pos.line)).getD 0) then some id else none | _ => none).eraseDups.length != (ts.filterMap fun | .Name id pos => if env.kindOf id == some .local && pos.line == ((ts.head?.map (·.pos.line)).getD 0) then some id else none | _ => none).length) = false := by
    rw [h4, h5, h6, h5]
    simp
  rw [c1, if_neg Bool.false_ne_true]
  split
  · rename_i hn
    exact absurd (hn.symm.trans h3) (by decide)
  · split
    · rename_i hn
      exact absurd (hn.symm.trans c3) (by decide)
    · rw [h7, if_neg Bool.false_ne_true, h8, if_neg Bool.false_ne_true]
      exact congrArg (fun n => (pure (some n) : Sem (Option (List Str)))) h4
section
variable {m : Md} {glb : Str → Option Gk} {k : Nat} {N : List Str} {sc : Scope} {r : Ar} {X : L2.Cx} {cx : Ev.Cx} {a b d : Expr} {pa pb pd : PX} {pos : Pos} {E : Ends}
theorem s_par2 (g : Gd m glb k N sc r X cx) {i j : Nat} {x y : Str} {px py pt : Pos} {kt k2 : Nat} {pt2 : Pos} {es : List PX} (ha : PA X [a, b] (tA r (evEs cx es))) (hi : N[i]? = some x) (hj : N[j]? = some y) (hij : i ≠ j) (hx : sc.names.lookup x = some .local) (hy : sc.names.lookup y = some .local)
    (hw : swappedStores [.Tuple [.Name x px, .Name y py] kt pt] (.Tuple [a, b] k2 pt2) X.env = pure (some [x, y])) : PS X (.Assign [.Tuple [.Name x px, .Name y py] kt pt] (.Tuple [a, b] k2 pt2) pos) (tS r (exS cx (.par [i, j] es))) := by
  refine ⟨fun pins s σ H D I h => ?_⟩
  obtain ⟨hh, h⟩ := par_to g h
  refine (ps_par (g.calm hh) (by rw [g.hN]; exact g.nd) (by rw [g.hN]; exact hi) (by rw [g.hN]; exact hj) hij (by rw [g.hsc]; exact hx) (by rw [g.hsc]; exact hy) ha hw rfl).run pins s σ H D I ?_
  refine tM.mono h fun vs H1 ⟨hl, q⟩ => ?_
  match vs, hl, q with
  | [v, w], _, q => exact ⟨v, w, rfl, q⟩
theorem s_par3 (g : Gd m glb k N sc r X cx) {i j l : Nat} {x y z : Str} {px py pz pt : Pos} {kt k2 : Nat} {pt2 : Pos} {es : List PX} (ha : PA X [a, b, d] (tA r (evEs cx es))) (hi : N[i]? = some x) (hj : N[j]? = some y) (hl : N[l]? = some z) (hij : i ≠ j) (hil : i ≠ l) (hjl : j ≠ l) (hx : sc.names.lookup x = some .local) (hy : sc.names.lookup y = some .local) (hz : sc.names.lookup z = some .local)
    (hw : swappedStores [.Tuple [.Name x px, .Name y py, .Name z pz] kt pt] (.Tuple [a, b, d] k2 pt2) X.env = pure (some [x, y, z])) : PS X (.Assign [.Tuple [.Name x px, .Name y py, .Name z pz] kt pt] (.Tuple [a, b, d] k2 pt2) pos) (tS r (exS cx (.par [i, j, l] es))) := by
  refine ⟨fun pins s σ H D I h => ?_⟩
  obtain ⟨hh, h⟩ := par_to g h
  refine (ps_par3 (g.calm hh) (by rw [g.hN]; exact g.nd) (by rw [g.hN]; exact hi) (by rw [g.hN]; exact hj) (by rw [g.hN]; exact hl) hij hil hjl (by rw [g.hsc]; exact hx) (by rw [g.hsc]; exact hy) (by rw [g.hsc]; exact hz) ha hw rfl).run pins s σ H D I ?_
  refine tM.mono h fun vs H1 ⟨hl, q⟩ => ?_
  match vs, hl, q with
  | [u, v, w], _, q => exact ⟨u, v, w, rfl, q⟩
/-! ### for -/
def forF (is : List Nat) : Option (Rs Fl) → Option (Rs Fl)
  | none => none
  | some (.er e δ') => some (.er e δ')
  | some (.ok (.rt o d) δ') => some (.ok (.rt o d) δ')
  | some (.ok f δ') => match unlockAll is δ' with
    | none => none
    | some δ2 => some (.ok f δ2)
theorem for_eq {tg : Tgt} {kd : Nat} {as : List PX} {body : List Stm} : exS cx (.forS tg kd as body) = if cx.hot then M.stuck else (evEs cx as).bind fun os => (rdsM os).bind fun ds => (M.opt (items kd ds)).bind fun xs => fun δ => forF (walked δ os) (turns (fun d => (tgtM cx tg false d).bind fun _ => exSs cx body) xs (lockAll (walked δ os) δ)) := rfl
theorem for_end {σ σ' : Sg} {δ0 δ1 δL δ δ2 : Dst} {U0 U1 U : AS} {H H1 H' : Hp} {os : List Opd} (trk : ∀ a, U0 a → H a ≠ none) (A1 : Abs r.c r.pn U1 H1 σ δ1) (s : StpE r.io σ δ0 U0 H δ1 U1 H1) (L : LK (walked δ1 os) δ1 δL) (A : Abs r.c r.pn U H' σ' δ) (st : Stp r.io σ δL U1 H1 σ' δ U H') (hu : unlockAll (walked δ1 os) δ = some δ2) :
    Abs r.c r.pn U H' σ' δ2 ∧ Stp r.io σ δ0 U0 H σ' δ2 U H' := by
  have UL' := unlock_all _ _ _ hu
  refine ⟨A.sl UL'.sl, s.st.trans ⟨st.fr.weak fun a ⟨i, d, h1, h2⟩ => ⟨i, d, (L.own i d h1).1, h2⟩, fun a ⟨j, d, h1, h2⟩ => ?_, st.io, fun i d h => ?_⟩ trk⟩
  · rcases UL'.own j d h1 with h3 | ⟨h3, h4⟩
    · rcases st.rt a ⟨j, d, h3, h2⟩ with ⟨i, e, h5, h6⟩ | z
      · exact .inl ⟨i, e, (L.own i e h5).1, h6⟩
      · exact .inr z
    · obtain ⟨e, h5⟩ := walked_own h3
      have h6 : δL[j]? = some (Sl.lock e) := by
        rcases L.sl.symm.hold (.inl h5) with z | z
        · exact absurd h3 (L.own j e z).2
        · exact z
      have h7 := (st.lk j e h6).2
      rw [h7] at h2
      exact .inl ⟨j, e, h5, h2⟩
  · obtain ⟨h2, h3⟩ := st.lk i d (L.lk i d h)
    refine ⟨UL'.lk i d h2 fun z => ?_, h3⟩
    obtain ⟨e, h4⟩ := walked_own z
    rw [h] at h4; cases h4
theorem for_to (g : Gd m glb k N sc r X cx) {tg : Tgt} {kd : Nat} {as : List PX} {body : List Stm} {σ : Sg} {H : Hp} (h : tS r (exS cx (.forS tg kd as body)) E σ H) : cx.hot = false ∧ tFor (iD r.c r.pn kd (tA r (evEs cx as))) (tG r tg false) (tS r (exSs cx body)) E σ H := by
  rw [for_eq] at h
  cases hh : cx.hot with
  | true =>
    rw [hh] at h
    obtain ⟨_, _, _, z⟩ := h
    exact z.elim
  | false =>
    rw [hh] at h
    refine ⟨rfl, ?_⟩
    obtain ⟨U0, δ0, h⟩ := tS.pre (R1 := ROs r) (show tS r ((evEs cx as).bind fun os => (rdsM os).bind fun ds => (M.opt (items kd ds)).bind fun xs => fun δ => forF (walked δ os) (turns (fun d => (tgtM cx tg false d).bind fun _ => exSs cx body) xs (lockAll (walked δ os) δ))) E σ H from h)
    refine tM.mono h fun ws H1 ⟨U1, δ1, os, n1⟩ => ?_
    obtain ⟨ds, e1, kk⟩ := n1.k.rds
    obtain ⟨xs, e2, kk⟩ := kk.opt
    refine ⟨U1, ds, xs, n1.A.rds n1.rr e1, e2, fun J wk => ?_⟩
    have L := lock_all (walked δ1 os) δ1
    generalize hδL : lockAll (walked δ1 os) δ1 = δL at L kk
    have AL : Abs r.c r.pn U1 H1 σ δL := n1.A.sl L.sl
    have endB : ∀ {σ' : Sg} {H' : Hp} {U : AS} {δ δ2 : Dst}, Abs r.c r.pn U H' σ' δ → Stp r.io σ δL U1 H1 σ' δ U H' → unlockAll (walked δ1 os) δ = some δ2 → Abs r.c r.pn U H' σ' δ2 ∧ Stp r.io σ δ0 U0 H σ' δ2 U H' := fun A st hu => for_end n1.A0.trk n1.A n1.s L A st hu
    have sL : Stp r.io σ δ0 U0 H σ δL U1 H1 := (n1.s.trans (stp_lock L) n1.A0.trk).st
    refine for_it wk (fun i σ' H' => ∃ U δ, Abs r.c r.pn U H' σ' δ ∧ Stp r.io σ δL U1 H1 σ' δ U H' ∧ ContS r E σ δ0 U0 H (forF (walked δ1 os) (turns (fun d => (tgtM cx tg false d).bind fun _ => exSs cx body) (xs.drop i) δ))) ⟨U1, δL, AL, Stp.refl, kk⟩ (fun i σ' H' _ ⟨U, δ, A, st, _⟩ => ?_) (fun i x σ' H2 H3 hi ⟨U, δ, A, st, kk⟩ ⟨sm, hy⟩ => ?_) (fun σ' H' ⟨U, δ, A, st, kk⟩ => ?_)
    · exact ⟨U, (HeldRs.step AL st (held_at n1.A L (fun _ z => z) n1.rr e1)).rep⟩
    · have hr : RepRs r.c r.pn U H2 ws ds := (HeldRs.step AL st (held_at n1.A L (fun _ z => z) n1.rr e1)).rep
      obtain ⟨dd, hd, rx⟩ := hy U hr
      have hdrop : xs.drop i = dd :: xs.drop (i + 1) := by
        obtain ⟨h1, h2⟩ := List.getElem?_eq_some_iff.mp hd
        rw [← h2]
        exact List.drop_eq_getElem_cons h1
      rw [hdrop] at kk
      have et : ∀ rest δ, turns (fun d => (tgtM cx tg false d).bind fun _ => exSs cx body) (dd :: rest) δ = (((tgtM cx tg false dd).bind fun _ => exSs cx body).bind fun f => match f with
        | .nx => turns (fun d => (tgtM cx tg false d).bind fun _ => exSs cx body) rest
        | .ct => turns (fun d => (tgtM cx tg false d).bind fun _ => exSs cx body) rest
        | .bk => M.pure .nx
        | .rt o x => M.pure (.rt o x)) δ := fun _ _ => rfl
      rw [et, bind_assoc] at kk
      have A3 : Abs r.c r.pn U H3 σ' δ := A.same sm
      have st3 : Stp r.io σ δL U1 H1 σ' δ U H3 := st.trans (stp_same' sm) AL.trk
      refine ⟨H3, U, δ, dd, A3, Rep.e rx, ?_⟩
      cases e3 : tgtM cx tg false dd δ with
      | none => rw [bind_no e3] at kk; exact kk.elim
      | some y =>
        cases y with
        | er x δ' =>
          unfold tgtM at e3
          split at e3
          · split at e3
            · cases e3
            · split at e3 <;> cases e3
          · split at e3 <;> cases e3
        | ok u δa =>
          rw [bind_ok e3] at kk
          have e4 := tgtM_in e3
          rw [← g.io] at e4
          rw [e4]
          intro σ2 A2 t2
          have st2 : Stp r.io σ δL U1 H1 σ2 δa U H3 := t2.step st3 fun z => nomatch z
          have sall : Stp r.io σ δ0 U0 H σ2 δa U H3 := sL.trans st2 n1.A0.trk
          refine ⟨U, δa, A2, ?_⟩
          cases e5 : exSs cx body δa with
          | none => rw [bind_no e5] at kk; exact kk.elim
          | some y =>
            cases y with
            | er x δ' =>
              rw [bind_er e5] at kk
              exact fun cls d σ3 U3 H4 hx A4 s4 => kk cls d σ3 U3 H4 hx A4 (sall.trans s4 n1.A0.trk)
            | ok f δ' =>
              rw [bind_ok e5] at kk
              cases f with
              | nx => exact fun σ3 U3 H4 A4 s4 => ⟨U3, δ', A4, st2.trans s4 AL.trk, kk⟩
              | ct => exact fun σ3 U3 H4 A4 s4 => ⟨U3, δ', A4, st2.trans s4 AL.trk, kk⟩
              | bk =>
                have kk' : ContS r E σ δ0 U0 H (match unlockAll (walked δ1 os) δ' with | none => none | some δ2 => some (.ok .nx δ2)) := kk
                cases e6 : unlockAll (walked δ1 os) δ' with
                | none => rw [e6] at kk'; exact kk'.elim
                | some δ2 =>
                  rw [e6] at kk'
                  exact fun σ3 U3 H4 A4 s4 => by
                    obtain ⟨A5, s5⟩ := endB A4 (st2.trans s4 AL.trk) e6
                    exact kk' σ3 U3 H4 A5 s5
              | rt o x => exact fun v σ3 U3 H4 A4 w s4 => kk v σ3 U3 H4 A4 (w.back (io := r.io) sall) (sall.trans s4 n1.A0.trk)
    · rw [List.drop_length] at kk
      have kk' : ContS r E σ δ0 U0 H (match unlockAll (walked δ1 os) δ with | none => none | some δ2 => some (.ok .nx δ2)) := kk
      cases e6 : unlockAll (walked δ1 os) δ with
      | none => rw [e6] at kk'; exact kk'.elim
      | some δ2 =>
        rw [e6] at kk'
        obtain ⟨A5, s5⟩ := endB A st e6
        exact kk' σ' U H' A5 s5
theorem s_for (g : Gd m glb k N sc r X cx) (ho : cx.hot = false → PassesOwn (model X.prog X.w) X.A X.env X.xe) {tg : Tgt} {kd : Nat} {as : List PX} {te iter : Expr} {bs : List Stmt} {body : List Stm} (hi : PI X te iter (iD r.c r.pn kd (tA r (evEs cx as)))) (hg : cx.hot = false → PG X te (tG r tg false)) (hb : PSs X bs (tS r (exSs cx body)))
    (hs : ∀ x, foldedSetIterable iter X.env x = pure x) : PS X (.For te iter bs [] pos) (tS r (exS cx (.forS tg kd as body))) := by
  refine ⟨fun pins s σ H D I h => ?_⟩
  obtain ⟨hh, h⟩ := for_to g h
  exact (ps_for (ho hh) (g.calm hh) hi (hg hh) hb hs).run pins s σ H D I h
/-! ### while -/
theorem whl_to {body : List Stm} {σ : Sg} {H : Hp} (h : tS r (exS cx (.whl pd body)) E σ H) : cx.hot = false ∧ tWhile (tT r (evT cx pd)) (tS r (exSs cx body)) E σ H := by
  have e0 : exS cx (.whl pd body) = if cx.hot then M.stuck else spins (evT cx pd) (exSs cx body) cx.fuel := rfl
  rw [e0] at h
  cases hh : cx.hot with
  | true =>
    rw [hh] at h
    obtain ⟨_, _, _, z⟩ := h
    exact z.elim
  | false =>
    rw [hh] at h
    refine ⟨rfl, fun n σ' H' => tS r (spins (evT cx pd) (exSs cx body) n) E σ' H', ⟨cx.fuel, h⟩, fun n σ1 H1 h1 => ?_⟩
    cases n with
    | zero =>
      obtain ⟨_, _, _, z⟩ := h1
      exact z.elim
    | succ n =>
      obtain ⟨U0, δ0, h2⟩ := tS.pre (R1 := RT) (show tS r ((evT cx pd).bind fun b => if b then (exSs cx body).bind fun f => match f with
      | .nx => spins (evT cx pd) (exSs cx body) n
      | .ct => spins (evT cx pd) (exSs cx body) n
      | .bk => M.pure .nx
      | .rt o x => M.pure (.rt o x)
    else M.pure .nx) E σ1 H1 from h1)
      refine tM.mono h2 fun v H2 ⟨U1, δ1, x, nn⟩ => ?_
      have e : v = x := nn.rr
      subst e
      cases v with
      | false =>
        rw [if_neg Bool.false_ne_true]
        exact nn.k σ1 U1 H2 nn.A nn.s.st
      | true =>
        rw [if_pos rfl]
        refine ⟨fun σ' H' => tS r (spins (evT cx pd) (exSs cx body) n) E σ' H', fun σ' H' z => ⟨n, Nat.lt_succ_self n, z⟩, U1, δ1, nn.A, ?_⟩
        have kk : ContS r E σ1 δ0 U0 H1 (((exSs cx body).bind fun f => match f with
          | .nx => spins (evT cx pd) (exSs cx body) n
          | .ct => spins (evT cx pd) (exSs cx body) n
          | .bk => M.pure .nx
          | .rt o x => M.pure (.rt o x)) δ1) := nn.k
        cases e5 : exSs cx body δ1 with
        | none => rw [bind_no e5] at kk; exact kk.elim
        | some y =>
          cases y with
          | er x δ' =>
            rw [bind_er e5] at kk
            exact fun cls d σ3 U3 H4 hx A4 s4 => kk cls d σ3 U3 H4 hx A4 (nn.s.st.trans s4 nn.A0.trk)
          | ok f δ' =>
            rw [bind_ok e5] at kk
            cases f with
            | nx => exact fun σ3 U3 H4 A4 s4 => ⟨U3, δ', A4, kk.rebase (nn.s.st.trans s4 nn.A0.trk) nn.A0.trk⟩
            | ct => exact fun σ3 U3 H4 A4 s4 => ⟨U3, δ', A4, kk.rebase (nn.s.st.trans s4 nn.A0.trk) nn.A0.trk⟩
            | bk => exact fun σ3 U3 H4 A4 s4 => kk σ3 U3 H4 A4 (nn.s.st.trans s4 nn.A0.trk)
            | rt o x => exact fun v σ3 U3 H4 A4 w s4 => kk v σ3 U3 H4 A4 (w.back (io := r.io) nn.s.st) (nn.s.st.trans s4 nn.A0.trk)
theorem s_whl (ho : cx.hot = false → PassesOwn (model X.prog X.w) X.A X.env X.xe) {bs : List Stmt} {body : List Stm} (ht : PT X d (tT r (evT cx pd))) (hb : PSs X bs (tS r (exSs cx body))) : PS X (.While d bs [] pos) (tS r (exS cx (.whl pd body))) := by
  refine ⟨fun pins s σ H D I h => ?_⟩
  obtain ⟨hh, h⟩ := whl_to h
  exact (ps_while (ho hh) ht hb).run pins s σ H D I h
/-! ### raise -/
theorem s_raise (g : Gd m glb k N sc r X cx) {x ms : Str} {p p2 p3 : Pos} {j n : Nat} {jj : Option Str} (hx : glb x = some (.cls n)) (hs : sc.names.lookup x = some .globalImplicit) (hdb : (x == ("__debug__" : Str)) = false) : PS X (.Raise (some (.Call (.Name x p) [.Constant (.str ms) j p2] [] p3)) none pos) (tS r (exS cx (.raise n))) := by
  refine ⟨fun pins s σ H D I h => ?_⟩
  obtain ⟨U, δ, A, h⟩ := h
  have e0 : exS cx (.raise n) = if cx.hot then M.stuck else fun δ => some (.er ⟨n, .non⟩ δ) := rfl
  rw [e0] at h
  cases hh : cx.hot with
  | true => rw [hh] at h; exact h.elim
  | false =>
    rw [hh] at h
    obtain ⟨B, n0, i0, bm, F, q⟩ := g.cl.made n
    have hK : X.K = m.c.K := by rw [g.K, g.c]
    have rz : Raises X (.ref (m.c.ca n)) := raises_own (by rw [hK]; exact (g.cl.exc n).hs) (by rw [hK]; exact g.cl.ty n)
    have mk := L2N.pmk_own (X := X) (x := x) (m := ms) (j := j) (p := p) (p2 := p2) (pos := p3) F (by rw [hK]; exact q) (by rw [g.mg]; exact g.nm.cls x n hx) (by rw [hK]; exact g.cl.kp n) rz (g.gl hs) hdb
    refine (L2N.ps_raise (g.calm hh) g.tk mk).run pins s σ H D I ?_
    exact h _ _ σ U H ⟨by rw [g.c], rfl, rfl⟩ A Stp.refl
/-! ### try -/
def tryF (cx : Ev.Cx) (k i : Nat) (ss : List Stm) : Option (Rs Fl) → Option (Rs Fl)
  | some (.er e δ') => if cx.sub e.cls k then
        match δ'[i]? with
          | some (.lock _) => none
          | none => none
          | some _ => if cx.io.getD i false then none else match exSs { cx with hot := true } ss (δ'.set i (.val (.exc e.cls e.fld))) with
            | some (.ok f δ2) => if free δ2 i && (δ2.set i .non).all okSl then some (.ok f (δ2.set i .non)) else none
            | _ => none
      else some (.er e δ')
  | r => r
theorem try_eq {sb ss : List Stm} {n i : Nat} : exS cx (.try_ sb n (some i) ss) = if cx.hot then M.stuck else fun δ => tryF cx n i ss (exSs cx sb δ) := by
  show (if cx.hot then M.stuck else fun δ => match exSs cx sb δ with
    | some (.er e δ') => if cx.sub e.cls n then
        match some i with
        | none => none
        | some i => match δ'[i]? with
          | some (.lock _) => none
          | none => none
          | some _ => if cx.io.getD i false then none else match exSs { cx with hot := true } ss (δ'.set i (.val (.exc e.cls e.fld))) with
            | some (.ok f δ2) => if free δ2 i && (δ2.set i .non).all okSl then some (.ok f (δ2.set i .non)) else none
            | _ => none
      else some (.er e δ')
    | r => r) = _
  refine congrArg (fun z => if cx.hot then M.stuck else z) (funext fun δ => ?_)
  cases exSs cx sb δ with
  | none => rfl
  | some y => cases y <;> rfl
theorem Abs.gone {c : RC} {pn pn' : Pn} {U : AS} {H : Hp} {σ : Sg} {δ : Dst} {i : Nat} (A : Abs c pn U H σ δ) (hi : i < δ.length) (hx : (δ.set i .non).all okSl = true) : Abs c pn' U H (σ.set i none) (δ.set i .non) ∧ ∀ j y, (δ.set i .non)[j]? = some y → y ≠ .non → j ≠ i ∧ δ[j]? = some y := by
  have hi' : δ[i]? = some δ[i] := List.getElem?_eq_getElem hi
  obtain ⟨A1, old⟩ := A.non hi'
  have sg : ∀ j, j ≠ i → (σ.set i none)[j]? = σ[j]? := fun j n => List.getElem?_set_ne (Ne.symm n)
  refine ⟨⟨by rw [List.length_set]; exact A1.len, fun j d h => ?_, fun j d h => ?_, fun j l b d e h1 h2 => ?_, A.trk⟩, old⟩
  · obtain ⟨n, h1⟩ := old j _ h fun z => nomatch z
    obtain ⟨v, e, rp⟩ := A.val j d h1
    have hd := List.all_eq_true.mp hx _ (List.mem_of_getElem? h)
    have hd' : isExc d = false := by simpa [okSl] using hd
    exact ⟨v, by rw [sg j n]; exact e, (rp.rep hd').e⟩
  · have n : j ≠ i := by
      rcases h with h | h
      · exact (old j _ h fun z => nomatch z).1
      · exact (old j _ h fun z => nomatch z).1
    obtain ⟨a, e, u, o⟩ := A1.own j d h
    exact ⟨a, by rw [sg j n]; exact e, u, o⟩
  · have n : j ≠ i := by
      rcases h1.1 with h | h
      · exact (old j _ h fun z => nomatch z).1
      · exact (old j _ h fun z => nomatch z).1
    have n2 : l ≠ i := by
      rcases h2.1 with h | h
      · exact (old l _ h fun z => nomatch z).1
      · exact (old l _ h fun z => nomatch z).1
    exact A1.dis j l b d e ⟨h1.1, by rw [← sg j n]; exact h1.2⟩ ⟨h2.1, by rw [← sg l n2]; exact h2.2⟩
theorem stp_gone {io : List Bool} {σ : Sg} {δ : Dst} {U : AS} {H : Hp} {i : Nat} (hio : io.getD i false = false) (hf : free δ i = true) : Stp io σ δ U H (σ.set i none) (δ.set i .non) U H := by
  have nl : ∀ d, δ[i]? ≠ some (Sl.lock d) := fun d z => by
    unfold free at hf
    rw [z] at hf
    cases hf
  have lt : i < δ.length := by
    unfold free at hf
    split at hf
    · cases hf
    · cases hf
    · rename_i x h1 h2
      exact Classical.byContradiction fun z => h2 (List.getElem?_eq_none (by omega))
  refine ⟨Fr'.refl, fun a ⟨j, d, h1, h2⟩ => ?_, fun j h => List.getElem?_set_ne (fun z => by rw [← z, hio] at h; cases h), fun j d h => ?_⟩
  · by_cases z : i = j
    · subst z
      rw [List.getElem?_set_self lt] at h1
      cases h1
    · rw [List.getElem?_set_ne z] at h1 h2
      exact .inl ⟨j, d, h1, h2⟩
  · have z : i ≠ j := fun z => nl d (by rw [z]; exact h)
    exact ⟨by rw [List.getElem?_set_ne z]; exact h, List.getElem?_set_ne z⟩
theorem free_lt {δ : Dst} {i : Nat} (hf : free δ i = true) : i < δ.length := by
  unfold free at hf
  split at hf
  · cases hf
  · cases hf
  · rename_i x h1 h2
    exact Classical.byContradiction fun z => h2 (List.getElem?_eq_none (by omega))
abbrev Ar.hot (r : Ar) (a : Addr) (oe : Obj) : Ar := { r with pn := [(a, oe)], W := fun _ _ _ _ => False }
/-- the suite, by the error's class -/
def tSu (r : Ar) (cx : Ev.Cx) (ss : List Stm) : Addr → Value → Option Addr → TS := fun a cls d D σ H => ∀ oe, L2N.Zn cls d oe → (∃ vs, oe.data = .fields vs) → tS (r.hot a oe) (exSs { cx with hot := true } ss) D σ H
theorem try_to (g : Gd m glb k N sc r X cx) {sb ss : List Stm} {n i : Nat} {σ : Sg} {H : Hp} (h : tS r (exS cx (.try_ sb n (some i) ss)) E σ H) : cx.hot = false ∧ tS { r with W := wAs X.K (.ref (m.c.ca n)) i (tSu r cx ss) r.W E } (exSs cx sb) E σ H := by
  rw [try_eq] at h
  cases hh : cx.hot with
  | true =>
    rw [hh] at h
    obtain ⟨_, _, _, z⟩ := h
    exact z.elim
  | false =>
    rw [hh] at h
    refine ⟨rfl, ?_⟩
    obtain ⟨U0, δ0, A0, h⟩ := h
    refine ⟨U0, δ0, A0, ?_⟩
    have h' : ContS r E σ δ0 U0 H (tryF cx n i ss (exSs cx sb δ0)) := h
    cases e : exSs cx sb δ0 with
    | none => rw [e] at h'; exact h'
    | some y =>
      rw [e] at h'
      cases y with
      | ok f δ' =>
        cases f with
        | nx => exact h'
        | bk => exact h'
        | ct => exact h'
        | rt o d => exact h'
      | er x δ' =>
        intro cls d σ1 U1 H1 hx A1 s1
        obtain ⟨rfl, hf, rfl⟩ := hx
        have ex : PySem.W.exmOne X.K (.ref (r.c.ca x.cls)) (.ref (m.c.ca n)) = some (cx.sub x.cls n) := by
          rw [g.K, g.c]
          exact g.cl.exm x.cls n
        refine ⟨cx.sub x.cls n, ex, fun hb a na => ?_, fun hb => ?_⟩
        · have h2 : ContS r E σ δ0 U0 H (if cx.sub x.cls n then
            match δ'[i]? with
              | some (.lock _) => none
              | none => none
              | some _ => if cx.io.getD i false then none else match exSs { cx with hot := true } ss (δ'.set i (.val (.exc x.cls x.fld))) with
                | some (.ok f δ2) => if free δ2 i && (δ2.set i .non).all okSl then some (.ok f (δ2.set i .non)) else none
                | _ => none
          else some (.er x δ')) := h'
          rw [if_pos hb] at h2
          intro oe hz hd
          split at h2
          · exact h2.elim
          · exact h2.elim
          · rename_i sl nl hsl
            split at h2
            · exact h2.elim
            · rename_i hio
              have hio' : r.io.getD i false = false := by rw [g.io]; simpa using hio
              have A1p : Abs r.c [(a, oe)] U1 H1 σ1 δ' := ⟨A1.len, fun j d h => by
                obtain ⟨v, e, rp⟩ := A1.val j d h
                have hp : r.pn = [] := g.pn0 hh
                exact ⟨v, e, rp.pn fun p hp' => by
                  have hp2 : p ∈ r.pn := hp'
                  rw [hp] at hp2; cases hp2⟩, A1.own, A1.dis, A1.trk⟩
              have op : OpdR r.c [(a, oe)] H1 U1 H1 σ1 δ' (.ref a) (.t false (.exc x.cls x.fld)) := ⟨a, oe, rfl, List.mem_cons_self, hz, hd, hf⟩
              have A2 := A1p.put hsl op
              have nl' : ∀ d, sl ≠ .lock d := fun d z => nl d z
              have ts := put_s (io := r.io) (v := .ref a) (o := false) (d := .exc x.cls x.fld) A1.len hsl nl' hio'
              have s2 : Stp r.io σ δ0 U0 H (σ1.set i (some (.ref a))) (δ'.set i (.val (.exc x.cls x.fld))) U1 H1 := ts.step s1 fun z => nomatch z
              refine ⟨U1, δ'.set i (.val (.exc x.cls x.fld)), A2, ?_⟩
              split at h2
              · rename_i f δ2 hrun
                split at h2
                · rename_i hcond
                  rw [Bool.and_eq_true] at hcond
                  have e5 : exSs { cx with hot := true } ss (δ'.set i (.val (.exc x.cls x.fld))) = some (.ok f δ2) := hrun
                  rw [e5]
                  have fin : ∀ {σ3 : Sg} {U3 : AS} {H3 : Hp}, Abs r.c [(a, oe)] U3 H3 σ3 δ2 → Stp r.io (σ1.set i (some (.ref a))) (δ'.set i (.val (.exc x.cls x.fld))) U1 H1 σ3 δ2 U3 H3 → Abs r.c r.pn U3 H3 (σ3.set i none) (δ2.set i .non) ∧ Stp r.io σ δ0 U0 H (σ3.set i none) (δ2.set i .non) U3 H3 := fun A3 s3 =>
                    ⟨(A3.gone (free_lt hcond.1) hcond.2).1, (s2.trans s3 A0.trk).trans (stp_gone hio' hcond.1) A0.trk⟩
                  cases f with
                  | nx =>
                    intro σ3 U3 H3 A3 s3
                    obtain ⟨A4, s4⟩ := fin A3 s3
                    exact h2 _ U3 H3 A4 s4
                  | bk =>
                    intro σ3 U3 H3 A3 s3
                    obtain ⟨A4, s4⟩ := fin A3 s3
                    exact h2 _ U3 H3 A4 s4
                  | ct =>
                    intro σ3 U3 H3 A3 s3
                    obtain ⟨A4, s4⟩ := fin A3 s3
                    exact h2 _ U3 H3 A4 s4
                  | rt o dd =>
                    intro v σ3 U3 H3 A3 w s3
                    obtain ⟨A4, s4⟩ := fin A3 s3
                    refine h2 v _ U3 H3 A4 (AnsS.back (io := r.io) s2 ?_) s4
                    cases o with
                    | false => exact w
                    | true =>
                      obtain ⟨a', ea, u, ow, nh, z⟩ := w
                      refine ⟨a', ea, u, ow, fun j e ⟨y1, y2⟩ => ?_, z⟩
                      have old := (A3.gone (pn' := r.pn) (free_lt hcond.1) hcond.2).2
                      rcases y1 with y1 | y1
                      · obtain ⟨n1, y3⟩ := old j _ y1 fun z => nomatch z
                        rw [List.getElem?_set_ne (Ne.symm n1)] at y2
                        exact nh j e ⟨.inl y3, y2⟩
                      · obtain ⟨n1, y3⟩ := old j _ y1 fun z => nomatch z
                        rw [List.getElem?_set_ne (Ne.symm n1)] at y2
                        exact nh j e ⟨.inr y3, y2⟩
                · exact h2.elim
              · exact h2.elim
        · have h2 : ContS r E σ δ0 U0 H (if cx.sub x.cls n then
            match δ'[i]? with
              | some (.lock _) => none
              | none => none
              | some _ => if cx.io.getD i false then none else match exSs { cx with hot := true } ss (δ'.set i (.val (.exc x.cls x.fld))) with
                | some (.ok f δ2) => if free δ2 i && (δ2.set i .non).all okSl then some (.ok f (δ2.set i .non)) else none
                | _ => none
          else some (.er x δ')) := h'
          rw [if_neg (by rw [hb]; exact Bool.false_ne_true)] at h2
          exact h2 _ _ σ1 U1 H1 ⟨rfl, hf, rfl⟩ A1 s1
theorem s_try (g : Gd m glb k N sc r X cx) (hs : X.stack = X.env :: X.outer) (hf : X.env.frame = some X.env.locals) {x nm : Str} {n i : Nat} {np pos' : Pos} {body suite : List Stmt} {b₀ : Stmt} {sb ss : List Stm} (hi : N[i]? = some nm) (hln : sc.names.lookup nm = some .local) (hx : glb x = some (.cls n)) (hxs : sc.names.lookup x = some .globalImplicit) (hdb : (x == ("__debug__" : Str)) = false)
    (hb : cx.hot = false → ∀ (W : WX) (pn : List (Addr × Obj)) (xe : Value → Shared → Prop), L2N.Takes (X.tr pn xe) W → PassesOwn (model X.prog X.w) X.A X.env xe → PSs (X.tr pn xe) body (tS { r with W := W } (exSs cx sb)))
    (hsu : cx.hot = false → ∀ (a : Addr) (oe : Obj) (cls : Value) (d : Option Addr) (pn : List (Addr × Obj)), L2N.Zn cls d oe → (∃ vs, oe.data = .fields vs) → PSs (X.suite a ((a, oe) :: pn)) (b₀ :: suite) (tS (r.hot a oe) (exSs { cx with hot := true } ss))) :
    PS X (.Try body [.ExceptHandler (some (.Name x np)) (some nm) (b₀ :: suite) pos'] [] [] pos) (tS r (exS cx (.try_ sb n (some i) ss))) := by
  refine ⟨fun pins s σ H D I h => ?_⟩
  obtain ⟨hh, h⟩ := try_to g h
  have hc : L2.Names X x (.ref (m.c.ca n)) := ⟨g.gl hxs, hdb, .inl (by rw [g.mg]; exact g.nm.cls x n hx)⟩
  refine (L2N.ps_try_as (X := X) (x := x) (n := nm) (c := .ref (m.c.ca n)) (i := i) (tb := fun W => tS { r with W := W } (exSs cx sb)) (ts := tSu r cx ss) hs hf (by rw [g.hN]; exact g.nd) (by rw [g.hN]; exact hi) (by show X.env.scope.names.lookup nm = _; rw [g.hsc]; exact hln) hc g.tk (hb hh) fun a oe cls d pn hz hd => ?_).run pins s σ H D I h
  refine ⟨fun pins s σ H D I h => ?_⟩
  exact (hsu hh a oe cls d pn hz hd).run pins s σ H D I (h oe hz hd)
end
end Ev

set_option Elab.async false
set_option linter.all false
set_option maxRecDepth 100000
set_option maxHeartbeats 4000000
/-! Part Q: the checker; what it takes is walked so. -/
namespace Ev
open PySem L2 PyProof.Rows
/-! ### what the text must be -/
def plainB : Expr → Bool
  | .Starred _ _ => false
  | _ => true
def ixB : Expr → Bool
  | .Slice _ _ _ _ => false
  | .Tuple _ _ _ => false
  | _ => true
def baseB : Expr → Bool
  | .Call _ _ _ _ => false
  | _ => true
def setB : Expr → Bool
  | .Set _ _ _ => false
  | _ => true
def plT : Expr → Bool
  | .UnaryOp .Not _ _ => false
  | .BoolOp _ _ _ => false
  | .IfExp _ _ _ _ => false
  | .Compare _ _ _ _ => false
  | _ => true
theorem star1 {e : Expr} {es : List Expr} {env : Env} (h : plainB e = true) : starEach (e :: es) env = (false, eval e env) :: starEach es env := by
  cases e <;> first | rfl | cases h
theorem star_any {env : Env} {pos : Pos} : ∀ {es : List Expr}, es.all plainB = true → (backTo pos (starEach es env)).any (·.1) = false ∧ (backTo pos (starEach es env)).all (fun x => !x.1) = true
  | [], _ => ⟨rfl, rfl⟩
  | e :: es, h => by
    rw [List.all_cons, Bool.and_eq_true] at h
    obtain ⟨h1, h2⟩ := star_any (env := env) (pos := pos) h.2
    rw [star1 h.1]
    constructor
    · show (false || (backTo pos (starEach es env)).any (·.1)) = false
      rw [h1]; rfl
    · show (!false && (backTo pos (starEach es env)).all (fun x => !x.1)) = true
      rw [h2]; rfl
theorem few_of {env : Env} {pos : Pos} {e : Expr} {es : List Expr} (h : (e :: es).all plainB = true) (hl : decide ((e :: es).length < 29) = true) : ((backTo pos (starEach (e :: es) env)).all (fun x => !x.1) && (backToKw pos (keywordEach [] env)).all (fun x => x.1.isSome)
      && decide ((e :: es).length + ([] : List Keyword).length + (if ([] : List Keyword).isEmpty then 0 else 1) < 30)) = true := by
  rw [(star_any h).2]
  have hl' := of_decide_eq_true hl
  have e1 : decide ((e :: es).length + ([] : List Keyword).length + (if ([] : List Keyword).isEmpty then 0 else 1) < 30) = true := by
    apply decide_eq_true
    show (e :: es).length + 0 + 0 < 30
    omega
  rw [e1]
  rfl
theorem base_of {o : Expr} {nm : Str} {env : Env} (h : baseB o = true) : attributeBase o nm env (eval o env) = eval o env := by
  cases o <;> first | rfl | cases h
theorem set_of {e : Expr} {env : Env} (h : setB e = true) : ∀ x, foldedSetIterable e env x = pure x := by
  intro x
  cases e <;> first | rfl | cases h
theorem ix_of {e : Expr} (h : ixB e = true) : PlainIx e := by
  intro o i
  cases e <;> first | rfl | cases h
theorem plT_of {e : Expr} {env : Env} (h : plT e = true) : ∀ whole, isTrue e env whole = (do let v ← whole; standAt e.pos; holding [v] (truthy v)) := by
  intro whole
  cases e with
  | UnaryOp op a p => cases op <;> first | rfl | cases h
  | _ => first | rfl | cases h
def glB (sc : Scope) (x : Str) : Bool := decide (sc.names.lookup x = some .globalImplicit)
def visB (sc : Scope) (x : Str) : Bool := decide (sc.names.lookup x = some .local) || decide (sc.names.lookup x = some .cell) || decide (sc.names.lookup x = some .free)
def locB (sc : Scope) (x : Str) : Bool := decide (sc.names.lookup x = some .local)
def okN (x : Str) : Bool := !(x == ("__debug__" : Str)) && !(x == ("__classdict__" : Str))
def gB (glb : Str → Option Gk) (x : Str) (k : Gk → Bool) : Bool := match glb x with
  | some g => k g
  | none => false
def isFn (n : Nat) : Gk → Bool
  | .fn g => g == n
  | _ => false
def isCl (n : Nat) : Gk → Bool
  | .cls g => g == n
  | _ => false
def isCs (n : Nat) : Gk → Bool
  | .cst g => g == n
  | _ => false
def noG (glb : Str → Option Gk) (x : Str) : Bool := match glb x with
  | some .bn => true
  | _ => false
theorem visB_of {sc : Scope} {x : Str} (h : visB sc x = true) : Vis sc x := by
  unfold visB at h
  simp only [Bool.or_eq_true, decide_eq_true_eq] at h
  rcases h with (h | h) | h
  · exact .inl h
  · exact .inr (.inl h)
  · exact .inr (.inr h)
theorem okN_of {x : Str} (h : okN x = true) : (x == ("__debug__" : Str)) = false ∧ (x == ("__classdict__" : Str)) = false := by
  unfold okN at h
  simp only [Bool.and_eq_true, Bool.not_eq_true'] at h
  exact h
theorem gB_fn {glb : Str → Option Gk} {x : Str} {n : Nat} (h : gB glb x (isFn n) = true) : glb x = some (.fn n) := by
  unfold gB at h
  split at h
  · rename_i g hg
    rw [hg]
    cases g <;> first | cases h | skip
    rw [eq_of_beq h]
  · cases h
theorem gB_cl {glb : Str → Option Gk} {x : Str} {n : Nat} (h : gB glb x (isCl n) = true) : glb x = some (.cls n) := by
  unfold gB at h
  split at h
  · rename_i g hg
    rw [hg]
    cases g <;> first | cases h | skip
    rw [eq_of_beq h]
  · cases h
theorem gB_cs {glb : Str → Option Gk} {x : Str} {n : Nat} (h : gB glb x (isCs n) = true) : glb x = some (.cst n) := by
  unfold gB at h
  split at h
  · rename_i g hg
    rw [hg]
    cases g <;> first | cases h | skip
    rw [eq_of_beq h]
  · cases h
theorem noG_of {glb : Str → Option Gk} {x : Str} (h : noG glb x = true) : glb x = some .bn := by
  unfold noG at h
  split at h
  · assumption
  · cases h
/-- a built-in's name here -/
def bnB (glb : Str → Option Gk) (sc : Scope) (x : Str) : Bool := glB sc x && noG glb x
theorem bnB_of {glb : Str → Option Gk} {sc : Scope} {x : Str} (h : bnB glb sc x = true) : sc.names.lookup x = some .globalImplicit ∧ glb x = some .bn := by
  unfold bnB at h
  rw [Bool.and_eq_true] at h
  exact ⟨of_decide_eq_true h.1, noG_of h.2⟩
/-- a name that may be written here -/
def wrB (sc : Scope) (x : Str) : Bool := decide (sc.names.lookup x = some .local) || decide (sc.names.lookup x = some .cell)
mutual
def chkG (N : List Str) (wr : Str → Bool) : Tgt → Expr → Bool
  | .nm i, e => match e with
    | .Name x _ => decide (N[i]? = some x) && wr x
    | _ => false
  | .tp ts, e => match e with
    | .Tuple es _ _ => decide (ts.length = es.length) && chkGs N wr ts es
    | _ => false
def chkGs (N : List Str) (wr : Str → Bool) : List Tgt → List Expr → Bool
  | [], es => match es with
    | [] => true
    | _ => false
  | t :: ts, es => match es with
    | e :: es => plainB e && chkG N wr t e && chkGs N wr ts es
    | [] => false
end
def isTp : Expr → Bool
  | .Tuple _ _ _ => true
  | _ => false
/-- what is walked: the arguments -/
def itArgs (glb : Str → Option Gk) (sc : Scope) (kd : Nat) (t it : Expr) : Option (List Expr) := match kd with
  | 0 => some [it]
  | 1 => (match it with
    | .Call (.Name x _) [y] [] _ => if decide (x = "range") && bnB glb sc "range" then some [y] else none
    | .Call (.Name x _) [y, z] [] _ => if decide (x = "range") && bnB glb sc "range" then some [y, z] else none
    | _ => none)
  | 2 => (match it with
    | .Call (.Name x _) [y] [] _ => if decide (x = "enumerate") && bnB glb sc "enumerate" && isTp t then some [y] else none
    | _ => none)
  | 3 => (match it with
    | .Call (.Name x _) [y, z] [] _ => if decide (x = "zip") && bnB glb sc "zip" && isTp t then some [y, z] else none
    | _ => none)
  | _ => none
section
variable (glb : Str → Option Gk) (N : List Str)
mutual
def chkE : PX → Bool → Scope → Expr → Bool
  | .var i, t, sc, e => match e with
    | .Name x _ => decide (N[i]? = some x) && visB sc x && okN x
    | _ => false
  | .cn d, t, sc, e => cnOk d e || (match e, d with
    | .Name x _, .fn g => gB glb x (isFn g) && glB sc x && okN x
    | _, _ => false)
  | .glob n, t, sc, e => match e with
    | .Name x _ => gB glb x (isCs n) && glB sc x && okN x
    | _ => false
  | .bin op a b, t, sc, e => match e with
    | .BinOp x o y _ => decide (o = op) && chkE a false sc x && chkE b false sc y
    | _ => false
  | .un op a, t, sc, e => match e with
    | .UnaryOp o x _ => decide (o = op) && decide (op ≠ .Not) && chkE a false sc x
    | _ => false
  | .nt a, t, sc, e => match e with
    | .UnaryOp .Not x _ => chkE a t sc x
    | _ => false
  | .andE a b, t, sc, e => match e with
    | .BoolOp .And (x :: y :: r) pos => chkE a t sc x && (if r.isEmpty then chkE b t sc y else chkE b t sc (.BoolOp .And (y :: r) pos))
    | _ => false
  | .orE a b, t, sc, e => match e with
    | .BoolOp .Or (x :: y :: r) pos => chkE a t sc x && (if r.isEmpty then chkE b t sc y else chkE b t sc (.BoolOp .Or (y :: r) pos))
    | _ => false
  | .ite c a b, t, sc, e => match e with
    | .IfExp z x y _ => !t && chkE c true sc z && chkE a false sc x && chkE b false sc y
    | _ => false
  | .cmp op a b, t, sc, e => match e with
    | .Compare x [o] [y] _ => decide (o = op) && !behindInMarks op y && chkE a false sc x && chkE b false sc y
    | _ => false
  | .cmp2 op op' a b c, t, sc, e => match e with
    | .Compare x [o, o'] [y, z] _ => decide (o = op) && decide (o' = op') && !lastMarks [op, op'] [y, z] && chkE a false sc x && chkE b false sc y && chkE c false sc z
    | _ => false
  | .tup as, t, sc, e => match e with
    | .Tuple es _ _ => chkEs as sc es
    | _ => false
  | .lst as, t, sc, e => match e with
    | .List es _ => chkEs as sc es
    | _ => false
  | .tupS bs as, t, sc, e => match e with
    | .Tuple es _ _ => chkDs bs as sc es
    | _ => false
  | .lstS bs as, t, sc, e => match e with
    | .List es _ => chkDs bs as sc es
    | _ => false
  | .sub a i, t, sc, e => match e with
    | .Subscript x y _ => ixB y && chkE a false sc x && chkE i false sc y
    | _ => false
  | .slc a lo hi, t, sc, e => match e with
    | .Subscript x (.Slice l h none _) _ => chkE a false sc x && chkO lo sc l && chkO hi sc h
    | _ => false
  | .rev a, t, sc, e => match e with
    | .Subscript x (.Slice none none (some (.UnaryOp .USub (.Constant (.int 1) _ _) _)) _) _ => chkE a false sc x
    | _ => false
  | .call g as, t, sc, e => match e with
    | .Call (.Name x _) es [] _ => gB glb x (isFn g) && glB sc x && okN x && chkEs as sc es
    | _ => false
  | .callv f as, t, sc, e => match e with
    | .Call b (y :: es) [] _ => notAttr b && chkE f false sc b && chkEs as sc (y :: es)
    | _ => false
  | .bi b as, t, sc, e => match e with
    | .Call (.Name x _) (y :: es) [] _ => decide (x = biName b) && bnB glb sc (biName b) && chkEs as sc (y :: es)
    | _ => false
  | .lrng as, t, sc, e => match e with
    | .Call (.Name x _) [.Call (.Name y _) es [] _] [] _ => decide (x = "list") && decide (y = "range") && bnB glb sc "list" && bnB glb sc "range" && (match es with
      | [_] => true
      | [_, _] => true
      | _ => false) && chkEs as sc es
    | _ => false
  | .trng as, t, sc, e => match e with
    | .Call (.Name x _) [.Call (.Name y _) es [] _] [] _ => decide (x = "tuple") && decide (y = "range") && bnB glb sc "tuple" && bnB glb sc "range" && (match es with
      | [_] => true
      | [_, _] => true
      | _ => false) && chkEs as sc es
    | _ => false
  | .isE a k, t, sc, e => match e with
    | .Call (.Name x _) [z, .Name y _] [] _ => decide (x = biName .isin) && bnB glb sc (biName .isin) && plainB z && chkE a false sc z && gB glb y (isCl k) && glB sc y && okN y
    | _ => false
  | .mt mt a as, t, sc, e => match e with
    | .Call (.Attribute o nm apos) (y :: es) [] pos => decide (nm = mtName mt) && (apos.endLine == pos.line) && baseB o && chkE a false sc o && decide ((y :: es).length < 29) && chkEs as sc (y :: es)
    | _ => false
  | .mm mm i as, t, sc, e => match e with
    | .Call (.Attribute (.Name x _) nm apos) es [] pos => decide (nm = mmName mm) && (apos.endLine == pos.line) && decide (N[i]? = some x) && visB sc x && okN x && decide (es.length < 29) && chkEs as sc es
    | _ => false
  | .lc vs tg kd as ifs elt, t, sc, e => match e with
    | .ListComp el [⟨tt, it, fs, 0⟩] scope _ => blkC N sc scope (vs.map fun i => (N.getD i "", i)) && setB it && (match itArgs glb sc kd tt it with
      | some es => chkEs as sc es
      | none => false) && chkG N (wrB scope) tg tt && chkF ifs (relS scope sc) fs && chkE elt false (relS scope sc) el
    | _ => false
  | .dc vs tg kd as ifs ke ve, t, sc, e => match e with
    | .DictComp kl vl [⟨tt, it, fs, 0⟩] scope _ => blkC N sc scope (vs.map fun i => (N.getD i "", i)) && setB it && (match itArgs glb sc kd tt it with
      | some es => chkEs as sc es
      | none => false) && chkG N (wrB scope) tg tt && chkF ifs (relS scope sc) fs && chkE ke false (relS scope sc) kl && chkE ve false (relS scope sc) vl
    | _ => false
def chkF : Option PX → Scope → List Expr → Bool
  | none, sc, fs => fs.isEmpty
  | some p, sc, fs => match fs with
    | [f] => chkE p true sc f
    | _ => false
def chkEs : List PX → Scope → List Expr → Bool
  | [], sc, es => match es with
    | [] => true
    | _ => false
  | p :: ps, sc, es => match es with
    | e :: es => plainB e && chkE p false sc e && chkEs ps sc es
    | [] => false
def chkDs : List Bool → List PX → Scope → List Expr → Bool
  | _, [], sc, es => match es with
    | [] => true
    | _ => false
  | bs, p :: ps, sc, es => match bs with
    | [] => false
    | b :: bs => match es with
      | .Starred e _ :: es => b && chkE p false sc e && chkDs bs ps sc es
      | e :: es => !b && plainB e && chkE p false sc e && chkDs bs ps sc es
      | [] => false
def chkO : Option PX → Scope → Option Expr → Bool
  | none, sc, e => e.isNone
  | some p, sc, e => match e with
    | some e => chkE p false sc e
    | none => false
end
end
example (glb : Str → Option Gk) (N : List Str) (op : Operator) (a b : PX) (t : Bool) (sc : Scope) (x y : Expr) (o : Operator) (p : Pos) : chkE glb N (.bin op a b) t sc (.BinOp x o y p) = (decide (o = op) && chkE glb N a false sc x && chkE glb N b false sc y) := rfl
end Ev

set_option Elab.async false
set_option linter.all false
set_option maxRecDepth 100000
set_option maxHeartbeats 4000000
/-! Part R: what the checker takes is walked so: expressions. -/
namespace Ev
open PySem L2 PyProof.Rows
theorem isTp_of {e : Expr} (h : isTp e = true) : ∃ es k p, e = .Tuple es k p := by
  cases e <;> first | exact ⟨_, _, _, rfl⟩ | cases h
theorem assign1 {e : Expr} {es : List Expr} {env : Env} (h : plainB e = true) : assignEach (e :: es) env = (false, assign e env) :: assignEach es env := by
  cases e <;> first | rfl | cases h
theorem assign_len {env : Env} : ∀ {es : List Expr}, es.all plainB = true → (assignEach es env).length = es.length ∧ (assignEach es env).findIdx? (·.1) = none
  | [], _ => ⟨rfl, rfl⟩
  | e :: es, h => by
    rw [List.all_cons, Bool.and_eq_true] at h
    obtain ⟨h1, h2⟩ := assign_len (env := env) h.2
    rw [assign1 h.1]
    constructor
    · rw [List.length_cons, List.length_cons, h1]
    · rw [List.findIdx?_cons, h2]
      rfl
variable {m : Md} {glb : Str → Option Gk} {k : Nat} {N : List Str}
mutual
theorem sG {sc : Scope} {r : Ar} {X : L2.Cx} {cx : Ev.Cx} (g : Gd m glb k N sc r X cx) (hc : X.calm = true) {wr : Str → Bool} (hw : ∀ x, wr x = true → L2.Loc X.env.scope x ∧ (X.fn x = true ∨ X.env.scope.names.lookup x = some .local)) : ∀ {t : Tgt} {e : Expr} {o : Bool}, chkG N wr t e = true → PG X e (tG r t o)
  | .nm i, e, o, h => by
    cases e <;> first | cases h | skip
    rename_i x p
    have h' : (decide (N[i]? = some x) && wr x) = true := h
    rw [Bool.and_eq_true] at h'
    exact g_nm g (of_decide_eq_true h'.1) (hw x h'.2).1 (hw x h'.2).2
  | .tp ts, e, o, h => by
    cases e <;> first | cases h | skip
    rename_i es kk p
    have h' : (decide (ts.length = es.length) && chkGs N wr ts es) = true := h
    rw [Bool.and_eq_true] at h'
    obtain ⟨h1, h2⟩ := sGs g hc hw h'.2
    have al := assign_len (env := X.env) h2
    exact g_tp g hc h1 al.1 al.2 (of_decide_eq_true h'.1)
theorem sGs {sc : Scope} {r : Ar} {X : L2.Cx} {cx : Ev.Cx} (g : Gd m glb k N sc r X cx) (hc : X.calm = true) {wr : Str → Bool} (hw : ∀ x, wr x = true → L2.Loc X.env.scope x ∧ (X.fn x = true ∨ X.env.scope.names.lookup x = some .local)) : ∀ {ts : List Tgt} {es : List Expr}, chkGs N wr ts es = true → PGs X es (tGs r ts) ∧ es.all plainB = true
  | [], es, h => by
    cases es <;> first | cases h | skip
    exact ⟨gs_nil, rfl⟩
  | t :: ts, es, h => by
    cases es <;> first | cases h | skip
    rename_i e es
    have h' : (plainB e && chkG N wr t e && chkGs N wr ts es) = true := h
    rw [Bool.and_eq_true, Bool.and_eq_true] at h'
    obtain ⟨⟨h1, h2⟩, h3⟩ := h'
    obtain ⟨h4, h5⟩ := sGs g hc hw h3
    refine ⟨gs_cons (sG g hc hw h2) h4 ?_, ?_⟩
    · rw [assign1 h1]; rfl
    · rw [List.all_cons, h1, h5]; rfl
end
theorem rel_lookup {scope sc : Scope} {x : Str} : ∀ {l : List (Str × NameKind)}, ((l.map fun (n, k) => if (k == .free && sc.kind == .function && sc.names.lookup n == some .cell) then (n, NameKind.cell) else (n, k)).lookup x) = (l.lookup x).map fun k => if (k == .free && sc.kind == .function && sc.names.lookup x == some .cell) then NameKind.cell else k
  | [] => rfl
  | (n, k) :: r => by
    have ih := rel_lookup (scope := scope) (sc := sc) (x := x) (l := r)
    rw [List.map_cons, List.lookup_cons (as := r)]
    by_cases e : x = n
    · subst e
      by_cases q : (k == .free && sc.kind == .function && sc.names.lookup x == some .cell) = true
      · simp only [q, if_true, List.lookup_cons, beq_self_eq_true, Option.map_some]
      · simp only [q, List.lookup_cons, beq_self_eq_true, Option.map_some, Bool.false_eq_true, if_false]
    · have e' : (x == n) = false := by simpa using e
      rw [e', ← ih]
      by_cases q : (k == .free && sc.kind == .function && sc.names.lookup n == some .cell) = true
      · simp only [q, if_true, List.lookup_cons, e']
      · simp only [q, List.lookup_cons, e', Bool.false_eq_true, if_false]
theorem wr_blk {sc scope : Scope} {X : L2.Cx} (hsc : X.env.scope = sc) (s : Shared) (H : Hp) (C : Addr) (cl : List (Str × Addr)) (fp : List Addr) : ∀ x, wrB scope x = true → L2.Loc (X.blk s H scope (compEnvC scope cl C X.env) fp).env.scope x ∧ ((X.blk s H scope (compEnvC scope cl C X.env) fp).fn x = true ∨ (X.blk s H scope (compEnvC scope cl C X.env) fp).env.scope.names.lookup x = some .local) := fun x h => by
  have e : (X.blk s H scope (compEnvC scope cl C X.env) fp).env.scope.names.lookup x = (scope.names.lookup x).map fun k => if (k == .free && sc.kind == .function && sc.names.lookup x == some .cell) then NameKind.cell else k := by
    show (relS scope X.env.scope).names.lookup x = _
    rw [hsc]
    exact rel_lookup (scope := scope)
  unfold wrB at h
  rw [Bool.or_eq_true, decide_eq_true_eq, decide_eq_true_eq] at h
  rcases h with h | h
  · rw [h] at e
    exact ⟨.inl e, .inr e⟩
  · rw [h] at e
    refine ⟨.inr e, .inl ?_⟩
    show (scope.names.lookup x == some .cell) = true
    rw [h]
    rfl
theorem g_blk {sc : Scope} {r : Ar} {X : L2.Cx} {cx : Ev.Cx} (g : Gd m glb k N sc r X cx) (hh : cx.hot = false) (s : Shared) (H : Hp) (scope : Scope) (C : Addr) (cl : List (Str × Addr)) (fp : List Addr) : Gd m glb k N (relS scope sc) r.nox (X.blk s H scope (compEnvC scope cl C X.env) fp) cx where
  P := g.P
  w := g.w
  K := g.K
  c := g.c
  mg := g.mg
  base := g.base
  hN := g.hN
  nd := g.nd
  hsc := by rw [← g.hsc]; rfl
  calm := g.calm
  hot := fun z => by rw [hh] at z; cases z
  room := g.room
  gd := g.gd
  pn := fun p hp => by
    have := g.pn0 hh
    have hp' : p ∈ r.pn := hp
    rw [this] at hp'
    cases hp'
  pn0 := g.pn0
  io := g.io
  tk := fun u s' ⟨_, _, _, _, _, _, _, _, _, _, _, _, _, _, _, _, w⟩ => w
  nm := g.nm
  cl := g.cl
  fns := g.fns
  kp := g.kp
theorem g_suite {sc : Scope} {r : Ar} {X : L2.Cx} {cx : Ev.Cx} (g : Gd m glb k N sc r X cx) {a : Addr} {oe : Obj} {cls : Value} {d : Option Addr} (pn : List (Addr × Obj)) (hz : L2N.Zn cls d oe) (hd : ∃ vs, oe.data = .fields vs) : Gd m glb k N sc (r.hot a oe) (X.suite a ((a, oe) :: pn)) { cx with hot := true } where
  P := g.P
  w := g.w
  K := g.K
  c := g.c
  mg := g.mg
  base := g.base
  hN := g.hN
  nd := g.nd
  hsc := g.hsc
  calm := fun z => by cases z
  hot := fun _ => ⟨(a, oe), ⟨rfl, by
    obtain ⟨vs, hv⟩ := hd
    exact ⟨vs, hv, hz.2.2 vs hv⟩⟩, List.mem_cons_self, fun q hq => by simpa using hq⟩
  room := ⟨g.room.dp, g.room.un⟩
  gd := g.gd
  pn := fun p hp => by
    have e : p = (a, oe) := by simpa using hp
    rw [e]; exact List.mem_cons_self
  pn0 := fun z => by cases z
  io := g.io
  tk := fun u s' ⟨_, _, _, _, _, _, _, _, _, _, _, _, _, _, _, _, w⟩ => w
  nm := g.nm
  cl := g.cl
  fns := g.fns
  kp := g.kp
/-- one step of a Bool that is an 'and' -/
theorem and2 {a b : Bool} (h : (a && b) = true) : a = true ∧ b = true := by
  rw [Bool.and_eq_true] at h
  exact h
theorem own_map {N : List Str} (vs : List Nat) : (vs.map fun i => (N.getD i "", i)).map (·.2) = vs := by
  induction vs with
  | nil => rfl
  | cons v vs ih => rw [List.map_cons, List.map_cons, ih]
theorem plain_is {sc : Scope} {as : List PX} : ∀ {es : List Expr}, chkEs glb N as sc es = true → es.all plainB = true := by
  induction as with
  | nil =>
    intro es h
    cases es <;> first | rfl | cases h
  | cons p ps ih =>
    intro es h
    cases es with
    | nil => cases h
    | cons e es =>
      have h' : (plainB e && chkE glb N p false sc e && chkEs glb N ps sc es) = true := h
      obtain ⟨h1, h2⟩ := and2 h'
      obtain ⟨h3, h4⟩ := and2 h1
      rw [List.all_cons, h3, ih h2]; rfl
theorem pw_of {X : L2.Cx} {op : BoolOp} {vs : List Expr} {pos : Pos} {t : TT} (h : PT X (.BoolOp op vs pos) t) : PW X (.BoolOp op vs pos) t := ⟨fun wh pins s σ H Q I q => h.run pins s σ H Q I q⟩
theorem chk_len {sc : Scope} {as : List PX} : ∀ {es : List Expr}, chkEs glb N as sc es = true → as.length = es.length := by
  induction as with
  | nil =>
    intro es h
    cases es <;> first | rfl | cases h
  | cons p ps ih =>
    intro es h
    cases es with
    | nil => cases h
    | cons e es =>
      have h' : (plainB e && chkE glb N p false sc e && chkEs glb N ps sc es) = true := h
      rw [List.length_cons, List.length_cons, ih (and2 h').2]
/-- what is walked -/
theorem sI {sc : Scope} {r : Ar} {X : L2.Cx} {cx : Ev.Cx} (g : Gd m glb k N sc r X cx) {kd : Nat} {as : List PX} {t it : Expr} {es : List Expr} (h : itArgs glb sc kd t it = some es) (ha : PA X es (tA r (evEs cx as))) (hc : chkEs glb N as sc es = true) (one : ∀ p e, as = [p] → es = [e] → PE X e (tE r (evE cx p))) : PI X t it (iD r.c r.pn kd (tA r (evEs cx as))) := by
  have hp := plain_is hc
  have hl := chk_len hc
  unfold itArgs at h
  split at h
  · cases h
    match as, hl with
    | [p], _ => exact p_D0 g (one p it rfl rfl)
  · split at h
    · rename_i x px y pos
      split at h
      · rename_i hh
        cases h
        obtain ⟨h1, h2⟩ := and2 hh
        obtain rfl := of_decide_eq_true h1
        obtain ⟨h3, h4⟩ := bnB_of h2
        match as, hl with
        | [p], _ => exact p_D1 g h3 h4 ha (star1 (and2 hp).1)
      · cases h
    · rename_i x px y z pos
      split at h
      · rename_i hh
        cases h
        obtain ⟨h1, h2⟩ := and2 hh
        obtain rfl := of_decide_eq_true h1
        obtain ⟨h3, h4⟩ := bnB_of h2
        have e1 := star1 (es := []) (env := X.env) (and2 (and2 hp).2).1
        match as, hl with
        | [p, q], _ => exact p_D1' g h3 h4 ha (by rw [star1 (and2 hp).1, e1]; rfl) e1
      · cases h
    · cases h
  · split at h
    · rename_i x px y pos
      split at h
      · rename_i hh
        cases h
        obtain ⟨hh1, h5⟩ := and2 hh
        obtain ⟨h1, h2⟩ := and2 hh1
        obtain rfl := of_decide_eq_true h1
        obtain ⟨h3, h4⟩ := bnB_of h2
        obtain ⟨ts, kk, tp, rfl⟩ := isTp_of h5
        match as, hl with
        | [p], _ => exact p_D2 g h3 h4 ha (star1 (and2 hp).1)
      · cases h
    · cases h
  · split at h
    · rename_i x px y z pos
      split at h
      · rename_i hh
        cases h
        obtain ⟨hh1, h5⟩ := and2 hh
        obtain ⟨h1, h2⟩ := and2 hh1
        obtain rfl := of_decide_eq_true h1
        obtain ⟨h3, h4⟩ := bnB_of h2
        obtain ⟨ts, kk, tp, rfl⟩ := isTp_of h5
        match as, hl with
        | [p, q], _ => exact p_D3 g h3 h4 ha (star1 (and2 hp).1) (star_any (and2 hp).2).1
      · cases h
    · cases h
  · cases h
/-- a comprehension's parts -/
theorem sLc {sc : Scope} {r : Ar} {X : L2.Cx} {cx : Ev.Cx} (g : Gd m glb k N sc r X cx) (hh : cx.hot = false) {vs : List Nat} {tg : Tgt} {kd : Nat} {as : List PX} {ifs : Option PX} {elt : PX} {el tt it : Expr} {fs : List Expr} {scope : Scope}
    (h' : (blkC N sc scope (vs.map fun i => (N.getD i "", i)) && setB it && (match itArgs glb sc kd tt it with
        | some es => chkEs glb N as sc es
        | none => false) && chkG N (wrB scope) tg tt && chkF glb N ifs (relS scope sc) fs && chkE glb N elt false (relS scope sc) el) = true)
    (hA : ∀ es, chkEs glb N as sc es = true → PA X es (tA r (evEs cx as))) (hL : ∀ es, chkEs glb N as sc es = true → ∀ p ∈ as, ∀ e, chkE glb N p false sc e = true → PE X e (tE r (evE cx p)))
    (hT : ∀ {X' : L2.Cx}, Gd m glb k N (relS scope sc) r.nox X' cx → ∀ p, ifs = some p → ∀ e, chkE glb N p true (relS scope sc) e = true → PT X' e (tT r.nox (evT cx p)))
    (hE : ∀ {X' : L2.Cx}, Gd m glb k N (relS scope sc) r.nox X' cx → ∀ e, chkE glb N elt false (relS scope sc) e = true → PE X' e (tE r.nox (evE cx elt))) :
    PI X tt it (iD r.c r.pn kd (tA r (evEs cx as))) ∧ BlkOk X.N X.env.scope scope (vs.map fun i => (N.getD i "", i)) ∧
      (∀ (s : Shared) (H : Hp) (C : Addr) (cl : List (Str × Addr)) (fp : List Addr), PG (X.blk s H scope (compEnvC scope cl C X.env) fp) tt (tG r.nox tg false)) ∧
      (∀ (s : Shared) (H : Hp) (C : Addr) (cl : List (Str × Addr)) (fp : List Addr), PTs (X.blk s H scope (compEnvC scope cl C X.env) fp) fs (tT r.nox (evI cx ifs))) ∧
      ∀ (s : Shared) (H : Hp) (C : Addr) (cl : List (Str × Addr)) (fp : List Addr), PE (X.blk s H scope (compEnvC scope cl C X.env) fp) el (tE r.nox (evE cx elt)) := by
  obtain ⟨h1, h2⟩ := and2 h'
  obtain ⟨h3, h4⟩ := and2 h1
  obtain ⟨h5, h6⟩ := and2 h3
  obtain ⟨h7, h8⟩ := and2 h5
  obtain ⟨h9, h10⟩ := and2 h7
  refine ⟨?_, ?_, fun s H C cl fp => ?_, fun s H C cl fp => ?_, fun s H C cl fp => ?_⟩
  · split at h8
    · rename_i es hes
      refine sI g hes (hA es h8) h8 fun p e ep ee => ?_
      subst ep ee
      have z : (plainB e && chkE glb N p false sc e && chkEs glb N [] sc []) = true := h8
      exact hL _ h8 p (by simp) e (and2 (and2 z).1).2
    · cases h8
  · rw [g.hN, g.hsc]
    exact blkOk_by h9
  · exact sG (g_blk g hh s H scope C cl fp) (g.calm hh) (wr_blk g.hsc s H C cl fp) h6
  · cases ifs with
    | none =>
      have e : fs = [] := List.isEmpty_iff.mp h4
      subst e
      exact ⟨fun pins s σ H Q I h => pts_nil.run pins s σ H Q I (by
        obtain ⟨U, δ, A, h⟩ := h
        exact h true U H A rfl StpE.refl)⟩
    | some p =>
      have h5 : (match (generalizing := false) fs with
        | [f] => chkE glb N p true (relS scope sc) f
        | _ => false) = true := h4
      split at h5
      · rename_i f
        exact pts_one (hT (g_blk g hh s H scope C cl fp) p rfl f h5)
      · cases h5
  · exact hE (g_blk g hh s H scope C cl fp) el h2
mutual
theorem sE {sc : Scope} {r : Ar} {X : L2.Cx} {cx : Ev.Cx} (g : Gd m glb k N sc r X cx) : ∀ (p : PX) {t : Bool} {e : Expr}, chkE glb N p t sc e = true → PE X e (tE r (evE cx p))
  | .var i, t, e, h => by
    cases e <;> first | cases h | skip
    rename_i x p
    obtain ⟨h1, h2⟩ := and2 (show (decide (N[i]? = some x) && visB sc x && okN x) = true from h)
    obtain ⟨h3, h4⟩ := and2 h1
    obtain ⟨h5, h6⟩ := okN_of h2
    exact e_var g (of_decide_eq_true h3) (visB_of h4) h5 h6
  | .cn d, t, e, h => by
    have h' : (cnOk d e || (match (generalizing := false) e, d with
      | .Name x _, .fn g => gB glb x (isFn g) && glB sc x && okN x
      | _, _ => false)) = true := h
    rw [Bool.or_eq_true] at h'
    rcases h' with h' | h'
    · exact e_cn h'
    · split at h'
      · rename_i x p gn
        obtain ⟨h1, h2⟩ := and2 h'
        obtain ⟨h3, h4⟩ := and2 h1
        exact e_fn g (gB_fn h3) (of_decide_eq_true h4) (okN_of h2).1
      · cases h'
  | .glob n, t, e, h => by
    cases e <;> first | cases h | skip
    rename_i x p
    obtain ⟨h1, h2⟩ := and2 (show (gB glb x (isCs n) && glB sc x && okN x) = true from h)
    obtain ⟨h3, h4⟩ := and2 h1
    exact e_glob g (gB_cs h3) (of_decide_eq_true h4) (okN_of h2).1
  | .bin op a b, t, e, h => by
    cases e <;> first | cases h | skip
    rename_i x o y p
    obtain ⟨h1, h2⟩ := and2 (show (decide (o = op) && chkE glb N a false sc x && chkE glb N b false sc y) = true from h)
    obtain ⟨h3, h4⟩ := and2 h1
    obtain rfl := of_decide_eq_true h3
    exact e_bin g (sE g a h4) (sE g b h2)
  | .un op a, t, e, h => by
    cases e <;> first | cases h | skip
    rename_i o x p
    obtain ⟨h0, h2⟩ := and2 (show (decide (o = op) && decide (op ≠ .Not) && chkE glb N a false sc x) = true from h)
    obtain rfl := of_decide_eq_true (and2 h0).1
    exact e_un g (sE g a h2)
  | .nt a, t, e, h => by
    cases e <;> first | cases h | skip
    rename_i o x p
    cases o <;> first | cases h | skip
    exact e_nt g (sE g a (show chkE glb N a t sc x = true from h))
  | .andE a b, t, e, h => by
    have h' : (match (generalizing := false) e with
      | .BoolOp .And (x :: y :: r) pos => chkE glb N a t sc x && (if r.isEmpty then chkE glb N b t sc y else chkE glb N b t sc (.BoolOp .And (y :: r) pos))
      | _ => false) = true := h
    split at h'
    · rename_i x y rr pos
      obtain ⟨h1, h2⟩ := and2 h'
      refine e_and g (sE g a h1) ?_
      split at h2
      · rename_i hr
        have hr' : rr = [] := List.isEmpty_iff.mp hr
        subst hr'
        exact pe_one (sE g b h2)
      · exact sE g b h2
    · cases h'
  | .orE a b, t, e, h => by
    have h' : (match (generalizing := false) e with
      | .BoolOp .Or (x :: y :: r) pos => chkE glb N a t sc x && (if r.isEmpty then chkE glb N b t sc y else chkE glb N b t sc (.BoolOp .Or (y :: r) pos))
      | _ => false) = true := h
    split at h'
    · rename_i x y rr pos
      obtain ⟨h1, h2⟩ := and2 h'
      refine e_or g (sE g a h1) ?_
      split at h2
      · rename_i hr
        have hr' : rr = [] := List.isEmpty_iff.mp hr
        subst hr'
        exact pe_one (sE g b h2)
      · exact sE g b h2
    · cases h'
  | .ite c a b, t, e, h => by
    cases e <;> first | cases h | skip
    rename_i z x y p
    obtain ⟨h1, h2⟩ := and2 (show (!t && chkE glb N c true sc z && chkE glb N a false sc x && chkE glb N b false sc y) = true from h)
    obtain ⟨h3, h4⟩ := and2 h1
    obtain ⟨h5, h6⟩ := and2 h3
    exact e_ite (sT g c h6) (sE g a h4) (sE g b h2)
  | .cmp op a b, t, e, h => by
    have h' : (match (generalizing := false) e with
      | .Compare x [o] [y] _ => decide (o = op) && !behindInMarks op y && chkE glb N a false sc x && chkE glb N b false sc y
      | _ => false) = true := h
    split at h'
    · rename_i x o y p
      obtain ⟨h1, h2⟩ := and2 h'
      obtain ⟨h3, h4⟩ := and2 h1
      obtain ⟨h5, h6⟩ := and2 h3
      obtain rfl := of_decide_eq_true h5
      exact e_cmp g (sE g a h4) (sE g b h2) (by simpa using h6)
    · cases h'
  | .cmp2 op op' a b c, t, e, h => by
    have h' : (match (generalizing := false) e with
      | .Compare x [o, o'] [y, z] _ => decide (o = op) && decide (o' = op') && !lastMarks [op, op'] [y, z] && chkE glb N a false sc x && chkE glb N b false sc y && chkE glb N c false sc z
      | _ => false) = true := h
    split at h'
    · rename_i x o o' y z p
      obtain ⟨h1, h2⟩ := and2 h'
      obtain ⟨h3, h4⟩ := and2 h1
      obtain ⟨h5, h6⟩ := and2 h3
      obtain ⟨h7, h8⟩ := and2 h5
      obtain ⟨h9, h10⟩ := and2 h7
      obtain rfl := of_decide_eq_true h9
      obtain rfl := of_decide_eq_true h10
      exact e_cmp2 g (sE g a h6) (sE g b h4) (sE g c h2) (by simpa using h8)
    · cases h'
  | .tup as, t, e, h => by
    cases e <;> first | cases h | skip
    exact e_tup g (sEs g as h)
  | .lst as, t, e, h => by
    cases e <;> first | cases h | skip
    exact e_lst g (sEs g as h)
  | .tupS bs as, t, e, h => by
    cases e <;> first | cases h | skip
    exact e_tupS g (sDs g bs as h)
  | .lstS bs as, t, e, h => by
    cases e <;> first | cases h | skip
    exact e_lstS g (sDs g bs as h)
  | .sub a i, t, e, h => by
    cases e <;> first | cases h | skip
    rename_i x y p
    obtain ⟨h1, h2⟩ := and2 (show (ixB y && chkE glb N a false sc x && chkE glb N i false sc y) = true from h)
    obtain ⟨h3, h4⟩ := and2 h1
    exact e_sub g (sE g a h4) (sE g i h2) (ix_of h3)
  | .rev a, t, e, h => by
    have h' : (match (generalizing := false) e with
      | .Subscript x (.Slice none none (some (.UnaryOp .USub (.Constant (.int 1) _ _) _)) _) _ => chkE glb N a false sc x
      | _ => false) = true := h
    split at h'
    · exact e_rev g (sE g a h')
    · cases h'
  | .slc a lo hi, t, e, h => by
    have h' : (match (generalizing := false) e with
      | .Subscript x (.Slice l h none _) _ => chkE glb N a false sc x && chkO glb N lo sc l && chkO glb N hi sc h
      | _ => false) = true := h
    split at h'
    · obtain ⟨h1, h2⟩ := and2 h'
      obtain ⟨h3, h4⟩ := and2 h1
      exact e_slc g (sE g a h3) (sO g lo h4) (sO g hi h2)
    · cases h'
  | .call f as, t, e, h => by
    have h' : (match (generalizing := false) e with
      | .Call (.Name x _) es [] _ => gB glb x (isFn f) && glB sc x && okN x && chkEs glb N as sc es
      | _ => false) = true := h
    split at h'
    · rename_i x px es pos
      obtain ⟨h1, h2⟩ := and2 h'
      obtain ⟨h3, h4⟩ := and2 h1
      obtain ⟨h5, h6⟩ := and2 h3
      have hp := plain_is h2
      have ha := sEs g as h2
      cases es with
      | nil =>
        cases as with
        | nil => exact e_call0 g (gB_fn h5) (of_decide_eq_true h6) (okN_of h4).1
        | cons _ _ => cases h2
      | cons y es => exact e_call g (gB_fn h5) (of_decide_eq_true h6) (okN_of h4).1 ha (star1 (and2 hp).1) (star_any (and2 hp).2).1
    · cases h'
  | .callv f as, t, e, h => by
    have h' : (match (generalizing := false) e with
      | .Call b (y :: es) [] _ => notAttr b && chkE glb N f false sc b && chkEs glb N as sc (y :: es)
      | _ => false) = true := h
    split at h'
    · rename_i b y es pos
      obtain ⟨h1, h2⟩ := and2 h'
      obtain ⟨h3, h4⟩ := and2 h1
      have hp := plain_is h2
      exact e_callv g (sE g f h4) h3 (sEs g as h2) (star1 (and2 hp).1) (star_any (and2 hp).2).1
    · cases h'
  | .bi bf as, t, e, h => by
    have h' : (match (generalizing := false) e with
      | .Call (.Name x _) (y :: es) [] _ => decide (x = biName bf) && bnB glb sc (biName bf) && chkEs glb N as sc (y :: es)
      | _ => false) = true := h
    split at h'
    · rename_i x px y es pos
      obtain ⟨h1, h2⟩ := and2 h'
      obtain ⟨h3, h4⟩ := and2 h1
      obtain rfl := of_decide_eq_true h3
      obtain ⟨h5, h6⟩ := bnB_of h4
      have hp := plain_is h2
      exact e_bi g h5 h6 (sEs g as h2) (star1 (and2 hp).1) (star_any (and2 hp).2).1
    · cases h'
  | .lrng as, t, e, h => by
    have h' : (match (generalizing := false) e with
      | .Call (.Name x _) [.Call (.Name y _) es [] _] [] _ => decide (x = "list") && decide (y = "range") && bnB glb sc "list" && bnB glb sc "range" && (match (generalizing := false) es with
        | [_] => true
        | [_, _] => true
        | _ => false) && chkEs glb N as sc es
      | _ => false) = true := h
    split at h'
    · rename_i x px y py es p1 p2
      obtain ⟨h1, h2⟩ := and2 h'
      obtain ⟨h3, h4⟩ := and2 h1
      obtain ⟨h5, h6⟩ := and2 h3
      obtain ⟨h7, h8⟩ := and2 h5
      obtain ⟨h9, h10⟩ := and2 h7
      obtain rfl := of_decide_eq_true h9
      obtain rfl := of_decide_eq_true h10
      obtain ⟨l1, l2⟩ := bnB_of h8
      obtain ⟨r1, r2⟩ := bnB_of h6
      have hp := plain_is h2
      have ha := sEs g as h2
      have one := fun a (z : a ∈ as) => sEl g as h2 a z
      split at h4
      · rename_i y
        have hl := chk_len h2
        match as, hl, h2, one with
        | [pa], _, h2, one =>
          have h2' : (plainB y && chkE glb N pa false sc y && chkEs glb N [] sc []) = true := h2
          exact e_lrng1 g r1 r2 l1 l2 (one pa (by simp) y (and2 (and2 h2').1).2) (star1 (and2 hp).1)
      · rename_i y z
        have hl := chk_len h2
        match as, hl, h2, one with
        | [pa, pb], _, h2, one =>
          have h2' : (plainB y && chkE glb N pa false sc y && (plainB z && chkE glb N pb false sc z && chkEs glb N [] sc [])) = true := h2
          obtain ⟨q1, q2⟩ := and2 h2'
          have e1 := star1 (es := []) (env := X.env) (and2 (and2 hp).2).1
          exact e_lrng2 g r1 r2 l1 l2 (one pa (by simp) y (and2 q1).2) (one pb (by simp) z (and2 (and2 q2).1).2) (star1 (and2 hp).1) e1 (star_any (and2 hp).2).1
      · cases h4
    · cases h'
  | .trng as, t, e, h => by
    have h' : (match (generalizing := false) e with
      | .Call (.Name x _) [.Call (.Name y _) es [] _] [] _ => decide (x = "tuple") && decide (y = "range") && bnB glb sc "tuple" && bnB glb sc "range" && (match (generalizing := false) es with
        | [_] => true
        | [_, _] => true
        | _ => false) && chkEs glb N as sc es
      | _ => false) = true := h
    split at h'
    · rename_i x px y py es p1 p2
      obtain ⟨h1, h2⟩ := and2 h'
      obtain ⟨h3, h4⟩ := and2 h1
      obtain ⟨h5, h6⟩ := and2 h3
      obtain ⟨h7, h8⟩ := and2 h5
      obtain ⟨h9, h10⟩ := and2 h7
      obtain rfl := of_decide_eq_true h9
      obtain rfl := of_decide_eq_true h10
      obtain ⟨l1, l2⟩ := bnB_of h8
      obtain ⟨r1, r2⟩ := bnB_of h6
      have hp := plain_is h2
      have ha := sEs g as h2
      have one := fun a (z : a ∈ as) => sEl g as h2 a z
      split at h4
      · rename_i y
        have hl := chk_len h2
        match as, hl, h2, one with
        | [pa], _, h2, one =>
          have h2' : (plainB y && chkE glb N pa false sc y && chkEs glb N [] sc []) = true := h2
          exact e_trng1 g r1 r2 l1 l2 (one pa (by simp) y (and2 (and2 h2').1).2) (star1 (and2 hp).1)
      · rename_i y z
        have hl := chk_len h2
        match as, hl, h2, one with
        | [pa, pb], _, h2, one =>
          have h2' : (plainB y && chkE glb N pa false sc y && (plainB z && chkE glb N pb false sc z && chkEs glb N [] sc [])) = true := h2
          obtain ⟨q1, q2⟩ := and2 h2'
          have e1 := star1 (es := []) (env := X.env) (and2 (and2 hp).2).1
          exact e_trng2 g r1 r2 l1 l2 (one pa (by simp) y (and2 q1).2) (one pb (by simp) z (and2 (and2 q2).1).2) (star1 (and2 hp).1) e1 (star_any (and2 hp).2).1
      · cases h4
    · cases h'
  | .isE a n, t, e, h => by
    have h' : (match (generalizing := false) e with
      | .Call (.Name x _) [z, .Name y _] [] _ => decide (x = biName .isin) && bnB glb sc (biName .isin) && plainB z && chkE glb N a false sc z && gB glb y (isCl n) && glB sc y && okN y
      | _ => false) = true := h
    split at h'
    · rename_i x px z y py pos
      obtain ⟨h1, h2⟩ := and2 h'
      obtain ⟨h3, h4⟩ := and2 h1
      obtain ⟨h5, h6⟩ := and2 h3
      obtain ⟨h7, h8⟩ := and2 h5
      obtain ⟨h9, h10⟩ := and2 h7
      obtain ⟨h11, h12⟩ := and2 h9
      obtain rfl := of_decide_eq_true h11
      obtain ⟨r1, r2⟩ := bnB_of h12
      exact e_isE g r1 r2 (sE g a h8) (gB_cl h6) (of_decide_eq_true h4) (okN_of h2).1 fun es => star1 h10
    · cases h'
  | .mt t' a as, t, e, h => by
    have h' : (match (generalizing := false) e with
      | .Call (.Attribute o nm apos) (y :: es) [] pos => decide (nm = mtName t') && (apos.endLine == pos.line) && baseB o && chkE glb N a false sc o && decide ((y :: es).length < 29) && chkEs glb N as sc (y :: es)
      | _ => false) = true := h
    split at h'
    · rename_i o nm apos y es pos
      obtain ⟨h1, h2⟩ := and2 h'
      obtain ⟨h3, h4⟩ := and2 h1
      obtain ⟨h5, h6⟩ := and2 h3
      obtain ⟨h7, h8⟩ := and2 h5
      obtain ⟨h9, h10⟩ := and2 h7
      obtain rfl := of_decide_eq_true h9
      have hp := plain_is h2
      exact e_mt g (sE g a h6) (sEs g as h2) (base_of h8) (few_of hp h4) h10 (star1 (and2 hp).1) (star_any (and2 hp).2).1
    · cases h'
  | .mm t' i as, t, e, h => by
    have h' : (match (generalizing := false) e with
      | .Call (.Attribute (.Name x _) nm apos) es [] pos => decide (nm = mmName t') && (apos.endLine == pos.line) && decide (N[i]? = some x) && visB sc x && okN x && decide (es.length < 29) && chkEs glb N as sc es
      | _ => false) = true := h
    split at h'
    · rename_i x px nm apos es pos
      obtain ⟨h1, h2⟩ := and2 h'
      obtain ⟨h3, h4⟩ := and2 h1
      obtain ⟨h5, h6⟩ := and2 h3
      obtain ⟨h7, h8⟩ := and2 h5
      obtain ⟨h9, h10⟩ := and2 h7
      obtain ⟨h11, h12⟩ := and2 h9
      obtain rfl := of_decide_eq_true h11
      obtain ⟨o1, o2⟩ := okN_of h6
      have hp := plain_is h2
      have ha := sEs g as h2
      cases es with
      | nil =>
        cases as with
        | nil => exact e_mm0 g (of_decide_eq_true h10) (visB_of h8) o1 o2 h12
        | cons _ _ => cases h2
      | cons y es => exact e_mm g (of_decide_eq_true h10) (visB_of h8) o1 o2 ha (few_of hp h4) h12 (star1 (and2 hp).1) (star_any (and2 hp).2).1
    · cases h'
  | .lc vs tg kd as ifs elt, t, e, h => by
    have h' : (match (generalizing := false) e with
      | .ListComp el [⟨tt, it, fs, 0⟩] scope _ => blkC N sc scope (vs.map fun i => (N.getD i "", i)) && setB it && (match (generalizing := false) itArgs glb sc kd tt it with
        | some es => chkEs glb N as sc es
        | none => false) && chkG N (wrB scope) tg tt && chkF glb N ifs (relS scope sc) fs && chkE glb N elt false (relS scope sc) el
      | _ => false) = true := h
    split at h'
    · rename_i el tt it fs scope pos
      refine ⟨fun pins s σ H Q I hq => ?_⟩
      have hh : cx.hot = false := by
        cases z : cx.hot with
        | false => rfl
        | true =>
          rw [show tE r (evE cx (.lc vs tg kd as ifs elt)) σ H Q = tM r (RO r) (evE cx (.lc vs tg kd as ifs elt)) σ H Q from rfl, lc_eq, z] at hq
          obtain ⟨_, _, _, w⟩ := hq
          exact w.elim
      have hT : ∀ {X' : L2.Cx}, Gd m glb k N (relS scope sc) r.nox X' cx → ∀ p, ifs = some p → ∀ e, chkE glb N p true (relS scope sc) e = true → PT X' e (tT r.nox (evT cx p)) := fun g' p hp e he => sT g' p he
      obtain ⟨o1, o2, o3, o4, o5⟩ := sLc g hh h' (fun es hes => sEs g as hes) (fun es hes p hp => sEl g as hes p hp) hT (fun g' => fun e he => sE g' elt he)
      have p := pe_lc (X := X) (pos := pos) (g.calm hh) (by rw [g.hN]; exact g.nd) o1 o2 o3 o4 o5 (set_of (and2 (and2 (and2 (and2 (and2 h').1).1).1).1).2)
      rw [own_map] at p
      exact p.run pins s σ H Q I (lc_to g hh hq)
    · cases h'
  | .dc vs tg kd as ifs ke ve, t, e, h => by
    have h' : (match (generalizing := false) e with
      | .DictComp kl vl [⟨tt, it, fs, 0⟩] scope _ => blkC N sc scope (vs.map fun i => (N.getD i "", i)) && setB it && (match (generalizing := false) itArgs glb sc kd tt it with
        | some es => chkEs glb N as sc es
        | none => false) && chkG N (wrB scope) tg tt && chkF glb N ifs (relS scope sc) fs && chkE glb N ke false (relS scope sc) kl && chkE glb N ve false (relS scope sc) vl
      | _ => false) = true := h
    split at h'
    · rename_i kl vl tt it fs scope pos
      refine ⟨fun pins s σ H Q I hq => ?_⟩
      have hh : cx.hot = false := by
        cases z : cx.hot with
        | false => rfl
        | true =>
          rw [show tE r (evE cx (.dc vs tg kd as ifs ke ve)) σ H Q = tM r (RO r) (evE cx (.dc vs tg kd as ifs ke ve)) σ H Q from rfl, dc_eq, z] at hq
          obtain ⟨_, _, _, w⟩ := hq
          exact w.elim
      have hT : ∀ {X' : L2.Cx}, Gd m glb k N (relS scope sc) r.nox X' cx → ∀ p, ifs = some p → ∀ e, chkE glb N p true (relS scope sc) e = true → PT X' e (tT r.nox (evT cx p)) := fun g' p hp e he => sT g' p he
      obtain ⟨hk, hv⟩ := and2 h'
      obtain ⟨o1, o2, o3, o4, o5⟩ := sLc g hh hk (fun es hes => sEs g as hes) (fun es hes p hp => sEl g as hes p hp) hT (fun g' => fun e he => sE g' ke he)
      obtain ⟨_, _, _, _, o6⟩ := sLc (elt := ve) (el := vl) g hh (by rw [(and2 hk).1, hv]; rfl) (fun es hes => sEs g as hes) (fun es hes p hp => sEl g as hes p hp) hT (fun g' => fun e he => sE g' ve he)
      have p := pe_dc (X := X) (pos := pos) (g.calm hh) (by rw [g.hN]; exact g.nd) o1 o2 o3 o4 o5 o6 (set_of (and2 (and2 (and2 (and2 (and2 hk).1).1).1).1).2)
      rw [own_map] at p
      exact p.run pins s σ H Q I (dc_to g hh hq)
    · cases h'
termination_by p => (sizeOf p, 0)
decreasing_by all_goals (try subst_vars); all_goals (simp_wf; try omega)
theorem sT {sc : Scope} {r : Ar} {X : L2.Cx} {cx : Ev.Cx} (g : Gd m glb k N sc r X cx) : ∀ (p : PX) {e : Expr}, chkE glb N p true sc e = true → PT X e (tT r (evT cx p))
  | .nt a, e, h => by
    cases e <;> first | cases h | skip
    rename_i o x p
    cases o <;> first | cases h | skip
    exact t_nt (sT g a (show chkE glb N a true sc x = true from h))
  | .andE a b, e, h => by
    have h' : (match (generalizing := false) e with
      | .BoolOp .And (x :: y :: r) pos => chkE glb N a true sc x && (if r.isEmpty then chkE glb N b true sc y else chkE glb N b true sc (.BoolOp .And (y :: r) pos))
      | _ => false) = true := h
    split at h'
    · rename_i x y rr pos
      obtain ⟨h1, h2⟩ := and2 h'
      refine (t_and (sT g a h1) ?_).pt
      split at h2
      · rename_i hr
        have hr' : rr = [] := List.isEmpty_iff.mp hr
        subst hr'
        exact pw_and1 (sT g b h2)
      · exact pw_of (sT g b h2)
    · cases h'
  | .orE a b, e, h => by
    have h' : (match (generalizing := false) e with
      | .BoolOp .Or (x :: y :: r) pos => chkE glb N a true sc x && (if r.isEmpty then chkE glb N b true sc y else chkE glb N b true sc (.BoolOp .Or (y :: r) pos))
      | _ => false) = true := h
    split at h'
    · rename_i x y rr pos
      obtain ⟨h1, h2⟩ := and2 h'
      refine (t_or (sT g a h1) ?_).pt
      split at h2
      · rename_i hr
        have hr' : rr = [] := List.isEmpty_iff.mp hr
        subst hr'
        exact pw_or1 (sT g b h2)
      · exact pw_of (sT g b h2)
    · cases h'
  | .cmp op a b, e, h => by
    have h' : (match (generalizing := false) e with
      | .Compare x [o] [y] _ => decide (o = op) && !behindInMarks op y && chkE glb N a false sc x && chkE glb N b false sc y
      | _ => false) = true := h
    split at h'
    · rename_i x o y p
      obtain ⟨h1, h2⟩ := and2 h'
      obtain ⟨h3, h4⟩ := and2 h1
      obtain ⟨h5, h6⟩ := and2 h3
      obtain rfl := of_decide_eq_true h5
      exact t_cmp g (sE g a h4) (sE g b h2) (by simpa using h6)
    · cases h'
  | .cmp2 op op' a b c, e, h => by
    have h' : (match (generalizing := false) e with
      | .Compare x [o, o'] [y, z] _ => decide (o = op) && decide (o' = op') && !lastMarks [op, op'] [y, z] && chkE glb N a false sc x && chkE glb N b false sc y && chkE glb N c false sc z
      | _ => false) = true := h
    split at h'
    · rename_i x o o' y z p
      obtain ⟨h1, h2⟩ := and2 h'
      obtain ⟨h3, h4⟩ := and2 h1
      obtain ⟨h5, h6⟩ := and2 h3
      obtain ⟨h7, h8⟩ := and2 h5
      obtain ⟨h9, h10⟩ := and2 h7
      obtain rfl := of_decide_eq_true h9
      obtain rfl := of_decide_eq_true h10
      exact t_cmp2 g (sE g a h6) (sE g b h4) (sE g c h2) (by simpa using h8)
    · cases h'
  | .ite c a b, e, h => by
    cases e <;> cases h
  | .var i, e, h => t_val g (sE g _ h) (plT_of (by cases e <;> first | rfl | cases h))
  | .cn d, e, h => t_val g (sE g _ h) (plT_of (by cases e <;> first | rfl | (cases d <;> cases h)))
  | .glob i, e, h => t_val g (sE g _ h) (plT_of (by cases e <;> first | rfl | cases h))
  | .bin op a b, e, h => t_val g (sE g _ h) (plT_of (by cases e <;> first | rfl | cases h))
  | .un op a, e, h => t_val g (sE g _ h) (plT_of (by
    cases e <;> first | rfl | cases h | skip
    rename_i o x p
    cases o <;> first | rfl | skip
    obtain ⟨h0, h2⟩ := and2 (show (decide (UnaryOp.Not = op) && decide (op ≠ .Not) && chkE glb N a false sc x) = true from h)
    exact absurd (of_decide_eq_true (and2 h0).1).symm (of_decide_eq_true (and2 h0).2)))
  | .tup as, e, h => t_val g (sE g _ h) (plT_of (by cases e <;> first | rfl | cases h))
  | .lst as, e, h => t_val g (sE g _ h) (plT_of (by cases e <;> first | rfl | cases h))
  | .sub a i, e, h => t_val g (sE g _ h) (plT_of (by cases e <;> first | rfl | cases h))
  | .tupS bs as, e, h => t_val g (sE g _ h) (plT_of (by cases e <;> first | rfl | cases h))
  | .lstS bs as, e, h => t_val g (sE g _ h) (plT_of (by cases e <;> first | rfl | cases h))
  | .rev a, e, h => t_val g (sE g _ h) (plT_of (by cases e <;> first | rfl | cases h))
  | .slc a lo hi, e, h => t_val g (sE g _ h) (plT_of (by cases e <;> first | rfl | cases h))
  | .call f as, e, h => t_val g (sE g _ h) (plT_of (by cases e <;> first | rfl | cases h))
  | .callv f as, e, h => t_val g (sE g _ h) (plT_of (by cases e <;> first | rfl | cases h))
  | .bi f as, e, h => t_val g (sE g _ h) (plT_of (by cases e <;> first | rfl | cases h))
  | .lrng as, e, h => t_val g (sE g _ h) (plT_of (by cases e <;> first | rfl | cases h))
  | .trng as, e, h => t_val g (sE g _ h) (plT_of (by cases e <;> first | rfl | cases h))
  | .isE a n, e, h => t_val g (sE g _ h) (plT_of (by cases e <;> first | rfl | cases h))
  | .mt t a as, e, h => t_val g (sE g _ h) (plT_of (by cases e <;> first | rfl | cases h))
  | .mm t i as, e, h => t_val g (sE g _ h) (plT_of (by cases e <;> first | rfl | cases h))
  | .lc vs tg kd as ifs elt, e, h => t_val g (sE g _ h) (plT_of (by cases e <;> first | rfl | cases h))
  | .dc vs tg kd as ifs ke ve, e, h => t_val g (sE g _ h) (plT_of (by cases e <;> first | rfl | cases h))
termination_by p => (sizeOf p, 1)
decreasing_by all_goals (simp_wf; try omega)
theorem sEs {sc : Scope} {r : Ar} {X : L2.Cx} {cx : Ev.Cx} (g : Gd m glb k N sc r X cx) : ∀ (ps : List PX) {es : List Expr}, chkEs glb N ps sc es = true → PA X es (tA r (evEs cx ps))
  | [], es, h => by
    cases es <;> first | cases h | skip
    exact a_nil
  | p :: ps, es, h => by
    cases es <;> first | cases h | skip
    rename_i e es
    have h' : (plainB e && chkE glb N p false sc e && chkEs glb N ps sc es) = true := h
    obtain ⟨h1, h2⟩ := and2 h'
    obtain ⟨h3, h4⟩ := and2 h1
    exact a_cons (sE g p h4) (sEs g ps h2) (star1 h3)
termination_by p => (sizeOf p, 0)
decreasing_by all_goals (simp_wf; try omega)
theorem sDs {sc : Scope} {r : Ar} {X : L2.Cx} {cx : Ev.Cx} (g : Gd m glb k N sc r X cx) : ∀ (bs : List Bool) (ps : List PX) {es : List Expr}, chkDs glb N bs ps sc es = true → PA X es (tA r (evSs cx bs ps))
  | bs, [], es, h => by
    cases es <;> first | cases h | skip
    exact as_nil
  | [], p :: ps, es, h => by cases h
  | b :: bs, p :: ps, es, h => by
    have h' : (match (generalizing := false) es with
      | .Starred e _ :: es => b && chkE glb N p false sc e && chkDs glb N bs ps sc es
      | e :: es => !b && plainB e && chkE glb N p false sc e && chkDs glb N bs ps sc es
      | [] => false) = true := h
    split at h'
    · obtain ⟨h1, h2⟩ := and2 h'
      obtain ⟨h3, h4⟩ := and2 h1
      subst h3
      exact as_star g (sE g p h4) (sDs g bs ps h2)
    · obtain ⟨h1, h2⟩ := and2 h'
      obtain ⟨h3, h4⟩ := and2 h1
      obtain ⟨h5, h6⟩ := and2 h3
      have hb : b = false := by cases b <;> first | rfl | cases h5
      subst hb
      exact as_cons (sE g p h4) (sDs g bs ps h2) (star1 h6)
    · cases h'
termination_by _ p => (sizeOf p, 0)
decreasing_by all_goals (simp_wf; try omega)
theorem sEl {sc : Scope} {r : Ar} {X : L2.Cx} {cx : Ev.Cx} (g : Gd m glb k N sc r X cx) : ∀ (ps : List PX) {es : List Expr}, chkEs glb N ps sc es = true → ∀ p ∈ ps, ∀ e, chkE glb N p false sc e = true → PE X e (tE r (evE cx p))
  | [], es, h, q, hq => by cases hq
  | p :: ps, es, h, q, hq => fun e he => by
    cases es <;> first | cases h | skip
    rename_i e1 es
    have h' : (plainB e1 && chkE glb N p false sc e1 && chkEs glb N ps sc es) = true := h
    obtain ⟨h1, h2⟩ := and2 h'
    have z1 := fun (e : Expr) (he : chkE glb N p false sc e = true) => sE g p he
    have z2 := fun q hq => sEl g ps h2 q hq
    rcases List.mem_cons.mp hq with z | z
    · subst z
      exact z1 e he
    · exact z2 q z e he
termination_by p => (sizeOf p, 0)
decreasing_by all_goals (simp_wf; try omega)
theorem sO {sc : Scope} {r : Ar} {X : L2.Cx} {cx : Ev.Cx} (g : Gd m glb k N sc r X cx) : ∀ (p : Option PX) {e : Option Expr}, chkO glb N p sc e = true → PO X e (tP r (evO cx p))
  | none, e, h => by
    cases e <;> first | cases h | skip
    exact o_none
  | some p, e, h => by
    cases e <;> first | cases h | skip
    exact o_some (sE g p (show chkE glb N p false sc _ = true from h))
termination_by p => (sizeOf p, 0)
decreasing_by all_goals (simp_wf; try omega)
end
end Ev

set_option Elab.async false
set_option linter.all false
set_option maxRecDepth 100000
set_option maxHeartbeats 4000000
/-! Part S: statements, checked. -/
namespace Ev
open PySem L2 PyProof.Rows
def lcScope : Expr → Option Scope
  | .ListComp _ _ s _ => some s
  | .DictComp _ _ _ s _ => some s
  | _ => none
/-- does the store take part in the comprehension's ending -/
def swapB (x : Str) (npos : Pos) (a : Expr) (s : Scope) : Bool := npos.line == a.pos.line && !(s.names.any fun (n, k) => n == x && (k == .local || k == .cell))
def linesB (ts : List Expr) : Bool := ts.all fun t => t.pos.line == ((ts.head?.map (·.pos.line)).getD 0)
def nmB (N : List Str) (sc : Scope) (i : Nat) (x : Str) : Bool := decide (N[i]? = some x) && locB sc x
def noneB {α : Type} : List α → Bool
  | [] => true
  | _ => false
def cellN (sc : Scope) : Expr → Bool
  | .Name x _ => decide (sc.names.lookup x = some .cell)
  | _ => false
def tsW (N : List Str) (sc : Scope) : List Nat → List Expr → Bool
  | [], ts => ts.isEmpty
  | i :: is, ts => match ts with
    | .Name x _ :: ts => decide (N[i]? = some x) && wrB sc x && tsW N sc is ts
    | _ => false
def nmW (N : List Str) (sc : Scope) (i : Nat) (x : Str) : Bool := decide (N[i]? = some x) && wrB sc x
section
variable (glb : Str → Option Gk) (N : List Str)
def parB (sc : Scope) (is : List Nat) (es : List PX) (st : Stmt) : Bool := match st with
    | .Assign [.Tuple [.Name x px, .Name y py] kt pt] (.Tuple [a, b] k2 pt2) _ => (match is with
      | [i, j] => nmB N sc i x && nmB N sc j y && decide (i ≠ j) && decide (x ≠ y) && (px.line == py.line) && chkEs glb N es sc [a, b] && !(([a, b].all (foldedForSure 8))) && !([a, b].all (constantsAlone 8))
      | _ => false)
    | .Assign [.Tuple [.Name x px, .Name y py, .Name z pz] kt pt] (.Tuple [a, b, c] k2 pt2) _ => (match is with
      | [i, j, l] => nmB N sc i x && nmB N sc j y && nmB N sc l z && decide (i ≠ j) && decide (i ≠ l) && decide (j ≠ l) && decide (x ≠ y) && decide (x ≠ z) && decide (y ≠ z) && (px.line == py.line) && (px.line == pz.line) && chkEs glb N es sc [a, b, c] && !(([a, b, c].all (foldedForSure 8))) && !([a, b, c].all (constantsAlone 8))
      | _ => false)
    | _ => false
def parT (sc : Scope) (is : List Nat) (es : List PX) (st : Stmt) : Bool := match st with
  | .Assign [.Tuple ts _ _] (.Tuple vs _ _) _ => decide (is.length ≤ 3) && decide (es.length = is.length) && tsW N sc is ts && ts.any (cellN sc) && chkEs glb N es sc vs
  | _ => false
end
section
variable (glb : Str → Option Gk) (N : List Str)
mutual
def chkS (sc : Scope) : Stm → Stmt → Bool
  | .ex p, st => match st with
    | .Expr a _ => noSwap a && chkE glb N p false sc a
    | _ => false
  | .asg tg p, st => match st with
    | .Assign [t] a _ => (match t with
      | .Name x npos => (match tg with
        | .nm i => nmW N sc i x && chkE glb N p false sc a && (match lcScope a with
          | none => noSwap a
          | some s => decide (sc.names.lookup x = some .cell) || (locB sc x && swapB x npos a s))
        | _ => false)
      | .Tuple es _ _ => noSwap a && chkG N (wrB sc) tg t && chkE glb N p false sc a && (!isTup a || (match a with
        | .Tuple vs _ _ => vs.all (foldedForSure 8)
        | _ => false))
      | _ => false)
    | _ => false
  | .par is es, st => parB glb N sc is es st || parT glb N sc is es st
  | .aug i op p, st => match st with
    | .AugAssign (.Name x _) o a _ => decide (o = op) && nmW N sc i x && chkE glb N p false sc a
    | _ => false
  | .ret p, st => match st with
    | .Return (some a) _ => chkE glb N p false sc a
    | _ => false
  | .retN, st => match st with
    | .Return none _ => true
    | _ => false
  | .ifS c a b, st => match st with
    | .If t x y _ => chkE glb N c true sc t && chkSs sc a x && chkSs sc b y
    | _ => false
  | .forS tg kd as body, st => match st with
    | .For t it bs orelse _ => noneB orelse && setB it && plainB t && chkG N (wrB sc) tg t && (match itArgs glb sc kd t it with
      | some es => chkEs glb N as sc es
      | none => false) && chkSs sc body bs
    | _ => false
  | .whl c body, st => match st with
    | .While t bs orelse _ => noneB orelse && chkE glb N c true sc t && chkSs sc body bs
    | _ => false
  | .raise n, st => match st with
    | .Raise (some (.Call (.Name x _) [.Constant (.str _) _ _] [] _)) none _ => gB glb x (isCl n) && glB sc x && okN x
    | _ => false
  | .try_ body n i suite, st => match st with
    | .Try bs [.ExceptHandler (some (.Name x _)) (some nm) (s0 :: ss) _] orelse fin _ => noneB orelse && noneB fin && (match i with
      | some i => nmB N sc i nm
      | none => false) && gB glb x (isCl n) && glB sc x && okN x && chkSs sc body bs && chkSs sc suite (s0 :: ss)
    | _ => false
  | .pass, st => match st with
    | .Pass _ => true
    | _ => false
  | .brk, st => match st with
    | .Break _ => true
    | _ => false
  | .cnt, st => match st with
    | .Continue _ => true
    | _ => false
def chkSs (sc : Scope) : List Stm → List Stmt → Bool
  | [], sts => noneB sts
  | s :: ss, sts => match sts with
    | st :: sts => chkS sc s st && chkSs sc ss sts
    | [] => false
end
end
structure Gs (m : Md) (glb : Str → Option Gk) (k : Nat) (N : List Str) (sc : Scope) (r : Ar) (X : L2.Cx) (cx : Ev.Cx) : Prop where
  g : Gd m glb k N sc r X cx
  own : cx.hot = false → PassesOwn (model X.prog X.w) X.A X.env X.xe
  stk : X.stack = X.env :: X.outer
  frm : X.env.frame = some X.env.locals
  kind : sc.kind = .function
  fn : X.fn = fun _ => true
variable {m : Md} {glb : Str → Option Gk} {k : Nat} {N : List Str}
section
variable {sc : Scope} {r : Ar} {X : L2.Cx} {cx : Ev.Cx}
theorem Gs.blk (g : Gs m glb k N sc r X cx) : X.env.blockKind = .function := by
  unfold Env.blockKind
  rw [g.g.hsc, g.kind]
  rfl
theorem nmB_of {i : Nat} {x : Str} (h : nmB N sc i x = true) : N[i]? = some x ∧ sc.names.lookup x = some .local := by
  obtain ⟨h1, h2⟩ := and2 h
  exact ⟨of_decide_eq_true h1, of_decide_eq_true h2⟩
theorem kindOf_is (g : Gs m glb k N sc r X cx) {x : Str} (h : sc.names.lookup x = some .local) : X.env.kindOf x = some .local := by
  show X.env.scope.names.lookup x = _
  rw [g.g.hsc]; exact h
theorem noneB_of {α : Type} {l : List α} (h : noneB l = true) : l = [] := by
  cases l <;> first | rfl | cases h
theorem gx_name {i : Nat} {v : V} {σ : Sg} {H : Hp} {Q : L2.St → Hp → Prop} (h : tGx r (.nm i) v σ H Q) : gName i v σ H Q := by
  obtain ⟨o, H0, U, δ, d, A, rp, h⟩ := h
  cases e : tgt r.io (.nm i) o d δ with
  | none => rw [e] at h; exact h.elim
  | some δ' =>
    rw [e] at h
    obtain ⟨s, hi, nl, hio, rfl⟩ := tgt_nm_in e
    exact h _ (A.put hi rp) (put_s A.len hi nl hio)
/-- name = [.. for ..] -/
theorem s_setLc (g : Gs m glb k N sc r X cx) {i : Nat} {x : Str} {npos pos : Pos} {vs : List Nat} {tg : Tgt} {kd : Nat} {as : List PX} {ifs : Option PX} {elt : PX} {el : Expr} {gens : List Comprehension} {scope : Scope} {lpos : Pos} (hN : nmB N sc i x = true)
    (h : chkE glb N (.lc vs tg kd as ifs elt) false sc (.ListComp el gens scope lpos) = true) (hs : swapB x npos (.ListComp el gens scope lpos) scope = true) : PS X (.Assign [.Name x npos] (.ListComp el gens scope lpos) pos) (tS r (exS cx (.asg (.nm i) (.lc vs tg kd as ifs elt)))) := by
  obtain ⟨n1, n2⟩ := nmB_of hN
  have hsw : swapsWith (.ListComp el gens scope lpos) (some (.Name x npos)) pos.line X.env = pure true := by
    have e0 : swapsWith (.ListComp el gens scope lpos) (some (.Name x npos)) pos.line X.env = (pure (X.env.blockKind == .function && X.env.kindOf x == some .local && npos.line == (Expr.ListComp el gens scope lpos).pos.line
      && !(scope.names.any fun (n, k) => n == x && (k == .local || k == .cell))) : Sem Bool) := rfl
    rw [e0, g.blk, kindOf_is g n2]
    obtain ⟨s1, s2⟩ := and2 hs
    rw [s1, s2]
    rfl
  have h' : (match (generalizing := false) (Expr.ListComp el gens scope lpos) with
      | .ListComp el [⟨tt, it, fs, 0⟩] scope _ => blkC N sc scope (vs.map fun i => (N.getD i "", i)) && setB it && (match itArgs glb sc kd tt it with
        | some es => chkEs glb N as sc es
        | none => false) && chkG N (wrB scope) tg tt && chkF glb N ifs (relS scope sc) fs && chkE glb N elt false (relS scope sc) el
      | _ => false) = true := h
  split at h'
  · rename_i el' tt it fs scope' pos' heq
    cases heq
    refine ⟨fun pins s σ H D I hq => ?_⟩
    have ha := asg_to g.g hq
    have hh : cx.hot = false := by
      cases z : cx.hot with
      | false => rfl
      | true =>
        have ha' : tM r (RO r) (evE cx (.lc vs tg kd as ifs elt)) σ H _ := ha
        rw [lc_eq, z] at ha'
        obtain ⟨_, _, _, w⟩ := ha'
        exact w.elim
    obtain ⟨o1, o2, o3, o4, o5⟩ := sLc g.g hh h' (fun es hes => sEs g.g as hes) (fun es hes p hp => sEl g.g as hes p hp) (fun g' p hp e he => sT g' p he) (fun g' => fun e he => sE g' elt he)
    have p := ps_setLc (X := X) (spos := pos) (i := i) (y := x) (py := npos) (g.g.calm hh) (by rw [g.g.hN]; exact g.g.nd) (by rw [g.g.hN]; exact n1) (by rw [g.g.hsc]; exact n2) hsw o1 o2 o3 o4 o5 (set_of (and2 (and2 (and2 (and2 (and2 h').1).1).1).1).2)
    rw [own_map] at p
    refine p.run pins s σ H D I ?_
    show tLc _ _ _ _ _ _ _ _
    refine lc_to g.g hh (tM.mono ha fun v H1 q => gx_name q)
  · cases h'
theorem and_mk' {a b : Bool} (h1 : a = true) (h2 : b = true) : (a && b) = true := by rw [h1, h2]; rfl
/-- name = {.. for ..} -/
theorem s_setDc (g : Gs m glb k N sc r X cx) {i : Nat} {x : Str} {npos pos : Pos} {vs : List Nat} {tg : Tgt} {kd : Nat} {as : List PX} {ifs : Option PX} {ke ve : PX} {kl vl : Expr} {gens : List Comprehension} {scope : Scope} {lpos : Pos} (hN : nmB N sc i x = true)
    (h : chkE glb N (.dc vs tg kd as ifs ke ve) false sc (.DictComp kl vl gens scope lpos) = true) (hs : swapB x npos (.DictComp kl vl gens scope lpos) scope = true) : PS X (.Assign [.Name x npos] (.DictComp kl vl gens scope lpos) pos) (tS r (exS cx (.asg (.nm i) (.dc vs tg kd as ifs ke ve)))) := by
  obtain ⟨n1, n2⟩ := nmB_of hN
  have hsw : swapsWith (.DictComp kl vl gens scope lpos) (some (.Name x npos)) pos.line X.env = pure true := by
    have e0 : swapsWith (.DictComp kl vl gens scope lpos) (some (.Name x npos)) pos.line X.env = (pure (X.env.blockKind == .function && X.env.kindOf x == some .local && npos.line == (Expr.DictComp kl vl gens scope lpos).pos.line
      && !(scope.names.any fun (n, k) => n == x && (k == .local || k == .cell))) : Sem Bool) := rfl
    rw [e0, g.blk, kindOf_is g n2]
    obtain ⟨s1, s2⟩ := and2 hs
    rw [s1, s2]
    rfl
  have h' : (match (generalizing := false) (Expr.DictComp kl vl gens scope lpos) with
      | .DictComp kl vl [⟨tt, it, fs, 0⟩] scope _ => blkC N sc scope (vs.map fun i => (N.getD i "", i)) && setB it && (match itArgs glb sc kd tt it with
        | some es => chkEs glb N as sc es
        | none => false) && chkG N (wrB scope) tg tt && chkF glb N ifs (relS scope sc) fs && chkE glb N ke false (relS scope sc) kl && chkE glb N ve false (relS scope sc) vl
      | _ => false) = true := h
  split at h'
  · rename_i kl' vl' tt it fs scope' pos' heq
    cases heq
    refine ⟨fun pins s σ H D I hq => ?_⟩
    have ha := asg_to g.g hq
    have hh : cx.hot = false := by
      cases z : cx.hot with
      | false => rfl
      | true =>
        have ha' : tM r (RO r) (evE cx (.dc vs tg kd as ifs ke ve)) σ H _ := ha
        rw [dc_eq, z] at ha'
        obtain ⟨_, _, _, w⟩ := ha'
        exact w.elim
    obtain ⟨hk, hv⟩ := and2 h'
    have hT : ∀ {X' : L2.Cx}, Gd m glb k N (relS scope sc) r.nox X' cx → ∀ p, ifs = some p → ∀ e, chkE glb N p true (relS scope sc) e = true → PT X' e (tT r.nox (evT cx p)) := fun g' p hp e he => sT g' p he
    obtain ⟨o1, o2, o3, o4, o5⟩ := sLc g.g hh hk (fun es hes => sEs g.g as hes) (fun es hes p hp => sEl g.g as hes p hp) hT (fun g' => fun e he => sE g' ke he)
    obtain ⟨_, _, _, _, o6⟩ := sLc (elt := ve) (el := vl) g.g hh (and_mk' (and2 hk).1 hv) (fun es hes => sEs g.g as hes) (fun es hes p hp => sEl g.g as hes p hp) hT (fun g' => fun e he => sE g' ve he)
    have p := ps_setDc (X := X) (spos := pos) (i := i) (y := x) (py := npos) (g.g.calm hh) (by rw [g.g.hN]; exact g.g.nd) (by rw [g.g.hN]; exact n1) (by rw [g.g.hsc]; exact n2) hsw o1 o2 o3 o4 o5 o6 (set_of (and2 (and2 (and2 (and2 (and2 hk).1).1).1).1).2)
    rw [own_map] at p
    refine p.run pins s σ H D I ?_
    show tDc _ _ _ _ _ _ _ _ _
    refine dc_to g.g hh (tM.mono ha fun v H1 q => gx_name q)
  · cases h'
theorem not_b {b : Bool} (h : (!b) = true) : b = false := by simpa using h
theorem dup2 {x y : Str} (h : x ≠ y) : ([x, y] : List Str).eraseDups.length = 2 := by
  have e : (y == x) = false := by simp [Ne.symm h]
  simp [List.eraseDups_cons, e]
theorem dup3 {x y z : Str} (h : x ≠ y) (h2 : x ≠ z) (h3 : y ≠ z) : ([x, y, z] : List Str).eraseDups.length = 3 := by
  have e : (y == x) = false := by simp [Ne.symm h]
  have e2 : (z == x) = false := by simp [Ne.symm h2]
  have e3 : (z == y) = false := by simp [Ne.symm h3]
  simp [List.eraseDups_cons, e, e2, e3]
def isSt : Expr → Bool
  | .Starred .. => true
  | _ => false
theorem star_none {e : Expr} (h : plainB e = true) : isSt e = false := by
  cases e <;> first | rfl | cases h
theorem swap2 (g : Gs m glb k N sc r X cx) {x y : Str} {px py pt pt2 : Pos} {kt k2 : Nat} {a b : Expr} (hx : sc.names.lookup x = some .local) (hy : sc.names.lookup y = some .local) (n : x ≠ y) (hl : (px.line == py.line) = true) (ha : plainB a = true) (hb : plainB b = true) (h7 : [a, b].all (foldedForSure 8) = false) (h8 : [a, b].all (constantsAlone 8) = false) :
    swappedStores [.Tuple [.Name x px, .Name y py] kt pt] (.Tuple [a, b] k2 pt2) X.env = pure (some [x, y]) := by
  refine swap_par g.blk rfl rfl ?_ ?_ rfl (dup2 n) h7 h8
  · show (isSt a || (isSt b || false)) = false
    rw [star_none ha, star_none hb]; rfl
  · have e1 : (X.env.kindOf x == some NameKind.local) = true := by rw [kindOf_is g hx]; rfl
    have e2 : (X.env.kindOf y == some NameKind.local) = true := by rw [kindOf_is g hy]; rfl
    have e3 : (py.line == px.line) = true := by rw [eq_of_beq hl]; exact beq_self_eq_true _
    have e4 : (px.line == px.line) = true := beq_self_eq_true _
    show (List.filterMap _ [Expr.Name x px, Expr.Name y py]) = _
    simp only [List.filterMap_cons, List.filterMap_nil, List.head?_cons, Option.map_some, Option.getD_some, Expr.pos, e1, e2, e3, e4, Bool.and_self, if_true]
theorem swap3 (g : Gs m glb k N sc r X cx) {x y z : Str} {px py pz pt pt2 : Pos} {kt k2 : Nat} {a b c : Expr} (hx : sc.names.lookup x = some .local) (hy : sc.names.lookup y = some .local) (hz : sc.names.lookup z = some .local) (n : x ≠ y) (n2 : x ≠ z) (n3 : y ≠ z) (hl : (px.line == py.line) = true) (hl2 : (px.line == pz.line) = true) (ha : plainB a = true) (hb : plainB b = true) (hc : plainB c = true) (h7 : [a, b, c].all (foldedForSure 8) = false) (h8 : [a, b, c].all (constantsAlone 8) = false) :
    swappedStores [.Tuple [.Name x px, .Name y py, .Name z pz] kt pt] (.Tuple [a, b, c] k2 pt2) X.env = pure (some [x, y, z]) := by
  refine swap_par g.blk rfl rfl ?_ ?_ rfl (dup3 n n2 n3) h7 h8
  · show (isSt a || (isSt b || (isSt c || false))) = false
    rw [star_none ha, star_none hb, star_none hc]; rfl
  · have e1 : (X.env.kindOf x == some NameKind.local) = true := by rw [kindOf_is g hx]; rfl
    have e2 : (X.env.kindOf y == some NameKind.local) = true := by rw [kindOf_is g hy]; rfl
    have e5 : (X.env.kindOf z == some NameKind.local) = true := by rw [kindOf_is g hz]; rfl
    have e3 : (py.line == px.line) = true := by rw [eq_of_beq hl]; exact beq_self_eq_true _
    have e6 : (pz.line == px.line) = true := by rw [eq_of_beq hl2]; exact beq_self_eq_true _
    have e4 : (px.line == px.line) = true := beq_self_eq_true _
    show (List.filterMap _ [Expr.Name x px, Expr.Name y py, Expr.Name z pz]) = _
    simp only [List.filterMap_cons, List.filterMap_nil, List.head?_cons, Option.map_some, Option.getD_some, Expr.pos, e1, e2, e3, e4, e5, e6, Bool.and_self, if_true]
theorem Gs.tr (g : Gs m glb k N sc r X cx) (hh : cx.hot = false) {W : WX} {pn : List (Addr × Obj)} {xe : Value → Shared → Prop} (tk : L2N.Takes (X.tr pn xe) W) (ow : PassesOwn (model X.prog X.w) X.A X.env xe) : Gs m glb k N sc { r with W := W } (X.tr pn xe) cx where
  g := { g.g with
    hot := fun z => by rw [hh] at z; cases z
    pn := fun p hp => by
      have e := g.g.pn0 hh
      have hp' : p ∈ r.pn := hp
      rw [e] at hp'
      cases hp'
    tk := tk }
  own := fun _ => ow
  stk := g.stk
  frm := g.frm
  kind := g.kind
  fn := g.fn
theorem Gs.suite (g : Gs m glb k N sc r X cx) {a : Addr} {oe : Obj} {cls : Value} {d : Option Addr} (pn : List (Addr × Obj)) (hz : L2N.Zn cls d oe) (hd : ∃ vs, oe.data = .fields vs) : Gs m glb k N sc (r.hot a oe) (X.suite a ((a, oe) :: pn)) { cx with hot := true } where
  g := g_suite g.g pn hz hd
  own := fun z => by cases z
  stk := g.stk
  frm := g.frm
  kind := g.kind
  fn := g.fn
end
theorem s_parB (g : Gs m glb k N sc r X cx) {is : List Nat} {es : List PX} {st : Stmt} (h : parB glb N sc is es st = true) : PS X st (tS r (exS cx (.par is es))) := by
  have h' : (match (generalizing := false) st with
    | .Assign [.Tuple [.Name x px, .Name y py] kt pt] (.Tuple [a, b] k2 pt2) _ => (match (generalizing := false) is with
      | [i, j] => nmB N sc i x && nmB N sc j y && decide (i ≠ j) && decide (x ≠ y) && (px.line == py.line) && chkEs glb N es sc [a, b] && !(([a, b].all (foldedForSure 8))) && !([a, b].all (constantsAlone 8))
      | _ => false)
    | .Assign [.Tuple [.Name x px, .Name y py, .Name z pz] kt pt] (.Tuple [a, b, c] k2 pt2) _ => (match (generalizing := false) is with
      | [i, j, l] => nmB N sc i x && nmB N sc j y && nmB N sc l z && decide (i ≠ j) && decide (i ≠ l) && decide (j ≠ l) && decide (x ≠ y) && decide (x ≠ z) && decide (y ≠ z) && (px.line == py.line) && (px.line == pz.line) && chkEs glb N es sc [a, b, c] && !(([a, b, c].all (foldedForSure 8))) && !([a, b, c].all (constantsAlone 8))
      | _ => false)
    | _ => false) = true := h
  split at h'
  · split at h'
    · obtain ⟨q1, c8⟩ := and2 h'
      obtain ⟨q2, c7⟩ := and2 q1
      obtain ⟨q3, ce⟩ := and2 q2
      obtain ⟨q4, cl⟩ := and2 q3
      obtain ⟨q5, cxy⟩ := and2 q4
      obtain ⟨q6, cij⟩ := and2 q5
      obtain ⟨c1, c2⟩ := and2 q6
      obtain ⟨n1, n2⟩ := nmB_of c1
      obtain ⟨n3, n4⟩ := nmB_of c2
      have hp := plain_is ce
      exact s_par2 g.g (sEs g.g es ce) n1 n3 (of_decide_eq_true cij) n2 n4 (swap2 g n2 n4 (of_decide_eq_true cxy) cl (and2 hp).1 (and2 (and2 hp).2).1 (not_b c7) (not_b c8))
    · cases h'
  · split at h'
    · obtain ⟨q1, c8⟩ := and2 h'
      obtain ⟨q2, c7⟩ := and2 q1
      obtain ⟨q3, ce⟩ := and2 q2
      obtain ⟨q4, cl2⟩ := and2 q3
      obtain ⟨q4, cl⟩ := and2 q4
      obtain ⟨q5, cyz⟩ := and2 q4
      obtain ⟨q5, cxz⟩ := and2 q5
      obtain ⟨q5, cxy⟩ := and2 q5
      obtain ⟨q6, cjl⟩ := and2 q5
      obtain ⟨q6, cil⟩ := and2 q6
      obtain ⟨q6, cij⟩ := and2 q6
      obtain ⟨q7, c3⟩ := and2 q6
      obtain ⟨c1, c2⟩ := and2 q7
      obtain ⟨n1, n2⟩ := nmB_of c1
      obtain ⟨n3, n4⟩ := nmB_of c2
      obtain ⟨n5, n6⟩ := nmB_of c3
      have hp := plain_is ce
      exact s_par3 g.g (sEs g.g es ce) n1 n3 n5 (of_decide_eq_true cij) (of_decide_eq_true cil) (of_decide_eq_true cjl) n2 n4 n6 (swap3 g n2 n4 n6 (of_decide_eq_true cxy) (of_decide_eq_true cxz) (of_decide_eq_true cyz) cl cl2 (and2 hp).1 (and2 (and2 hp).2).1 (and2 (and2 (and2 hp).2).2).1 (not_b c7) (not_b c8))
    · cases h'
  · cases h'
theorem wr_of (g : Gs m glb k N sc r X cx) : ∀ x, wrB sc x = true → L2.Loc X.env.scope x ∧ (X.fn x = true ∨ X.env.scope.names.lookup x = some .local) := fun x h => by
  unfold wrB at h
  rw [Bool.or_eq_true, decide_eq_true_eq, decide_eq_true_eq] at h
  refine ⟨?_, .inl (by rw [g.fn])⟩
  show X.env.scope.names.lookup x = _ ∨ X.env.scope.names.lookup x = _
  rw [g.g.hsc]
  exact h
theorem nmW_of {i : Nat} {x : Str} (h : nmW N sc i x = true) : N[i]? = some x ∧ wrB sc x = true := by
  obtain ⟨h1, h2⟩ := and2 h
  exact ⟨of_decide_eq_true h1, h2⟩
theorem Gs.wr (g : Gs m glb k N sc r X cx) : ∀ x, wrB sc x = true → L2.Loc X.env.scope x ∧ (X.fn x = true ∨ X.env.scope.names.lookup x = some .local) := wr_of g
theorem swaps_cell (g : Gs m glb k N sc r X cx) {x : Str} {npos lpos : Pos} {l : Nat} {el : Expr} {gens : List Comprehension} {scope : Scope} (h : sc.names.lookup x = some .cell) : swapsWith (.ListComp el gens scope lpos) (some (.Name x npos)) l X.env = pure false := by
  have e0 : swapsWith (.ListComp el gens scope lpos) (some (.Name x npos)) l X.env = (pure (X.env.blockKind == .function && X.env.kindOf x == some .local && npos.line == (Expr.ListComp el gens scope lpos).pos.line
    && !(scope.names.any fun (n, k) => n == x && (k == .local || k == .cell))) : Sem Bool) := rfl
  have e1 : X.env.kindOf x = some .cell := by
    show X.env.scope.names.lookup x = _
    rw [g.g.hsc]; exact h
  rw [e0, g.blk, e1]
  rfl
theorem swaps_cellD (g : Gs m glb k N sc r X cx) {x : Str} {npos lpos : Pos} {l : Nat} {kl vl : Expr} {gens : List Comprehension} {scope : Scope} (h : sc.names.lookup x = some .cell) : swapsWith (.DictComp kl vl gens scope lpos) (some (.Name x npos)) l X.env = pure false := by
  have e0 : swapsWith (.DictComp kl vl gens scope lpos) (some (.Name x npos)) l X.env = (pure (X.env.blockKind == .function && X.env.kindOf x == some .local && npos.line == (Expr.DictComp kl vl gens scope lpos).pos.line
    && !(scope.names.any fun (n, k) => n == x && (k == .local || k == .cell))) : Sem Bool) := rfl
  have e1 : X.env.kindOf x = some .cell := by
    show X.env.scope.names.lookup x = _
    rw [g.g.hsc]; exact h
  rw [e0, g.blk, e1]
  rfl
theorem tsW_len : ∀ {is : List Nat} {ts : List Expr}, tsW N sc is ts = true → ts.length = is.length ∧ ts.all plainB = true
  | [], ts, h => by
    cases ts with
    | nil => exact ⟨rfl, rfl⟩
    | cons => cases h
  | i :: is, ts, h => by
    cases ts with
    | nil => cases h
    | cons t ts =>
      cases t <;> first | cases h | skip
      obtain ⟨h1, h2⟩ := and2 (show (_ && tsW N sc is ts) = true from h)
      obtain ⟨a, b⟩ := tsW_len h2
      exact ⟨by rw [List.length_cons, List.length_cons, a], by rw [List.all_cons, b]; rfl⟩
def gAll : List Nat → TGs
  | [] => gNil
  | i :: is => gCons (gName i) (gAll is)
theorem gAll_to : ∀ {is : List Nat} {vs : List V} {σ : Sg} {H : Hp} {Q : L2.St → Hp → Prop}, vs.length = is.length → Q (setAll σ is vs) H → gAll is vs σ H Q
  | [], [], _, _, _, _, q => ⟨rfl, q⟩
  | [], _ :: _, _, _, _, h, _ => by cases h
  | _ :: _, [], _, _, _, h, _ => by cases h
  | i :: is, v :: vs, σ, H, Q, h, q => ⟨v, vs, rfl, gAll_to (is := is) (by simpa using h) q⟩
theorem pgs_all (g : Gs m glb k N sc r X cx) : ∀ {is : List Nat} {ts : List Expr}, tsW N sc is ts = true → PGs X ts (gAll is)
  | [], ts, h => by
    cases ts with
    | nil => exact pgs_nil
    | cons => cases h
  | i :: is, ts, h => by
    cases ts with
    | nil => cases h
    | cons t ts =>
      cases t <;> first | cases h | skip
      rename_i x p
      obtain ⟨h1, h2⟩ := and2 (show (decide (N[i]? = some x) && wrB sc x && tsW N sc is ts) = true from h)
      obtain ⟨h3, h4⟩ := and2 h1
      exact pgs_cons (pg_name (by rw [g.g.hN]; exact g.g.nd) (by rw [g.g.hN]; exact of_decide_eq_true h3) (g.wr x h4).1 (g.wr x h4).2) (pgs_all g h2) (by rw [assign1 (by rfl)]; rfl)
theorem swap_none (g : Gs m glb k N sc r X cx) {ts vs : List Expr} {kt k2 : Nat} {pt pt2 : Pos} (h : ts.any (cellN sc) = true) : swappedStores [.Tuple ts kt pt] (.Tuple vs k2 pt2) X.env = pure none := by
  have hl : ∀ line : Nat, (ts.filterMap fun | .Name id pos => if X.env.kindOf id == some .local && pos.line == line then some id else none | _ => none).length < ts.length := fun line => by
    rw [List.any_eq_true] at h
    obtain ⟨t, ht, hc⟩ := h
    have hle := List.length_filterMap_le (fun e : Expr => match e with | .Name id pos => if X.env.kindOf id == some .local && pos.line == line then some id else none | _ => none) ts
    refine Nat.lt_of_le_of_ne hle fun e => ?_
    have := (List.filterMap_length_eq_length.mp e) t ht
    cases t <;> first | cases hc | skip
    rename_i x p
    have hx : X.env.kindOf x = some .cell := by
      show X.env.scope.names.lookup x = _
      rw [g.g.hsc]; exact of_decide_eq_true hc
    simp [hx] at this
  unfold swappedStores
  dsimp only
  split
  · rfl
  split
  · rfl
  rw [if_pos]
  · have := hl ((ts.head?.map (·.pos.line)).getD 0)
    rw [Bool.or_eq_true]
    left
    exact bne_iff_ne.mpr (Nat.ne_of_lt this)
theorem s_parT (g : Gs m glb k N sc r X cx) {is : List Nat} {es : List PX} {st : Stmt} (h : parT glb N sc is es st = true) : PS X st (tS r (exS cx (.par is es))) := by
  unfold parT at h
  split at h
  · rename_i ts kt pt vs k2 pt2 pos
    obtain ⟨h1, ce⟩ := and2 h
    obtain ⟨h1, hc⟩ := and2 h1
    obtain ⟨h1, hT⟩ := and2 h1
    obtain ⟨h3, hl⟩ := and2 h1
    have h3 := of_decide_eq_true h3
    obtain ⟨tl, tp⟩ := tsW_len hT
    have al := assign_len (env := X.env) tp
    refine ⟨fun pins s σ H D I hq => ?_⟩
    obtain ⟨hh, hq⟩ := par_to g.g hq
    refine wpAny_Assign_stores (Tuple_ (thn ((sEs g.g es ce).run _ pins s σ H _ I hq) fun us s1 ⟨ws, H1, I1, r1, q0, q1⟩ => ?_)) rfl (swap_none g hc)
    refine wpAny_newObj_type ?_ (by show us.toArray.size ≤ sizeLine; rw [List.size_toArray, ← r1.length, q0, sizeLine_eq]; omega)
    have I2 : L2.Inv X pins σ H1 { s1 with heap := s1.heap.push { cls := .type "tuple", data := .seq us.toArray } } := I1.kept (t' := s1.toks) fun b o e => Heap.get?_push_of_some _ e
    have ea : (assignEach [Expr.Tuple ts kt pt] X.env).map (·.2) = [assign (Expr.Tuple ts kt pt) X.env] := rfl
    rw [ea]
    refine assign_Tuple_tuple (x1 := kt) (I1.ok.hd (g.g.calm hh)) (IsTup.new s1.heap _) (by rw [al.1, List.size_toArray, ← r1.length, q0, tl]) al.2 fun h' hx => ?_
    have I3 := I2.kept (h' := h') (t' := s1.toks) fun b o e => hx b o (Nat.ne_of_lt (Heap.lt_size e)) e
    exact (pgs_all g hT).run pins _ σ H1 ws us _ I3 r1 (gAll_to q0 q1)
  · cases h
mutual
theorem sS {sc : Scope} {r : Ar} {X : L2.Cx} {cx : Ev.Cx} (g : Gs m glb k N sc r X cx) : ∀ (s : Stm) {st : Stmt}, chkS glb N sc s st = true → PS X st (tS r (exS cx s))
  | .ex p, st, h => by
    cases st <;> first | cases h | skip
    rename_i a pos
    obtain ⟨h1, h2⟩ := and2 (show (noSwap a && chkE glb N p false sc a) = true from h)
    exact s_ex (sE g.g p h2) h1
  | .asg tg p, st, h => by
    have h' : (match (generalizing := false) st with
      | .Assign [t] a _ => (match (generalizing := false) t with
        | .Name x npos => (match (generalizing := false) tg with
          | .nm i => nmW N sc i x && chkE glb N p false sc a && (match (generalizing := false) lcScope a with
            | none => noSwap a
            | some s => decide (sc.names.lookup x = some .cell) || (locB sc x && swapB x npos a s))
          | _ => false)
        | .Tuple es _ _ => noSwap a && chkG N (wrB sc) tg t && chkE glb N p false sc a && (!isTup a || (match (generalizing := false) a with
          | .Tuple vs _ _ => vs.all (foldedForSure 8)
          | _ => false))
        | _ => false)
      | _ => false) = true := h
    split at h'
    · rename_i t a pos
      split at h'
      · rename_i x npos
        split at h'
        · rename_i i
          obtain ⟨h1, h2⟩ := and2 h'
          obtain ⟨h3, h4⟩ := and2 h1
          obtain ⟨n1, n2⟩ := nmW_of h3
          obtain ⟨w1, w2⟩ := g.wr x n2
          split at h2
          · exact s_set g.g (sE g.g p h4) (swaps_no h2) n1 w1 w2
          · rename_i s hs
            cases a <;> first | cases hs | skip
            · rename_i el gens lpos
              rw [Bool.or_eq_true] at h2
              rcases h2 with h2 | h2
              · exact s_set g.g (sE g.g p h4) (swaps_cell g (of_decide_eq_true h2)) n1 w1 w2
              obtain ⟨l1, l2⟩ := and2 h2
              have hB : nmB N sc i x = true := by
                unfold nmB
                rw [l1, Bool.and_true]
                exact decide_eq_true n1
              cases p with
              | lc vs tg2 kd as ifs elt => exact s_setLc g hB h4 l2
              | cn d => exact absurd h4 (by cases d <;> exact Bool.false_ne_true)
              | _ => cases h4
            · rename_i kl vl gens lpos
              rw [Bool.or_eq_true] at h2
              rcases h2 with h2 | h2
              · exact s_set g.g (sE g.g p h4) (swaps_cellD g (of_decide_eq_true h2)) n1 w1 w2
              obtain ⟨l1, l2⟩ := and2 h2
              have hB : nmB N sc i x = true := by
                unfold nmB
                rw [l1, Bool.and_true]
                exact decide_eq_true n1
              cases p with
              | dc vs tg2 kd as ifs ke ve => exact s_setDc g hB h4 l2
              | cn d => exact absurd h4 (by cases d <;> exact Bool.false_ne_true)
              | _ => cases h4
        · cases h'
      · rename_i es kk tp
        obtain ⟨h1, h2⟩ := and2 h'
        obtain ⟨h3, h4⟩ := and2 h1
        obtain ⟨h5, h6⟩ := and2 h3
        refine ⟨fun pins s σ H D I hq => ?_⟩
        cases tg with
        | nm i => cases h6
        | tp ts =>
          have hh : cx.hot = false := by
            have := (asg_in hq).1
            simpa [tgTp] using this
          refine (s_asg g.g (sE g.g p h4) (fun o => sG g.g (g.g.calm hh) g.wr h6) h5 ?_ rfl).run pins s σ H D I hq
          rw [Bool.or_eq_true] at h2
          rcases h2 with h2 | h2
          · exact swap_val (by simpa using h2)
          · cases a <;> first | cases h2 | skip
            exact swap_folded h2
      · cases h'
    · cases h'
  | .par is es, st, h => by
    have h' : (parB glb N sc is es st || parT glb N sc is es st) = true := h
    rw [Bool.or_eq_true] at h'
    rcases h' with h' | h'
    · exact s_parB g h'
    · exact s_parT g h'
  | .aug i op p, st, h => by
    have h' : (match (generalizing := false) st with
      | .AugAssign (.Name x _) o a _ => decide (o = op) && nmW N sc i x && chkE glb N p false sc a
      | _ => false) = true := h
    split at h'
    · obtain ⟨h1, h2⟩ := and2 h'
      obtain ⟨h3, h4⟩ := and2 h1
      obtain rfl := of_decide_eq_true h3
      obtain ⟨n1, n2⟩ := nmW_of h4
      exact s_aug g.g (sE g.g p h2) n1 (g.wr _ n2).1 (g.wr _ n2).2
    · cases h'
  | .ret p, st, h => by
    have h' : (match (generalizing := false) st with
      | .Return (some a) _ => chkE glb N p false sc a
      | _ => false) = true := h
    split at h'
    · exact s_ret (sE g.g p h') g.g
    · cases h'
  | .retN, st, h => by
    have h' : (match (generalizing := false) st with
      | .Return none _ => true
      | _ => false) = true := h
    split at h'
    · exact s_retN
    · cases h'
  | .ifS c a b, st, h => by
    cases st <;> first | cases h | skip
    rename_i t x y pos
    obtain ⟨h1, h2⟩ := and2 (show (chkE glb N c true sc t && chkSs glb N sc a x && chkSs glb N sc b y) = true from h)
    obtain ⟨h3, h4⟩ := and2 h1
    exact s_if (sT g.g c h3) (sSs g a h4) (sSs g b h2)
  | .forS tg kd as body, st, h => by
    cases st <;> first | cases h | skip
    rename_i t it bs orelse pos
    obtain ⟨h1, h2⟩ := and2 (show (noneB orelse && setB it && plainB t && chkG N (wrB sc) tg t && (match (generalizing := false) itArgs glb sc kd t it with
      | some es => chkEs glb N as sc es
      | none => false) && chkSs glb N sc body bs) = true from h)
    obtain ⟨h3, h4⟩ := and2 h1
    obtain ⟨h5, h6⟩ := and2 h3
    obtain ⟨h7, h8⟩ := and2 h5
    obtain ⟨h9, h10⟩ := and2 h7
    have e := noneB_of h9
    subst e
    split at h4
    · rename_i es hes
      refine s_for g.g g.own (sI g.g hes (sEs g.g as h4) h4 fun p e ep ee => ?_) (fun hh => sG g.g (g.g.calm hh) g.wr h6) (sSs g body h2) (set_of h10)
      subst ep ee
      have z : (plainB e && chkE glb N p false sc e && chkEs glb N [] sc []) = true := h4
      exact sE g.g p (and2 (and2 z).1).2
    · cases h4
  | .whl c body, st, h => by
    cases st <;> first | cases h | skip
    rename_i t bs orelse pos
    obtain ⟨h1, h2⟩ := and2 (show (noneB orelse && chkE glb N c true sc t && chkSs glb N sc body bs) = true from h)
    obtain ⟨h3, h4⟩ := and2 h1
    have e := noneB_of h3
    subst e
    exact s_whl g.own (sT g.g c h4) (sSs g body h2)
  | .raise n, st, h => by
    have h' : (match (generalizing := false) st with
      | .Raise (some (.Call (.Name x _) [.Constant (.str _) _ _] [] _)) none _ => gB glb x (isCl n) && glB sc x && okN x
      | _ => false) = true := h
    split at h'
    · obtain ⟨h1, h2⟩ := and2 h'
      obtain ⟨h3, h4⟩ := and2 h1
      exact s_raise (jj := none) g.g (gB_cl h3) (of_decide_eq_true h4) (okN_of h2).1
    · cases h'
  | .try_ body n i suite, st, h => by
    have h' : (match (generalizing := false) st with
      | .Try bs [.ExceptHandler (some (.Name x _)) (some nm) (s0 :: ss) _] orelse fin _ => noneB orelse && noneB fin && (match (generalizing := false) i with
        | some i => nmB N sc i nm
        | none => false) && gB glb x (isCl n) && glB sc x && okN x && chkSs glb N sc body bs && chkSs glb N sc suite (s0 :: ss)
      | _ => false) = true := h
    split at h'
    · obtain ⟨q1, cS⟩ := and2 h'
      obtain ⟨q2, cB⟩ := and2 q1
      obtain ⟨q3, cO⟩ := and2 q2
      obtain ⟨q4, cG⟩ := and2 q3
      obtain ⟨q5, cC⟩ := and2 q4
      obtain ⟨q6, cI⟩ := and2 q5
      obtain ⟨c1, c2⟩ := and2 q6
      have e1 := noneB_of c1
      have e2 := noneB_of c2
      subst e1 e2
      cases i with
      | none => cases cI
      | some i =>
        obtain ⟨n1, n2⟩ := nmB_of cI
        exact s_try g.g g.stk g.frm n1 n2 (gB_cl cC) (of_decide_eq_true cG) (okN_of cO).1 (fun hh W pn xe tk ow => sSs (g.tr hh tk ow) body cB) (fun hh a oe cls d pn hz hd => sSs (g.suite pn hz hd) suite cS)
    · cases h'
  | .pass, st, h => by
    cases st <;> first | exact s_pass | cases h
  | .brk, st, h => by
    cases st <;> first | exact s_brk | cases h
  | .cnt, st, h => by
    cases st <;> first | exact s_cnt | cases h
termination_by s => sizeOf s
decreasing_by all_goals (simp_wf; try omega)
theorem sSs {sc : Scope} {r : Ar} {X : L2.Cx} {cx : Ev.Cx} (g : Gs m glb k N sc r X cx) : ∀ (ss : List Stm) {sts : List Stmt}, chkSs glb N sc ss sts = true → PSs X sts (tS r (exSs cx ss))
  | [], sts, h => by
    have e := noneB_of (show noneB sts = true from h)
    subst e
    exact s_nil
  | s :: ss, sts, h => by
    cases sts with
    | nil => cases h
    | cons st sts =>
      obtain ⟨h1, h2⟩ := and2 (show (chkS glb N sc s st && chkSs glb N sc ss sts) = true from h)
      exact s_cons (sS g s h1) (sSs g ss h2)
termination_by s => sizeOf s
decreasing_by all_goals (simp_wf; try omega)
end
end Ev

set_option Elab.async false
set_option linter.all false
set_option maxRecDepth 100000
set_option maxHeartbeats 4000000
/-! Part T: functions. -/
namespace Ev
open PySem L2 PyProof.Rows
section
variable {c : RC} {pn : Pn} {U : AS} {H : Hp}
/-- what the parameters' slots hold -/
theorem start_at : ∀ {fs : List Bool} {vs : List V} {as : List (Bool × D)} {δ : Dst}, ArgsR c pn U H vs as → startD fs as = some δ → vs.length = as.length ∧ δ.length = as.length ∧ ∀ (i : Nat) (x : Sl), δ[i]? = some x → ∃ v, vs[i]? = some v ∧ ((∃ d, x = .val d ∧ RepE c pn U H v d) ∨ ∃ a d, x = .own d ∧ v = .ref a ∧ fs.getD i false = true ∧ U a ∧ OwnC c U H a d ∧ (V.ref a, (true, d)) ∈ vs.zip as)
  | fs, _, _, δ, .nil, e => by
    cases e
    exact ⟨rfl, rfl, fun i x h => by simp at h⟩
  | fs, _, _, δ, .val (v := v) (d := d) (vs := vs) (as := as) h r, e => by
    have e' : (match startD fs.tail as with
      | none => none
      | some δ => if fs.headD false then (if false then some (.own d :: δ) else none) else (if false then none else some (.val d :: δ))) = some δ := e
    split at e'
    · cases e'
    · rename_i δ1 h1
      obtain ⟨l1, l2, q⟩ := start_at r h1
      split at e'
      · cases e'
      · cases e'
        refine ⟨by simp [l1], by simp [l2], fun i x hx => ?_⟩
        cases i with
        | zero =>
          cases hx
          exact ⟨v, rfl, .inl ⟨d, rfl, h⟩⟩
        | succ i =>
          obtain ⟨w, e1, e2⟩ := q i x (by simpa using hx)
          refine ⟨w, by simpa using e1, e2.imp id fun ⟨a, d, e3, e4, e5, e6, e7, e8⟩ => ⟨a, d, e3, e4, ?_, e6, e7, List.mem_cons_of_mem _ e8⟩⟩
          cases fs with
          | nil => simp at e5
          | cons f fs => simpa using e5
  | fs, _, _, δ, .own (a := a) (d := d) (vs := vs) (as := as) u o n r, e => by
    have e' : (match startD fs.tail as with
      | none => none
      | some δ => if fs.headD false then (if true then some (.own d :: δ) else none) else (if true then none else some (.val d :: δ))) = some δ := e
    split at e'
    · cases e'
    · rename_i δ1 h1
      obtain ⟨l1, l2, q⟩ := start_at r h1
      split at e'
      · rename_i hf
        cases e'
        refine ⟨by simp [l1], by simp [l2], fun i x hx => ?_⟩
        cases i with
        | zero =>
          cases hx
          refine ⟨.ref a, rfl, .inr ⟨a, d, rfl, rfl, ?_, u, o, List.mem_cons_self⟩⟩
          cases fs with
          | nil => cases hf
          | cons f fs => simpa using hf
        | succ i =>
          obtain ⟨w, e1, e2⟩ := q i x (by simpa using hx)
          refine ⟨w, by simpa using e1, e2.imp id fun ⟨a, d, e3, e4, e5, e6, e7, e8⟩ => ⟨a, d, e3, e4, ?_, e6, e7, List.mem_cons_of_mem _ e8⟩⟩
          cases fs with
          | nil => simp at e5
          | cons f fs => simpa using e5
      · cases e'
/-- no list twice -/
theorem start_dis : ∀ {fs : List Bool} {vs : List V} {as : List (Bool × D)} {δ : Dst}, ArgsR c pn U H vs as → startD fs as = some δ → ∀ (i j : Nat) (a : Addr) (d e : D), δ[i]? = some (Sl.own d) → δ[j]? = some (Sl.own e) → vs[i]? = some (.ref a) → vs[j]? = some (.ref a) → i = j
  | fs, _, _, δ, .nil, e => by
    cases e
    intro i j a d e h
    simp at h
  | fs, _, _, δ, .val (v := v) (d := d0) (vs := vs) (as := as) h r, e => by
    have e' : (match startD fs.tail as with
      | none => none
      | some δ => if fs.headD false then (if false then some (.own d0 :: δ) else none) else (if false then none else some (.val d0 :: δ))) = some δ := e
    split at e'
    · cases e'
    · rename_i δ1 h1
      have q := start_dis r h1
      split at e'
      · cases e'
      · cases e'
        intro i j a d e x1 x2 y1 y2
        cases i with
        | zero => cases x1
        | succ i =>
          cases j with
          | zero => cases x2
          | succ j => rw [q i j a d e (by simpa using x1) (by simpa using x2) (by simpa using y1) (by simpa using y2)]
  | fs, _, _, δ, .own (a := a0) (d := d0) (vs := vs) (as := as) u o n r, e => by
    have e' : (match startD fs.tail as with
      | none => none
      | some δ => if fs.headD false then (if true then some (.own d0 :: δ) else none) else (if true then none else some (.val d0 :: δ))) = some δ := e
    split at e'
    · cases e'
    · rename_i δ1 h1
      have q := start_dis r h1
      have sa := (start_at r h1).2.2
      split at e'
      · cases e'
        have no : ∀ (j : Nat) (e : D), δ1[j]? = some (Sl.own e) → vs[j]? = some (.ref a0) → False := fun j e x y => by
          obtain ⟨v, e1, e2⟩ := sa j _ x
          rcases e2 with ⟨d, z, _⟩ | ⟨a, d, z1, z2, _, _, _, z3⟩
          · cases z
          · rw [y] at e1
            cases e1
            cases z2
            exact n d z3
        intro i j a d e x1 x2 y1 y2
        cases i with
        | zero =>
          cases j with
          | zero => rfl
          | succ j =>
            have ea : a = a0 := by simpa using y1.symm
            subst ea
            exact (no j e (by simpa using x2) (by simpa using y2)).elim
        | succ i =>
          cases j with
          | zero =>
            have ea : a = a0 := by simpa using y2.symm
            subst ea
            exact (no i d (by simpa using x1) (by simpa using y1)).elim
          | succ j => rw [q i j a d e (by simpa using x1) (by simpa using x2) (by simpa using y1) (by simpa using y2)]
      · cases e'
theorem outs_of {U' : AS} {H' : Hp} : ∀ {fs : List Bool} {vs : List V} {as : List (Bool × D)} {δ0 δ : Dst} {outs : List D}, ArgsR c pn U H vs as → startD fs as = some δ0 → outsD fs as.length δ = some outs →
    (∀ (i : Nat) (d : D) (v : V), fs.getD i false = true → δ[i]? = some (Sl.own d) → vs[i]? = some v → ∃ a, v = .ref a ∧ U' a ∧ OwnC c U' H' a d) → OutsR c U' H' vs as outs
  | fs, _, _, δ0, δ, outs, .nil, _, e, _ => by
    cases e
    exact .nil
  | fs, _, _, δ0, δ, outs, .val (v := v) (d := d0) (vs := vs) (as := as) h r, e0, e, q => by
    have e1 : (match startD fs.tail as with
      | none => none
      | some δ => if fs.headD false then (if false then some (.own d0 :: δ) else none) else (if false then none else some (.val d0 :: δ))) = some δ0 := e0
    split at e1
    · cases e1
    · rename_i δ1 h1
      split at e1
      · cases e1
      · rename_i hf
        cases δ with
        | nil => cases e
        | cons x δ =>
          have e2 : (match outsD fs.tail as.length δ with
            | none => none
            | some r => if fs.headD false then (match (generalizing := false) x with | .own d => some (d :: r) | _ => none) else some (.non :: r)) = some outs := e
          split at e2
          · cases e2
          · rename_i rr hr
            rw [if_neg hf] at e2
            cases e2
            refine .val (outs_of r h1 hr fun i d v hi hd hv => ?_)
            refine q (i + 1) d v ?_ (by simpa using hd) (by simpa using hv)
            cases fs with
            | nil => simp at hi
            | cons f fs => simpa using hi
  | fs, _, _, δ0, δ, outs, .own (a := a0) (d := d0) (vs := vs) (as := as) u o n r, e0, e, q => by
    have e1 : (match startD fs.tail as with
      | none => none
      | some δ => if fs.headD false then (if true then some (.own d0 :: δ) else none) else (if true then none else some (.val d0 :: δ))) = some δ0 := e0
    split at e1
    · cases e1
    · rename_i δ1 h1
      split at e1
      · rename_i hf
        cases δ with
        | nil => cases e
        | cons x δ =>
          have e2 : (match outsD fs.tail as.length δ with
            | none => none
            | some r => if fs.headD false then (match (generalizing := false) x with | .own d => some (d :: r) | _ => none) else some (.non :: r)) = some outs := e
          split at e2
          · cases e2
          · rename_i rr hr
            rw [if_pos hf] at e2
            split at e2
            · rename_i dd
              cases e2
              obtain ⟨a, ea, ua, oa⟩ := q 0 dd (.ref a0) (by
                cases fs with
                | nil => cases hf
                | cons f fs => simpa using hf) rfl rfl
              cases ea
              refine .own ua oa (outs_of r h1 hr fun i d v hi hd hv => ?_)
              refine q (i + 1) d v ?_ (by simpa using hd) (by simpa using hv)
              cases fs with
              | nil => simp at hi
              | cons f fs => simpa using hi
            · cases e2
      · cases e1
end
/-- a def of the text: its object, its names, its statements -/
structure DefOk (m : Md) (glb : Str → Option Gk) (g : Nat) (f : Def) : Prop where
  ex : ∃ (name qual : Str) (params : Arguments) (body : List Stmt) (scope : Scope) (dV kV doc pm cdv ct oc : Value) (an od : Option Addr) (osl : Array (Option Value)) (N ps : List Str),
    m.c.K.lookup (m.c.fa g) = some ⟨oc, od, .func (PySem.W.fnOf name qual params body scope dV kV doc pm an cdv ct), osl⟩ ∧ PySem.W.codeIn m.c.K cdv qual = true ∧ FnScope N ps scope ∧ N.length = f.n ∧ ps.length = f.ps ∧
      (∀ us : List Value, us.length = ps.length → bindArgs (PySem.W.fnOf name qual params body scope dV kV doc pm an cdv ct) ⟨us, []⟩ = pure (ps.zip us)) ∧ chkSs glb N scope f.body body = true
section
variable {m : Md} {glb : Str → Option Gk} {T : Tb}
/-- the start of a body, as data -/
theorem start_abs {c : RC} {pn : Pn} {U : AS} {H : Hp} {f : Def} {N : List Str} {vs : List V} {as : List (Bool × D)} {δ : Dst} (hN : N.length = f.n) (hl : as.length = f.ps) (hn : f.ps ≤ f.n) (ar : ArgsR c pn U H vs as) (trk : ∀ a, U a → H a ≠ none) (hs : startD f.io as = some δ) :
    Abs c pn U H (L2.start N vs) (δ ++ List.replicate (f.n - f.ps) Sl.non) ∧ (∀ a, Root (L2.start N vs) (δ ++ List.replicate (f.n - f.ps) Sl.non) a → Lent vs as a ∧ ∃ i, f.io.getD i false = true ∧ i < f.ps ∧ vs[i]? = some (.ref a)) ∧ ∀ i, i < f.ps → (L2.start N vs)[i]? = (vs[i]?).map some := by
  obtain ⟨l1, l2, q⟩ := start_at ar hs
  have dis := start_dis ar hs
  have lv : vs.length = f.ps := by omega
  have sAt : ∀ i, i < f.ps → (L2.start N vs)[i]? = (vs[i]?).map some := fun i hi => by
    unfold L2.start
    rw [List.getElem?_append_left (by rw [List.length_map]; omega), List.getElem?_map]
  have dAt : ∀ (i : Nat) (x : Sl), (δ ++ List.replicate (f.n - f.ps) Sl.non)[i]? = some x → x ≠ .non → i < f.ps ∧ δ[i]? = some x := fun i x h n => by
    by_cases hi : i < δ.length
    · rw [List.getElem?_append_left hi] at h
      exact ⟨by omega, h⟩
    · rw [List.getElem?_append_right (by omega), List.getElem?_replicate] at h
      split at h
      · cases h; exact absurd rfl n
      · cases h
  have ownAt : ∀ (i : Nat) (d : D), ((δ ++ List.replicate (f.n - f.ps) Sl.non)[i]? = some (Sl.own d) ∨ (δ ++ List.replicate (f.n - f.ps) Sl.non)[i]? = some (Sl.lock d)) → ∃ a, i < f.ps ∧ δ[i]? = some (Sl.own d) ∧ vs[i]? = some (.ref a) ∧ f.io.getD i false = true ∧ U a ∧ OwnC c U H a d ∧ (V.ref a, (true, d)) ∈ vs.zip as := fun i d h => by
    rcases h with h | h
    · obtain ⟨h1, h2⟩ := dAt i _ h fun z => nomatch z
      obtain ⟨v, e1, e2⟩ := q i _ h2
      rcases e2 with ⟨d', z, _⟩ | ⟨a, d', z1, z2, z3, z4, z5, z6⟩
      · cases z
      · cases z1
        subst z2
        exact ⟨a, h1, h2, e1, z3, z4, z5, z6⟩
    · obtain ⟨h1, h2⟩ := dAt i _ h fun z => nomatch z
      obtain ⟨v, e1, e2⟩ := q i _ h2
      rcases e2 with ⟨d', z, _⟩ | ⟨a, d', z1, _⟩
      · cases z
      · cases z1
  refine ⟨⟨?_, fun i d h => ?_, fun i d h => ?_, fun i j a d e h1 h2 => ?_, trk⟩, fun a ⟨i, d, h1, h2⟩ => ?_, sAt⟩
  · unfold L2.start
    rw [List.length_append, List.length_map, List.length_replicate, List.length_append, List.length_replicate]
    omega
  · obtain ⟨h1, h2⟩ := dAt i _ h fun z => nomatch z
    obtain ⟨v, e1, e2⟩ := q i _ h2
    rcases e2 with ⟨d', z, rp⟩ | ⟨a, d', z, _⟩
    · cases z
      exact ⟨v, by rw [sAt i h1, e1]; rfl, rp⟩
    · cases z
  · obtain ⟨a, h1, h2, h3, h4, h5, h6, h7⟩ := ownAt i d h
    exact ⟨a, by rw [sAt i h1, h3]; rfl, h5, h6⟩
  · obtain ⟨b, x1, x2, x3, _⟩ := ownAt i d h1.1
    obtain ⟨b2, y1, y2, y3, _⟩ := ownAt j e h2.1
    have ex := h1.2
    have ey := h2.2
    rw [sAt i x1, x3] at ex
    rw [sAt j y1, y3] at ey
    cases ex
    cases ey
    exact dis i j a d e x2 y2 x3 y3
  · obtain ⟨b, x1, x2, x3, x4, x5, x6, x7⟩ := ownAt i d (.inl h1)
    rw [sAt i x1, x3] at h2
    cases h2
    exact ⟨⟨d, x7⟩, i, x4, x1, x3⟩
/-- the body's reading at its start -/
theorem start_tS {k : Nat} {h : Bool} {f : Def} {N : List Str} {vs : List V} {pn : Pn} {H : Hp} {Q : VK} {E : XK} {g : Nat} (hN : N.length = f.n) (hn : f.ps ≤ f.n) (hf : T.defs g = some f) (sp : spC m.c (runT T (k + 1) h g) pn vs H Q E) :
    tS ⟨m.c, pn, f.io, fun cls d _ H => E cls d H⟩ (exSs ⟨h, f.io, T.ios, T.cst, T.sub, runT T k, T.fuel⟩ f.body) { nx := fun _ H' => Q .non H', rt := Q } (L2.start N vs) H := by
  obtain ⟨U, as, ar, trk, q⟩ := sp
  have e : runT T (k + 1) h g as = (if as.length = f.ps then match startD f.io as with
        | none => none
        | some δ => endR f (exSs ⟨h, f.io, T.ios, T.cst, T.sub, runT T k, T.fuel⟩ f.body (δ ++ List.replicate (f.n - f.ps) Sl.non))
      else none) := by
    show (match T.defs g with
    | none => none
    | some f => if as.length = f.ps then match startD f.io as with
        | none => none
        | some δ => endR f (exSs ⟨h, f.io, T.ios, T.cst, T.sub, runT T k, T.fuel⟩ f.body (δ ++ List.replicate (f.n - f.ps) Sl.non))
      else none) = _
    rw [hf]
  rw [e] at q
  split at q
  · exact q.elim
  · rename_i x hx
    have : ∃ δ, as.length = f.ps ∧ startD f.io as = some δ ∧ endR f (exSs ⟨h, f.io, T.ios, T.cst, T.sub, runT T k, T.fuel⟩ f.body (δ ++ List.replicate (f.n - f.ps) Sl.non)) = some (.er x) := by
      split at hx
      · rename_i hl
        split at hx
        · cases hx
        · exact ⟨_, hl, by assumption, hx⟩
      · cases hx
    obtain ⟨δ, hl, hs, hr⟩ := this
    obtain ⟨A, rt, sAt⟩ := start_abs hN hl hn ar trk hs
    refine ⟨U, _, A, ?_⟩
    cases e5 : exSs ⟨h, f.io, T.ios, T.cst, T.sub, runT T k, T.fuel⟩ f.body (δ ++ List.replicate (f.n - f.ps) Sl.non) with
    | none => rw [e5] at hr; cases hr
    | some y =>
      rw [e5] at hr
      cases y with
      | er x' δ' =>
        have ex : x' = x := by
          have hr' : some (Res.er x') = some (Res.er x) := hr
          cases hr'; rfl
        subst ex
        exact fun cls d σ' U' H' hx2 A' s' => q cls d U' H' hx2 (s'.fr.weak fun a z => (rt a z).1) A'.trk
      | ok fl δ' =>
        cases fl with
        | nx =>
          obtain ⟨o, _, z⟩ := Option.map_eq_some_iff.mp (show (outsD f.io f.ps δ').map (Res.ok false D.non) = some (.er x) from hr)
          cases z
        | rt o d =>
          obtain ⟨o, _, z⟩ := Option.map_eq_some_iff.mp (show (outsD f.io f.ps δ').map (Res.ok o d) = some (.er x) from hr)
          cases z
        | bk => cases hr
        | ct => cases hr
  · rename_i o d outs hx
    have : ∃ δ, as.length = f.ps ∧ startD f.io as = some δ ∧ endR f (exSs ⟨h, f.io, T.ios, T.cst, T.sub, runT T k, T.fuel⟩ f.body (δ ++ List.replicate (f.n - f.ps) Sl.non)) = some (.ok o d outs) := by
      split at hx
      · rename_i hl
        split at hx
        · cases hx
        · exact ⟨_, hl, by assumption, hx⟩
      · cases hx
    obtain ⟨δ, hl, hs, hr⟩ := this
    obtain ⟨A, rt, sAt⟩ := start_abs hN hl hn ar trk hs
    have lv := (start_at ar hs).1
    refine ⟨U, _, A, ?_⟩
    have outs' : ∀ {σ' : Sg} {δ' : Dst} {U' : AS} {H' : Hp} {os : List D}, Abs m.c pn U' H' σ' δ' → (∀ (i : Nat), f.io.getD i false = true → σ'[i]? = (L2.start N vs)[i]?) → outsD f.io f.ps δ' = some os → OutsR m.c U' H' vs as os ∧ ∀ i, f.io.getD i false = true → i < f.ps → ∃ d, δ'[i]? = some (Sl.own d) := fun {σ' δ' U' H' os} A' hio ho => by
      refine ⟨outs_of ar hs (by rw [hl]; exact ho) fun i d v hi hd hv => ?_, fun i hi hip => ?_⟩
      · obtain ⟨a, e1, u, ow⟩ := A'.own i d (.inl hd)
        have li : i < f.ps := by
          have := at_lt hv
          omega
        rw [hio i hi, sAt i li, hv] at e1
        cases e1
        exact ⟨a, rfl, u, ow⟩
      · exact outsD_own ho hi hip
    cases e5 : exSs ⟨h, f.io, T.ios, T.cst, T.sub, runT T k, T.fuel⟩ f.body (δ ++ List.replicate (f.n - f.ps) Sl.non) with
    | none => rw [e5] at hr; cases hr
    | some y =>
      rw [e5] at hr
      cases y with
      | er x' δ' => cases hr
      | ok fl δ' =>
        cases fl with
        | nx =>
          obtain ⟨os, ho, z⟩ := Option.map_eq_some_iff.mp (show (outsD f.io f.ps δ').map (Res.ok false D.non) = some (.ok o d outs) from hr)
          cases z
          intro σ' U' H' A' s'
          exact q V.non U' H' (s'.fr.weak fun a z => (rt a z).1) A'.trk (show Rep m.c U' H' V.non D.non from Rep.non) (outs' A' s'.io ho).1
        | rt o2 d2 =>
          obtain ⟨os, ho, z⟩ := Option.map_eq_some_iff.mp (show (outsD f.io f.ps δ').map (Res.ok o2 d2) = some (.ok o d outs) from hr)
          cases z
          intro v σ' U' H' A' w s'
          obtain ⟨ro, oo⟩ := outs' A' s'.io ho
          refine q v U' H' (s'.fr.weak fun a z => (rt a z).1) A'.trk ?_ ro
          cases o with
          | false => exact w
          | true =>
            obtain ⟨a, ea, u, ow, nh, z⟩ := w
            refine ⟨a, ea, ?_, u, ow⟩
            rcases z with z | z
            · obtain ⟨_, i, hi, hip, hv⟩ := rt a z
              obtain ⟨dd, hd⟩ := oo i hi hip
              exact (nh i dd ⟨.inl hd, by rw [s'.io i hi, sAt i hip, hv]; rfl⟩).elim
            · exact z
        | bk => cases hr
        | ct => cases hr
where
  outsD_own : ∀ {fs : List Bool} {n : Nat} {δ : Dst} {os : List D} {i : Nat}, outsD fs n δ = some os → fs.getD i false = true → i < n → ∃ d, δ[i]? = some (Sl.own d)
    | _, 0, _, _, _, _, _, h => absurd h (Nat.not_lt_zero _)
    | fs, n + 1, [], _, _, e, _, _ => by cases e
    | fs, n + 1, x :: δ, os, i, e, hf, h => by
      have e2 : (match outsD fs.tail n δ with
        | none => none
        | some r => if fs.headD false then (match (generalizing := false) x with | .own d => some (d :: r) | _ => none) else some (.non :: r)) = some os := e
      split at e2
      · cases e2
      · rename_i rr hr
        cases i with
        | zero =>
          have hh : fs.headD false = true := by
            cases fs with
            | nil => simp at hf
            | cons f fs => simpa using hf
          rw [if_pos hh] at e2
          split at e2
          · rename_i d
            exact ⟨d, rfl⟩
          · cases e2
        | succ i =>
          obtain ⟨d, hd⟩ := outsD_own (i := i) hr (by
            cases fs with
            | nil => simp at hf
            | cons f fs => simpa using hf) (Nat.lt_of_succ_lt_succ h)
          exact ⟨d, by simpa using hd⟩
/-- each function of the table keeps what the evaluator says -/
theorem fns_ok (dk : ∀ g f, T.defs g = some f → DefOk m glb g f ∧ f.ps ≤ f.n) (nm : NamesG m glb T.cst) (cl : ClsG m T.sub) (kp : ∀ g, PySem.W.keepIn m.c.K (.ref (m.c.fa g)) = true) : ∀ (k : Nat) (h : Bool) (g : Nat), FnG m h k (m.c.fa g) (spC m.c (runT T k h g))
  | 0, h, g => ⟨fun A outer s H us vs Q E pn _ _ _ _ _ _ ⟨U, as, _, _, q⟩ => q.elim⟩
  | k + 1, h, g => ⟨fun A outer s H us vs Q E pn hr hg h0 h1 e0 rv sp => by
    have ih := fns_ok dk nm cl kp k
    cases hf : T.defs g with
    | none =>
      obtain ⟨U, as, _, _, q⟩ := sp
      have e : runT T (k + 1) h g as = none := by
        show (match T.defs g with | none => none | some f => _) = none
        rw [hf]
      rw [e] at q
      exact q.elim
    | some f =>
      obtain ⟨⟨name, qual, params, body, scope, dV, kV, doc, pm, cdv, ct, oc, an, od, osl, N, ps, lk, hcd, S, hN, hps, hb, hck⟩, hn⟩ := dk g f hf
      have st := start_tS (N := N) hN hn hf sp
      have hl : us.length = ps.length := by
        obtain ⟨U, as, ar, _, q⟩ := sp
        have e : as.length = f.ps := Classical.byContradiction fun n => by
          have e : runT T (k + 1) h g as = none := by
            show (match T.defs g with | none => none | some f => (if as.length = f.ps then _ else none)) = none
            rw [hf]
            exact if_neg n
          rw [e] at q
          exact q
        rw [← rv.length, args_len ar, e, hps]
      have hlv : vs.length = ps.length := by rw [rv.length]; exact hl
      have KX : m.c.K.In s.heap := e0.mod.kin.keeps fun b o e => (e0.bs b o e).1
      have lim0 : s.heap.NoLimit := e0.mod.nolimit.keeps fun b o e => (e0.bs b o e).1
      have hkind : ∀ y ∈ ps.zip us, scope.names.lookup y.1 = some .local ∨ (scope.names.lookup y.1 = some .cell ∧ ((cellsFrom (s.heap.objs.size + 1) scope.names []).lookup y.1).isSome = true) := fun ⟨n, v⟩ hy => by
        rcases S.par n (List.of_mem_zip hy).1 with q | q
        · exact .inl q
        · exact .inr ⟨q, PySem.W.cellsFrom_some _ _ _ (.inl q)⟩
      refine codeAny_call_function hr.depth (KX _ _ lk) rfl S.co S.gen rfl (PySem.W.codeRec_of KX hcd) ((BindsTo.of_eq (hb us hl) : BindsTo s _ _ _) _ _ _ _ ?_)
      refine wpAny_newFunctionEnv_cells S.kind hkind fun env he s1 x => ?_
      subst he
      refine ⟨lim0.keeps x.toInCall.keep, codeAny_func ?_⟩
      have hr' : L2H.RoomH k (A.deeper (envOfC qual scope s.heap.objs.size (m.c.fa g) cdv)) := hr.deeper _
      have run : ∀ X : L2.Cx, X.prog = m.P → X.w = m.w → X.A = A.deeper (envOfC qual scope s.heap.objs.size (m.c.fa g) cdv) → X.env = envOfC qual scope s.heap.objs.size (m.c.fa g) cdv → X.s_0 = s → X.H_0 = H → X.outer = outer → (X.ex = []) →
          L2.Inv X [] (L2.start N vs) H s1 → PSs X body (tS ⟨m.c, pn, f.io, fun cls d _ H => E cls d H⟩ (exSs ⟨h, f.io, T.ios, T.cst, T.sub, runT T k, T.fuel⟩ f.body)) → X.xe = (fun e s' => wpAny (model m.P m.w) (A.deeper (envOfC qual scope s.heap.objs.size (m.c.fa g) cdv)) (leaving (envOfC qual scope s.heap.objs.size (m.c.fa g) cdv) e) (fun _ s'' => L2N.CX m.P m.w outer H s E e s'') (fun e' s'' => L2N.CX m.P m.w outer H s E e' s'') s') →
          wpAny (model m.P m.w) (A.deeper (envOfC qual scope s.heap.objs.size (m.c.fa g) cdv)) (execs body (envOfC qual scope s.heap.objs.size (m.c.fa g) cdv)) (fun fl s' => ∃ u, (fl = .ret u ∨ (fl = .next ∧ u = .none)) ∧ CE outer m.P m.w H s Q u s') X.xe s1 := by
        intro X e1 e2 e3 e4 e5 e6 e7 e8 I hbody hxe
        have go := hbody.run [] s1 (L2.start N vs) H _ I st
        rw [e1, e2, e3, e4] at go
        refine wpAny_mono go (fun fl s' hs => ?_) fun e s' hs => hs
        have fin : ∀ {σ' : L2.St} {H' : Hp} {v : V} {u : Value}, L2.Inv X [] σ' H' s' → RelV v u → Q v H' → CE outer m.P m.w H s Q u s' := fun {σ' H' v u} J rv q => by
          have b1 := J.os
          have b2 := J.base
          have b3 := J.hok
          unfold Cx.fs at b2
          rw [e5] at b1
          rw [e5, e6, e7, e8] at b2
          rw [e1, e2] at b3
          exact ⟨v, H', b1, J.bare, b2, b3, rv, q⟩
        cases fl with
        | ret u =>
          obtain ⟨v, σ', H', J, rv, q⟩ := hs
          exact ⟨u, .inl rfl, fin J rv q⟩
        | next =>
          obtain ⟨σ', H', J, q⟩ := hs
          exact ⟨.none, .inr ⟨rfl, rfl⟩, fin (v := V.non) (u := Value.none) J rfl q⟩
        | brk =>
          obtain ⟨_, _, _, q⟩ := hs
          exact False.elim q
        | cont =>
          obtain ⟨_, _, _, q⟩ := hs
          exact False.elim q
      cases h with
      | false =>
        obtain ⟨hd, hpn⟩ := h0 rfl
        have I : L2.Inv (cxOf (L2N.CX m.P m.w) m.P m.w m.c.K m.mg m.base N qual scope (m.c.fa g) cdv A outer s H E) [] (L2.start N vs) H s1 := inv_start S hd e0 hlv rv x
        have gs : Gs m glb k N scope ⟨m.c, pn, f.io, fun cls d _ H => E cls d H⟩ (cxOf (L2N.CX m.P m.w) m.P m.w m.c.K m.mg m.base N qual scope (m.c.fa g) cdv A outer s H E) ⟨false, f.io, T.ios, T.cst, T.sub, runT T k, T.fuel⟩ :=
          { g := { P := rfl, w := rfl, K := rfl, c := rfl, mg := rfl, base := rfl, hN := rfl, nd := S.nd, hsc := rfl, calm := fun _ => rfl, hot := (fun z => nomatch z), room := hr', gd := hg, pn := fun p hp => (by subst hpn; cases hp), pn0 := fun _ => hpn, io := rfl, tk := L2N.takes_of rfl rfl rfl rfl, nm := nm, cl := cl, fns := ih, kp := kp }
            own := fun _ => passes_of rfl
            stk := rfl
            frm := rfl
            kind := S.kind
            fn := rfl }
        refine wpAny_mono (run _ rfl rfl rfl rfl rfl rfl rfl rfl I (sSs gs f.body hck) rfl) (fun fl s' ⟨u, hu, ce⟩ => ?_) fun e s' hs => hs
        rcases hu with rfl | ⟨rfl, rfl⟩
        · exact ce
        · exact ce
      | true =>
        obtain ⟨p, hp1, hp2, hp3⟩ := h1 rfl
        have I : L2.Inv (L2H.cxH (L2N.CX m.P m.w) m.P m.w m.c.K m.mg m.base N qual scope (m.c.fa g) cdv A outer s H E p) [] (L2.start N vs) H s1 := L2H.inv_startH S hp2 e0 hlv rv x
        have gs : Gs m glb k N scope ⟨m.c, pn, f.io, fun cls d _ H => E cls d H⟩ (L2H.cxH (L2N.CX m.P m.w) m.P m.w m.c.K m.mg m.base N qual scope (m.c.fa g) cdv A outer s H E p) ⟨true, f.io, T.ios, T.cst, T.sub, runT T k, T.fuel⟩ :=
          { g := { P := rfl, w := rfl, K := rfl, c := rfl, mg := rfl, base := rfl, hN := rfl, nd := S.nd, hsc := rfl, calm := (fun z => nomatch z), hot := fun _ => ⟨p, hp1, List.mem_cons_self, hp3⟩, room := hr', gd := hg, pn := fun q hq => (by rw [hp3 q hq]; exact List.mem_cons_self), pn0 := (fun z => nomatch z), io := rfl, tk := L2N.takes_of rfl rfl rfl rfl, nm := nm, cl := cl, fns := ih, kp := kp }
            own := fun _ => passes_of rfl
            stk := rfl
            frm := rfl
            kind := S.kind
            fn := rfl }
        refine wpAny_mono (run _ rfl rfl rfl rfl rfl rfl rfl rfl I (sSs gs f.body hck) rfl) (fun fl s' ⟨u, hu, ce⟩ => ?_) fun e s' hs => hs
        rcases hu with rfl | ⟨rfl, rfl⟩
        · exact ce
        · exact ce⟩
where
  args_len {c : RC} {pn : Pn} {U : AS} {H : Hp} : ∀ {vs : List V} {as : List (Bool × D)}, ArgsR c pn U H vs as → vs.length = as.length
    | _, _, .nil => rfl
    | _, _, .val _ r => by rw [List.length_cons, List.length_cons, args_len r]
    | _, _, .own _ _ _ r => by rw [List.length_cons, List.length_cons, args_len r]
end
end Ev

set_option Elab.async false
set_option linter.all false
set_option maxRecDepth 100000
set_option maxHeartbeats 4000000
/-! Part U: a law by its evaluator. -/
namespace Ev
open PySem L2 PyProof.Rows
/-- the module's facts at each heap behind the top -/
abbrev mdOf (c : RC) (P : Program) (w : World) (mg : Str → Option Value) (b : Heap) : Md := ⟨c, P, w, mg, b⟩
theorem end_call {P : Program} {w : World} {c : RC} {mg mb : Str → Option Value} {T : Tb} {k gi : Nat} {adr : Addr} {st : Shared} {vals : List Value} {nums : List Int}
    (kin : c.K.In st.heap) (gN : st.heap.Ns mainGlobals mg) (bN : st.heap.Ns builtinsNs mb) (bE : ∀ x : Str, x ≠ "__name__" → mb x = bootBuiltins x) (nl : st.heap.NoLimit) (gg : st.gens = #[])
    (obj : st.heap.get? adr = some { cls := .type "list", data := .seq vals.toArray }) (ii : IntsAre vals nums) (ln : nums.length ≤ sizeLine) (rm : L2H.RoomH k callerA)
    (F : ∀ b : Heap, c.K.In b → b.Ns mainGlobals mg → FnG (mdOf c P w mg b) false k (c.fa gi) (spC c (runT T k false gi)))
    (ans : ∃ outs, runT T k false gi [(false, .ro (nums.map D.int))] = some (.ok false (.bl true) outs)) :
    codeAny (model P w) callerA (.call (.ref (c.fa gi)) ⟨[.ref adr], []⟩) (fun r t => r = .ok (.ret (.bool true)) ∧ OldK st.heap t.heap ∧ t.os = st.os ∧ AllBare t.gens) st := by
  have vr := vals_ints ii
  have vl := ii.length
  obtain ⟨outs, ans⟩ := ans
  have main : ∀ H : Hp, L2.Only H → RoL c.K H adr (nums.map V.int) → HOk P w H st.heap → (∀ x, H x ≠ none → x = adr) → (H adr ≠ none → c.K.lookup adr = none) →
      codeAny (model P w) callerA (.call (.ref (c.fa gi)) ⟨[.ref adr], []⟩) (fun r t => r = .ok (.ret (.bool true)) ∧ OldK st.heap t.heap ∧ t.os = st.os ∧ AllBare t.gens) st := by
    intro H on ro okH onlyA kA
    have inB : ∀ {x : Addr} {o : Obj}, st.heap.get? x = some o → H x = none → (hidT st.heap H).get? x = some o := fun e n => hidT_get e n
    have noD : ∀ {x : Addr} {o : Obj} {es : Array DictEntry} {ep : Nat}, st.heap.get? x = some o → o.data = .dict es ep → H x = none := fun {x o es ep} e d => by
      cases q : H x with
      | none => rfl
      | some u =>
        have z : x = adr := onlyA x (by rw [q]; simp)
        subst z
        rw [obj] at e
        cases e
        have d2 : Data.seq vals.toArray _ = Data.dict es ep := d
        cases d2
    have nsT : ∀ {x : Addr} {f : Str → Option Value}, st.heap.Ns x f → (hidT st.heap H).Ns x f := fun {x f} ⟨o, es, ep, e, d, rest⟩ => ⟨o, es, ep, inB e (noD e d), d, rest⟩
    have kB : c.K.In (hidT st.heap H) := fun x o e => inB (kin x o e) (by
      cases q : H x with
      | none => rfl
      | some u =>
        have z : x = adr := onlyA x (by rw [q]; simp)
        subst z
        rw [kA (by rw [q]; simp)] at e
        cases e)
    have md : L2.Mod c.K mg (hidT st.heap H) := ⟨kB, nsT gN, ⟨mb, nsT bN, bE⟩, let ⟨f, q1, q2⟩ := nl; ⟨f, nsT q1, q2⟩⟩
    have en : Env0 P w c.K mg (hidT st.heap H) callerA [] st H := ⟨rfl, md, fun x o e => of_hidT e, Nat.le_of_eq (hidT_size _ _), trivial, fun x hx => absurd (show x ∈ ([] : List Addr) from hx) (by simp), okH, .of_eq gg⟩
    have sp : spC c (runT T k false gi) [] [.ref adr] H (fun v _ => v = .bl true) (fun _ _ _ => False) := by
      refine ⟨fun _ => False, _, .val (Rep.e (.ro ro (reps_ints nums))) .nil, fun _ z => z.elim, ?_⟩
      rw [ans]
      exact fun v U' H' _ _ an _ => RepR.bl (pn := []) (.inl (Rep.e an))
    refine codeAny_mono ((F _ kB (nsT gN)).run callerA [] st H [.ref adr] [.ref adr] _ _ [] rm rfl (fun _ => ⟨rfl, rfl⟩) (fun z => nomatch z) en (.cons rfl .nil) sp) fun r t h => ?_
    cases r with
    | error e =>
      obtain ⟨_, _, _, _, _, _, _, _, _, _, _, _, z⟩ := h
      exact z.elim
    | ok fl =>
      cases fl with
      | next => exact False.elim h
      | brk => exact False.elim h
      | cont => exact False.elim h
      | ret u =>
        obtain ⟨v, H', osE, bare, un, okE, rv, q⟩ := h
        have q2 : v = .bl true := q
        subst q2
        obtain rfl : u = Value.bool true := rv
        refine ⟨rfl, OldK.of_keep fun x o e => ?_, osE, bare⟩
        cases q : H x with
        | none => exact un.keep x o e q (by intro z; exact absurd (show x ∈ ([] : List Addr) from z) (by simp)) (by simp)
        | some u =>
          rcases on x with z | ⟨ob, xs, z⟩
          · rw [q] at z
            cases z
          · have z2 := un.frzs x ob _ z
            obtain ⟨f1, _⟩ := okH x _ z
            obtain ⟨f2, _⟩ := okE x _ z2
            rw [e] at f1
            cases f1
            exact f2
  cases hk : c.K.lookup adr with
  | some o =>
    have e := kin adr o hk
    rw [obj] at e
    cases e
    exact main (fun _ => none) (fun _ => .inl rfl) (.inr ⟨_, vals.toArray, _, hk, rfl, rfl, rfl, by rw [List.size_toArray, vl]; exact ln, by simpa using vr⟩) (fun x u z => by cases (show (none : Option HO) = some u from z)) (fun x z => absurd rfl z) fun z => absurd rfl z
  | none =>
    refine main (fun x => if x = adr then some (.frz { cls := .type "list", data := .seq vals.toArray } (.lst (nums.map V.int))) else none) (fun x => ?_) (.inl ⟨{ cls := .type "list", data := .seq vals.toArray }, if_pos rfl⟩) (fun x u z => ?_) (fun x z => ?_) fun _ => hk
    · by_cases hx : x = adr
      · exact .inr ⟨_, _, if_pos hx⟩
      · exact .inl (if_neg hx)
    · by_cases hx : x = adr
      · have z2 := (if_pos hx).symm.trans z
        cases z2
        subst hx
        exact ⟨obj, by rw [List.length_map]; exact ln, vals, _, vr, obj⟩
      · have z2 := (if_neg hx).symm.trans z
        cases z2
    · by_cases hx : x = adr
      · exact hx
      · exact absurd (if_neg hx) z
/-- the law, where the evaluator says True of every script -/
theorem law_end {l : PySem.W.OpenLaw} {q : Program} {loose : List Str} {XP : (Str → Option Value) → Heap → Prop} {YP : World → Heap → Prop} {d : DefRec} {K : Params → PySem.W.Frag} {T : Tb} {k gi : Nat} {n : Nat}
    (hn : l.most = some n) (hn2 : n ≤ sizeLine) (hdf : d.params.defaults = []) (rm : L2H.RoomH k callerA) (hY : ∀ (w : World) (h : Heap), YP w h → (K w.params).In h)
    (F : ∀ (w : World) (mg : Str → Option Value) (fa : Addr) (h : Heap), (K w.params).In h → h.Ns mainGlobals mg → mg d.name = some (.ref fa) →
      ∃ c : RC, c.K = K w.params ∧ c.fa gi = fa ∧ ∀ b : Heap, c.K.In b → b.Ns mainGlobals mg → FnG (mdOf c l.prog w mg b) false k (c.fa gi) (spC c (runT T k false gi)))
    (ans : ∀ nums : List Int, nums.length ≤ n → (∀ z ∈ nums, Builtin.Int.intBits z ≤ 1048576) → ∃ outs, runT T k false gi [(false, .ro (nums.map D.int))] = some (.ok false (.bl true) outs)) :
    PySem.W.WalkO q loose XP YP l.row.toRowW d [] (fun f vs => PySem.call f vs) := by
  refine Att.attach_callB hn hdf fun w s0 st mg mb fa o pm cd doc adr vals nums Gr Y ho hd hcd hmg obj ii hlen hbits gg => ?_
  obtain ⟨c, e1, e2, FF⟩ := F w mg fa _ (hY w _ Y) Gr.T.g hmg
  subst e2
  exact end_call (by rw [e1]; exact hY w _ Y) Gr.T.g Gr.T.b Gr.T.builtins Gr.T.nolimit gg obj ii (Nat.le_trans hlen hn2) rm FF (ans nums hlen hbits)
end Ev

set_option Elab.async false
set_option linter.all false
set_option maxRecDepth 100000
set_option maxHeartbeats 4000000
/-! Part V: the tables of a program, put together. -/
namespace Ev
open PySem L2 PyProof.Rows
inductive AllT {α : Type} (P : α → Prop) : List α → Prop where
  | nil : AllT P []
  | cons {a : α} {r : List α} (h : P a) (t : AllT P r) : AllT P (a :: r)
theorem AllT.mem {α : Type} {P : α → Prop} : ∀ {l : List α}, AllT P l → ∀ a ∈ l, P a
  | _, .nil, a, h => by cases h
  | _, .cons h t, a, m => by
    rcases List.mem_cons.mp m with rfl | m
    · exact h
    · exact t.mem a m
theorem AllT.at {α : Type} {P : α → Prop} {l : List α} (h : AllT P l) {d : α} (hd : P d) (i : Nat) : P (l.getD i d) := by
  rw [List.getD_eq_getElem?_getD]
  cases e : l[i]? with
  | none => exact hd
  | some x => exact h.mem x (List.mem_of_getElem? e)
theorem lookup_in {α β : Type} [BEq α] [LawfulBEq α] {x : α} {y : β} : ∀ {l : List (α × β)}, l.lookup x = some y → (x, y) ∈ l
  | [], h => by cases h
  | (a, b) :: r, h => by
    rw [List.lookup_cons] at h
    split at h
    · rename_i e
      cases h
      rw [eq_of_beq e]
      exact List.mem_cons_self
    · exact List.mem_cons_of_mem _ (lookup_in h)
def nmP (m : Md) (cst : Nat → Option D) (p : Str × Gk) : Prop := match p.2 with
  | .bn => m.mg p.1 = none
  | .fn g => m.mg p.1 = some (.ref (m.c.fa g))
  | .cls k => m.mg p.1 = some (.ref (m.c.ca k))
  | .cst n => ∀ d, cst n = some d → ∃ v u, m.mg p.1 = some u ∧ RelV v u ∧ ∀ U H, Rep m.c U H v d
theorem names_of {m : Md} {cst : Nat → Option D} {tab : List (Str × Gk)} (h : AllT (nmP m cst) tab) : NamesG m (fun x => tab.lookup x) cst where
  no x e := h.mem _ (lookup_in e)
  fn x g e := h.mem _ (lookup_in e)
  cls x k e := h.mem _ (lookup_in e)
  cst x n d e hd := h.mem _ (lookup_in e) d hd
theorem cst_int {m : Md} {n : Nat} {cst : Nat → Option D} {x : Str} {i : Int} {u : Value} (e : m.mg x = some u) (hr : RelV (.int i) u) (hc : cst n = some (.int i)) : nmP m cst (x, .cst n) := fun d hd => by
  rw [hc] at hd
  cases hd
  exact ⟨.int i, u, e, hr, fun U H => .int _⟩
/-- what the program's top leaves of a class of errors -/
structure ClsF (K : PySem.W.Frag) (C : Addr) : Prop where
  ga : PySem.W.findIn K (.ref C) "__getattribute__" = some (some (.builtin "BaseException.__getattribute__"))
  gg : PySem.W.findIn K (.ref C) "__getattr__" = some none
  s : PySem.W.subIn K (.ref C) (.type "BaseException") = some true
  hd : PySem.W.hasDictIn K C = true
  ha : PySem.W.findIn K (.ref C) "__class__" = some (some (.builtin "object.__class__"))
  hn : PySem.W.specialIn K (.builtin "object.__class__") "__get__" = some (some (.builtin "getset_descriptor.__get__"))
  ht : PySem.W.takesIn K (.builtin "object.__class__") = some true
  hm : PySem.W.mroIn K C (.type "object") = some true
  xe : ∃ B n i bm, PySem.ExcBaseFacts B n i bm ∧ PySem.W.excIn K C bm n = true
  kp : PySem.W.keepIn K (.ref C) = true
  ty : PySem.W.typeIn K (.ref C) = some (.type "type")
  ic : PySem.W.isClsIn K C = true
theorem kitCls_of {K : PySem.W.Frag} {C E : Addr} {b : Bool} (f : ClsF K C) (h : PySem.W.subIn K (.ref E) (.ref C) = some b) : PySem.W.kitCls K (.ref E) (.ref C) = some b := by
  have e2 : ((PySem.W.clsIn K C).isSome && PySem.W.typeIn K (.ref C) == some (.type "type")) = true := by
    have h2' : (PySem.W.clsIn K C).isSome = true := f.ic
    rw [h2', f.ty] <;> rfl
  show (if ((PySem.W.clsIn K C).isSome && PySem.W.typeIn K (.ref C) == some (.type "type")) = true then PySem.W.subIn K (.ref E) (.ref C) else none) = some b
  rw [if_pos e2]
  exact h
theorem clsG_of {m : Md} {cs : List Addr} {c0 : Addr} {sub : Nat → Nat → Bool} (hca : ∀ k, m.c.ca k = cs.getD k c0) (f : AllT (ClsF m.c.K) cs) (f0 : ClsF m.c.K c0)
    (hs : ∀ e k, PySem.W.subIn m.c.K (.ref (cs.getD e c0)) (.ref (cs.getD k c0)) = some (sub e k)) (hd : ∀ e, sub e e = true) : ClsG m sub := by
  have hr : ∀ e k, ((Value.ref (cs.getD e c0) == Value.ref (cs.getD k c0)) = true) → sub e k = true := fun e k h => by
    have h1 := hs e k
    rw [← eq_of_beq h] at h1
    have h2 := (hs e e).symm.trans h1
    rw [← Option.some.inj h2]
    exact hd e
  have F : ∀ k, ClsF m.c.K (m.c.ca k) := fun k => by rw [hca]; exact f.at f0 k
  have S : ∀ e k, PySem.W.subIn m.c.K (.ref (m.c.ca e)) (.ref (m.c.ca k)) = some (sub e k) := fun e k => by rw [hca, hca]; exact hs e k
  refine ⟨fun e => ⟨(F e).ga, (F e).gg, (F e).s, (F e).hd, (F e).ha, (F e).hn, (F e).ht, (F e).hm⟩, fun e k => ?_, fun e k => ?_, fun k => (F k).xe, fun k => (F k).kp, fun k => (F k).ty⟩
  · show (if ((Value.ref (m.c.ca e) == Value.ref (m.c.ca k)) = true) then some true else PySem.W.kitCls m.c.K (.ref (m.c.ca e)) (.ref (m.c.ca k))) = some (sub e k)
    split
    · rename_i h
      rw [hca, hca] at h
      rw [hr e k h]
    · exact kitCls_of (F k) (S e k)
  · have e1 : (PySem.W.subIn m.c.K (.ref (m.c.ca k)) (.type "BaseException") == some true) = true := by rw [(F k).s] <;> rfl
    show (if (PySem.W.subIn m.c.K (.ref (m.c.ca k)) (.type "BaseException") == some true) = true then PySem.W.kitCls m.c.K (.ref (m.c.ca e)) (.ref (m.c.ca k)) else none) = some (sub e k)
    rw [if_pos e1]
    exact kitCls_of (F k) (S e k)
def fscB (N P : List Str) (sc : Scope) : Bool := (match sc.kind with | .function => true | _ => false) && !sc.isCoroutine && !sc.isGenerator && decide N.Nodup && decide (N.take P.length = P) &&
  P.all (fun x => decide (sc.names.lookup x = some .local) || decide (sc.names.lookup x = some .cell)) && sc.names.all fun y => decide (y.2 ≠ .free)
theorem fsc_of {N P : List Str} {sc : Scope} (h : fscB N P sc = true) : FnScope N P sc := by
  unfold fscB at h
  simp only [Bool.and_eq_true, decide_eq_true_eq, Bool.not_eq_true', List.all_eq_true, Bool.or_eq_true] at h
  obtain ⟨⟨⟨⟨⟨⟨h1, h2⟩, h3⟩, h4⟩, h5⟩, h6⟩, h7⟩ := h
  refine ⟨?_, h2, h3, h4, h5, h6, h7⟩
  split at h1
  · assumption
  · cases h1
theorem defOk_of {m : Md} {glb : Str → Option Gk} {g : Nat} {f : Def} (st : Stmt) (x : Str) (N ps : List Str) {fa : Addr} {oc kV dc pm cd ct : Value} {od an : Option Addr} {sl : Array (Option Value)}
    (l : m.c.K.lookup fa = some ⟨oc, od, .func (PySem.W.fnOf x x (defArgs st) (defBody st) (defScope st) .none kV dc pm an cd ct), sl⟩) (c : PySem.W.codeIn m.c.K cd x = true) (hfa : m.c.fa g = fa)
    (hs : fscB N ps (defScope st) = true) (h1 : N.length = f.n) (h2 : ps.length = f.ps) (hb : ∀ us : List Value, us.length = ps.length → ∀ kV dc pm an cd ct, bindArgs (PySem.W.fnOf x x (defArgs st) (defBody st) (defScope st) .none kV dc pm an cd ct) ⟨us, []⟩ = pure (ps.zip us))
    (hc : chkSs glb N (defScope st) f.body (defBody st) = true) : DefOk m glb g f :=
  ⟨⟨x, x, defArgs st, defBody st, defScope st, .none, kV, dc, pm, cd, ct, oc, an, od, sl, N, ps, by rw [hfa]; exact l, c, fsc_of hs, h1, h2, fun us hu => hb us hu _ _ _ _ _ _, hc⟩⟩
theorem fin_of {K : PySem.W.Frag} {mg : Str → Option Value} {w : World} {P : Program} {fa : Addr} {gi : Nat} {T : Tb} {k : Nat} (z : ∃ c : RC, c.K = K ∧ c.fa gi = fa ∧ ∀ b : Heap, c.K.In b → b.Ns mainGlobals mg → ∀ k, FnG (mdOf c P w mg b) false k (c.fa gi) (spC c (runT T k false gi))) :
    ∃ c : RC, c.K = K ∧ c.fa gi = fa ∧ ∀ b : Heap, c.K.In b → b.Ns mainGlobals mg → FnG (mdOf c P w mg b) false k (c.fa gi) (spC c (runT T k false gi)) := by
  obtain ⟨c, z1, z2, z3⟩ := z
  exact ⟨c, z1, z2, fun b h1 h2 => z3 b h1 h2 k⟩
inductive AllI {α : Type} (P : Nat → α → Prop) : Nat → List α → Prop where
  | nil {i : Nat} : AllI P i []
  | cons {i : Nat} {a : α} {r : List α} (h : P i a) (t : AllI P (i + 1) r) : AllI P i (a :: r)
theorem AllI.at {α : Type} {P : Nat → α → Prop} : ∀ {l : List α} {i : Nat}, AllI P i l → ∀ {j : Nat} {x : α}, l[j]? = some x → P (i + j) x
  | _, _, .nil, j, x, e => by cases e
  | _, i, .cons h t, 0, x, e => by cases e; exact h
  | _, i, .cons h t, j + 1, x, e => by
    have := t.at (j := j) (x := x) e
    rw [show i + (j + 1) = i + 1 + j by omega]
    exact this
end Ev

set_option Elab.async false
set_option linter.all false
set_option maxRecDepth 100000
/-! Part W: the evaluator, run by rewriting. -/
namespace Ex
open PySem Ev

universe u
/-- sealed: nothing unfolds it -/
noncomputable def seal' {α : Sort u} (a : α) : α := Classical.choose (⟨a, rfl⟩ : ∃ b, b = a)
theorem seal_eq {α : Sort u} (a : α) : seal' a = a := Classical.choose_spec (⟨a, rfl⟩ : ∃ b, b = a)
noncomputable def vE := seal' @Ev.evE
theorem vE_eq : vE = Ev.evE := seal_eq _
noncomputable def vEs := seal' @Ev.evEs
theorem vEs_eq : vEs = Ev.evEs := seal_eq _
noncomputable def vO := seal' @Ev.evO
theorem vO_eq : vO = Ev.evO := seal_eq _
noncomputable def vI := seal' @Ev.evI
theorem vI_eq : vI = Ev.evI := seal_eq _
noncomputable def vT := seal' @Ev.evT
theorem vT_eq : vT = Ev.evT := seal_eq _
noncomputable def xS := seal' @Ev.exS
theorem xS_eq : xS = Ev.exS := seal_eq _
noncomputable def xSs := seal' @Ev.exSs
theorem xSs_eq : xSs = Ev.exSs := seal_eq _
noncomputable def cM := seal' @Ev.callM
theorem cM_eq : cM = Ev.callM := seal_eq _
noncomputable def itS := seal' @Ev.items
theorem itS_eq : itS = Ev.items := seal_eq _
noncomputable def bnD := seal' @Ev.binD
theorem bnD_eq : bnD = Ev.binD := seal_eq _
noncomputable def uD := seal' @Ev.unD
theorem uD_eq : uD = Ev.unD := seal_eq _
noncomputable def trD := seal' @Ev.truD
theorem trD_eq : trD = Ev.truD := seal_eq _
noncomputable def cmD := seal' @Ev.cmpD
theorem cmD_eq : cmD = Ev.cmpD := seal_eq _
noncomputable def sbD := seal' @Ev.subsD
theorem sbD_eq : sbD = Ev.subsD := seal_eq _
noncomputable def scD := seal' @Ev.slcD
theorem scD_eq : scD = Ev.slcD := seal_eq _
noncomputable def bD := seal' @Ev.biD
theorem bD_eq : bD = Ev.biD := seal_eq _
noncomputable def mD := seal' @Ev.mtD
theorem mD_eq : mD = Ev.mtD := seal_eq _
noncomputable def mmS := seal' @Ev.mmD
theorem mmS_eq : mmS = Ev.mmD := seal_eq _
noncomputable def agD := seal' @Ev.augD
theorem agD_eq : agD = Ev.augD := seal_eq _
noncomputable def adD := seal' @Ev.addD
theorem adD_eq : adD = Ev.addD := seal_eq _
noncomputable def suD := seal' @Ev.subD
theorem suD_eq : suD = Ev.subD := seal_eq _
noncomputable def muD := seal' @Ev.mulD
theorem muD_eq : muD = Ev.mulD := seal_eq _
noncomputable def fdD := seal' @Ev.fdivD
theorem fdD_eq : fdD = Ev.fdivD := seal_eq _
noncomputable def moD := seal' @Ev.modD
theorem moD_eq : moD = Ev.modD := seal_eq _
noncomputable def pwD := seal' @Ev.powD
theorem pwD_eq : pwD = Ev.powD := seal_eq _
noncomputable def slD := seal' @Ev.shlD
theorem slD_eq : slD = Ev.shlD := seal_eq _
noncomputable def srD := seal' @Ev.shrD
theorem srD_eq : srD = Ev.shrD := seal_eq _
noncomputable def eqS := seal' @Ev.eqD
theorem eqS_eq : eqS = Ev.eqD := seal_eq _
noncomputable def inS := seal' @Ev.inD
theorem inS_eq : inS = Ev.inD := seal_eq _
noncomputable def vSs := seal' @Ev.evSs
theorem vSs_eq : vSs = Ev.evSs := seal_eq _
noncomputable def ilS := seal' @Ev.inL
theorem ilS_eq : ilS = Ev.inL := seal_eq _
noncomputable def andM (c : Cx) (x : Opd) (b : PX) : M Opd := (truM x).bind fun k => if k then vE c b else M.pure x
noncomputable def orM (c : Cx) (x : Opd) (b : PX) : M Opd := (truM x).bind fun k => if k then M.pure x else vE c b
noncomputable def lcB (c : Cx) (tg : Tgt) (ifs : Option PX) (elt : PX) : D → M (Option D) := fun d => (tgtM c tg false d).bind fun _ => (vI c ifs).bind fun k => if k then (vE c elt).bind fun x => (escM c.io x).bind fun y => M.pure (some y.2) else M.pure none
noncomputable def lcR (c : Cx) (vs : List Nat) (tg : Tgt) (ifs : Option PX) (elt : PX) (w : List Nat) (xs : List D) : M Opd := fun δ =>
      if vs.all (fun i => plainAt δ i && !c.io.getD i false) && decide (xs.length ≤ lim) && tgVs vs tg then
        match gather vs (lcB c tg ifs elt) xs [] (wipeD vs (lockAll w δ)) with
        | some (.ok ys δ') => match unlockAll w (backD δ vs δ') with
          | none => none
          | some δ2 => some (.ok (.t true (.lst ys)) δ2)
        | _ => none
      else none
noncomputable def dcB (c : Cx) (tg : Tgt) (ifs : Option PX) (ke ve : PX) : D → M (Option (D × D)) := fun d => (tgtM c tg false d).bind fun _ => (vI c ifs).bind fun k => if k then (vE c ke).bind fun x => (rdM x).bind fun dk => if keyD dk then (vE c ve).bind fun y => (escM c.io y).bind fun z => M.pure (some (dk, z.2)) else M.stuck else M.pure none
noncomputable def dcR (c : Cx) (vs : List Nat) (tg : Tgt) (ifs : Option PX) (ke ve : PX) (w : List Nat) (xs : List D) : M Opd := fun δ =>
      if vs.all (fun i => plainAt δ i && !c.io.getD i false) && decide (xs.length ≤ lim) && tgVs vs tg then
        match gatherK vs (dcB c tg ifs ke ve) xs [] (wipeD vs (lockAll w δ)) with
        | some (.ok ys δ') => match unlockAll w (backD δ vs δ') with
          | none => none
          | some δ2 => some (.ok (.t true (.dct ys)) δ2)
        | _ => none
      else none
theorem dcB_raw (c : Cx) (tg : Tgt) (ifs : Option PX) (ke ve : PX) : dcB c tg ifs ke ve = fun d => (tgtM c tg false d).bind fun _ => (Ev.evI c ifs).bind fun k => if k then (Ev.evE c ke).bind fun x => (rdM x).bind fun dk => if keyD dk then (Ev.evE c ve).bind fun y => (escM c.io y).bind fun z => M.pure (some (dk, z.2)) else M.stuck else M.pure none := by
  funext d
  simp only [Ex.dcB, vI_eq, vE_eq]
noncomputable def forB (c : Cx) (tg : Tgt) (body : List Stm) : D → M Fl := fun d => (tgtM c tg false d).bind fun _ => xSs c body
noncomputable def forR (c : Cx) (tg : Tgt) (body : List Stm) (w : List Nat) (xs : List D) : M Fl := fun δ =>
    match turns (forB c tg body) xs (lockAll w δ) with
    | none => none
    | some (.er e δ') => some (.er e δ')
    | some (.ok (.rt o d) δ') => some (.ok (.rt o d) δ')
    | some (.ok f δ') => match unlockAll w δ' with
      | none => none
      | some δ2 => some (.ok f δ2)
noncomputable def whR (c : Cx) (t : PX) (body : List Stm) (n : Nat) : M Fl := spins (vT c t) (xSs c body) n
theorem lcB_raw (c : Cx) (tg : Tgt) (ifs : Option PX) (elt : PX) : lcB c tg ifs elt = fun d => (tgtM c tg false d).bind fun _ => (Ev.evI c ifs).bind fun k => if k then (Ev.evE c elt).bind fun x => (escM c.io x).bind fun y => M.pure (some y.2) else M.pure none := by
  funext d
  simp only [Ex.lcB, vI_eq, vE_eq]
theorem forB_raw (c : Cx) (tg : Tgt) (body : List Stm) : forB c tg body = fun d => (tgtM c tg false d).bind fun _ => Ev.exSs c body := by
  funext d
  simp only [Ex.forB, xSs_eq]
/-- the functions' answers, sealed -/
noncomputable def RT (T : Tb) (k : Nat) : Bool → Nat → List (Bool × D) → Option Res := Classical.choose (⟨runT T k, rfl⟩ : ∃ f, f = runT T k)
theorem RT_eq (T : Tb) (k : Nat) : RT T k = runT T k := Classical.choose_spec (⟨runT T k, rfl⟩ : ∃ f, f = runT T k)
noncomputable def CX (T : Tb) (k : Nat) (hot : Bool) (io : List Bool) : Cx := ⟨hot, io, T.ios, T.cst, T.sub, RT T k, T.fuel⟩
section
variable {T : Tb} {k : Nat} {h h' : Bool} {io : List Bool}
theorem CX_hot : (CX T k h io).hot = h := (rfl)
theorem CX_io : (CX T k h io).io = io := (rfl)
theorem CX_ios (g : Nat) : (CX T k h io).ios g = T.ios g := (rfl)
theorem CX_cst (g : Nat) : (CX T k h io).cst g = T.cst g := (rfl)
theorem CX_sub : (CX T k h io).sub = T.sub := (rfl)
theorem CX_call : (CX T k h io).call = RT T k := (rfl)
theorem CX_fuel : (CX T k h io).fuel = T.fuel := (rfl)
theorem CX_set : { CX T k h io with hot := h' } = CX T k h' io := (rfl)
def endX (io : List Bool) (ps : Nat) (r : Option (Rs Fl)) : Option Res := match r with
  | some (.ok .nx δ) => (outsD io ps δ).map (Res.ok false .non)
  | some (.ok (.rt o d) δ) => (outsD io ps δ).map (Res.ok o d)
  | some (.er e _) => some (.er e)
  | _ => none
theorem run_of {T : Tb} {k : Nat} {h : Bool} {g : Nat} {as : List (Bool × D)} (f : Def) (hf : T.defs g = some f) (hl : as.length = f.ps) {δ : Dst} (hs : startD f.io as = some δ) {δ' : Dst} (hd : δ ++ List.replicate (f.n - f.ps) Sl.non = δ') :
    RT T (k + 1) h g as = endX f.io f.ps (xSs (CX T k h f.io) f.body δ') := by
  subst hd
  unfold CX
  rw [RT_eq, RT_eq, xSs_eq]
  show (match T.defs g with | none => none | some f => if as.length = f.ps then match startD f.io as with
        | none => none
        | some δ => endR f (exSs ⟨h, f.io, T.ios, T.cst, T.sub, runT T k, T.fuel⟩ f.body (δ ++ List.replicate (f.n - f.ps) Sl.non))
      else none) = _
  rw [hf]
  show (if as.length = f.ps then match startD f.io as with
        | none => none
        | some δ => endR f (exSs ⟨h, f.io, T.ios, T.cst, T.sub, runT T k, T.fuel⟩ f.body (δ ++ List.replicate (f.n - f.ps) Sl.non))
      else none) = _
  rw [if_pos hl, hs]
  rfl
end
section
variable {c : Cx} {δ : Dst}
theorem ap_bind {α β : Type} (m : M α) (f : α → M β) : M.bind m f δ = match m δ with
  | none => none
  | some (.er e δ') => some (.er e δ')
  | some (.ok a δ') => f a δ' := (rfl)
theorem ap_pure {α : Type} (a : α) : M.pure a δ = some (.ok a δ) := (rfl)
theorem ap_stuck {α : Type} : (M.stuck : M α) δ = none := (rfl)
theorem ap_opt {α : Type} (x : Option α) : M.opt x δ = match x with | none => none | some a => some (.ok a δ) := (rfl)
theorem ap_ite {α : Type} (p : Prop) [Decidable p] (m n : M α) : (if p then m else n) δ = if p then m δ else n δ := by split <;> rfl
theorem mt_ite {α β : Type} (p : Prop) [Decidable p] (a b : Option (Rs α)) (f : α → M β) : (match (if p then a else b) with
  | none => none
  | some (.er e δ') => some (Rs.er e δ')
  | some (.ok a δ') => f a δ') = if p then (match a with
  | none => none
  | some (.er e δ') => some (Rs.er e δ')
  | some (.ok a δ') => f a δ') else (match b with
  | none => none
  | some (.er e δ') => some (Rs.er e δ')
  | some (.ok a δ') => f a δ') := by
  by_cases h : p
  · rw [if_pos h, if_pos h]
  · rw [if_neg h, if_neg h]
theorem rdO_t (o : Bool) (d : D) : rdO δ (.t o d) = some d := (rfl)
theorem rdO_s (i : Nat) : rdO δ (.s i) = match δ[i]? with
    | some (.val d) => some d
    | some (.own d) => some d
    | some (.lock d) => some d
    | _ => none := (rfl)
theorem ap_rd (o : Opd) : rdM o δ = match rdO δ o with | none => none | some d => some (.ok d δ) := (rfl)
theorem ap_rds_nil : rdsM [] δ = some (.ok [] δ) := (rfl)
theorem ap_rds_cons (o : Opd) (os : List Opd) : rdsM (o :: os) = (rdM o).bind fun d => (rdsM os).bind fun ds => M.pure (d :: ds) := (rfl)
theorem ap_esc_t (io : List Bool) (b : Bool) (d : D) : escM io (.t b d) δ = if isExc d then none else some (.ok (b, d) δ) := (rfl)
theorem ap_esc_s (io : List Bool) (i : Nat) : escM io (.s i) δ = match δ[i]? with
    | some (.val d) => if isExc d then none else some (.ok (false, d) δ)
    | some (.own d) => if io.getD i false then none else some (.ok (false, d) (δ.set i (.val d)))
    | _ => none := (rfl)
theorem ap_escs_nil (io : List Bool) : escsM io [] δ = some (.ok [] δ) := (rfl)
theorem ap_escs_cons (io : List Bool) (o : Opd) (os : List Opd) : escsM io (o :: os) = (escM io o).bind fun d => (escsM io os).bind fun ds => M.pure (d.2 :: ds) := (rfl)
theorem ap_escp_nil (io : List Bool) : escPs io [] δ = some (.ok [] δ) := (rfl)
theorem ap_escp_cons (io : List Bool) (o : Opd) (os : List Opd) : escPs io (o :: os) = (escM io o).bind fun d => (escPs io os).bind fun ds => M.pure (d :: ds) := (rfl)
def isLk : Sl → Bool
  | .lock _ => true
  | _ => false
/-- a slot that can be set -/
def NL (s : Sl) : Prop := isLk s = false
theorem nl_non : NL .non := rfl
theorem nl_val (d : D) : NL (.val d) := rfl
theorem nl_own (d : D) : NL (.own d) := rfl
theorem lk_nl {s : Sl} (h : NL s) : isLk s = false := h
theorem lk_non : isLk .non = false := (rfl)
theorem lk_val (d : D) : isLk (.val d) = false := (rfl)
theorem lk_own (d : D) : isLk (.own d) = false := (rfl)
theorem lk_lock (d : D) : isLk (.lock d) = true := (rfl)
theorem ap_tgt_nm (io : List Bool) (i : Nat) (o : Bool) (d : D) : tgt io (.nm i) o d δ = if io.getD i false then none else match δ[i]? with
    | none => none
    | some s => if isLk s = true then none else some (δ.set i (if o then .own d else .val d)) := by
  show (if io.getD i false then none else match δ[i]? with
    | none => none
    | some (.lock _) => none
    | some _ => some (δ.set i (if o then .own d else .val d))) = _
  split
  · rfl
  · cases δ[i]? with
    | none => rfl
    | some s => cases s <;> rfl
theorem ap_tgt_tp (io : List Bool) (ts : List Tgt) (o : Bool) (ds : List D) : tgt io (.tp ts) o (.tup ds) δ = tgts io ts ds δ := (rfl)
theorem ap_tgts_nil (io : List Bool) : tgts io [] [] δ = some δ := (rfl)
theorem ap_tgts_cons (io : List Bool) (t : Tgt) (ts : List Tgt) (d : D) (ds : List D) : tgts io (t :: ts) (d :: ds) δ = match tgt io t false d δ with
    | none => none
    | some δ1 => tgts io ts ds δ1 := (rfl)
theorem ap_tgtM_tp (ts : List Tgt) (o : Bool) (d : D) : tgtM c (.tp ts) o d δ = if c.hot then none else match tgt c.io (.tp ts) o d δ with | none => none | some δ1 => some (.ok () δ1) := (rfl)
theorem ap_tgtM_nm (i : Nat) (o : Bool) (d : D) : tgtM c (.nm i) o d δ = match tgt c.io (.nm i) o d δ with | none => none | some δ1 => some (.ok () δ1) := (rfl)
theorem ap_ret_t (io : List Bool) (b : Bool) (d : D) : retM io (.t b d) δ = if isExc d then none else some (.ok (.rt b d) δ) := (rfl)
theorem ap_ret_s (io : List Bool) (i : Nat) : retM io (.s i) δ = match δ[i]? with
    | some (.val d) => if isExc d then none else some (.ok (.rt false d) δ)
    | some (.own d) => if io.getD i false then none else some (.ok (.rt true d) (δ.set i .non))
    | _ => none := (rfl)
theorem ap_isLst (i : Nat) : isLst i δ = match δ[i]? with
  | some (.own (.lst _)) => some (.ok () δ)
  | _ => none := (rfl)
theorem ap_mmM (m : Mm) (i : Nat) (ds : List D) : mmM m i ds δ = match δ[i]? with
  | some (.own d) => match mmS m d ds with
    | none => none
    | some (r, d') => some (.ok (.t false r) (δ.set i (.own d')))
  | _ => none := by
  simp only [Ex.andM, Ex.orM, Ex.lcB, Ex.lcR, Ex.forB, Ex.forR, Ex.whR, vE_eq, vEs_eq, vO_eq, vI_eq, vT_eq, xS_eq, xSs_eq, cM_eq, itS_eq, bnD_eq, uD_eq, trD_eq, cmD_eq, sbD_eq, scD_eq, bD_eq, mD_eq, mmS_eq, agD_eq, adD_eq, suD_eq, muD_eq, fdD_eq, moD_eq, pwD_eq, slD_eq, srD_eq, eqS_eq, inS_eq] <;> rfl
theorem ap_intAt (i : Nat) : intAt i δ = match δ[i]? with
  | some (.val (.int n)) => some (.ok n δ)
  | _ => none := (rfl)
theorem ap_tru (o : Opd) : truM o = (rdM o).bind fun d => M.opt (trD d) := by
  simp only [Ex.andM, Ex.orM, Ex.lcB, Ex.lcR, Ex.forB, Ex.forR, Ex.whR, vE_eq, vEs_eq, vO_eq, vI_eq, vT_eq, xS_eq, xSs_eq, cM_eq, itS_eq, bnD_eq, uD_eq, trD_eq, cmD_eq, sbD_eq, scD_eq, bD_eq, mD_eq, mmS_eq, agD_eq, adD_eq, suD_eq, muD_eq, fdD_eq, moD_eq, pwD_eq, slD_eq, srD_eq, eqS_eq, inS_eq] <;> rfl
theorem tru_bl (b : Bool) : trD (.bl b) = some b := by
  simp only [Ex.andM, Ex.orM, Ex.lcB, Ex.lcR, Ex.forB, Ex.forR, Ex.whR, vE_eq, vEs_eq, vO_eq, vI_eq, vT_eq, xS_eq, xSs_eq, cM_eq, itS_eq, bnD_eq, uD_eq, trD_eq, cmD_eq, sbD_eq, scD_eq, bD_eq, mD_eq, mmS_eq, agD_eq, adD_eq, suD_eq, muD_eq, fdD_eq, moD_eq, pwD_eq, slD_eq, srD_eq, eqS_eq, inS_eq] <;> rfl
theorem tru_non : trD .non = some false := by
  simp only [Ex.andM, Ex.orM, Ex.lcB, Ex.lcR, Ex.forB, Ex.forR, Ex.whR, vE_eq, vEs_eq, vO_eq, vI_eq, vT_eq, xS_eq, xSs_eq, cM_eq, itS_eq, bnD_eq, uD_eq, trD_eq, cmD_eq, sbD_eq, scD_eq, bD_eq, mD_eq, mmS_eq, agD_eq, adD_eq, suD_eq, muD_eq, fdD_eq, moD_eq, pwD_eq, slD_eq, srD_eq, eqS_eq, inS_eq] <;> rfl
theorem tru_int (i : Int) : trD (.int i) = some (i != 0) := by
  simp only [Ex.andM, Ex.orM, Ex.lcB, Ex.lcR, Ex.forB, Ex.forR, Ex.whR, vE_eq, vEs_eq, vO_eq, vI_eq, vT_eq, xS_eq, xSs_eq, cM_eq, itS_eq, bnD_eq, uD_eq, trD_eq, cmD_eq, sbD_eq, scD_eq, bD_eq, mD_eq, mmS_eq, agD_eq, adD_eq, suD_eq, muD_eq, fdD_eq, moD_eq, pwD_eq, slD_eq, srD_eq, eqS_eq, inS_eq] <;> rfl
theorem tru_lst (xs : List D) : trD (.lst xs) = some (!xs.isEmpty) := by
  simp only [Ex.andM, Ex.orM, Ex.lcB, Ex.lcR, Ex.forB, Ex.forR, Ex.whR, vE_eq, vEs_eq, vO_eq, vI_eq, vT_eq, xS_eq, xSs_eq, cM_eq, itS_eq, bnD_eq, uD_eq, trD_eq, cmD_eq, sbD_eq, scD_eq, bD_eq, mD_eq, mmS_eq, agD_eq, adD_eq, suD_eq, muD_eq, fdD_eq, moD_eq, pwD_eq, slD_eq, srD_eq, eqS_eq, inS_eq] <;> rfl
theorem tru_tup (xs : List D) : trD (.tup xs) = some (!xs.isEmpty) := by
  simp only [Ex.andM, Ex.orM, Ex.lcB, Ex.lcR, Ex.forB, Ex.forR, Ex.whR, vE_eq, vEs_eq, vO_eq, vI_eq, vT_eq, xS_eq, xSs_eq, cM_eq, itS_eq, bnD_eq, uD_eq, trD_eq, cmD_eq, sbD_eq, scD_eq, bD_eq, mD_eq, mmS_eq, agD_eq, adD_eq, suD_eq, muD_eq, fdD_eq, moD_eq, pwD_eq, slD_eq, srD_eq, eqS_eq, inS_eq] <;> rfl
/-! expressions -/
theorem ev_var (i : Nat) : vE c (.var i) δ = match δ[i]? with
    | some (.val d) => some (.ok (.t false d) δ)
    | some (.own _) => some (.ok (.s i) δ)
    | some (.lock _) => some (.ok (.s i) δ)
    | _ => none := by
  simp only [Ex.andM, Ex.orM, Ex.lcB, Ex.lcR, Ex.forB, Ex.forR, Ex.whR, vE_eq, vEs_eq, vO_eq, vI_eq, vT_eq, xS_eq, xSs_eq, cM_eq, itS_eq, bnD_eq, uD_eq, trD_eq, cmD_eq, sbD_eq, scD_eq, bD_eq, mD_eq, mmS_eq, agD_eq, adD_eq, suD_eq, muD_eq, fdD_eq, moD_eq, pwD_eq, slD_eq, srD_eq, eqS_eq, inS_eq] <;> rfl
theorem ev_cn (d : D) : vE c (.cn d) δ = some (.ok (.t false d) δ) := by
  simp only [Ex.andM, Ex.orM, Ex.lcB, Ex.lcR, Ex.forB, Ex.forR, Ex.whR, vE_eq, vEs_eq, vO_eq, vI_eq, vT_eq, xS_eq, xSs_eq, cM_eq, itS_eq, bnD_eq, uD_eq, trD_eq, cmD_eq, sbD_eq, scD_eq, bD_eq, mD_eq, mmS_eq, agD_eq, adD_eq, suD_eq, muD_eq, fdD_eq, moD_eq, pwD_eq, slD_eq, srD_eq, eqS_eq, inS_eq] <;> rfl
theorem ev_glob (x : Nat) : vE c (.glob x) = M.opt ((c.cst x).map (Opd.t false)) := by
  simp only [Ex.andM, Ex.orM, Ex.lcB, Ex.lcR, Ex.forB, Ex.forR, Ex.whR, vE_eq, vEs_eq, vO_eq, vI_eq, vT_eq, xS_eq, xSs_eq, cM_eq, itS_eq, bnD_eq, uD_eq, trD_eq, cmD_eq, sbD_eq, scD_eq, bD_eq, mD_eq, mmS_eq, agD_eq, adD_eq, suD_eq, muD_eq, fdD_eq, moD_eq, pwD_eq, slD_eq, srD_eq, eqS_eq, inS_eq] <;> rfl
theorem ev_bin (op : Operator) (a b : PX) : vE c (.bin op a b) = (vE c a).bind fun x => (vE c b).bind fun y => (rdM x).bind fun dx => (rdM y).bind fun dy => M.opt ((bnD op dx dy).map fun p => .t p.1 p.2) := by
  simp only [Ex.andM, Ex.orM, Ex.lcB, Ex.lcR, Ex.forB, Ex.forR, Ex.whR, vE_eq, vEs_eq, vO_eq, vI_eq, vT_eq, xS_eq, xSs_eq, cM_eq, itS_eq, bnD_eq, uD_eq, trD_eq, cmD_eq, sbD_eq, scD_eq, bD_eq, mD_eq, mmS_eq, agD_eq, adD_eq, suD_eq, muD_eq, fdD_eq, moD_eq, pwD_eq, slD_eq, srD_eq, eqS_eq, inS_eq] <;> rfl
theorem ev_un (op : UnaryOp) (a : PX) : vE c (.un op a) = (vE c a).bind fun x => (rdM x).bind fun d => M.opt ((uD op d).map (Opd.t false)) := by
  simp only [Ex.andM, Ex.orM, Ex.lcB, Ex.lcR, Ex.forB, Ex.forR, Ex.whR, vE_eq, vEs_eq, vO_eq, vI_eq, vT_eq, xS_eq, xSs_eq, cM_eq, itS_eq, bnD_eq, uD_eq, trD_eq, cmD_eq, sbD_eq, scD_eq, bD_eq, mD_eq, mmS_eq, agD_eq, adD_eq, suD_eq, muD_eq, fdD_eq, moD_eq, pwD_eq, slD_eq, srD_eq, eqS_eq, inS_eq] <;> rfl
theorem ev_nt (a : PX) : vE c (.nt a) = (vE c a).bind fun x => (truM x).bind fun b => M.pure (.t false (.bl (!b))) := by
  simp only [Ex.andM, Ex.orM, Ex.lcB, Ex.lcR, Ex.forB, Ex.forR, Ex.whR, vE_eq, vEs_eq, vO_eq, vI_eq, vT_eq, xS_eq, xSs_eq, cM_eq, itS_eq, bnD_eq, uD_eq, trD_eq, cmD_eq, sbD_eq, scD_eq, bD_eq, mD_eq, mmS_eq, agD_eq, adD_eq, suD_eq, muD_eq, fdD_eq, moD_eq, pwD_eq, slD_eq, srD_eq, eqS_eq, inS_eq] <;> rfl
theorem ev_and (a b : PX) : vE c (.andE a b) = (vE c a).bind fun x => andM c x b := by
  simp only [Ex.andM, Ex.orM, Ex.lcB, Ex.lcR, Ex.forB, Ex.forR, Ex.whR, vE_eq, vEs_eq, vO_eq, vI_eq, vT_eq, xS_eq, xSs_eq, cM_eq, itS_eq, bnD_eq, uD_eq, trD_eq, cmD_eq, sbD_eq, scD_eq, bD_eq, mD_eq, mmS_eq, agD_eq, adD_eq, suD_eq, muD_eq, fdD_eq, moD_eq, pwD_eq, slD_eq, srD_eq, eqS_eq, inS_eq] <;> rfl
theorem ev_or (a b : PX) : vE c (.orE a b) = (vE c a).bind fun x => orM c x b := by
  simp only [Ex.andM, Ex.orM, Ex.lcB, Ex.lcR, Ex.forB, Ex.forR, Ex.whR, vE_eq, vEs_eq, vO_eq, vI_eq, vT_eq, xS_eq, xSs_eq, cM_eq, itS_eq, bnD_eq, uD_eq, trD_eq, cmD_eq, sbD_eq, scD_eq, bD_eq, mD_eq, mmS_eq, agD_eq, adD_eq, suD_eq, muD_eq, fdD_eq, moD_eq, pwD_eq, slD_eq, srD_eq, eqS_eq, inS_eq] <;> rfl
theorem andM_bl (o b1 : Bool) (b : PX) : andM c (.t o (.bl b1)) b δ = if b1 = true then vE c b δ else some (.ok (.t o (.bl false)) δ) := by
  unfold andM
  show (M.bind (truM _) _) δ = _
  cases b1 <;> rfl
theorem orM_bl (o b1 : Bool) (b : PX) : orM c (.t o (.bl b1)) b δ = if b1 = true then some (.ok (.t o (.bl true)) δ) else vE c b δ := by
  unfold orM
  show (M.bind (truM _) _) δ = _
  cases b1 <;> rfl
theorem andM_eq (x : Opd) (b : PX) : andM c x b = (truM x).bind fun k => if k then vE c b else M.pure x := by
  simp only [Ex.andM, Ex.orM, Ex.lcB, Ex.lcR, Ex.forB, Ex.forR, Ex.whR, vE_eq, vEs_eq, vO_eq, vI_eq, vT_eq, xS_eq, xSs_eq, cM_eq, itS_eq, bnD_eq, uD_eq, trD_eq, cmD_eq, sbD_eq, scD_eq, bD_eq, mD_eq, mmS_eq, agD_eq, adD_eq, suD_eq, muD_eq, fdD_eq, moD_eq, pwD_eq, slD_eq, srD_eq, eqS_eq, inS_eq] <;> rfl
theorem orM_eq (x : Opd) (b : PX) : orM c x b = (truM x).bind fun k => if k then M.pure x else vE c b := by
  simp only [Ex.andM, Ex.orM, Ex.lcB, Ex.lcR, Ex.forB, Ex.forR, Ex.whR, vE_eq, vEs_eq, vO_eq, vI_eq, vT_eq, xS_eq, xSs_eq, cM_eq, itS_eq, bnD_eq, uD_eq, trD_eq, cmD_eq, sbD_eq, scD_eq, bD_eq, mD_eq, mmS_eq, agD_eq, adD_eq, suD_eq, muD_eq, fdD_eq, moD_eq, pwD_eq, slD_eq, srD_eq, eqS_eq, inS_eq] <;> rfl
theorem ev_ite (t a b : PX) : vE c (.ite t a b) = (vE c t).bind fun x => (truM x).bind fun k => if k then vE c a else vE c b := by
  simp only [Ex.andM, Ex.orM, Ex.lcB, Ex.lcR, Ex.forB, Ex.forR, Ex.whR, vE_eq, vEs_eq, vO_eq, vI_eq, vT_eq, xS_eq, xSs_eq, cM_eq, itS_eq, bnD_eq, uD_eq, trD_eq, cmD_eq, sbD_eq, scD_eq, bD_eq, mD_eq, mmS_eq, agD_eq, adD_eq, suD_eq, muD_eq, fdD_eq, moD_eq, pwD_eq, slD_eq, srD_eq, eqS_eq, inS_eq] <;> rfl
theorem ev_cmp (op : CmpOp) (a b : PX) : vE c (.cmp op a b) = (vE c a).bind fun x => (vE c b).bind fun y => (rdM x).bind fun dx => (rdM y).bind fun dy => M.opt ((cmD op dx dy).map fun k => .t false (.bl k)) := by
  simp only [Ex.andM, Ex.orM, Ex.lcB, Ex.lcR, Ex.forB, Ex.forR, Ex.whR, vE_eq, vEs_eq, vO_eq, vI_eq, vT_eq, xS_eq, xSs_eq, cM_eq, itS_eq, bnD_eq, uD_eq, trD_eq, cmD_eq, sbD_eq, scD_eq, bD_eq, mD_eq, mmS_eq, agD_eq, adD_eq, suD_eq, muD_eq, fdD_eq, moD_eq, pwD_eq, slD_eq, srD_eq, eqS_eq, inS_eq] <;> rfl
theorem ev_cmp2 (op op' : CmpOp) (a b e : PX) : vE c (.cmp2 op op' a b e) = (vE c a).bind fun x => (vE c b).bind fun y => (rdM x).bind fun dx => (rdM y).bind fun dy => (M.opt (cmD op dx dy)).bind fun k =>
      if k then (vE c e).bind fun z => (rdM y).bind fun dy' => (rdM z).bind fun dz => M.opt ((cmD op' dy' dz).map fun k' => .t false (.bl k')) else M.pure (.t false (.bl false)) := by
  simp only [Ex.andM, Ex.orM, Ex.lcB, Ex.lcR, Ex.forB, Ex.forR, Ex.whR, vE_eq, vEs_eq, vO_eq, vI_eq, vT_eq, xS_eq, xSs_eq, cM_eq, itS_eq, bnD_eq, uD_eq, trD_eq, cmD_eq, sbD_eq, scD_eq, bD_eq, mD_eq, mmS_eq, agD_eq, adD_eq, suD_eq, muD_eq, fdD_eq, moD_eq, pwD_eq, slD_eq, srD_eq, eqS_eq, inS_eq] <;> rfl
theorem ev_tup (as : List PX) : vE c (.tup as) = (vEs c as).bind fun os => (escsM c.io os).bind fun ds => if ds.length ≤ lim then M.pure (.t false (.tup ds)) else M.stuck := by
  simp only [Ex.andM, Ex.orM, Ex.lcB, Ex.lcR, Ex.forB, Ex.forR, Ex.whR, vE_eq, vEs_eq, vO_eq, vI_eq, vT_eq, xS_eq, xSs_eq, cM_eq, itS_eq, bnD_eq, uD_eq, trD_eq, cmD_eq, sbD_eq, scD_eq, bD_eq, mD_eq, mmS_eq, agD_eq, adD_eq, suD_eq, muD_eq, fdD_eq, moD_eq, pwD_eq, slD_eq, srD_eq, eqS_eq, inS_eq] <;> rfl
theorem ev_lst (as : List PX) : vE c (.lst as) = (vEs c as).bind fun os => (escsM c.io os).bind fun ds => if ds.length ≤ lim then M.pure (.t true (.lst ds)) else M.stuck := by
  simp only [Ex.andM, Ex.orM, Ex.lcB, Ex.lcR, Ex.forB, Ex.forR, Ex.whR, vE_eq, vEs_eq, vO_eq, vI_eq, vT_eq, xS_eq, xSs_eq, cM_eq, itS_eq, bnD_eq, uD_eq, trD_eq, cmD_eq, sbD_eq, scD_eq, bD_eq, mD_eq, mmS_eq, agD_eq, adD_eq, suD_eq, muD_eq, fdD_eq, moD_eq, pwD_eq, slD_eq, srD_eq, eqS_eq, inS_eq] <;> rfl
theorem ev_tupS (bs : List Bool) (as : List PX) : vE c (.tupS bs as) = (vSs c bs as).bind fun os => (escsM c.io os).bind fun ds => if ds.length ≤ lim then M.pure (.t false (.tup ds)) else M.stuck := by
  simp only [Ex.andM, Ex.orM, Ex.lcB, Ex.lcR, Ex.forB, Ex.forR, Ex.whR, vE_eq, vEs_eq, vO_eq, vI_eq, vT_eq, xS_eq, xSs_eq, cM_eq, itS_eq, bnD_eq, uD_eq, trD_eq, cmD_eq, sbD_eq, scD_eq, bD_eq, mD_eq, mmS_eq, agD_eq, adD_eq, suD_eq, muD_eq, fdD_eq, moD_eq, pwD_eq, slD_eq, srD_eq, eqS_eq, inS_eq, vSs_eq] <;> rfl
theorem ev_lstS (bs : List Bool) (as : List PX) : vE c (.lstS bs as) = (vSs c bs as).bind fun os => (escsM c.io os).bind fun ds => if ds.length ≤ lim then M.pure (.t true (.lst ds)) else M.stuck := by
  simp only [Ex.andM, Ex.orM, Ex.lcB, Ex.lcR, Ex.forB, Ex.forR, Ex.whR, vE_eq, vEs_eq, vO_eq, vI_eq, vT_eq, xS_eq, xSs_eq, cM_eq, itS_eq, bnD_eq, uD_eq, trD_eq, cmD_eq, sbD_eq, scD_eq, bD_eq, mD_eq, mmS_eq, agD_eq, adD_eq, suD_eq, muD_eq, fdD_eq, moD_eq, pwD_eq, slD_eq, srD_eq, eqS_eq, inS_eq, vSs_eq] <;> rfl
theorem ev_rev (a : PX) : vE c (.rev a) = (vE c a).bind fun x => (rdM x).bind fun d => M.opt ((revD d).map fun p => .t p.1 p.2) := by
  simp only [Ex.andM, Ex.orM, Ex.lcB, Ex.lcR, Ex.forB, Ex.forR, Ex.whR, vE_eq, vEs_eq, vO_eq, vI_eq, vT_eq, xS_eq, xSs_eq, cM_eq, itS_eq, bnD_eq, uD_eq, trD_eq, cmD_eq, sbD_eq, scD_eq, bD_eq, mD_eq, mmS_eq, agD_eq, adD_eq, suD_eq, muD_eq, fdD_eq, moD_eq, pwD_eq, slD_eq, srD_eq, eqS_eq, inS_eq] <;> rfl
theorem ess_nil (bs : List Bool) : vSs c bs [] = M.pure [] := by
  simp only [Ex.andM, Ex.orM, Ex.lcB, Ex.lcR, Ex.forB, Ex.forR, Ex.whR, vE_eq, vEs_eq, vO_eq, vI_eq, vT_eq, xS_eq, xSs_eq, cM_eq, itS_eq, bnD_eq, uD_eq, trD_eq, cmD_eq, sbD_eq, scD_eq, bD_eq, mD_eq, mmS_eq, agD_eq, adD_eq, suD_eq, muD_eq, fdD_eq, moD_eq, pwD_eq, slD_eq, srD_eq, eqS_eq, inS_eq, vSs_eq] <;> rfl
theorem ess_cons (bs : List Bool) (a : PX) (as : List PX) : vSs c bs (a :: as) = (vE c a).bind fun x => if bs.headD false then (rdM x).bind fun d => (M.opt (seqR d)).bind fun ds => (vSs c bs.tail as).bind fun xs => M.pure (ds.map (Opd.t false) ++ xs)
      else (vSs c bs.tail as).bind fun xs => M.pure (x :: xs) := by
  simp only [Ex.andM, Ex.orM, Ex.lcB, Ex.lcR, Ex.forB, Ex.forR, Ex.whR, vE_eq, vEs_eq, vO_eq, vI_eq, vT_eq, xS_eq, xSs_eq, cM_eq, itS_eq, bnD_eq, uD_eq, trD_eq, cmD_eq, sbD_eq, scD_eq, bD_eq, mD_eq, mmS_eq, agD_eq, adD_eq, suD_eq, muD_eq, fdD_eq, moD_eq, pwD_eq, slD_eq, srD_eq, eqS_eq, inS_eq, vSs_eq] <;> rfl
theorem rv_l (xs : List D) : revD (.lst xs) = some (true, .lst xs.reverse) := (rfl)
theorem rv_t (xs : List D) : revD (.tup xs) = some (false, .tup xs.reverse) := (rfl)
theorem sq_l (xs : List D) : seqR (.lst xs) = some xs := (rfl)
theorem sq_t (xs : List D) : seqR (.tup xs) = some xs := (rfl)
theorem sq_r (xs : List D) : seqR (.ro xs) = some xs := (rfl)
theorem escs_of (io : List Bool) (os : List Opd) : ∀ ds : List D, (∀ d ∈ ds, isExc d = false) → escsM io (ds.map (Opd.t false) ++ os) δ = ((escsM io os).bind fun rs => M.pure (ds ++ rs)) δ
  | [], _ => by
    show escsM io os δ = ((escsM io os).bind fun rs => M.pure ([] ++ rs)) δ
    rw [ap_bind]
    cases escsM io os δ with
    | none => rfl
    | some r => cases r <;> rfl
  | d :: ds, h => by
    have ih := escs_of io os ds fun x hx => h x (List.mem_cons_of_mem _ hx)
    have e : (escM io (.t false d)) δ = some (.ok (false, d) δ) := by
      rw [ap_esc_t, if_neg (by rw [h d (by simp)]; decide)]
    show escsM io (.t false d :: (ds.map (Opd.t false) ++ os)) δ = _
    rw [ap_escs_cons, ap_bind, e]
    show ((escsM io (ds.map (Opd.t false) ++ os)).bind fun rs => M.pure (d :: rs)) δ = ((escsM io os).bind fun rs => M.pure (d :: ds ++ rs)) δ
    rw [ap_bind, ih, ap_bind, ap_bind]
    cases escsM io os δ with
    | none => rfl
    | some r => cases r <;> rfl
theorem escs_int {α : Type} (io : List Bool) (os : List Opd) (f : α → Int) (xs : List α) : escsM io ((xs.map fun x => D.int (f x)).map (Opd.t false) ++ os) δ = ((escsM io os).bind fun rs => M.pure ((xs.map fun x => D.int (f x)) ++ rs)) δ := escs_of _ _ _ fun d hd => by
  obtain ⟨x, _, rfl⟩ := List.mem_map.mp hd; rfl
theorem escs_ints (io : List Bool) (os : List Opd) (xs : List Int) : escsM io ((xs.map D.int).map (Opd.t false) ++ os) δ = ((escsM io os).bind fun rs => M.pure ((xs.map D.int) ++ rs)) δ := escs_of _ _ _ fun d hd => by
  obtain ⟨x, _, rfl⟩ := List.mem_map.mp hd; rfl
theorem escs_tup {α : Type} (io : List Bool) (os : List Opd) (f : α → List D) (xs : List α) : escsM io ((xs.map fun x => D.tup (f x)).map (Opd.t false) ++ os) δ = ((escsM io os).bind fun rs => M.pure ((xs.map fun x => D.tup (f x)) ++ rs)) δ := escs_of _ _ _ fun d hd => by
  obtain ⟨x, _, rfl⟩ := List.mem_map.mp hd; rfl
theorem escs_lst {α : Type} (io : List Bool) (os : List Opd) (f : α → List D) (xs : List α) : escsM io ((xs.map fun x => D.lst (f x)).map (Opd.t false) ++ os) δ = ((escsM io os).bind fun rs => M.pure ((xs.map fun x => D.lst (f x)) ++ rs)) δ := escs_of _ _ _ fun d hd => by
  obtain ⟨x, _, rfl⟩ := List.mem_map.mp hd; rfl
theorem ev_sub (a i : PX) : vE c (.sub a i) = (vE c a).bind fun x => (vE c i).bind fun y => (rdM x).bind fun dx => (rdM y).bind fun dy => M.opt ((sbD dx dy).map (Opd.t false)) := by
  simp only [Ex.andM, Ex.orM, Ex.lcB, Ex.lcR, Ex.forB, Ex.forR, Ex.whR, vE_eq, vEs_eq, vO_eq, vI_eq, vT_eq, xS_eq, xSs_eq, cM_eq, itS_eq, bnD_eq, uD_eq, trD_eq, cmD_eq, sbD_eq, scD_eq, bD_eq, mD_eq, mmS_eq, agD_eq, adD_eq, suD_eq, muD_eq, fdD_eq, moD_eq, pwD_eq, slD_eq, srD_eq, eqS_eq, inS_eq] <;> rfl
theorem ev_slc (a : PX) (lo hi : Option PX) : vE c (.slc a lo hi) = (vE c a).bind fun x => (vO c lo).bind fun l => (vO c hi).bind fun h => (rdM x).bind fun d => M.opt ((scD d l h).map fun p => .t p.1 p.2) := by
  simp only [Ex.andM, Ex.orM, Ex.lcB, Ex.lcR, Ex.forB, Ex.forR, Ex.whR, vE_eq, vEs_eq, vO_eq, vI_eq, vT_eq, xS_eq, xSs_eq, cM_eq, itS_eq, bnD_eq, uD_eq, trD_eq, cmD_eq, sbD_eq, scD_eq, bD_eq, mD_eq, mmS_eq, agD_eq, adD_eq, suD_eq, muD_eq, fdD_eq, moD_eq, pwD_eq, slD_eq, srD_eq, eqS_eq, inS_eq] <;> rfl
theorem ev_call (g : Nat) (as : List PX) : vE c (.call g as) = (vEs c as).bind fun os => cM c g os := by
  simp only [Ex.andM, Ex.orM, Ex.lcB, Ex.lcR, Ex.forB, Ex.forR, Ex.whR, vE_eq, vEs_eq, vO_eq, vI_eq, vT_eq, xS_eq, xSs_eq, cM_eq, itS_eq, bnD_eq, uD_eq, trD_eq, cmD_eq, sbD_eq, scD_eq, bD_eq, mD_eq, mmS_eq, agD_eq, adD_eq, suD_eq, muD_eq, fdD_eq, moD_eq, pwD_eq, slD_eq, srD_eq, eqS_eq, inS_eq] <;> rfl
theorem ev_callv (f : PX) (as : List PX) : vE c (.callv f as) = (vE c f).bind fun x => (rdM x).bind fun d => match d with
    | .fn g => (vEs c as).bind fun os => cM c g os
    | _ => M.stuck := by
  simp only [Ex.andM, Ex.orM, Ex.lcB, Ex.lcR, Ex.forB, Ex.forR, Ex.whR, vE_eq, vEs_eq, vO_eq, vI_eq, vT_eq, xS_eq, xSs_eq, cM_eq, itS_eq, bnD_eq, uD_eq, trD_eq, cmD_eq, sbD_eq, scD_eq, bD_eq, mD_eq, mmS_eq, agD_eq, adD_eq, suD_eq, muD_eq, fdD_eq, moD_eq, pwD_eq, slD_eq, srD_eq, eqS_eq, inS_eq] <;> rfl
theorem ev_bi (b : Bi) (as : List PX) : vE c (.bi b as) = if c.hot && !hotBi b then M.stuck else (vEs c as).bind fun os => (rdsM os).bind fun ds => M.opt ((bD b ds).map fun p => .t p.1 p.2) := by
  simp only [Ex.andM, Ex.orM, Ex.lcB, Ex.lcR, Ex.forB, Ex.forR, Ex.whR, vE_eq, vEs_eq, vO_eq, vI_eq, vT_eq, xS_eq, xSs_eq, cM_eq, itS_eq, bnD_eq, uD_eq, trD_eq, cmD_eq, sbD_eq, scD_eq, bD_eq, mD_eq, mmS_eq, agD_eq, adD_eq, suD_eq, muD_eq, fdD_eq, moD_eq, pwD_eq, slD_eq, srD_eq, eqS_eq, inS_eq] <;> rfl
theorem ev_lrng (as : List PX) : vE c (.lrng as) = if c.hot then M.stuck else (vEs c as).bind fun os => (rdsM os).bind fun ds => M.opt ((itS 1 ds).bind fun xs => if xs.length ≤ lim then some (.t true (.lst xs)) else none) := by
  simp only [Ex.andM, Ex.orM, Ex.lcB, Ex.lcR, Ex.forB, Ex.forR, Ex.whR, vE_eq, vEs_eq, vO_eq, vI_eq, vT_eq, xS_eq, xSs_eq, cM_eq, itS_eq, bnD_eq, uD_eq, trD_eq, cmD_eq, sbD_eq, scD_eq, bD_eq, mD_eq, mmS_eq, agD_eq, adD_eq, suD_eq, muD_eq, fdD_eq, moD_eq, pwD_eq, slD_eq, srD_eq, eqS_eq, inS_eq] <;> rfl
theorem ev_trng (as : List PX) : vE c (.trng as) = if c.hot then M.stuck else (vEs c as).bind fun os => (rdsM os).bind fun ds => M.opt ((itS 1 ds).bind fun xs => if xs.length ≤ lim then some (.t false (.tup xs)) else none) := by
  simp only [Ex.andM, Ex.orM, Ex.lcB, Ex.lcR, Ex.forB, Ex.forR, Ex.whR, vE_eq, vEs_eq, vO_eq, vI_eq, vT_eq, xS_eq, xSs_eq, cM_eq, itS_eq, bnD_eq, uD_eq, trD_eq, cmD_eq, sbD_eq, scD_eq, bD_eq, mD_eq, mmS_eq, agD_eq, adD_eq, suD_eq, muD_eq, fdD_eq, moD_eq, pwD_eq, slD_eq, srD_eq, eqS_eq, inS_eq] <;> rfl
theorem ev_isE (a : PX) (k : Nat) : vE c (.isE a k) = (vE c a).bind fun x => (rdM x).bind fun d => match d with
    | .exc e _ => M.pure (.t false (.bl (c.sub e k)))
    | _ => M.stuck := by
  simp only [Ex.andM, Ex.orM, Ex.lcB, Ex.lcR, Ex.forB, Ex.forR, Ex.whR, vE_eq, vEs_eq, vO_eq, vI_eq, vT_eq, xS_eq, xSs_eq, cM_eq, itS_eq, bnD_eq, uD_eq, trD_eq, cmD_eq, sbD_eq, scD_eq, bD_eq, mD_eq, mmS_eq, agD_eq, adD_eq, suD_eq, muD_eq, fdD_eq, moD_eq, pwD_eq, slD_eq, srD_eq, eqS_eq, inS_eq] <;> rfl
theorem ev_mt (m : Mt) (a : PX) (as : List PX) : vE c (.mt m a as) = (vE c a).bind fun x => (rdM x).bind fun d0 => if mtTy m d0 then (vEs c as).bind fun os => (rdM x).bind fun d => (rdsM os).bind fun ds => M.opt ((mD m d ds).map fun p => .t p.1 p.2) else M.stuck := by
  simp only [Ex.andM, Ex.orM, Ex.lcB, Ex.lcR, Ex.forB, Ex.forR, Ex.whR, vE_eq, vEs_eq, vO_eq, vI_eq, vT_eq, xS_eq, xSs_eq, cM_eq, itS_eq, bnD_eq, uD_eq, trD_eq, cmD_eq, sbD_eq, scD_eq, bD_eq, mD_eq, mmS_eq, agD_eq, adD_eq, suD_eq, muD_eq, fdD_eq, moD_eq, pwD_eq, slD_eq, srD_eq, eqS_eq, inS_eq] <;> rfl
theorem ev_mm (m : Mm) (i : Nat) (as : List PX) : vE c (.mm m i as) = (isLst i).bind fun _ => (vEs c as).bind fun os => (escsM c.io os).bind fun ds => mmM m i ds := by
  simp only [Ex.andM, Ex.orM, Ex.lcB, Ex.lcR, Ex.forB, Ex.forR, Ex.whR, vE_eq, vEs_eq, vO_eq, vI_eq, vT_eq, xS_eq, xSs_eq, cM_eq, itS_eq, bnD_eq, uD_eq, trD_eq, cmD_eq, sbD_eq, scD_eq, bD_eq, mD_eq, mmS_eq, agD_eq, adD_eq, suD_eq, muD_eq, fdD_eq, moD_eq, pwD_eq, slD_eq, srD_eq, eqS_eq, inS_eq] <;> rfl
/-- one turn of a comprehension -/
theorem ap_lcB (tg : Tgt) (ifs : Option PX) (elt : PX) (d : D) : lcB c tg ifs elt d = (tgtM c tg false d).bind fun _ => (vI c ifs).bind fun k => if k then (vE c elt).bind fun x => (escM c.io x).bind fun y => M.pure (some y.2) else M.pure none := by
  simp only [Ex.andM, Ex.orM, Ex.lcB, Ex.lcR, Ex.forB, Ex.forR, Ex.whR, vE_eq, vEs_eq, vO_eq, vI_eq, vT_eq, xS_eq, xSs_eq, cM_eq, itS_eq, bnD_eq, uD_eq, trD_eq, cmD_eq, sbD_eq, scD_eq, bD_eq, mD_eq, mmS_eq, agD_eq, adD_eq, suD_eq, muD_eq, fdD_eq, moD_eq, pwD_eq, slD_eq, srD_eq, eqS_eq, inS_eq] <;> rfl
/-- a comprehension over these items -/
theorem ev_lc (vs : List Nat) (tg : Tgt) (kd : Nat) (as : List PX) (ifs : Option PX) (elt : PX) : vE c (.lc vs tg kd as ifs elt) = if c.hot then M.stuck else (vEs c as).bind fun os => (rdsM os).bind fun ds => (M.opt (itS kd ds)).bind fun xs => fun δ => lcR c vs tg ifs elt (walked δ os) xs δ := by
  simp only [lcB_raw, Ex.andM, Ex.orM, Ex.lcR, Ex.forR, Ex.whR, vE_eq, vEs_eq, vO_eq, vI_eq, vT_eq, xS_eq, xSs_eq, cM_eq, itS_eq, bnD_eq, uD_eq, trD_eq, cmD_eq, sbD_eq, scD_eq, bD_eq, mD_eq, mmS_eq, agD_eq, adD_eq, suD_eq, muD_eq, fdD_eq, moD_eq, pwD_eq, slD_eq, srD_eq, eqS_eq, inS_eq] <;> rfl
theorem ap_dcB (tg : Tgt) (ifs : Option PX) (ke ve : PX) (d : D) : dcB c tg ifs ke ve d = (tgtM c tg false d).bind fun _ => (vI c ifs).bind fun k => if k then (vE c ke).bind fun x => (rdM x).bind fun dk => if keyD dk then (vE c ve).bind fun y => (escM c.io y).bind fun z => M.pure (some (dk, z.2)) else M.stuck else M.pure none := (rfl)
theorem ev_dc (vs : List Nat) (tg : Tgt) (kd : Nat) (as : List PX) (ifs : Option PX) (ke ve : PX) : vE c (.dc vs tg kd as ifs ke ve) = if c.hot then M.stuck else (vEs c as).bind fun os => (rdsM os).bind fun ds => (M.opt (itS kd ds)).bind fun xs => fun δ => dcR c vs tg ifs ke ve (walked δ os) xs δ := by
  simp only [dcB_raw, Ex.dcR, vE_eq, vEs_eq, itS_eq] <;> rfl
theorem ap_dcR (vs : List Nat) (tg : Tgt) (ifs : Option PX) (ke ve : PX) (w : List Nat) (xs : List D) : dcR c vs tg ifs ke ve w xs δ = if vs.all (fun i => plainAt δ i && !c.io.getD i false) && decide (xs.length ≤ lim) && tgVs vs tg then
        match gatherK vs (dcB c tg ifs ke ve) xs [] (wipeD vs (lockAll w δ)) with
        | some (.ok ys δ') => match unlockAll w (backD δ vs δ') with
          | none => none
          | some δ2 => some (.ok (.t true (.dct ys)) δ2)
        | _ => none
      else none := (rfl)
theorem ky_int (i : Int) : keyD (.int i) = true := (rfl)
theorem ky_str (i : Str) : keyD (.str i) = true := (rfl)
theorem ap_lcR (vs : List Nat) (tg : Tgt) (ifs : Option PX) (elt : PX) (w : List Nat) (xs : List D) : lcR c vs tg ifs elt w xs δ = if vs.all (fun i => plainAt δ i && !c.io.getD i false) && decide (xs.length ≤ lim) && tgVs vs tg then
        match gather vs (lcB c tg ifs elt) xs [] (wipeD vs (lockAll w δ)) with
        | some (.ok ys δ') => match unlockAll w (backD δ vs δ') with
          | none => none
          | some δ2 => some (.ok (.t true (.lst ys)) δ2)
        | _ => none
      else none := (rfl)
theorem evs_nil : vEs c [] δ = some (.ok [] δ) := by
  simp only [Ex.andM, Ex.orM, Ex.lcB, Ex.lcR, Ex.forB, Ex.forR, Ex.whR, vE_eq, vEs_eq, vO_eq, vI_eq, vT_eq, xS_eq, xSs_eq, cM_eq, itS_eq, bnD_eq, uD_eq, trD_eq, cmD_eq, sbD_eq, scD_eq, bD_eq, mD_eq, mmS_eq, agD_eq, adD_eq, suD_eq, muD_eq, fdD_eq, moD_eq, pwD_eq, slD_eq, srD_eq, eqS_eq, inS_eq] <;> rfl
theorem evs_cons (a : PX) (as : List PX) : vEs c (a :: as) = (vE c a).bind fun x => (vEs c as).bind fun xs => M.pure (x :: xs) := by
  simp only [Ex.andM, Ex.orM, Ex.lcB, Ex.lcR, Ex.forB, Ex.forR, Ex.whR, vE_eq, vEs_eq, vO_eq, vI_eq, vT_eq, xS_eq, xSs_eq, cM_eq, itS_eq, bnD_eq, uD_eq, trD_eq, cmD_eq, sbD_eq, scD_eq, bD_eq, mD_eq, mmS_eq, agD_eq, adD_eq, suD_eq, muD_eq, fdD_eq, moD_eq, pwD_eq, slD_eq, srD_eq, eqS_eq, inS_eq] <;> rfl
theorem evo_none : vO c none δ = some (.ok none δ) := by
  simp only [Ex.andM, Ex.orM, Ex.lcB, Ex.lcR, Ex.forB, Ex.forR, Ex.whR, vE_eq, vEs_eq, vO_eq, vI_eq, vT_eq, xS_eq, xSs_eq, cM_eq, itS_eq, bnD_eq, uD_eq, trD_eq, cmD_eq, sbD_eq, scD_eq, bD_eq, mD_eq, mmS_eq, agD_eq, adD_eq, suD_eq, muD_eq, fdD_eq, moD_eq, pwD_eq, slD_eq, srD_eq, eqS_eq, inS_eq] <;> rfl
theorem evo_some (a : PX) : vO c (some a) = (vE c a).bind fun x => (rdM x).bind fun d => match d with
    | .int i => M.pure (some i)
    | _ => M.stuck := by
  simp only [Ex.andM, Ex.orM, Ex.lcB, Ex.lcR, Ex.forB, Ex.forR, Ex.whR, vE_eq, vEs_eq, vO_eq, vI_eq, vT_eq, xS_eq, xSs_eq, cM_eq, itS_eq, bnD_eq, uD_eq, trD_eq, cmD_eq, sbD_eq, scD_eq, bD_eq, mD_eq, mmS_eq, agD_eq, adD_eq, suD_eq, muD_eq, fdD_eq, moD_eq, pwD_eq, slD_eq, srD_eq, eqS_eq, inS_eq] <;> rfl
theorem evi_none : vI c none δ = some (.ok true δ) := by
  simp only [Ex.andM, Ex.orM, Ex.lcB, Ex.lcR, Ex.forB, Ex.forR, Ex.whR, vE_eq, vEs_eq, vO_eq, vI_eq, vT_eq, xS_eq, xSs_eq, cM_eq, itS_eq, bnD_eq, uD_eq, trD_eq, cmD_eq, sbD_eq, scD_eq, bD_eq, mD_eq, mmS_eq, agD_eq, adD_eq, suD_eq, muD_eq, fdD_eq, moD_eq, pwD_eq, slD_eq, srD_eq, eqS_eq, inS_eq] <;> rfl
theorem evi_some (a : PX) : vI c (some a) = (vE c a).bind truM := by
  simp only [Ex.andM, Ex.orM, Ex.lcB, Ex.lcR, Ex.forB, Ex.forR, Ex.whR, vE_eq, vEs_eq, vO_eq, vI_eq, vT_eq, xS_eq, xSs_eq, cM_eq, itS_eq, bnD_eq, uD_eq, trD_eq, cmD_eq, sbD_eq, scD_eq, bD_eq, mD_eq, mmS_eq, agD_eq, adD_eq, suD_eq, muD_eq, fdD_eq, moD_eq, pwD_eq, slD_eq, srD_eq, eqS_eq, inS_eq] <;> rfl
theorem evt_eq (a : PX) : vT c a = (vE c a).bind truM := by
  simp only [Ex.andM, Ex.orM, Ex.lcB, Ex.lcR, Ex.forB, Ex.forR, Ex.whR, vE_eq, vEs_eq, vO_eq, vI_eq, vT_eq, xS_eq, xSs_eq, cM_eq, itS_eq, bnD_eq, uD_eq, trD_eq, cmD_eq, sbD_eq, scD_eq, bD_eq, mD_eq, mmS_eq, agD_eq, adD_eq, suD_eq, muD_eq, fdD_eq, moD_eq, pwD_eq, slD_eq, srD_eq, eqS_eq, inS_eq] <;> rfl
/-! statements -/
theorem ex_ex (e : PX) : xS c (.ex e) = (vE c e).bind fun _ => M.pure .nx := by
  simp only [Ex.andM, Ex.orM, Ex.lcB, Ex.lcR, Ex.forB, Ex.forR, Ex.whR, vE_eq, vEs_eq, vO_eq, vI_eq, vT_eq, xS_eq, xSs_eq, cM_eq, itS_eq, bnD_eq, uD_eq, trD_eq, cmD_eq, sbD_eq, scD_eq, bD_eq, mD_eq, mmS_eq, agD_eq, adD_eq, suD_eq, muD_eq, fdD_eq, moD_eq, pwD_eq, slD_eq, srD_eq, eqS_eq, inS_eq] <;> rfl
theorem ex_asg (tg : Tgt) (e : PX) : xS c (.asg tg e) = if c.hot && tgTp tg then M.stuck else (vE c e).bind fun x => (escM c.io x).bind fun p => (tgtM c tg p.1 p.2).bind fun _ => M.pure .nx := by
  simp only [Ex.andM, Ex.orM, Ex.lcB, Ex.lcR, Ex.forB, Ex.forR, Ex.whR, vE_eq, vEs_eq, vO_eq, vI_eq, vT_eq, xS_eq, xSs_eq, cM_eq, itS_eq, bnD_eq, uD_eq, trD_eq, cmD_eq, sbD_eq, scD_eq, bD_eq, mD_eq, mmS_eq, agD_eq, adD_eq, suD_eq, muD_eq, fdD_eq, moD_eq, pwD_eq, slD_eq, srD_eq, eqS_eq, inS_eq] <;> rfl
theorem ex_par (is : List Nat) (es : List PX) : xS c (.par is es) = if c.hot then M.stuck else (vEs c es).bind fun os => (escPs c.io os).bind fun ps => fun δ =>
      if is.all (fun i => !c.io.getD i false) then match parM is ps δ with
        | none => none
        | some δ' => some (.ok .nx δ')
      else none := by
  simp only [Ex.andM, Ex.orM, Ex.lcB, Ex.lcR, Ex.forB, Ex.forR, Ex.whR, vE_eq, vEs_eq, vO_eq, vI_eq, vT_eq, xS_eq, xSs_eq, cM_eq, itS_eq, bnD_eq, uD_eq, trD_eq, cmD_eq, sbD_eq, scD_eq, bD_eq, mD_eq, mmS_eq, agD_eq, adD_eq, suD_eq, muD_eq, fdD_eq, moD_eq, pwD_eq, slD_eq, srD_eq, eqS_eq, inS_eq] <;> rfl
theorem parM_nil : parM [] [] δ = some δ := (rfl)
theorem parM_cons (i : Nat) (is : List Nat) (o : Bool) (d : D) (ds : List (Bool × D)) : parM (i :: is) ((o, d) :: ds) δ = match δ[i]? with
    | none => none
    | some s => if isLk s = true then none else parM is ds (δ.set i (if o then .own d else .val d)) := by
  show (match δ[i]? with
    | some (.lock _) => none
    | some _ => parM is ds (δ.set i (if o then .own d else .val d))
    | none => none) = _
  cases δ[i]? with
  | none => rfl
  | some s => cases s <;> rfl
theorem ex_aug (i : Nat) (op : Operator) (e : PX) : xS c (.aug i op e) = (intAt i).bind fun x => (vE c e).bind fun y => (rdM y).bind fun dy => (M.opt (agD op x dy)).bind fun p => (tgtM c (.nm i) false p).bind fun _ => M.pure .nx := by
  simp only [Ex.andM, Ex.orM, Ex.lcB, Ex.lcR, Ex.forB, Ex.forR, Ex.whR, vE_eq, vEs_eq, vO_eq, vI_eq, vT_eq, xS_eq, xSs_eq, cM_eq, itS_eq, bnD_eq, uD_eq, trD_eq, cmD_eq, sbD_eq, scD_eq, bD_eq, mD_eq, mmS_eq, agD_eq, adD_eq, suD_eq, muD_eq, fdD_eq, moD_eq, pwD_eq, slD_eq, srD_eq, eqS_eq, inS_eq] <;> rfl
theorem ex_ret (e : PX) : xS c (.ret e) = (vE c e).bind (retM c.io) := by
  simp only [Ex.andM, Ex.orM, Ex.lcB, Ex.lcR, Ex.forB, Ex.forR, Ex.whR, vE_eq, vEs_eq, vO_eq, vI_eq, vT_eq, xS_eq, xSs_eq, cM_eq, itS_eq, bnD_eq, uD_eq, trD_eq, cmD_eq, sbD_eq, scD_eq, bD_eq, mD_eq, mmS_eq, agD_eq, adD_eq, suD_eq, muD_eq, fdD_eq, moD_eq, pwD_eq, slD_eq, srD_eq, eqS_eq, inS_eq] <;> rfl
theorem ex_retN : xS c .retN δ = some (.ok (.rt false .non) δ) := by
  simp only [Ex.andM, Ex.orM, Ex.lcB, Ex.lcR, Ex.forB, Ex.forR, Ex.whR, vE_eq, vEs_eq, vO_eq, vI_eq, vT_eq, xS_eq, xSs_eq, cM_eq, itS_eq, bnD_eq, uD_eq, trD_eq, cmD_eq, sbD_eq, scD_eq, bD_eq, mD_eq, mmS_eq, agD_eq, adD_eq, suD_eq, muD_eq, fdD_eq, moD_eq, pwD_eq, slD_eq, srD_eq, eqS_eq, inS_eq] <;> rfl
theorem ex_if (t : PX) (a b : List Stm) : xS c (.ifS t a b) = (vT c t).bind fun k => if k then xSs c a else xSs c b := by
  simp only [Ex.andM, Ex.orM, Ex.lcB, Ex.lcR, Ex.forB, Ex.forR, Ex.whR, vE_eq, vEs_eq, vO_eq, vI_eq, vT_eq, xS_eq, xSs_eq, cM_eq, itS_eq, bnD_eq, uD_eq, trD_eq, cmD_eq, sbD_eq, scD_eq, bD_eq, mD_eq, mmS_eq, agD_eq, adD_eq, suD_eq, muD_eq, fdD_eq, moD_eq, pwD_eq, slD_eq, srD_eq, eqS_eq, inS_eq] <;> rfl
theorem ex_for (tg : Tgt) (kd : Nat) (as : List PX) (body : List Stm) : xS c (.forS tg kd as body) = if c.hot then M.stuck else forM c tg kd as (xSs c body) := by
  simp only [Ex.andM, Ex.orM, Ex.lcB, Ex.lcR, Ex.forB, Ex.forR, Ex.whR, vE_eq, vEs_eq, vO_eq, vI_eq, vT_eq, xS_eq, xSs_eq, cM_eq, itS_eq, bnD_eq, uD_eq, trD_eq, cmD_eq, sbD_eq, scD_eq, bD_eq, mD_eq, mmS_eq, agD_eq, adD_eq, suD_eq, muD_eq, fdD_eq, moD_eq, pwD_eq, slD_eq, srD_eq, eqS_eq, inS_eq] <;> rfl
theorem ap_forB (tg : Tgt) (body : List Stm) (d : D) : forB c tg body d = (tgtM c tg false d).bind fun _ => xSs c body := by
  simp only [Ex.andM, Ex.orM, Ex.lcB, Ex.lcR, Ex.forB, Ex.forR, Ex.whR, vE_eq, vEs_eq, vO_eq, vI_eq, vT_eq, xS_eq, xSs_eq, cM_eq, itS_eq, bnD_eq, uD_eq, trD_eq, cmD_eq, sbD_eq, scD_eq, bD_eq, mD_eq, mmS_eq, agD_eq, adD_eq, suD_eq, muD_eq, fdD_eq, moD_eq, pwD_eq, slD_eq, srD_eq, eqS_eq, inS_eq] <;> rfl
theorem for_eq (tg : Tgt) (kd : Nat) (as : List PX) (body : List Stm) : forM c tg kd as (xSs c body) = (vEs c as).bind fun os => (rdsM os).bind fun ds => (M.opt (itS kd ds)).bind fun xs => fun δ => forR c tg body (walked δ os) xs δ := by
  simp only [forB_raw, Ex.andM, Ex.orM, Ex.lcR, Ex.forR, Ex.whR, vE_eq, vEs_eq, vO_eq, vI_eq, vT_eq, xS_eq, xSs_eq, cM_eq, itS_eq, bnD_eq, uD_eq, trD_eq, cmD_eq, sbD_eq, scD_eq, bD_eq, mD_eq, mmS_eq, agD_eq, adD_eq, suD_eq, muD_eq, fdD_eq, moD_eq, pwD_eq, slD_eq, srD_eq, eqS_eq, inS_eq] <;> rfl
theorem ap_forR (tg : Tgt) (body : List Stm) (w : List Nat) (xs : List D) : forR c tg body w xs δ = match turns (forB c tg body) xs (lockAll w δ) with
    | none => none
    | some (.er e δ') => some (.er e δ')
    | some (.ok (.rt o d) δ') => some (.ok (.rt o d) δ')
    | some (.ok f δ') => match unlockAll w δ' with
      | none => none
      | some δ2 => some (.ok f δ2) := (rfl)
theorem turns_nil (body : D → M Fl) : turns body [] δ = some (.ok .nx δ) := (rfl)
theorem turns_cons (body : D → M Fl) (d : D) (ds : List D) : turns body (d :: ds) = (body d).bind fun f => match f with
    | .nx => turns body ds
    | .ct => turns body ds
    | .bk => M.pure .nx
    | .rt o x => M.pure (.rt o x) := (rfl)
theorem ex_whl (t : PX) (body : List Stm) : xS c (.whl t body) = if c.hot then M.stuck else whR c t body c.fuel := by
  simp only [Ex.andM, Ex.orM, Ex.lcB, Ex.lcR, Ex.forB, Ex.forR, Ex.whR, vE_eq, vEs_eq, vO_eq, vI_eq, vT_eq, xS_eq, xSs_eq, cM_eq, itS_eq, bnD_eq, uD_eq, trD_eq, cmD_eq, sbD_eq, scD_eq, bD_eq, mD_eq, mmS_eq, agD_eq, adD_eq, suD_eq, muD_eq, fdD_eq, moD_eq, pwD_eq, slD_eq, srD_eq, eqS_eq, inS_eq] <;> rfl
theorem ex_raise (k : Nat) : xS c (.raise k) δ = if c.hot then none else some (.er ⟨k, .non⟩ δ) := by
  rw [xS_eq]
  show (if c.hot = true then M.stuck else fun δ => some (.er ⟨k, .non⟩ δ)) δ = _
  split <;> rfl
theorem ex_try (body : List Stm) (k : Nat) (i : Option Nat) (suite : List Stm) : xS c (.try_ body k i suite) δ = if c.hot then none else match xSs c body δ with
    | some (.er e δ') => if c.sub e.cls k then
        match i with
        | none => none
        | some i => match δ'[i]? with
          | some (.lock _) => none
          | none => none
          | some _ => if c.io.getD i false then none else match xSs { c with hot := true } suite (δ'.set i (.val (.exc e.cls e.fld))) with
            | some (.ok f δ2) => if free δ2 i && (δ2.set i .non).all okSl then some (.ok f (δ2.set i .non)) else none
            | _ => none
      else some (.er e δ')
    | r => r := by
  rw [xS_eq, xSs_eq]
  show (if c.hot = true then M.stuck else _) δ = _
  split <;> rfl
theorem ex_pass : xS c .pass δ = some (.ok .nx δ) := by
  simp only [Ex.andM, Ex.orM, Ex.lcB, Ex.lcR, Ex.forB, Ex.forR, Ex.whR, vE_eq, vEs_eq, vO_eq, vI_eq, vT_eq, xS_eq, xSs_eq, cM_eq, itS_eq, bnD_eq, uD_eq, trD_eq, cmD_eq, sbD_eq, scD_eq, bD_eq, mD_eq, mmS_eq, agD_eq, adD_eq, suD_eq, muD_eq, fdD_eq, moD_eq, pwD_eq, slD_eq, srD_eq, eqS_eq, inS_eq] <;> rfl
theorem ex_brk : xS c .brk δ = some (.ok .bk δ) := by
  simp only [Ex.andM, Ex.orM, Ex.lcB, Ex.lcR, Ex.forB, Ex.forR, Ex.whR, vE_eq, vEs_eq, vO_eq, vI_eq, vT_eq, xS_eq, xSs_eq, cM_eq, itS_eq, bnD_eq, uD_eq, trD_eq, cmD_eq, sbD_eq, scD_eq, bD_eq, mD_eq, mmS_eq, agD_eq, adD_eq, suD_eq, muD_eq, fdD_eq, moD_eq, pwD_eq, slD_eq, srD_eq, eqS_eq, inS_eq] <;> rfl
theorem ex_cnt : xS c .cnt δ = some (.ok .ct δ) := by
  simp only [Ex.andM, Ex.orM, Ex.lcB, Ex.lcR, Ex.forB, Ex.forR, Ex.whR, vE_eq, vEs_eq, vO_eq, vI_eq, vT_eq, xS_eq, xSs_eq, cM_eq, itS_eq, bnD_eq, uD_eq, trD_eq, cmD_eq, sbD_eq, scD_eq, bD_eq, mD_eq, mmS_eq, agD_eq, adD_eq, suD_eq, muD_eq, fdD_eq, moD_eq, pwD_eq, slD_eq, srD_eq, eqS_eq, inS_eq] <;> rfl
theorem exs_nil : xSs c [] δ = some (.ok .nx δ) := by
  simp only [Ex.andM, Ex.orM, Ex.lcB, Ex.lcR, Ex.forB, Ex.forR, Ex.whR, vE_eq, vEs_eq, vO_eq, vI_eq, vT_eq, xS_eq, xSs_eq, cM_eq, itS_eq, bnD_eq, uD_eq, trD_eq, cmD_eq, sbD_eq, scD_eq, bD_eq, mD_eq, mmS_eq, agD_eq, adD_eq, suD_eq, muD_eq, fdD_eq, moD_eq, pwD_eq, slD_eq, srD_eq, eqS_eq, inS_eq] <;> rfl
theorem exs_cons (s : Stm) (ss : List Stm) : xSs c (s :: ss) = (xS c s).bind fun f => match f with
    | .nx => xSs c ss
    | r => M.pure r := by
  simp only [Ex.andM, Ex.orM, Ex.lcB, Ex.lcR, Ex.forB, Ex.forR, Ex.whR, vE_eq, vEs_eq, vO_eq, vI_eq, vT_eq, xS_eq, xSs_eq, cM_eq, itS_eq, bnD_eq, uD_eq, trD_eq, cmD_eq, sbD_eq, scD_eq, bD_eq, mD_eq, mmS_eq, agD_eq, adD_eq, suD_eq, muD_eq, fdD_eq, moD_eq, pwD_eq, slD_eq, srD_eq, eqS_eq, inS_eq] <;> rfl
/-! calls -/
theorem ap_call (g : Nat) (os : List Opd) : cM c g os δ = match argsM δ (c.ios g) os with
  | none => none
  | some as =>
    if decide ((as.filterMap slO).Nodup) then
      match c.call c.hot g (as.map (·.1)) with
      | none => none
      | some (.er e) => if as.all fun x => x.2.1.isNone then some (.er e δ) else none
      | some (.ok o d outs) =>
        if outs.length = as.length then
          if (as.all fun x => x.2.2.isNone) || ((if o then elemsOk d else noMut d) && outs.all elemsOk) then some (.ok (.t o d) (setOuts δ as outs))
          else match demote c.io δ as with
            | none => none
            | some δ1 => some (.ok (.t o d) (setOuts δ1 as outs))
        else none
    else none := by
  simp only [Ex.andM, Ex.orM, Ex.lcB, Ex.lcR, Ex.forB, Ex.forR, Ex.whR, vE_eq, vEs_eq, vO_eq, vI_eq, vT_eq, xS_eq, xSs_eq, cM_eq, itS_eq, bnD_eq, uD_eq, trD_eq, cmD_eq, sbD_eq, scD_eq, bD_eq, mD_eq, mmS_eq, agD_eq, adD_eq, suD_eq, muD_eq, fdD_eq, moD_eq, pwD_eq, slD_eq, srD_eq, eqS_eq, inS_eq] <;> rfl
theorem args_nil (fs : List Bool) : argsM δ fs [] = some [] := by cases fs <;> rfl
theorem args_cons (fs : List Bool) (o : Opd) (os : List Opd) : argsM δ fs (o :: os) = match argM δ (fs.headD false) o, argsM δ fs.tail os with
    | some a, some r => some (a :: r)
    | _, _ => none := (rfl)
theorem arg_t (f o : Bool) (d : D) : argM δ f (.t o d) = if f then (if o then some ((true, d), none, none) else none) else some ((false, d), none, none) := (rfl)
theorem arg_s (f : Bool) (i : Nat) : argM δ f (.s i) = match δ[i]? with
    | some (.own d) => if f then some ((true, d), some i, none) else some ((false, d), none, some i)
    | some (.val d) => if f then none else some ((false, d), none, none)
    | some (.lock d) => if f then none else some ((false, d), none, some i)
    | _ => none := (rfl)
theorem so_io (i : Nat) (y : Option Nat) (z : Bool × D) (r : List Ax) (d : D) (ds : List D) : setOuts δ ((z, some i, y) :: r) (d :: ds) = setOuts (δ.set i (.own d)) r ds := (rfl)
theorem so_no (y : Option Nat) (z : Bool × D) (r : List Ax) (d : D) (ds : List D) : setOuts δ ((z, none, y) :: r) (d :: ds) = setOuts δ r ds := (rfl)
theorem so_nil (ds : List D) : setOuts δ [] ds = δ := by cases ds <;> rfl
theorem slO_io (z : Bool × D) (i : Nat) (y : Option Nat) : slO (z, some i, y) = some i := (rfl)
theorem slO_no (z : Bool × D) (y : Option Nat) : slO (z, none, y) = y := (rfl)
theorem dem_nil (io : List Bool) : demote io δ [] = some δ := (rfl)
theorem dem_s (io : List Bool) (z : Bool × D) (x : Option Nat) (i : Nat) (r : List Ax) : demote io δ ((z, x, some i) :: r) = match δ[i]? with
    | some (.own d) => if io.getD i false then none else demote io (δ.set i (.val d)) r
    | _ => none := (rfl)
theorem dem_n (io : List Bool) (z : Bool × D) (x : Option Nat) (r : List Ax) : demote io δ ((z, x, none) :: r) = demote io δ r := (rfl)
theorem nodup0 : decide (([] : List Nat).Nodup) = true := (rfl)
theorem nodup1 (i : Nat) : decide ([i].Nodup) = true := by simp
theorem nodup2 (i j : Nat) : decide ([i, j].Nodup) = !decide (i = j) := by by_cases h : i = j <;> simp [h]
/-! the end -/
theorem end_nx (io : List Bool) (ps : Nat) : endX io ps (some (.ok .nx δ)) = (outsD io ps δ).map (Res.ok false .non) := (rfl)
theorem end_rt (io : List Bool) (ps : Nat) (o : Bool) (d : D) : endX io ps (some (.ok (.rt o d) δ)) = (outsD io ps δ).map (Res.ok o d) := (rfl)
theorem end_er (io : List Bool) (ps : Nat) (e : Exc) : endX io ps (some (.er e δ)) = some (.er e) := (rfl)
theorem end_ite (io : List Bool) (ps : Nat) (p : Prop) [Decidable p] (a b : Option (Rs Fl)) : endX io ps (if p then a else b) = if p then endX io ps a else endX io ps b := by split <;> rfl
theorem outs_z (fs : List Bool) : outsD fs 0 δ = some [] := by cases δ <;> cases fs <;> rfl
theorem outs_s (fs : List Bool) (n : Nat) (x : Sl) : outsD fs (n + 1) (x :: δ) = match outsD fs.tail n δ with
    | none => none
    | some r => if fs.headD false then (match x with | .own d => some (d :: r) | _ => none) else some (.non :: r) := (rfl)
/-! walks -/
theorem wk_nil : walked δ [] = [] := (rfl)
theorem wk_t (o : Bool) (d : D) (r : List Opd) : walked δ (.t o d :: r) = walked δ r := (rfl)
theorem wk_s (i : Nat) (r : List Opd) : walked δ (.s i :: r) = (match δ[i]? with | some (.own _) => [i] | _ => []) ++ walked δ r := (rfl)
theorem lk_nil : lockAll [] δ = δ := (rfl)
theorem lk_cons (i : Nat) (r : List Nat) : lockAll (i :: r) δ = match δ[i]? with
    | some (.own d) => lockAll r (δ.set i (.lock d))
    | _ => lockAll r δ := (rfl)
theorem ul_nil : unlockAll [] δ = some δ := (rfl)
theorem ul_cons (i : Nat) (r : List Nat) : unlockAll (i :: r) δ = match δ[i]? with
    | some (.lock d) => unlockAll r (δ.set i (.own d))
    | _ => none := (rfl)
theorem wp_nil : wipeD [] δ = δ := (rfl)
theorem wp_cons (v : Nat) (vs : List Nat) : wipeD (v :: vs) δ = (wipeD vs δ).set v .non := (rfl)
theorem bk_nil (old : Dst) : backD old [] δ = δ := (rfl)
theorem bk_cons (old : Dst) (v : Nat) (vs : List Nat) : backD old (v :: vs) δ = (backD old vs δ).set v (old.getD v .non) := (rfl)
theorem pl_eq (i : Nat) : plainAt δ i = match δ[i]? with
  | some (.val _) => true
  | some .non => true
  | _ => false := (rfl)
theorem tv_nm (vs : List Nat) (i : Nat) : tgVs vs (.nm i) = vs.contains i := (rfl)
theorem tv_tp (vs : List Nat) (ts : List Tgt) : tgVs vs (.tp ts) = tgVss vs ts := (rfl)
theorem tvs_nil (vs : List Nat) : tgVss vs [] = true := (rfl)
theorem tvs_cons (vs : List Nat) (t : Tgt) (ts : List Tgt) : tgVss vs (t :: ts) = (tgVs vs t && tgVss vs ts) := (rfl)
end
/-! ### lists and options -/
theorem x_get0 {α : Type} (a : α) (l : List α) : (a :: l)[0]? = some a := (rfl)
theorem x_getS {α : Type} (a : α) (l : List α) (n : Nat) : (a :: l)[n + 1]? = l[n]? := (rfl)
theorem x_getN {α : Type} (n : Nat) : ([] : List α)[n]? = none := (rfl)
theorem x_set0 {α : Type} (a b : α) (l : List α) : (a :: l).set 0 b = b :: l := (rfl)
theorem x_setS {α : Type} (a b : α) (l : List α) (n : Nat) : (a :: l).set (n + 1) b = a :: l.set n b := (rfl)
theorem x_gD0 {α : Type} (a d : α) (l : List α) : (a :: l).getD 0 d = a := (rfl)
theorem x_gDS {α : Type} (a d : α) (l : List α) (n : Nat) : (a :: l).getD (n + 1) d = l.getD n d := (rfl)
theorem x_gDN {α : Type} (d : α) (n : Nat) : ([] : List α).getD n d = d := (rfl)
theorem x_oms {α β : Type} (f : α → β) (a : α) : (some a).map f = some (f a) := (rfl)
theorem x_omn {α β : Type} (f : α → β) : (none : Option α).map f = none := (rfl)
theorem x_obs {α β : Type} (f : α → Option β) (a : α) : (some a).bind f = f a := (rfl)
theorem x_obn {α β : Type} (f : α → Option β) : (none : Option α).bind f = none := (rfl)
theorem x_mc {α β : Type} (f : α → β) (a : α) (l : List α) : (a :: l).map f = f a :: l.map f := (rfl)
theorem x_mn {α β : Type} (f : α → β) : ([] : List α).map f = [] := (rfl)
theorem x_hd {α : Type} (a d : α) (l : List α) : (a :: l).headD d = a := (rfl)
theorem x_hdn {α : Type} (d : α) : ([] : List α).headD d = d := (rfl)
theorem x_tl {α : Type} (a : α) (l : List α) : (a :: l).tail = l := (rfl)
theorem x_tln {α : Type} : ([] : List α).tail = [] := (rfl)
theorem x_allc {α : Type} (p : α → Bool) (a : α) (l : List α) : (a :: l).all p = (p a && l.all p) := (rfl)
theorem x_alln {α : Type} (p : α → Bool) : ([] : List α).all p = true := (rfl)
theorem x_anyc {α : Type} (p : α → Bool) (a : α) (l : List α) : (a :: l).any p = (p a || l.any p) := (rfl)
theorem x_anyn {α : Type} (p : α → Bool) : ([] : List α).any p = false := (rfl)
theorem x_na {α : Type} (l : List α) : [] ++ l = l := (rfl)
theorem x_ca {α : Type} (a : α) (l m : List α) : (a :: l) ++ m = a :: (l ++ m) := (rfl)
theorem x_isn {α : Type} : (none : Option α).isNone = true := (rfl)
theorem x_iss {α : Type} (a : α) : (some a).isNone = false := (rfl)
theorem x_tn (n : Nat) : ((n : Int)).toNat = n := (rfl)
theorem x_nt : (!true) = false := (rfl)
theorem x_nf : (!false) = true := (rfl)
/-! ### loops -/
theorem turns_gen {α : Type} {body : D → M Fl} (enc : α → D) {xs : List α} (I : List α → Dst → Prop) (J : Dst → Prop)
    (hb : ∀ pre x post δ, xs = pre ++ x :: post → I pre δ → ∃ f δ', body (enc x) δ = some (.ok f δ') ∧ ((f = .nx ∧ I (pre ++ [x]) δ') ∨ (f = .bk ∧ J δ')))
    (hJ : ∀ δ, I xs δ → J δ) {δ : Dst} (h0 : I [] δ) : ∃ δ', turns body (xs.map enc) δ = some (.ok .nx δ') ∧ J δ' := by
  have main : ∀ post pre δ, xs = pre ++ post → I pre δ → ∃ δ', turns body (post.map enc) δ = some (.ok .nx δ') ∧ J δ' := by
    intro post
    induction post with
    | nil => intro pre δ e h; rw [List.append_nil] at e; subst e; exact ⟨δ, rfl, hJ δ h⟩
    | cons x post ih =>
      intro pre δ e h
      obtain ⟨f, δ', e1, q⟩ := hb pre x post δ e h
      rw [List.map_cons, turns_cons, ap_bind, e1]
      rcases q with ⟨rfl, q⟩ | ⟨rfl, q⟩
      · exact ih (pre ++ [x]) δ' (by rw [e, List.append_assoc]; rfl) q
      · exact ⟨δ', rfl, q⟩
  exact main xs [] δ rfl h0
theorem turns_inv {α : Type} {body : D → M Fl} (enc : α → D) {xs : List α} (I : List α → Dst → Prop)
    (hb : ∀ pre x post δ, xs = pre ++ x :: post → I pre δ → ∃ δ', body (enc x) δ = some (.ok .nx δ') ∧ I (pre ++ [x]) δ')
    {δ : Dst} (h0 : I [] δ) : ∃ δ', turns body (xs.map enc) δ = some (.ok .nx δ') ∧ I xs δ' :=
  turns_gen enc I (I xs) (fun pre x post δ e h => by
    obtain ⟨δ', h1, h2⟩ := hb pre x post δ e h
    exact ⟨_, δ', h1, .inl ⟨rfl, h2⟩⟩) (fun _ h => h) h0
theorem turns_fold {α σ : Type} {body : D → M Fl} (enc : α → D) {xs : List α} (step : σ → α → σ) (I : σ → Dst → Prop)
    (hb : ∀ s x δ, x ∈ xs → I s δ → ∃ δ', body (enc x) δ = some (.ok .nx δ') ∧ I (step s x) δ')
    {s : σ} {δ : Dst} (h0 : I s δ) : ∃ δ', turns body (xs.map enc) δ = some (.ok .nx δ') ∧ I (xs.foldl step s) δ' := by
  refine turns_inv enc (fun pre δ => I (pre.foldl step s) δ) (fun pre x post δ e h => ?_) h0
  obtain ⟨δ', h1, h2⟩ := hb _ x δ (by rw [e]; simp) h
  exact ⟨δ', h1, by rw [List.foldl_append]; exact h2⟩
theorem turns_until {α : Type} {body : D → M Fl} (enc : α → D) {xs : List α} (I : Nat → Dst → Prop) (J : Dst → Prop) (m : Nat) (hm : m < xs.length)
    (hs : ∀ i x δ, i < m → xs[i]? = some x → I i δ → ∃ δ', body (enc x) δ = some (.ok .nx δ') ∧ I (i + 1) δ')
    (he : ∀ x δ, xs[m]? = some x → I m δ → ∃ δ', body (enc x) δ = some (.ok .bk δ') ∧ J δ') {δ : Dst} (h0 : I 0 δ) : ∃ δ', turns body (xs.map enc) δ = some (.ok .nx δ') ∧ J δ' := by
  refine turns_gen enc (fun pre δ => I pre.length δ ∧ pre.length ≤ m) J (fun pre x post δ e h => ?_) (fun δ h => absurd h.2 (by omega)) ⟨h0, Nat.zero_le _⟩
  have ex : xs[pre.length]? = some x := by rw [e]; simp
  rcases Nat.lt_or_ge pre.length m with q | q
  · obtain ⟨δ', h1, h2⟩ := hs _ x δ q ex h.1
    exact ⟨_, δ', h1, .inl ⟨rfl, by rw [List.length_append]; exact ⟨h2, q⟩⟩⟩
  · have : pre.length = m := by omega
    rw [this] at ex h
    obtain ⟨δ', h1, h2⟩ := he x δ ex h.1
    exact ⟨_, δ', h1, .inr ⟨rfl, h2⟩⟩
theorem spins_run {test : M Bool} {body : M Fl} (I : Nat → Dst → Prop) (m : Nat) (ht : ∀ j δ, j ≤ m → I j δ → test δ = some (.ok (decide (j < m)) δ))
    (hb : ∀ j δ, j < m → I j δ → ∃ δ', body δ = some (.ok .nx δ') ∧ I (j + 1) δ') : ∀ n, m < n → ∀ δ, I 0 δ → ∃ δ', spins test body n δ = some (.ok .nx δ') ∧ I m δ' := by
  have main : ∀ n j δ, j ≤ m → m < n + j → I j δ → ∃ δ', spins test body n δ = some (.ok .nx δ') ∧ I m δ' := by
    intro n
    induction n with
    | zero => intro j δ h1 h2 h3; omega
    | succ n ih =>
      intro j δ h1 h2 h3
      have e : spins test body (n + 1) = test.bind fun b => if b then body.bind fun f => match f with
        | .nx => spins test body n
        | .ct => spins test body n
        | .bk => M.pure .nx
        | .rt o x => M.pure (.rt o x)
      else M.pure .nx := rfl
      rw [e, ap_bind, ht j δ h1 h3]
      rcases Nat.lt_or_ge j m with q | q
      · rw [decide_eq_true q]
        obtain ⟨δ', g1, g2⟩ := hb j δ q h3
        show ∃ δ2, (body.bind _) δ = _ ∧ _
        rw [ap_bind, g1]
        exact ih (j + 1) δ' q (by omega) g2
      · have : j = m := by omega
        subst this
        rw [decide_eq_false (by omega)]
        exact ⟨δ, rfl, h3⟩
  intro n hn δ h
  exact main n 0 δ (Nat.zero_le _) (by omega) h
theorem whR_run {c : Cx} {t : PX} {b : List Stm} (I : Nat → Dst → Prop) (m : Nat) (ht : ∀ j δ, j ≤ m → I j δ → vT c t δ = some (.ok (decide (j < m)) δ))
    (hb : ∀ j δ, j < m → I j δ → ∃ δ', xSs c b δ = some (.ok .nx δ') ∧ I (j + 1) δ') (n : Nat) (hn : m < n) {δ : Dst} (h0 : I 0 δ) : ∃ δ', whR c t b n δ = some (.ok .nx δ') ∧ I m δ' :=
  spins_run I m ht hb n hn δ h0
/-- a comprehension whose turns change something -/
theorem gather_inv {α : Type} {vs : List Nat} {body : D → M (Option D)} (enc : α → D) {xs : List α} (I : List α → List D → Dst → Prop)
    (hb : ∀ pre x post acc δ, xs = pre ++ x :: post → I pre acc δ → ∃ y δ', body (enc x) δ = some (.ok y δ') ∧ I (pre ++ [x]) (match y with | none => acc | some y => acc ++ [y]) (wipeD vs δ'))
    {δ : Dst} (h0 : I [] [] δ) : ∃ ys δ', gather vs body (xs.map enc) [] δ = some (.ok ys δ') ∧ I xs ys δ' := by
  have main : ∀ post pre acc δ, xs = pre ++ post → I pre acc δ → ∃ ys δ', gather vs body (post.map enc) acc δ = some (.ok ys δ') ∧ I xs ys δ' := by
    intro post
    induction post with
    | nil => intro pre acc δ e h; rw [List.append_nil] at e; subst e; exact ⟨acc, δ, rfl, h⟩
    | cons x post ih =>
      intro pre acc δ e h
      obtain ⟨y, δ', e1, q⟩ := hb pre x post acc δ e h
      have e2 : gather vs body ((x :: post).map enc) acc δ = (match body (enc x) δ with
        | some (.ok x δ') => gather vs body (post.map enc) (match x with | none => acc | some y => acc ++ [y]) (wipeD vs δ')
        | _ => none) := rfl
      rw [e2, e1]
      exact ih (pre ++ [x]) _ _ (by rw [e, List.append_assoc]; rfl) q
  exact main xs [] [] δ rfl h0
/-! ### comprehensions -/
/-- the turn gives something, and leaves all else as it was -/
def okAt (vs : List Nat) (δ : Dst) : Option (Rs (Option D)) → Prop
  | some (.ok _ δ') => wipeD vs δ' = δ
  | _ => False
def valOf : Option (Rs (Option D)) → Option D
  | some (.ok x _) => x
  | _ => none
theorem okAt_ok (vs : List Nat) (δ δ' : Dst) (x : Option D) : okAt vs δ (some (.ok x δ')) = (wipeD vs δ' = δ) := (rfl)
theorem okAt_ite (vs : List Nat) (δ : Dst) (p : Prop) [Decidable p] (a b : Option (Rs (Option D))) : okAt vs δ (if p then a else b) = if p then okAt vs δ a else okAt vs δ b := by split <;> rfl
theorem valOf_ok (δ' : Dst) (x : Option D) : valOf (some (.ok x δ')) = x := (rfl)
theorem valOf_ite (p : Prop) [Decidable p] (a b : Option (Rs (Option D))) : valOf (if p then a else b) = if p then valOf a else valOf b := by split <;> rfl
theorem gather_pure {vs : List Nat} {body : D → M (Option D)} {δ : Dst} : ∀ {xs acc : List D}, (∀ d ∈ xs, okAt vs δ (body d δ)) → gather vs body xs acc δ = some (.ok (acc ++ xs.filterMap fun d => valOf (body d δ)) δ)
  | [], acc, _ => by simp [gather, M.pure]
  | d :: ds, acc, h => by
    have h1 := h d (by simp)
    have ih := fun acc => gather_pure (acc := acc) (fun x hx => h x (List.mem_cons_of_mem _ hx))
    show (match body d δ with
      | some (.ok x δ') => gather vs body ds (match x with | none => acc | some y => acc ++ [y]) (wipeD vs δ')
      | _ => none) = _
    rw [List.filterMap_cons]
    revert h1
    cases e : body d δ with
    | none => exact fun h => h.elim
    | some r => cases r with
      | er e δ' => exact fun h => h.elim
      | ok x δ' =>
        intro h1
        have h2 : wipeD vs δ' = δ := h1
        show gather vs body ds _ (wipeD vs δ') = _
        rw [h2, ih]
        cases x with
        | none => rfl
        | some y => simp [valOf]
theorem fmap_some' {α β : Type} (f : α → β) (xs : List α) : (xs.filterMap fun x => some (f x)) = xs.map f := by simp
theorem fmap_ite' {α β : Type} (p : α → Prop) [DecidablePred p] (f : α → β) (xs : List α) : (xs.filterMap fun x => if p x then some (f x) else none) = (xs.filter fun x => decide (p x)).map f := by
  induction xs with
  | nil => rfl
  | cons x xs ih =>
    rw [List.filterMap_cons, List.filter_cons]
    by_cases h : p x <;> simp [h, ih]
theorem fmap_iteN' {α β : Type} (p : α → Prop) [DecidablePred p] (f : α → β) (xs : List α) : (xs.filterMap fun x => if p x then none else some (f x)) = (xs.filter fun x => !decide (p x)).map f := by
  induction xs with
  | nil => rfl
  | cons x xs ih =>
    rw [List.filterMap_cons, List.filter_cons]
    by_cases h : p x <;> simp [h, ih]
/-! dict comprehensions -/
def okAtK (vs : List Nat) (δ : Dst) : Option (Rs (Option (D × D))) → Prop
  | some (.ok _ δ') => wipeD vs δ' = δ
  | _ => False
def valOfK : Option (Rs (Option (D × D))) → Option (D × D)
  | some (.ok x _) => x
  | _ => none
theorem okAtK_ok (vs : List Nat) (δ δ' : Dst) (x : Option (D × D)) : okAtK vs δ (some (.ok x δ')) = (wipeD vs δ' = δ) := (rfl)
theorem okAtK_ite (vs : List Nat) (δ : Dst) (p : Prop) [Decidable p] (a b : Option (Rs (Option (D × D)))) : okAtK vs δ (if p then a else b) = if p then okAtK vs δ a else okAtK vs δ b := by split <;> rfl
theorem valOfK_ok (δ' : Dst) (x : Option (D × D)) : valOfK (some (.ok x δ')) = x := (rfl)
theorem valOfK_ite (p : Prop) [Decidable p] (a b : Option (Rs (Option (D × D)))) : valOfK (if p then a else b) = if p then valOfK a else valOfK b := by split <;> rfl
theorem gatherK_pure {vs : List Nat} {body : D → M (Option (D × D))} {δ : Dst} : ∀ {xs : List D} {acc : List (D × D)}, (∀ d ∈ xs, okAtK vs δ (body d δ)) → gatherK vs body xs acc δ = some (.ok (foldK acc (xs.filterMap fun d => valOfK (body d δ))) δ)
  | [], acc, _ => by simp [gatherK, M.pure, foldK]
  | d :: ds, acc, h => by
    have h1 := h d (by simp)
    have ih := fun acc => gatherK_pure (acc := acc) (fun x hx => h x (List.mem_cons_of_mem _ hx))
    show (match body d δ with
      | some (.ok x δ') => gatherK vs body ds (match x with | none => acc | some y => putKD acc y.1 y.2) (wipeD vs δ')
      | _ => none) = _
    rw [List.filterMap_cons]
    revert h1
    cases e : body d δ with
    | none => exact fun h => h.elim
    | some r => cases r with
      | er e δ' => exact fun h => h.elim
      | ok x δ' =>
        intro h1
        have h2 : wipeD vs δ' = δ := h1
        show gatherK vs body ds _ (wipeD vs δ') = _
        rw [h2, ih]
        cases x with
        | none => rfl
        | some y => rfl
def gatherS := @gather
/-- it is one of them -/
def Mb {α : Type} (xs : List α) (x : α) : Prop := x ∈ xs
theorem has_of {α : Type} {xs : List α} {x : α} (h : x ∈ xs) : Mb xs x := h
noncomputable instance {α : Type} (xs : List α) (x : α) : Decidable (Mb xs x) := Classical.propDecidable _
def Ys {α : Type} (p : α → Prop) : Prop := ∀ x, p x
noncomputable instance {α : Type} (p : α → Prop) : Decidable (Ys p) := Classical.propDecidable _
theorem ys_true {α : Type} : Ys (fun _ : α => True) = True := eq_true fun _ => trivial
theorem filterMap_congr' {α β : Type} {f g : α → Option β} {xs : List α} (h : ∀ x ∈ xs, f x = g x) : xs.filterMap f = xs.filterMap g := by
  induction xs with
  | nil => rfl
  | cons x xs ih => rw [List.filterMap_cons, List.filterMap_cons, h x (by simp), ih fun y hy => h y (List.mem_cons_of_mem _ hy)]
theorem gather_map {α : Type} {vs : List Nat} {body : D → M (Option D)} {δ : Dst} (enc : α → D) (xs : List α) :
    gather vs body (xs.map enc) [] δ = if Ys (fun x => if Mb xs x then okAt vs δ (body (enc x) δ) else True) then some (.ok (xs.filterMap fun x => if Mb xs x then valOf (body (enc x) δ) else none) δ) else gatherS vs body (xs.map enc) [] δ := by
  split
  · rename_i h
    rw [gather_pure (fun d hd => by
      obtain ⟨x, hx, rfl⟩ := List.mem_map.mp hd
      have := h x
      exact Eq.mp (if_pos (show Mb xs x from hx)) this), List.filterMap_map, List.nil_append]
    have e : (xs.filterMap ((fun d => valOf (body d δ)) ∘ enc)) = xs.filterMap fun x => if Mb xs x then valOf (body (enc x) δ) else none := filterMap_congr' fun x hx => (if_pos (show Mb xs x from hx)).symm
    rw [e]
  · rfl
def gatherKS := @gatherK
theorem gatherK_map {α : Type} {vs : List Nat} {body : D → M (Option (D × D))} {δ : Dst} (enc : α → D) (xs : List α) :
    gatherK vs body (xs.map enc) [] δ = if Ys (fun x => if Mb xs x then okAtK vs δ (body (enc x) δ) else True) then some (.ok (foldK [] (xs.filterMap fun x => if Mb xs x then valOfK (body (enc x) δ) else none)) δ) else gatherKS vs body (xs.map enc) [] δ := by
  split
  · rename_i h
    rw [gatherK_pure (fun d hd => by
      obtain ⟨x, hx, rfl⟩ := List.mem_map.mp hd
      have := h x
      exact Eq.mp (if_pos (show Mb xs x from hx)) this), List.filterMap_map]
    have e : (xs.filterMap ((fun d => valOfK (body d δ)) ∘ enc)) = xs.filterMap fun x => if Mb xs x then valOfK (body (enc x) δ) else none := filterMap_congr' fun x hx => (if_pos (show Mb xs x from hx)).symm
    rw [e]
  · rfl
theorem gatK_nil {vs : List Nat} {body : D → M (Option (D × D))} {δ : Dst} (acc : List (D × D)) : gatherK vs body [] acc δ = some (.ok acc δ) := (rfl)
theorem gatK_cons {vs : List Nat} {body : D → M (Option (D × D))} {δ : Dst} (d : D) (ds : List D) (acc : List (D × D)) : gatherK vs body (d :: ds) acc δ = match body d δ with
    | some (.ok x δ') => gatherK vs body ds (match x with | none => acc | some y => putKD acc y.1 y.2) (wipeD vs δ')
    | _ => none := (rfl)
theorem guard_map {α β : Type} (f : α → β) (xs : List α) : (xs.filterMap fun x => if Mb xs x then some (f x) else none) = xs.map f := by
  rw [← fmap_some' f xs]
  exact filterMap_congr' fun x hx => if_pos (show Mb xs x from hx)
theorem guard_filter {α β : Type} (p : α → Prop) [DecidablePred p] (f : α → β) (xs : List α) : (xs.filterMap fun x => if Mb xs x then (if p x then some (f x) else none) else none) = (xs.filter fun x => decide (p x)).map f := by
  rw [← fmap_ite' p f xs]
  exact filterMap_congr' fun x hx => if_pos (show Mb xs x from hx)
theorem guard_filterN {α β : Type} (p : α → Prop) [DecidablePred p] (f : α → β) (xs : List α) : (xs.filterMap fun x => if Mb xs x then (if p x then none else some (f x)) else none) = (xs.filter fun x => !decide (p x)).map f := by
  rw [← fmap_iteN' p f xs]
  exact filterMap_congr' fun x hx => if_pos (show Mb xs x from hx)
theorem gat_nil {vs : List Nat} {body : D → M (Option D)} {δ : Dst} (acc : List D) : gather vs body [] acc δ = some (.ok acc δ) := (rfl)
theorem gat_cons {vs : List Nat} {body : D → M (Option D)} {δ : Dst} (d : D) (ds acc : List D) : gather vs body (d :: ds) acc δ = match body d δ with
    | some (.ok x δ') => gather vs body ds (match x with | none => acc | some y => acc ++ [y]) (wipeD vs δ')
    | _ => none := (rfl)
/-! ### data -/
abbrev lInts (xs : List Int) : List D := xs.map D.int
theorem intsOf_map {α : Type} (f : α → Int) (xs : List α) : intsOf (xs.map fun x => .int (f x)) = some (xs.map f) := by
  induction xs with
  | nil => rfl
  | cons x xs ih => simp [intsOf, ih]
theorem intsOf_ints (xs : List Int) : intsOf (xs.map D.int) = some xs := by
  have := intsOf_map id xs
  simpa using this
theorem blsOf_map {α : Type} (f : α → Bool) (xs : List α) : blsOf (xs.map fun x => .bl (f x)) = some (xs.map f) := by
  induction xs with
  | nil => rfl
  | cons x xs ih => simp [blsOf, ih]
theorem intsOf_nil : intsOf [] = some [] := (rfl)
theorem blsOf_nil : blsOf [] = some [] := (rfl)
theorem intsOf_cons (i : Int) (r : List D) : intsOf (.int i :: r) = (intsOf r).map (i :: ·) := (rfl)
theorem blsOf_cons (i : Bool) (r : List D) : blsOf (.bl i :: r) = (blsOf r).map (i :: ·) := (rfl)
theorem upTo_eq (lo : Int) (n : Nat) : upTo lo n = (List.range n).map fun i => .int (lo + (i : Int)) := by
  induction n generalizing lo with
  | zero => rfl
  | succ n ih =>
    rw [List.range_succ_eq_map, List.map_cons, List.map_map]
    show D.int lo :: upTo (lo + 1) n = _
    rw [ih]
    have : ∀ i : Nat, lo + 1 + (i : Int) = lo + ((i + 1 : Nat) : Int) := fun i => by omega
    simp [this]
theorem upTo0 (n : Nat) : upTo 0 n = (List.range n).map fun (i : Nat) => .int (i : Int) := by
  rw [upTo_eq]; simp
theorem zipL_map {α β : Type} (f : α → D) (g : β → D) (xs : List α) (ys : List β) : zipL (xs.map f) (ys.map g) = (xs.zip ys).map fun p => .tup [f p.1, g p.2] := by
  induction xs generalizing ys with
  | nil => rfl
  | cons x xs ih =>
    cases ys with
    | nil => rfl
    | cons y ys =>
      show .tup [f x, g y] :: zipL (xs.map f) (ys.map g) = _
      rw [ih]; rfl
theorem enumL_map {α : Type} (f : α → D) (n : Nat) (xs : List α) : enumL n (xs.map f) = (xs.zipIdx n).map fun p => .tup [.int (p.2 : Int), f p.1] := by
  induction xs generalizing n with
  | nil => rfl
  | cons x xs ih =>
    show .tup [.int (n : Int), f x] :: enumL (n + 1) (xs.map f) = _
    rw [ih]; rfl
theorem items0l (xs : List D) : itS 0 [.lst xs] = some xs := by
  simp only [Ex.andM, Ex.orM, Ex.lcB, Ex.lcR, Ex.forB, Ex.forR, Ex.whR, vE_eq, vEs_eq, vO_eq, vI_eq, vT_eq, xS_eq, xSs_eq, cM_eq, itS_eq, bnD_eq, uD_eq, trD_eq, cmD_eq, sbD_eq, scD_eq, bD_eq, mD_eq, mmS_eq, agD_eq, adD_eq, suD_eq, muD_eq, fdD_eq, moD_eq, pwD_eq, slD_eq, srD_eq, eqS_eq, inS_eq] <;> rfl
theorem items0r (xs : List D) : itS 0 [.ro xs] = some xs := by
  simp only [Ex.andM, Ex.orM, Ex.lcB, Ex.lcR, Ex.forB, Ex.forR, Ex.whR, vE_eq, vEs_eq, vO_eq, vI_eq, vT_eq, xS_eq, xSs_eq, cM_eq, itS_eq, bnD_eq, uD_eq, trD_eq, cmD_eq, sbD_eq, scD_eq, bD_eq, mD_eq, mmS_eq, agD_eq, adD_eq, suD_eq, muD_eq, fdD_eq, moD_eq, pwD_eq, slD_eq, srD_eq, eqS_eq, inS_eq] <;> rfl
theorem items0t (xs : List D) : itS 0 [.tup xs] = some xs := by
  simp only [Ex.andM, Ex.orM, Ex.lcB, Ex.lcR, Ex.forB, Ex.forR, Ex.whR, vE_eq, vEs_eq, vO_eq, vI_eq, vT_eq, xS_eq, xSs_eq, cM_eq, itS_eq, bnD_eq, uD_eq, trD_eq, cmD_eq, sbD_eq, scD_eq, bD_eq, mD_eq, mmS_eq, agD_eq, adD_eq, suD_eq, muD_eq, fdD_eq, moD_eq, pwD_eq, slD_eq, srD_eq, eqS_eq, inS_eq] <;> rfl
theorem items1 (j : Int) : itS 1 [.int j] = if sml62 j then some (upTo 0 j.toNat) else none := by
  simp only [Ex.andM, Ex.orM, Ex.lcB, Ex.lcR, Ex.forB, Ex.forR, Ex.whR, vE_eq, vEs_eq, vO_eq, vI_eq, vT_eq, xS_eq, xSs_eq, cM_eq, itS_eq, bnD_eq, uD_eq, trD_eq, cmD_eq, sbD_eq, scD_eq, bD_eq, mD_eq, mmS_eq, agD_eq, adD_eq, suD_eq, muD_eq, fdD_eq, moD_eq, pwD_eq, slD_eq, srD_eq, eqS_eq, inS_eq] <;> rfl
theorem items1b (i j : Int) : itS 1 [.int i, .int j] = if sml62 i && sml62 j then some (upTo i (j - i).toNat) else none := by
  simp only [Ex.andM, Ex.orM, Ex.lcB, Ex.lcR, Ex.forB, Ex.forR, Ex.whR, vE_eq, vEs_eq, vO_eq, vI_eq, vT_eq, xS_eq, xSs_eq, cM_eq, itS_eq, bnD_eq, uD_eq, trD_eq, cmD_eq, sbD_eq, scD_eq, bD_eq, mD_eq, mmS_eq, agD_eq, adD_eq, suD_eq, muD_eq, fdD_eq, moD_eq, pwD_eq, slD_eq, srD_eq, eqS_eq, inS_eq] <;> rfl
theorem items2l (xs : List D) : itS 2 [.lst xs] = some (enumL 0 xs) := by
  simp only [Ex.andM, Ex.orM, Ex.lcB, Ex.lcR, Ex.forB, Ex.forR, Ex.whR, vE_eq, vEs_eq, vO_eq, vI_eq, vT_eq, xS_eq, xSs_eq, cM_eq, itS_eq, bnD_eq, uD_eq, trD_eq, cmD_eq, sbD_eq, scD_eq, bD_eq, mD_eq, mmS_eq, agD_eq, adD_eq, suD_eq, muD_eq, fdD_eq, moD_eq, pwD_eq, slD_eq, srD_eq, eqS_eq, inS_eq] <;> rfl
theorem items2t (xs : List D) : itS 2 [.tup xs] = some (enumL 0 xs) := by
  simp only [Ex.andM, Ex.orM, Ex.lcB, Ex.lcR, Ex.forB, Ex.forR, Ex.whR, vE_eq, vEs_eq, vO_eq, vI_eq, vT_eq, xS_eq, xSs_eq, cM_eq, itS_eq, bnD_eq, uD_eq, trD_eq, cmD_eq, sbD_eq, scD_eq, bD_eq, mD_eq, mmS_eq, agD_eq, adD_eq, suD_eq, muD_eq, fdD_eq, moD_eq, pwD_eq, slD_eq, srD_eq, eqS_eq, inS_eq] <;> rfl
theorem items3l (xs ys : List D) : itS 3 [.lst xs, .lst ys] = some (zipL xs ys) := by
  simp only [Ex.andM, Ex.orM, Ex.lcB, Ex.lcR, Ex.forB, Ex.forR, Ex.whR, vE_eq, vEs_eq, vO_eq, vI_eq, vT_eq, xS_eq, xSs_eq, cM_eq, itS_eq, bnD_eq, uD_eq, trD_eq, cmD_eq, sbD_eq, scD_eq, bD_eq, mD_eq, mmS_eq, agD_eq, adD_eq, suD_eq, muD_eq, fdD_eq, moD_eq, pwD_eq, slD_eq, srD_eq, eqS_eq, inS_eq] <;> rfl
theorem items3t (xs ys : List D) : itS 3 [.tup xs, .tup ys] = some (zipL xs ys) := by
  simp only [Ex.andM, Ex.orM, Ex.lcB, Ex.lcR, Ex.forB, Ex.forR, Ex.whR, vE_eq, vEs_eq, vO_eq, vI_eq, vT_eq, xS_eq, xSs_eq, cM_eq, itS_eq, bnD_eq, uD_eq, trD_eq, cmD_eq, sbD_eq, scD_eq, bD_eq, mD_eq, mmS_eq, agD_eq, adD_eq, suD_eq, muD_eq, fdD_eq, moD_eq, pwD_eq, slD_eq, srD_eq, eqS_eq, inS_eq] <;> rfl
theorem drop_map' {α β : Type} (f : α → β) (n : Nat) (xs : List α) : (xs.map f).drop n = (xs.drop n).map f := by simp
theorem dropLast_map' {α β : Type} (f : α → β) (xs : List α) : (xs.map f).dropLast = xs.dropLast.map f := by simp
theorem append_map' {α β : Type} (f : α → β) (xs ys : List α) : xs.map f ++ ys.map f = (xs ++ ys).map f := by simp
theorem reverse_map' {α β : Type} (f : α → β) (xs : List α) : (xs.map f).reverse = xs.reverse.map f := by simp
theorem replicate_map' (n : Nat) (x : Int) : List.replicate n (D.int x) = (List.replicate n x).map D.int := by simp
theorem items1_ok {j : Int} (h1 : -4611686018427387904 ≤ j) (h2 : j < 4611686018427387904) : itS 1 [.int j] = some (upTo 0 j.toNat) := by
  rw [items1, if_pos]
  unfold sml62
  simp only [Bool.and_eq_true, decide_eq_true_eq]
  omega
theorem items1b_ok {i j : Int} (h1 : -4611686018427387904 ≤ i) (h2 : i < 4611686018427387904) (h3 : -4611686018427387904 ≤ j) (h4 : j < 4611686018427387904) : itS 1 [.int i, .int j] = some (upTo i (j - i).toNat) := by
  rw [items1b, if_pos]
  unfold sml62
  simp only [Bool.and_eq_true, decide_eq_true_eq]
  omega
theorem lim_ok {n : Nat} (h : n ≤ 16777216) : (n ≤ lim) = True := eq_true h
theorem lim_ok' {n : Nat} (h : n < 16777216) : (n < lim) = True := eq_true h
theorem cut1 {α : Type} (xs : List α) : cutL xs (some 1) none = xs.drop 1 := by
  have e : HT.sIx xs.length 0 (some 1) = min 1 xs.length := HT.sIx_nat _ _ 1
  unfold cutL
  rw [e, HT.sIx_none]
  cases xs with
  | nil => rfl
  | cons x xs => simp
end Ex

set_option Elab.async false
set_option linter.all false
set_option maxRecDepth 100000
/-! Part X: operators, built-in functions and methods, by rewriting. -/
namespace Ex
open PySem Ev
theorem bn_add (x y : D) : bnD .Add x y = adD x y := by
  simp only [vE_eq, vEs_eq, vO_eq, vI_eq, vT_eq, xS_eq, xSs_eq, cM_eq, itS_eq, bnD_eq, uD_eq, trD_eq, cmD_eq, sbD_eq, scD_eq, bD_eq, mD_eq, mmS_eq, agD_eq, adD_eq, suD_eq, muD_eq, fdD_eq, moD_eq, pwD_eq, slD_eq, srD_eq, eqS_eq, inS_eq] <;> rfl
theorem bn_sub (x y : D) : bnD .Sub x y = suD x y := by
  simp only [vE_eq, vEs_eq, vO_eq, vI_eq, vT_eq, xS_eq, xSs_eq, cM_eq, itS_eq, bnD_eq, uD_eq, trD_eq, cmD_eq, sbD_eq, scD_eq, bD_eq, mD_eq, mmS_eq, agD_eq, adD_eq, suD_eq, muD_eq, fdD_eq, moD_eq, pwD_eq, slD_eq, srD_eq, eqS_eq, inS_eq] <;> rfl
theorem bn_mul (x y : D) : bnD .Mult x y = muD x y := by
  simp only [vE_eq, vEs_eq, vO_eq, vI_eq, vT_eq, xS_eq, xSs_eq, cM_eq, itS_eq, bnD_eq, uD_eq, trD_eq, cmD_eq, sbD_eq, scD_eq, bD_eq, mD_eq, mmS_eq, agD_eq, adD_eq, suD_eq, muD_eq, fdD_eq, moD_eq, pwD_eq, slD_eq, srD_eq, eqS_eq, inS_eq] <;> rfl
theorem bn_div (x y : D) : bnD .FloorDiv x y = fdD x y := by
  simp only [vE_eq, vEs_eq, vO_eq, vI_eq, vT_eq, xS_eq, xSs_eq, cM_eq, itS_eq, bnD_eq, uD_eq, trD_eq, cmD_eq, sbD_eq, scD_eq, bD_eq, mD_eq, mmS_eq, agD_eq, adD_eq, suD_eq, muD_eq, fdD_eq, moD_eq, pwD_eq, slD_eq, srD_eq, eqS_eq, inS_eq] <;> rfl
theorem bn_mod (x y : D) : bnD .Mod x y = moD x y := by
  simp only [vE_eq, vEs_eq, vO_eq, vI_eq, vT_eq, xS_eq, xSs_eq, cM_eq, itS_eq, bnD_eq, uD_eq, trD_eq, cmD_eq, sbD_eq, scD_eq, bD_eq, mD_eq, mmS_eq, agD_eq, adD_eq, suD_eq, muD_eq, fdD_eq, moD_eq, pwD_eq, slD_eq, srD_eq, eqS_eq, inS_eq] <;> rfl
theorem bn_pow (x y : D) : bnD .Pow x y = pwD x y := by
  simp only [vE_eq, vEs_eq, vO_eq, vI_eq, vT_eq, xS_eq, xSs_eq, cM_eq, itS_eq, bnD_eq, uD_eq, trD_eq, cmD_eq, sbD_eq, scD_eq, bD_eq, mD_eq, mmS_eq, agD_eq, adD_eq, suD_eq, muD_eq, fdD_eq, moD_eq, pwD_eq, slD_eq, srD_eq, eqS_eq, inS_eq] <;> rfl
theorem bn_shl (x y : D) : bnD .LShift x y = slD x y := by
  simp only [vE_eq, vEs_eq, vO_eq, vI_eq, vT_eq, xS_eq, xSs_eq, cM_eq, itS_eq, bnD_eq, uD_eq, trD_eq, cmD_eq, sbD_eq, scD_eq, bD_eq, mD_eq, mmS_eq, agD_eq, adD_eq, suD_eq, muD_eq, fdD_eq, moD_eq, pwD_eq, slD_eq, srD_eq, eqS_eq, inS_eq] <;> rfl
theorem bn_shr (x y : D) : bnD .RShift x y = srD x y := by
  simp only [vE_eq, vEs_eq, vO_eq, vI_eq, vT_eq, xS_eq, xSs_eq, cM_eq, itS_eq, bnD_eq, uD_eq, trD_eq, cmD_eq, sbD_eq, scD_eq, bD_eq, mD_eq, mmS_eq, agD_eq, adD_eq, suD_eq, muD_eq, fdD_eq, moD_eq, pwD_eq, slD_eq, srD_eq, eqS_eq, inS_eq] <;> rfl
theorem bn_and (x y : D) : bnD .BitAnd x y = andD x y := by
  simp only [vE_eq, vEs_eq, vO_eq, vI_eq, vT_eq, xS_eq, xSs_eq, cM_eq, itS_eq, bnD_eq, uD_eq, trD_eq, cmD_eq, sbD_eq, scD_eq, bD_eq, mD_eq, mmS_eq, agD_eq, adD_eq, suD_eq, muD_eq, fdD_eq, moD_eq, pwD_eq, slD_eq, srD_eq, eqS_eq, inS_eq] <;> rfl
theorem bn_or (x y : D) : bnD .BitOr x y = orD x y := by
  simp only [vE_eq, vEs_eq, vO_eq, vI_eq, vT_eq, xS_eq, xSs_eq, cM_eq, itS_eq, bnD_eq, uD_eq, trD_eq, cmD_eq, sbD_eq, scD_eq, bD_eq, mD_eq, mmS_eq, agD_eq, adD_eq, suD_eq, muD_eq, fdD_eq, moD_eq, pwD_eq, slD_eq, srD_eq, eqS_eq, inS_eq] <;> rfl
theorem bn_xor (x y : D) : bnD .BitXor x y = xorD x y := by
  simp only [vE_eq, vEs_eq, vO_eq, vI_eq, vT_eq, xS_eq, xSs_eq, cM_eq, itS_eq, bnD_eq, uD_eq, trD_eq, cmD_eq, sbD_eq, scD_eq, bD_eq, mD_eq, mmS_eq, agD_eq, adD_eq, suD_eq, muD_eq, fdD_eq, moD_eq, pwD_eq, slD_eq, srD_eq, eqS_eq, inS_eq] <;> rfl
theorem add_ii (i j : Int) : adD (.int i) (.int j) = some (false, .int (i + j)) := by
  simp only [vE_eq, vEs_eq, vO_eq, vI_eq, vT_eq, xS_eq, xSs_eq, cM_eq, itS_eq, bnD_eq, uD_eq, trD_eq, cmD_eq, sbD_eq, scD_eq, bD_eq, mD_eq, mmS_eq, agD_eq, adD_eq, suD_eq, muD_eq, fdD_eq, moD_eq, pwD_eq, slD_eq, srD_eq, eqS_eq, inS_eq] <;> rfl
theorem add_ss (x y : Str) : adD (.str x) (.str y) = if x.length + y.length ≤ lim then some (false, .str (x ++ y)) else none := by
  simp only [vE_eq, vEs_eq, vO_eq, vI_eq, vT_eq, xS_eq, xSs_eq, cM_eq, itS_eq, bnD_eq, uD_eq, trD_eq, cmD_eq, sbD_eq, scD_eq, bD_eq, mD_eq, mmS_eq, agD_eq, adD_eq, suD_eq, muD_eq, fdD_eq, moD_eq, pwD_eq, slD_eq, srD_eq, eqS_eq, inS_eq] <;> rfl
theorem add_ll (xs ys : List D) : adD (.lst xs) (.lst ys) = if xs.length + ys.length ≤ lim then some (true, .lst (xs ++ ys)) else none := by
  simp only [vE_eq, vEs_eq, vO_eq, vI_eq, vT_eq, xS_eq, xSs_eq, cM_eq, itS_eq, bnD_eq, uD_eq, trD_eq, cmD_eq, sbD_eq, scD_eq, bD_eq, mD_eq, mmS_eq, agD_eq, adD_eq, suD_eq, muD_eq, fdD_eq, moD_eq, pwD_eq, slD_eq, srD_eq, eqS_eq, inS_eq] <;> rfl
theorem add_tt (xs ys : List D) : adD (.tup xs) (.tup ys) = if xs.length + ys.length ≤ lim then some (false, .tup (xs ++ ys)) else none := by
  simp only [vE_eq, vEs_eq, vO_eq, vI_eq, vT_eq, xS_eq, xSs_eq, cM_eq, itS_eq, bnD_eq, uD_eq, trD_eq, cmD_eq, sbD_eq, scD_eq, bD_eq, mD_eq, mmS_eq, agD_eq, adD_eq, suD_eq, muD_eq, fdD_eq, moD_eq, pwD_eq, slD_eq, srD_eq, eqS_eq, inS_eq] <;> rfl
theorem sub_ii (i j : Int) : suD (.int i) (.int j) = some (false, .int (i - j)) := by
  simp only [vE_eq, vEs_eq, vO_eq, vI_eq, vT_eq, xS_eq, xSs_eq, cM_eq, itS_eq, bnD_eq, uD_eq, trD_eq, cmD_eq, sbD_eq, scD_eq, bD_eq, mD_eq, mmS_eq, agD_eq, adD_eq, suD_eq, muD_eq, fdD_eq, moD_eq, pwD_eq, slD_eq, srD_eq, eqS_eq, inS_eq] <;> rfl
theorem mul_ii (i j : Int) : muD (.int i) (.int j) = if mulOk i j then some (false, .int (i * j)) else none := by
  simp only [vE_eq, vEs_eq, vO_eq, vI_eq, vT_eq, xS_eq, xSs_eq, cM_eq, itS_eq, bnD_eq, uD_eq, trD_eq, cmD_eq, sbD_eq, scD_eq, bD_eq, mD_eq, mmS_eq, agD_eq, adD_eq, suD_eq, muD_eq, fdD_eq, moD_eq, pwD_eq, slD_eq, srD_eq, eqS_eq, inS_eq] <;> rfl
theorem mul_li (xs : List D) (j : Int) : muD (.lst xs) (.int j) = if decide (xs.length * j.toNat ≤ lim) && decide (j < 2 ^ 63) && decide (-(2 ^ 63) ≤ j) then some (true, .lst (repL xs j.toNat)) else none := by
  simp only [vE_eq, vEs_eq, vO_eq, vI_eq, vT_eq, xS_eq, xSs_eq, cM_eq, itS_eq, bnD_eq, uD_eq, trD_eq, cmD_eq, sbD_eq, scD_eq, bD_eq, mD_eq, mmS_eq, agD_eq, adD_eq, suD_eq, muD_eq, fdD_eq, moD_eq, pwD_eq, slD_eq, srD_eq, eqS_eq, inS_eq] <;> rfl
theorem mul_ti (xs : List D) (j : Int) : muD (.tup xs) (.int j) = if decide (xs.length ≤ 100) && decide (0 < xs.length) && decide (j ≤ 10000) && decide (1 < j) then some (false, .tup (repL xs j.toNat)) else none := by
  simp only [vE_eq, vEs_eq, vO_eq, vI_eq, vT_eq, xS_eq, xSs_eq, cM_eq, itS_eq, bnD_eq, uD_eq, trD_eq, cmD_eq, sbD_eq, scD_eq, bD_eq, mD_eq, mmS_eq, agD_eq, adD_eq, suD_eq, muD_eq, fdD_eq, moD_eq, pwD_eq, slD_eq, srD_eq, eqS_eq, inS_eq] <;> rfl
theorem div_ii (i j : Int) : fdD (.int i) (.int j) = if divOk j then some (false, .int (i / j)) else none := by
  simp only [vE_eq, vEs_eq, vO_eq, vI_eq, vT_eq, xS_eq, xSs_eq, cM_eq, itS_eq, bnD_eq, uD_eq, trD_eq, cmD_eq, sbD_eq, scD_eq, bD_eq, mD_eq, mmS_eq, agD_eq, adD_eq, suD_eq, muD_eq, fdD_eq, moD_eq, pwD_eq, slD_eq, srD_eq, eqS_eq, inS_eq] <;> rfl
theorem mod_ii (i j : Int) : moD (.int i) (.int j) = if decide (0 < j) then some (false, .int (i % j)) else none := by
  simp only [vE_eq, vEs_eq, vO_eq, vI_eq, vT_eq, xS_eq, xSs_eq, cM_eq, itS_eq, bnD_eq, uD_eq, trD_eq, cmD_eq, sbD_eq, scD_eq, bD_eq, mD_eq, mmS_eq, agD_eq, adD_eq, suD_eq, muD_eq, fdD_eq, moD_eq, pwD_eq, slD_eq, srD_eq, eqS_eq, inS_eq] <;> rfl
theorem pow_ii (i j : Int) : pwD (.int i) (.int j) = if shOk i j then some (false, .int (i ^ j.toNat)) else none := by
  simp only [vE_eq, vEs_eq, vO_eq, vI_eq, vT_eq, xS_eq, xSs_eq, cM_eq, itS_eq, bnD_eq, uD_eq, trD_eq, cmD_eq, sbD_eq, scD_eq, bD_eq, mD_eq, mmS_eq, agD_eq, adD_eq, suD_eq, muD_eq, fdD_eq, moD_eq, pwD_eq, slD_eq, srD_eq, eqS_eq, inS_eq] <;> rfl
theorem shl_ii (i j : Int) : slD (.int i) (.int j) = if shOk i j then some (false, .int (i * 2 ^ j.toNat)) else none := by
  simp only [vE_eq, vEs_eq, vO_eq, vI_eq, vT_eq, xS_eq, xSs_eq, cM_eq, itS_eq, bnD_eq, uD_eq, trD_eq, cmD_eq, sbD_eq, scD_eq, bD_eq, mD_eq, mmS_eq, agD_eq, adD_eq, suD_eq, muD_eq, fdD_eq, moD_eq, pwD_eq, slD_eq, srD_eq, eqS_eq, inS_eq] <;> rfl
theorem shr_ii (i j : Int) : srD (.int i) (.int j) = if decide (0 ≤ j) then some (false, .int (i / 2 ^ j.toNat)) else none := by
  simp only [vE_eq, vEs_eq, vO_eq, vI_eq, vT_eq, xS_eq, xSs_eq, cM_eq, itS_eq, bnD_eq, uD_eq, trD_eq, cmD_eq, sbD_eq, scD_eq, bD_eq, mD_eq, mmS_eq, agD_eq, adD_eq, suD_eq, muD_eq, fdD_eq, moD_eq, pwD_eq, slD_eq, srD_eq, eqS_eq, inS_eq] <;> rfl
theorem and_ii (i j : Int) : andD (.int i) (.int j) = some (false, .int (Builtin.bitAnd i j)) := (rfl)
theorem or_ii (i j : Int) : orD (.int i) (.int j) = some (false, .int (Builtin.bitOr i j)) := (rfl)
theorem xor_ii (i j : Int) : xorD (.int i) (.int j) = some (false, .int (Builtin.bitXor i j)) := (rfl)
theorem un_neg (i : Int) : uD .USub (.int i) = some (.int (-i)) := by
  simp only [vE_eq, vEs_eq, vO_eq, vI_eq, vT_eq, xS_eq, xSs_eq, cM_eq, itS_eq, bnD_eq, uD_eq, trD_eq, cmD_eq, sbD_eq, scD_eq, bD_eq, mD_eq, mmS_eq, agD_eq, adD_eq, suD_eq, muD_eq, fdD_eq, moD_eq, pwD_eq, slD_eq, srD_eq, eqS_eq, inS_eq] <;> rfl
theorem un_inv (i : Int) : uD .Invert (.int i) = some (.int (Builtin.bitNot i)) := by
  simp only [vE_eq, vEs_eq, vO_eq, vI_eq, vT_eq, xS_eq, xSs_eq, cM_eq, itS_eq, bnD_eq, uD_eq, trD_eq, cmD_eq, sbD_eq, scD_eq, bD_eq, mD_eq, mmS_eq, agD_eq, adD_eq, suD_eq, muD_eq, fdD_eq, moD_eq, pwD_eq, slD_eq, srD_eq, eqS_eq, inS_eq] <;> rfl
theorem mulOk_l {i : Int} (j : Int) (h : sml i = true) : mulOk i j = true := by simp [mulOk, h]
theorem mulOk_r (i : Int) {j : Int} (h : sml j = true) : mulOk i j = true := by simp [mulOk, h]
theorem sml_of {i : Int} (h1 : -18446744073709551616 < i) (h2 : i < 18446744073709551616) : sml i = true := by
  unfold sml
  simp only [Bool.and_eq_true, decide_eq_true_eq]
  omega
theorem sml62_of {i : Int} (h1 : 0 ≤ i) (h2 : i < 4611686018427387904) : sml62 i = true := by
  unfold sml62
  simp only [Bool.and_eq_true, decide_eq_true_eq]
  omega
theorem divOk_s {j : Int} (h : 0 < j) (h2 : j < 1073741824) : divOk j = true := by
  unfold divOk
  simp only [Bool.and_eq_true, Bool.or_eq_true, decide_eq_true_eq]
  exact ⟨h, .inl h2⟩
theorem divOk_l {j : Int} (h : 0 < j) (h2 : j.natAbs.log2 < 9000) : divOk j = true := by
  unfold divOk
  simp only [Bool.and_eq_true, Bool.or_eq_true, decide_eq_true_eq]
  exact ⟨h, .inr h2⟩
theorem shOk_of {i j : Int} (h : 0 ≤ j) (h2 : j ≤ 1000000) (h3 : i.natAbs < 18446744073709551616) : shOk i j = true := by
  unfold shOk
  simp only [Bool.and_eq_true, decide_eq_true_eq]
  exact ⟨⟨h, h2⟩, h3⟩
theorem mul_l {i j : Int} (h1 : -18446744073709551616 < i) (h2 : i < 18446744073709551616) : muD (.int i) (.int j) = some (false, .int (i * j)) := by
  rw [mul_ii, if_pos (mulOk_l _ (sml_of h1 h2))]
theorem mul_r {i j : Int} (h1 : -18446744073709551616 < j) (h2 : j < 18446744073709551616) : muD (.int i) (.int j) = some (false, .int (i * j)) := by
  rw [mul_ii, if_pos (mulOk_r _ (sml_of h1 h2))]
theorem log2_lt {n a : Nat} (h : n < 2 ^ a) (ha : 0 < a) : n.log2 < a := by
  by_cases h0 : n = 0
  · subst h0; simpa using ha
  · exact (Nat.log2_lt h0).mpr h
theorem mul_big {i j : Int} (a b : Nat) (h1 : i.natAbs < 2 ^ a) (h2 : j.natAbs < 2 ^ b) (h3 : a + b < 1000000) (ha : 0 < a) (hb : 0 < b) : muD (.int i) (.int j) = some (false, .int (i * j)) := by
  have e1 := log2_lt h1 ha
  have e2 := log2_lt h2 hb
  have : mulOk i j = true := by
    unfold mulOk
    simp only [Bool.or_eq_true, decide_eq_true_eq]
    exact .inr (by omega)
  rw [mul_ii, if_pos this]
theorem div_s {i j : Int} (h1 : 0 < j) (h2 : j < 1073741824) : fdD (.int i) (.int j) = some (false, .int (i / j)) := by
  rw [div_ii, if_pos (divOk_s h1 h2)]
theorem div_w {i j : Int} (h1 : 0 < j) (h2 : j.natAbs.log2 < 9000) : fdD (.int i) (.int j) = some (false, .int (i / j)) := by
  rw [div_ii, if_pos (divOk_l h1 h2)]
theorem mod_w {i j : Int} (h1 : 0 < j) : moD (.int i) (.int j) = some (false, .int (i % j)) := by
  rw [mod_ii, if_pos (decide_eq_true h1)]
theorem shr_w {i j : Int} (h1 : 0 ≤ j) : srD (.int i) (.int j) = some (false, .int (i / 2 ^ j.toNat)) := by
  rw [shr_ii, if_pos (decide_eq_true h1)]
theorem shl_w {i j : Int} (h1 : 0 ≤ j) (h2 : j ≤ 1000000) (h3 : -18446744073709551616 < i) (h4 : i < 18446744073709551616) : slD (.int i) (.int j) = some (false, .int (i * 2 ^ j.toNat)) := by
  rw [shl_ii, if_pos (shOk_of h1 h2 (by omega))]
theorem pow_w {i j : Int} (h1 : 0 ≤ j) (h2 : j ≤ 1000000) (h3 : -18446744073709551616 < i) (h4 : i < 18446744073709551616) : pwD (.int i) (.int j) = some (false, .int (i ^ j.toNat)) := by
  rw [pow_ii, if_pos (shOk_of h1 h2 (by omega))]
theorem mulL_w {xs : List D} {j : Int} (h1 : (xs.length : Int) * j ≤ 16777216) (h2 : 0 ≤ j) (h3 : j < 9223372036854775808) : muD (.lst xs) (.int j) = some (true, .lst (repL xs j.toNat)) := by
  rw [mul_li, if_pos]
  simp only [Bool.and_eq_true, decide_eq_true_eq]
  refine ⟨⟨?_, by omega⟩, by omega⟩
  have e : ((xs.length * j.toNat : Nat) : Int) = (xs.length : Int) * j := by
    rw [Int.natCast_mul, Int.toNat_of_nonneg h2]
  show _ ≤ 16777216
  omega
theorem repL1 {α : Type} (x : α) (n : Nat) : repL [x] n = List.replicate n x := by
  unfold repL
  induction n with
  | zero => rfl
  | succ n ih => rw [List.replicate_succ, List.flatten_cons, ih, List.replicate_succ]; rfl
/-! comparisons -/
theorem cm_eq (x y : D) : cmD .Eq x y = eqS x y := by
  simp only [vE_eq, vEs_eq, vO_eq, vI_eq, vT_eq, xS_eq, xSs_eq, cM_eq, itS_eq, bnD_eq, uD_eq, trD_eq, cmD_eq, sbD_eq, scD_eq, bD_eq, mD_eq, mmS_eq, agD_eq, adD_eq, suD_eq, muD_eq, fdD_eq, moD_eq, pwD_eq, slD_eq, srD_eq, eqS_eq, inS_eq] <;> rfl
theorem cm_ne (x y : D) : cmD .NotEq x y = (eqS x y).map (!·) := by
  simp only [vE_eq, vEs_eq, vO_eq, vI_eq, vT_eq, xS_eq, xSs_eq, cM_eq, itS_eq, bnD_eq, uD_eq, trD_eq, cmD_eq, sbD_eq, scD_eq, bD_eq, mD_eq, mmS_eq, agD_eq, adD_eq, suD_eq, muD_eq, fdD_eq, moD_eq, pwD_eq, slD_eq, srD_eq, eqS_eq, inS_eq] <;> rfl
theorem cm_lt (i j : Int) : cmD .Lt (.int i) (.int j) = some (decide (i < j)) := by
  simp only [vE_eq, vEs_eq, vO_eq, vI_eq, vT_eq, xS_eq, xSs_eq, cM_eq, itS_eq, bnD_eq, uD_eq, trD_eq, cmD_eq, sbD_eq, scD_eq, bD_eq, mD_eq, mmS_eq, agD_eq, adD_eq, suD_eq, muD_eq, fdD_eq, moD_eq, pwD_eq, slD_eq, srD_eq, eqS_eq, inS_eq] <;> rfl
theorem cm_le (i j : Int) : cmD .LtE (.int i) (.int j) = some (decide (i ≤ j)) := by
  simp only [vE_eq, vEs_eq, vO_eq, vI_eq, vT_eq, xS_eq, xSs_eq, cM_eq, itS_eq, bnD_eq, uD_eq, trD_eq, cmD_eq, sbD_eq, scD_eq, bD_eq, mD_eq, mmS_eq, agD_eq, adD_eq, suD_eq, muD_eq, fdD_eq, moD_eq, pwD_eq, slD_eq, srD_eq, eqS_eq, inS_eq] <;> rfl
theorem cm_gt (i j : Int) : cmD .Gt (.int i) (.int j) = some (decide (j < i)) := by
  simp only [vE_eq, vEs_eq, vO_eq, vI_eq, vT_eq, xS_eq, xSs_eq, cM_eq, itS_eq, bnD_eq, uD_eq, trD_eq, cmD_eq, sbD_eq, scD_eq, bD_eq, mD_eq, mmS_eq, agD_eq, adD_eq, suD_eq, muD_eq, fdD_eq, moD_eq, pwD_eq, slD_eq, srD_eq, eqS_eq, inS_eq] <;> rfl
theorem cm_ge (i j : Int) : cmD .GtE (.int i) (.int j) = some (decide (j ≤ i)) := by
  simp only [vE_eq, vEs_eq, vO_eq, vI_eq, vT_eq, xS_eq, xSs_eq, cM_eq, itS_eq, bnD_eq, uD_eq, trD_eq, cmD_eq, sbD_eq, scD_eq, bD_eq, mD_eq, mmS_eq, agD_eq, adD_eq, suD_eq, muD_eq, fdD_eq, moD_eq, pwD_eq, slD_eq, srD_eq, eqS_eq, inS_eq] <;> rfl
theorem cm_is (x : D) : cmD .Is x .non = some (isNon x) := by
  rw [cmD_eq]; try rw [inS_eq]
  cases x <;> rfl
theorem cm_isn (x : D) : cmD .IsNot x .non = some (!isNon x) := by
  rw [cmD_eq]; try rw [inS_eq]
  cases x <;> rfl
theorem cm_isb (a b : Bool) : cmD .Is (.bl a) (.bl b) = some (decide (a = b)) := by
  rw [cmD_eq]; rfl
theorem cm_isnb (a b : Bool) : cmD .IsNot (.bl a) (.bl b) = some (!decide (a = b)) := by
  rw [cmD_eq]; rfl
theorem cm_in_t (x : D) (ys : List D) : cmD .In x (.tup ys) = inS x ys := by
  rw [cmD_eq]; try rw [inS_eq]
  cases x <;> rfl
theorem cm_in_l (x : D) (ys : List D) : cmD .In x (.lst ys) = ilS x ys := by
  rw [cmD_eq, ilS_eq]
  cases x <;> rfl
theorem cm_ni_t (x : D) (ys : List D) : cmD .NotIn x (.tup ys) = (inS x ys).map (!·) := by
  rw [cmD_eq]; try rw [inS_eq]
  cases x <;> rfl
theorem cm_ni_l (x : D) (ys : List D) : cmD .NotIn x (.lst ys) = (ilS x ys).map (!·) := by
  rw [cmD_eq, ilS_eq]
  cases x <;> rfl
theorem il_flat {x : D} {ys : List D} (h : (flatD x && ys.all flatD) = true) : ilS x ys = inS x ys := by
  rw [ilS_eq, inS_eq]; unfold inL inD
  rw [if_pos h, if_pos h]
theorem il_ints (i : Int) (xs : List Int) : ilS (.int i) (xs.map D.int) = inS (.int i) (xs.map D.int) := il_flat (by simp [flatD])
theorem il_map {α : Type} (i : Int) (f : α → Int) (xs : List α) : ilS (.int i) (xs.map fun x => D.int (f x)) = inS (.int i) ((xs.map f).map D.int) := by
  rw [il_flat (by simp [flatD]), List.map_map]; rfl
theorem il_nil (x : D) (h : flatD x = true) : ilS x [] = some false := by
  rw [il_flat (by rw [h]; rfl), inS_eq]; unfold inD
  rw [if_pos (by rw [h]; rfl)]; rfl
theorem il_1 (i a : Int) : ilS (.int i) [.int a] = inS (.int i) [.int a] := il_flat rfl
theorem il_2 (i a b : Int) : ilS (.int i) [.int a, .int b] = inS (.int i) [.int a, .int b] := il_flat rfl
theorem eq_ii (i j : Int) : eqS (.int i) (.int j) = some (decide (i = j)) := by
  simp only [vE_eq, vEs_eq, vO_eq, vI_eq, vT_eq, xS_eq, xSs_eq, cM_eq, itS_eq, bnD_eq, uD_eq, trD_eq, cmD_eq, sbD_eq, scD_eq, bD_eq, mD_eq, mmS_eq, agD_eq, adD_eq, suD_eq, muD_eq, fdD_eq, moD_eq, pwD_eq, slD_eq, srD_eq, eqS_eq, inS_eq] <;> rfl
theorem eq_bb (i j : Bool) : eqS (.bl i) (.bl j) = some (decide (i = j)) := by
  simp only [vE_eq, vEs_eq, vO_eq, vI_eq, vT_eq, xS_eq, xSs_eq, cM_eq, itS_eq, bnD_eq, uD_eq, trD_eq, cmD_eq, sbD_eq, scD_eq, bD_eq, mD_eq, mmS_eq, agD_eq, adD_eq, suD_eq, muD_eq, fdD_eq, moD_eq, pwD_eq, slD_eq, srD_eq, eqS_eq, inS_eq] <;> rfl
theorem eq_ss (i j : Str) : eqS (.str i) (.str j) = some (decide (i = j)) := by
  simp only [vE_eq, vEs_eq, vO_eq, vI_eq, vT_eq, xS_eq, xSs_eq, cM_eq, itS_eq, bnD_eq, uD_eq, trD_eq, cmD_eq, sbD_eq, scD_eq, bD_eq, mD_eq, mmS_eq, agD_eq, adD_eq, suD_eq, muD_eq, fdD_eq, moD_eq, pwD_eq, slD_eq, srD_eq, eqS_eq, inS_eq] <;> rfl
theorem isNon_non : isNon .non = true := (rfl)
theorem isNon_int (i : Int) : isNon (.int i) = false := (rfl)
theorem isNon_tup (xs : List D) : isNon (.tup xs) = false := (rfl)
theorem isNon_lst (xs : List D) : isNon (.lst xs) = false := (rfl)
theorem isNon_str (x : Str) : isNon (.str x) = false := (rfl)
theorem isNon_bl (x : Bool) : isNon (.bl x) = false := (rfl)
theorem isExc_non : isExc .non = false := (rfl)
theorem isExc_int (i : Int) : isExc (.int i) = false := (rfl)
theorem isExc_bl (i : Bool) : isExc (.bl i) = false := (rfl)
theorem isExc_str (i : Str) : isExc (.str i) = false := (rfl)
theorem isExc_tup (xs : List D) : isExc (.tup xs) = false := (rfl)
theorem isExc_lst (xs : List D) : isExc (.lst xs) = false := (rfl)
theorem isExc_dct (xs : List (D × D)) : isExc (.dct xs) = false := (rfl)
theorem isExc_fn (g : Nat) : isExc (.fn g) = false := (rfl)
theorem in_ints (i : Int) (xs : List Int) : inS (.int i) (xs.map D.int) = some (xs.any fun j => j == i) := by
  have h : ∀ xs : List Int, (xs.map D.int).all flatD = true := fun xs => by simp [flatD]
  rw [inS_eq]; unfold inD
  rw [h]
  show some _ = _
  rw [List.any_map]
  rfl
theorem in_lit (x : D) (ys : List D) (h : (flatD x && ys.all flatD) = true) : inS x ys = some (ys.any fun y => eqF y x) := by
  rw [inS_eq]; unfold inD
  rw [if_pos h]
theorem in_nil (x : Int) : inS (.int x) [] = some false := by
  simp only [vE_eq, vEs_eq, vO_eq, vI_eq, vT_eq, xS_eq, xSs_eq, cM_eq, itS_eq, bnD_eq, uD_eq, trD_eq, cmD_eq, sbD_eq, scD_eq, bD_eq, mD_eq, mmS_eq, agD_eq, adD_eq, suD_eq, muD_eq, fdD_eq, moD_eq, pwD_eq, slD_eq, srD_eq, eqS_eq, inS_eq] <;> rfl
theorem beq_flip (a i : Int) : (a == i) = decide (i = a) := by
  by_cases h : i = a
  · subst h; simp
  · have : ¬ a = i := fun e => h e.symm
    simp [h, this]
theorem in_1 (i a : Int) : inS (.int i) [.int a] = some (decide (i = a)) := by
  rw [show ([.int a] : List D) = [a].map D.int from rfl, in_ints]
  rw [List.any_cons, List.any_nil, Bool.or_false, beq_flip]
theorem in_2 (i a b : Int) : inS (.int i) [.int a, .int b] = some (decide (i = a) || decide (i = b)) := by
  rw [show ([.int a, .int b] : List D) = [a, b].map D.int from rfl, in_ints]
  rw [List.any_cons, List.any_cons, List.any_nil, Bool.or_false, beq_flip, beq_flip]
theorem fl_int (i : Int) : flatD (.int i) = true := (rfl)
theorem fl_bl (i : Bool) : flatD (.bl i) = true := (rfl)
theorem fl_str (i : Str) : flatD (.str i) = true := (rfl)
theorem eqF_ii (i j : Int) : eqF (.int i) (.int j) = (i == j) := (rfl)
theorem eqF_ss (i j : Str) : eqF (.str i) (.str j) = (i == j) := (rfl)
theorem eqF_bb (i j : Bool) : eqF (.bl i) (.bl j) = (i == j) := (rfl)
/-! items -/
theorem su_t (xs : List D) (i : Int) : sbD (.tup xs) (.int i) = (L2.ixN xs.length i).bind fun k => xs[k]? := by
  simp only [vE_eq, vEs_eq, vO_eq, vI_eq, vT_eq, xS_eq, xSs_eq, cM_eq, itS_eq, bnD_eq, uD_eq, trD_eq, cmD_eq, sbD_eq, scD_eq, bD_eq, mD_eq, mmS_eq, agD_eq, adD_eq, suD_eq, muD_eq, fdD_eq, moD_eq, pwD_eq, slD_eq, srD_eq, eqS_eq, inS_eq] <;> rfl
theorem su_l (xs : List D) (i : Int) : sbD (.lst xs) (.int i) = (L2.ixN xs.length i).bind fun k => xs[k]? := by
  simp only [vE_eq, vEs_eq, vO_eq, vI_eq, vT_eq, xS_eq, xSs_eq, cM_eq, itS_eq, bnD_eq, uD_eq, trD_eq, cmD_eq, sbD_eq, scD_eq, bD_eq, mD_eq, mmS_eq, agD_eq, adD_eq, suD_eq, muD_eq, fdD_eq, moD_eq, pwD_eq, slD_eq, srD_eq, eqS_eq, inS_eq] <;> rfl
theorem su_t0 (x : D) (xs : List D) : sbD (.tup (x :: xs)) (.int 0) = some x := by
  rw [su_t]
  unfold L2.ixN
  rw [if_pos (by decide), if_pos (by simp only [List.length_cons]; omega)]
  rfl
theorem su_t1 (x y : D) (xs : List D) : sbD (.tup (x :: y :: xs)) (.int 1) = some y := by
  rw [su_t]
  unfold L2.ixN
  rw [if_pos (by decide), if_pos (by simp only [List.length_cons]; omega)]
  rfl
theorem su_l0 (x : D) (xs : List D) : sbD (.lst (x :: xs)) (.int 0) = some x := by
  have := su_t0 x xs
  rw [sbD_eq] at this ⊢; exact this
theorem su_l1 (x y : D) (xs : List D) : sbD (.lst (x :: y :: xs)) (.int 1) = some y := by
  have := su_t1 x y xs
  rw [sbD_eq] at this ⊢; exact this
theorem su_t2 (x0 x1 x2 : D) (xs : List D) : sbD (.tup (x0 :: x1 :: x2 :: xs)) (.int 2) = some x2 := by
  rw [su_t]
  unfold L2.ixN
  rw [if_pos (by decide), if_pos (by simp only [List.length_cons]; omega)]
  rfl
theorem su_l2 (x0 x1 x2 : D) (xs : List D) : sbD (.lst (x0 :: x1 :: x2 :: xs)) (.int 2) = some x2 := by
  have := su_t2 x0 x1 x2 xs
  rw [sbD_eq] at this ⊢; exact this
theorem su_t3 (x0 x1 x2 x3 : D) (xs : List D) : sbD (.tup (x0 :: x1 :: x2 :: x3 :: xs)) (.int 3) = some x3 := by
  rw [su_t]
  unfold L2.ixN
  rw [if_pos (by decide), if_pos (by simp only [List.length_cons]; omega)]
  rfl
theorem su_l3 (x0 x1 x2 x3 : D) (xs : List D) : sbD (.lst (x0 :: x1 :: x2 :: x3 :: xs)) (.int 3) = some x3 := by
  have := su_t3 x0 x1 x2 x3 xs
  rw [sbD_eq] at this ⊢; exact this
theorem su_t4 (x0 x1 x2 x3 x4 : D) (xs : List D) : sbD (.tup (x0 :: x1 :: x2 :: x3 :: x4 :: xs)) (.int 4) = some x4 := by
  rw [su_t]
  unfold L2.ixN
  rw [if_pos (by decide), if_pos (by simp only [List.length_cons]; omega)]
  rfl
theorem su_l4 (x0 x1 x2 x3 x4 : D) (xs : List D) : sbD (.lst (x0 :: x1 :: x2 :: x3 :: x4 :: xs)) (.int 4) = some x4 := by
  have := su_t4 x0 x1 x2 x3 x4 xs
  rw [sbD_eq] at this ⊢; exact this
theorem su_t5 (x0 x1 x2 x3 x4 x5 : D) (xs : List D) : sbD (.tup (x0 :: x1 :: x2 :: x3 :: x4 :: x5 :: xs)) (.int 5) = some x5 := by
  rw [su_t]
  unfold L2.ixN
  rw [if_pos (by decide), if_pos (by simp only [List.length_cons]; omega)]
  rfl
theorem su_l5 (x0 x1 x2 x3 x4 x5 : D) (xs : List D) : sbD (.lst (x0 :: x1 :: x2 :: x3 :: x4 :: x5 :: xs)) (.int 5) = some x5 := by
  have := su_t5 x0 x1 x2 x3 x4 x5 xs
  rw [sbD_eq] at this ⊢; exact this
theorem su_t6 (x0 x1 x2 x3 x4 x5 x6 : D) (xs : List D) : sbD (.tup (x0 :: x1 :: x2 :: x3 :: x4 :: x5 :: x6 :: xs)) (.int 6) = some x6 := by
  rw [su_t]
  unfold L2.ixN
  rw [if_pos (by decide), if_pos (by simp only [List.length_cons]; omega)]
  rfl
theorem su_l6 (x0 x1 x2 x3 x4 x5 x6 : D) (xs : List D) : sbD (.lst (x0 :: x1 :: x2 :: x3 :: x4 :: x5 :: x6 :: xs)) (.int 6) = some x6 := by
  have := su_t6 x0 x1 x2 x3 x4 x5 x6 xs
  rw [sbD_eq] at this ⊢; exact this
theorem su_t7 (x0 x1 x2 x3 x4 x5 x6 x7 : D) (xs : List D) : sbD (.tup (x0 :: x1 :: x2 :: x3 :: x4 :: x5 :: x6 :: x7 :: xs)) (.int 7) = some x7 := by
  rw [su_t]
  unfold L2.ixN
  rw [if_pos (by decide), if_pos (by simp only [List.length_cons]; omega)]
  rfl
theorem su_l7 (x0 x1 x2 x3 x4 x5 x6 x7 : D) (xs : List D) : sbD (.lst (x0 :: x1 :: x2 :: x3 :: x4 :: x5 :: x6 :: x7 :: xs)) (.int 7) = some x7 := by
  have := su_t7 x0 x1 x2 x3 x4 x5 x6 x7 xs
  rw [sbD_eq] at this ⊢; exact this
theorem su_t8 (x0 x1 x2 x3 x4 x5 x6 x7 x8 : D) (xs : List D) : sbD (.tup (x0 :: x1 :: x2 :: x3 :: x4 :: x5 :: x6 :: x7 :: x8 :: xs)) (.int 8) = some x8 := by
  rw [su_t]
  unfold L2.ixN
  rw [if_pos (by decide), if_pos (by simp only [List.length_cons]; omega)]
  rfl
theorem su_l8 (x0 x1 x2 x3 x4 x5 x6 x7 x8 : D) (xs : List D) : sbD (.lst (x0 :: x1 :: x2 :: x3 :: x4 :: x5 :: x6 :: x7 :: x8 :: xs)) (.int 8) = some x8 := by
  have := su_t8 x0 x1 x2 x3 x4 x5 x6 x7 x8 xs
  rw [sbD_eq] at this ⊢; exact this
theorem su_t9 (x0 x1 x2 x3 x4 x5 x6 x7 x8 x9 : D) (xs : List D) : sbD (.tup (x0 :: x1 :: x2 :: x3 :: x4 :: x5 :: x6 :: x7 :: x8 :: x9 :: xs)) (.int 9) = some x9 := by
  rw [su_t]
  unfold L2.ixN
  rw [if_pos (by decide), if_pos (by simp only [List.length_cons]; omega)]
  rfl
theorem su_l9 (x0 x1 x2 x3 x4 x5 x6 x7 x8 x9 : D) (xs : List D) : sbD (.lst (x0 :: x1 :: x2 :: x3 :: x4 :: x5 :: x6 :: x7 :: x8 :: x9 :: xs)) (.int 9) = some x9 := by
  have := su_t9 x0 x1 x2 x3 x4 x5 x6 x7 x8 x9 xs
  rw [sbD_eq] at this ⊢; exact this
theorem ix_of {n : Nat} {i : Int} (h0 : 0 ≤ i) (h1 : i < n) : L2.ixN n i = some i.toNat := by
  unfold L2.ixN
  rw [if_pos h0, if_pos h1]
theorem su_tm {α : Type} {f : α → D} {xs : List α} {i : Nat} (h : i < xs.length) : sbD (.tup (xs.map f)) (.int (i : Int)) = some (f xs[i]) := by
  rw [su_t, ix_of (by omega) (by rw [List.length_map]; omega)]
  simp [h]
theorem su_lm {α : Type} {f : α → D} {xs : List α} {i : Nat} (h : i < xs.length) : sbD (.lst (xs.map f)) (.int (i : Int)) = some (f xs[i]) := by
  have := su_tm (f := f) h
  rw [sbD_eq] at this ⊢; exact this
theorem su_ti {α : Type} [Inhabited α] {f : α → D} {xs : List α} {i : Nat} (h : i < xs.length) : sbD (.tup (xs.map f)) (.int (i : Int)) = some (f (xs.getD i default)) := by
  rw [su_tm h, List.getD_eq_getElem?_getD, List.getElem?_eq_getElem h]; rfl
theorem su_li {α : Type} [Inhabited α] {f : α → D} {xs : List α} {i : Nat} (h : i < xs.length) : sbD (.lst (xs.map f)) (.int (i : Int)) = some (f (xs.getD i default)) := by
  have := su_ti (f := f) h
  rw [sbD_eq] at this ⊢; exact this
theorem su_tI {α : Type} [Inhabited α] {f : α → D} {xs : List α} {i : Int} (h0 : 0 ≤ i) (h : i < xs.length) : sbD (.tup (xs.map f)) (.int i) = some (f (xs.getD i.toNat default)) := by
  have := su_ti (f := f) (xs := xs) (i := i.toNat) (by omega)
  rwa [Int.toNat_of_nonneg h0] at this
theorem su_lI {α : Type} [Inhabited α] {f : α → D} {xs : List α} {i : Int} (h0 : 0 ≤ i) (h : i < xs.length) : sbD (.lst (xs.map f)) (.int i) = some (f (xs.getD i.toNat default)) := by
  have := su_tI (f := f) h0 h
  rw [sbD_eq] at this ⊢; exact this
theorem map_getD {α β : Type} [Inhabited α] (f : α → β) (xs : List α) : ((List.range xs.length).map fun i => f (xs.getD i default)) = xs.map f := by
  apply List.ext_getElem
  · simp
  · intro i h1 h2
    simp at h1 h2
    simp [h1]
theorem zip_same {α : Type} (xs : List α) : xs.zip xs = xs.map fun x => (x, x) := by
  induction xs with
  | nil => rfl
  | cons x xs ih => rw [List.zip_cons_cons, ih]; rfl
theorem filter_getD {α β : Type} [Inhabited α] (p : α → Bool) (w : α → β) (xs : List α) : (((List.range xs.length).filter fun i => p (xs.getD i default)).map fun i => w (xs.getD i default)) = (xs.filter p).map w := by
  have e : (List.range xs.length).map (fun i => xs.getD i default) = xs := by
    have := map_getD (fun x => x) xs
    simpa using this
  conv => rhs; rw [← e, List.filter_map, List.map_map]
  rfl
theorem app_int (xs : List Int) (x : Int) : xs.map D.int ++ [D.int x] = (xs ++ [x]).map D.int := by simp
theorem app_w {xs : List D} {x : D} (h : xs.length < 16777216) : mmS .append (.lst xs) [x] = some (.non, .lst (xs ++ [x])) := by
  rw [mmS_eq]; exact if_pos h
theorem ext_w {xs ys : List D} (h : xs.length + ys.length ≤ 16777216) : mmS .extend (.lst xs) [.lst ys] = some (.non, .lst (xs ++ ys)) := by
  rw [mmS_eq]; exact if_pos h
theorem addL_w {xs ys : List D} (h : xs.length + ys.length ≤ 16777216) : adD (.lst xs) (.lst ys) = some (true, .lst (xs ++ ys)) := by
  rw [adD_eq]; exact if_pos h
theorem addT_w {xs ys : List D} (h : xs.length + ys.length ≤ 16777216) : adD (.tup xs) (.tup ys) = some (false, .tup (xs ++ ys)) := by
  rw [adD_eq]; exact if_pos h
theorem su_range {α : Type} {f : α → D} {xs : List α} {i : Nat} (h : i ∈ List.range xs.length) : sbD (.tup (xs.map f)) (.int (i : Int)) = some (f (xs[i]'(List.mem_range.mp h))) := su_tm _
theorem sl_t (xs : List D) (lo hi : Option Int) : scD (.tup xs) lo hi = some (false, .tup (cutL xs lo hi)) := by
  simp only [vE_eq, vEs_eq, vO_eq, vI_eq, vT_eq, xS_eq, xSs_eq, cM_eq, itS_eq, bnD_eq, uD_eq, trD_eq, cmD_eq, sbD_eq, scD_eq, bD_eq, mD_eq, mmS_eq, agD_eq, adD_eq, suD_eq, muD_eq, fdD_eq, moD_eq, pwD_eq, slD_eq, srD_eq, eqS_eq, inS_eq] <;> rfl
theorem sl_l (xs : List D) (lo hi : Option Int) : scD (.lst xs) lo hi = some (true, .lst (cutL xs lo hi)) := by
  simp only [vE_eq, vEs_eq, vO_eq, vI_eq, vT_eq, xS_eq, xSs_eq, cM_eq, itS_eq, bnD_eq, uD_eq, trD_eq, cmD_eq, sbD_eq, scD_eq, bD_eq, mD_eq, mmS_eq, agD_eq, adD_eq, suD_eq, muD_eq, fdD_eq, moD_eq, pwD_eq, slD_eq, srD_eq, eqS_eq, inS_eq] <;> rfl
/-! built-in functions -/
theorem bi_len_l (xs : List D) : bD .len [.lst xs] = some (false, .int xs.length) := by
  simp only [vE_eq, vEs_eq, vO_eq, vI_eq, vT_eq, xS_eq, xSs_eq, cM_eq, itS_eq, bnD_eq, uD_eq, trD_eq, cmD_eq, sbD_eq, scD_eq, bD_eq, mD_eq, mmS_eq, agD_eq, adD_eq, suD_eq, muD_eq, fdD_eq, moD_eq, pwD_eq, slD_eq, srD_eq, eqS_eq, inS_eq] <;> rfl
theorem bi_len_t (xs : List D) : bD .len [.tup xs] = some (false, .int xs.length) := by
  simp only [vE_eq, vEs_eq, vO_eq, vI_eq, vT_eq, xS_eq, xSs_eq, cM_eq, itS_eq, bnD_eq, uD_eq, trD_eq, cmD_eq, sbD_eq, scD_eq, bD_eq, mD_eq, mmS_eq, agD_eq, adD_eq, suD_eq, muD_eq, fdD_eq, moD_eq, pwD_eq, slD_eq, srD_eq, eqS_eq, inS_eq] <;> rfl
theorem bi_len_d (xs : List (D × D)) : bD .len [.dct xs] = some (false, .int xs.length) := by
  simp only [vE_eq, vEs_eq, vO_eq, vI_eq, vT_eq, xS_eq, xSs_eq, cM_eq, itS_eq, bnD_eq, uD_eq, trD_eq, cmD_eq, sbD_eq, scD_eq, bD_eq, mD_eq, mmS_eq, agD_eq, adD_eq, suD_eq, muD_eq, fdD_eq, moD_eq, pwD_eq, slD_eq, srD_eq, eqS_eq, inS_eq] <;> rfl
theorem bi_sum (xs : List D) : bD .sum [.lst xs] = (intsOf xs).map fun ns => (false, .int ns.sum) := by
  simp only [vE_eq, vEs_eq, vO_eq, vI_eq, vT_eq, xS_eq, xSs_eq, cM_eq, itS_eq, bnD_eq, uD_eq, trD_eq, cmD_eq, sbD_eq, scD_eq, bD_eq, mD_eq, mmS_eq, agD_eq, adD_eq, suD_eq, muD_eq, fdD_eq, moD_eq, pwD_eq, slD_eq, srD_eq, eqS_eq, inS_eq] <;> rfl
theorem bi_all (xs : List D) : bD .all [.lst xs] = (blsOf xs).map fun bs => (false, .bl (bs.all id)) := by
  simp only [vE_eq, vEs_eq, vO_eq, vI_eq, vT_eq, xS_eq, xSs_eq, cM_eq, itS_eq, bnD_eq, uD_eq, trD_eq, cmD_eq, sbD_eq, scD_eq, bD_eq, mD_eq, mmS_eq, agD_eq, adD_eq, suD_eq, muD_eq, fdD_eq, moD_eq, pwD_eq, slD_eq, srD_eq, eqS_eq, inS_eq] <;> rfl
theorem bi_any (xs : List D) : bD .any [.lst xs] = (blsOf xs).map fun bs => (false, .bl (bs.any id)) := by
  simp only [vE_eq, vEs_eq, vO_eq, vI_eq, vT_eq, xS_eq, xSs_eq, cM_eq, itS_eq, bnD_eq, uD_eq, trD_eq, cmD_eq, sbD_eq, scD_eq, bD_eq, mD_eq, mmS_eq, agD_eq, adD_eq, suD_eq, muD_eq, fdD_eq, moD_eq, pwD_eq, slD_eq, srD_eq, eqS_eq, inS_eq] <;> rfl
theorem bi_max_l (xs : List D) : bD .max [.lst xs] = (intsOf xs).bind fun ns => (maxL ns).map fun m => (false, .int m) := by
  simp only [vE_eq, vEs_eq, vO_eq, vI_eq, vT_eq, xS_eq, xSs_eq, cM_eq, itS_eq, bnD_eq, uD_eq, trD_eq, cmD_eq, sbD_eq, scD_eq, bD_eq, mD_eq, mmS_eq, agD_eq, adD_eq, suD_eq, muD_eq, fdD_eq, moD_eq, pwD_eq, slD_eq, srD_eq, eqS_eq, inS_eq] <;> rfl
theorem bi_min_l (xs : List D) : bD .min [.lst xs] = (intsOf xs).bind fun ns => (minL ns).map fun m => (false, .int m) := by
  simp only [vE_eq, vEs_eq, vO_eq, vI_eq, vT_eq, xS_eq, xSs_eq, cM_eq, itS_eq, bnD_eq, uD_eq, trD_eq, cmD_eq, sbD_eq, scD_eq, bD_eq, mD_eq, mmS_eq, agD_eq, adD_eq, suD_eq, muD_eq, fdD_eq, moD_eq, pwD_eq, slD_eq, srD_eq, eqS_eq, inS_eq] <;> rfl
theorem bi_max_t (xs : List D) : bD .max [.tup xs] = (intsOf xs).bind fun ns => (maxL ns).map fun m => (false, .int m) := by
  simp only [vE_eq, vEs_eq, vO_eq, vI_eq, vT_eq, xS_eq, xSs_eq, cM_eq, itS_eq, bnD_eq, uD_eq, trD_eq, cmD_eq, sbD_eq, scD_eq, bD_eq, mD_eq, mmS_eq, agD_eq, adD_eq, suD_eq, muD_eq, fdD_eq, moD_eq, pwD_eq, slD_eq, srD_eq, eqS_eq, inS_eq] <;> rfl
theorem bi_min_t (xs : List D) : bD .min [.tup xs] = (intsOf xs).bind fun ns => (minL ns).map fun m => (false, .int m) := by
  simp only [vE_eq, vEs_eq, vO_eq, vI_eq, vT_eq, xS_eq, xSs_eq, cM_eq, itS_eq, bnD_eq, uD_eq, trD_eq, cmD_eq, sbD_eq, scD_eq, bD_eq, mD_eq, mmS_eq, agD_eq, adD_eq, suD_eq, muD_eq, fdD_eq, moD_eq, pwD_eq, slD_eq, srD_eq, eqS_eq, inS_eq] <;> rfl
theorem bi_int_i (i : Int) : bD .int [.int i] = some (false, .int i) := by
  simp only [vE_eq, vEs_eq, vO_eq, vI_eq, vT_eq, xS_eq, xSs_eq, cM_eq, itS_eq, bnD_eq, uD_eq, trD_eq, cmD_eq, sbD_eq, scD_eq, bD_eq, mD_eq, mmS_eq, agD_eq, adD_eq, suD_eq, muD_eq, fdD_eq, moD_eq, pwD_eq, slD_eq, srD_eq, eqS_eq, inS_eq] <;> rfl
theorem bi_int_b (b : Bool) : bD .int [.bl b] = some (false, .int (if b then 1 else 0)) := by
  simp only [vE_eq, vEs_eq, vO_eq, vI_eq, vT_eq, xS_eq, xSs_eq, cM_eq, itS_eq, bnD_eq, uD_eq, trD_eq, cmD_eq, sbD_eq, scD_eq, bD_eq, mD_eq, mmS_eq, agD_eq, adD_eq, suD_eq, muD_eq, fdD_eq, moD_eq, pwD_eq, slD_eq, srD_eq, eqS_eq, inS_eq] <;> rfl
theorem bi_bool_i (i : Int) : bD .bool [.int i] = some (false, .bl (i != 0)) := by
  simp only [vE_eq, vEs_eq, vO_eq, vI_eq, vT_eq, xS_eq, xSs_eq, cM_eq, itS_eq, bnD_eq, uD_eq, trD_eq, cmD_eq, sbD_eq, scD_eq, bD_eq, mD_eq, mmS_eq, agD_eq, adD_eq, suD_eq, muD_eq, fdD_eq, moD_eq, pwD_eq, slD_eq, srD_eq, eqS_eq, inS_eq] <;> rfl
theorem bi_tup_l (xs : List D) : bD .tuple [.lst xs] = some (false, .tup xs) := by
  simp only [vE_eq, vEs_eq, vO_eq, vI_eq, vT_eq, xS_eq, xSs_eq, cM_eq, itS_eq, bnD_eq, uD_eq, trD_eq, cmD_eq, sbD_eq, scD_eq, bD_eq, mD_eq, mmS_eq, agD_eq, adD_eq, suD_eq, muD_eq, fdD_eq, moD_eq, pwD_eq, slD_eq, srD_eq, eqS_eq, inS_eq] <;> rfl
theorem bi_tup_t (xs : List D) : bD .tuple [.tup xs] = some (false, .tup xs) := by
  simp only [vE_eq, vEs_eq, vO_eq, vI_eq, vT_eq, xS_eq, xSs_eq, cM_eq, itS_eq, bnD_eq, uD_eq, trD_eq, cmD_eq, sbD_eq, scD_eq, bD_eq, mD_eq, mmS_eq, agD_eq, adD_eq, suD_eq, muD_eq, fdD_eq, moD_eq, pwD_eq, slD_eq, srD_eq, eqS_eq, inS_eq] <;> rfl
theorem bi_lst_l (xs : List D) : bD .list [.lst xs] = some (true, .lst xs) := by
  simp only [vE_eq, vEs_eq, vO_eq, vI_eq, vT_eq, xS_eq, xSs_eq, cM_eq, itS_eq, bnD_eq, uD_eq, trD_eq, cmD_eq, sbD_eq, scD_eq, bD_eq, mD_eq, mmS_eq, agD_eq, adD_eq, suD_eq, muD_eq, fdD_eq, moD_eq, pwD_eq, slD_eq, srD_eq, eqS_eq, inS_eq] <;> rfl
theorem bi_lst_t (xs : List D) : bD .list [.tup xs] = some (true, .lst xs) := by
  simp only [vE_eq, vEs_eq, vO_eq, vI_eq, vT_eq, xS_eq, xSs_eq, cM_eq, itS_eq, bnD_eq, uD_eq, trD_eq, cmD_eq, sbD_eq, scD_eq, bD_eq, mD_eq, mmS_eq, agD_eq, adD_eq, suD_eq, muD_eq, fdD_eq, moD_eq, pwD_eq, slD_eq, srD_eq, eqS_eq, inS_eq] <;> rfl
theorem bi_sort_l (xs : List D) : bD .sorted [.lst xs] = (intsOf xs).map fun ns => (true, .lst ((sortI ns).map .int)) := by
  simp only [vE_eq, vEs_eq, vO_eq, vI_eq, vT_eq, xS_eq, xSs_eq, cM_eq, itS_eq, bnD_eq, uD_eq, trD_eq, cmD_eq, sbD_eq, scD_eq, bD_eq, mD_eq, mmS_eq, agD_eq, adD_eq, suD_eq, muD_eq, fdD_eq, moD_eq, pwD_eq, slD_eq, srD_eq, eqS_eq, inS_eq] <;> rfl
theorem bi_sort_d (kvs : List (D × D)) : bD .sorted [.dct kvs] = (intsOf (kvs.map (·.1))).bind fun ns => if ns.length < 64 then some (true, .lst ((sortI ns).map .int)) else none := by
  simp only [vE_eq, vEs_eq, vO_eq, vI_eq, vT_eq, xS_eq, xSs_eq, cM_eq, itS_eq, bnD_eq, uD_eq, trD_eq, cmD_eq, sbD_eq, scD_eq, bD_eq, mD_eq, mmS_eq, agD_eq, adD_eq, suD_eq, muD_eq, fdD_eq, moD_eq, pwD_eq, slD_eq, srD_eq, eqS_eq, inS_eq] <;> rfl
theorem bi_dict (xs : List D) : bD .dict [.lst xs] = (pairsOf xs).map fun ps => (true, .dct (foldK [] ps)) := by
  simp only [vE_eq, vEs_eq, vO_eq, vI_eq, vT_eq, xS_eq, xSs_eq, cM_eq, itS_eq, bnD_eq, uD_eq, trD_eq, cmD_eq, sbD_eq, scD_eq, bD_eq, mD_eq, mmS_eq, agD_eq, adD_eq, suD_eq, muD_eq, fdD_eq, moD_eq, pwD_eq, slD_eq, srD_eq, eqS_eq, inS_eq] <;> rfl
theorem ix_hit (x y : D) (r : List D) (h : eqF y x = true) : idxF x (y :: r) = some 0 := by
  show (if eqF y x = true then some 0 else _) = _
  rw [if_pos h]
theorem ix_miss (x y : D) (r : List D) (h : eqF y x = false) : idxF x (y :: r) = (idxF x r).map (· + 1) := by
  show (if eqF y x = true then some 0 else _) = _
  rw [if_neg (by rw [h]; decide)]
/-! methods -/
theorem mt_ix (xs : List D) (x : D) : mD .index (.lst xs) [x] = if flatD x && xs.all flatD then (idxF x xs).map fun (k : Nat) => (false, D.int (k : Int)) else none := by
  simp only [vE_eq, vEs_eq, vO_eq, vI_eq, vT_eq, xS_eq, xSs_eq, cM_eq, itS_eq, bnD_eq, uD_eq, trD_eq, cmD_eq, sbD_eq, scD_eq, bD_eq, mD_eq, mmS_eq, agD_eq, adD_eq, suD_eq, muD_eq, fdD_eq, moD_eq, pwD_eq, slD_eq, srD_eq, eqS_eq, inS_eq] <;> rfl
theorem mt_ct (xs : List D) (x : D) : mD .count (.lst xs) [x] = if flatD x && xs.all flatD then some (false, .int (xs.countP fun y => eqF y x)) else none := by
  simp only [vE_eq, vEs_eq, vO_eq, vI_eq, vT_eq, xS_eq, xSs_eq, cM_eq, itS_eq, bnD_eq, uD_eq, trD_eq, cmD_eq, sbD_eq, scD_eq, bD_eq, mD_eq, mmS_eq, agD_eq, adD_eq, suD_eq, muD_eq, fdD_eq, moD_eq, pwD_eq, slD_eq, srD_eq, eqS_eq, inS_eq] <;> rfl
theorem ty_ix (xs : List D) : mtTy .index (.lst xs) = true := (rfl)
theorem ty_ct (xs : List D) : mtTy .count (.lst xs) = true := (rfl)
theorem mm_ap (xs : List D) (x : D) : mmS .append (.lst xs) [x] = if xs.length < lim then some (.non, .lst (xs ++ [x])) else none := by
  simp only [vE_eq, vEs_eq, vO_eq, vI_eq, vT_eq, xS_eq, xSs_eq, cM_eq, itS_eq, bnD_eq, uD_eq, trD_eq, cmD_eq, sbD_eq, scD_eq, bD_eq, mD_eq, mmS_eq, agD_eq, adD_eq, suD_eq, muD_eq, fdD_eq, moD_eq, pwD_eq, slD_eq, srD_eq, eqS_eq, inS_eq] <;> rfl
theorem mm_ex (xs ys : List D) : mmS .extend (.lst xs) [.lst ys] = if xs.length + ys.length ≤ lim then some (.non, .lst (xs ++ ys)) else none := by
  simp only [vE_eq, vEs_eq, vO_eq, vI_eq, vT_eq, xS_eq, xSs_eq, cM_eq, itS_eq, bnD_eq, uD_eq, trD_eq, cmD_eq, sbD_eq, scD_eq, bD_eq, mD_eq, mmS_eq, agD_eq, adD_eq, suD_eq, muD_eq, fdD_eq, moD_eq, pwD_eq, slD_eq, srD_eq, eqS_eq, inS_eq] <;> rfl
theorem mm_pop (xs : List D) : mmS .pop (.lst xs) [] = xs.getLast?.map fun x => (x, .lst xs.dropLast) := by
  simp only [vE_eq, vEs_eq, vO_eq, vI_eq, vT_eq, xS_eq, xSs_eq, cM_eq, itS_eq, bnD_eq, uD_eq, trD_eq, cmD_eq, sbD_eq, scD_eq, bD_eq, mD_eq, mmS_eq, agD_eq, adD_eq, suD_eq, muD_eq, fdD_eq, moD_eq, pwD_eq, slD_eq, srD_eq, eqS_eq, inS_eq] <;> rfl
theorem mm_rev (xs : List D) : mmS .reverse (.lst xs) [] = some (.non, .lst xs.reverse) := by
  simp only [vE_eq, vEs_eq, vO_eq, vI_eq, vT_eq, xS_eq, xSs_eq, cM_eq, itS_eq, bnD_eq, uD_eq, trD_eq, cmD_eq, sbD_eq, scD_eq, bD_eq, mD_eq, mmS_eq, agD_eq, adD_eq, suD_eq, muD_eq, fdD_eq, moD_eq, pwD_eq, slD_eq, srD_eq, eqS_eq, inS_eq] <;> rfl
theorem aug_add (i j : Int) : agD .Add i (.int j) = some (.int (i + j)) := by
  simp only [vE_eq, vEs_eq, vO_eq, vI_eq, vT_eq, xS_eq, xSs_eq, cM_eq, itS_eq, bnD_eq, uD_eq, trD_eq, cmD_eq, sbD_eq, scD_eq, bD_eq, mD_eq, mmS_eq, agD_eq, adD_eq, suD_eq, muD_eq, fdD_eq, moD_eq, pwD_eq, slD_eq, srD_eq, eqS_eq, inS_eq] <;> rfl
theorem aug_sub (i j : Int) : agD .Sub i (.int j) = some (.int (i - j)) := by
  simp only [vE_eq, vEs_eq, vO_eq, vI_eq, vT_eq, xS_eq, xSs_eq, cM_eq, itS_eq, bnD_eq, uD_eq, trD_eq, cmD_eq, sbD_eq, scD_eq, bD_eq, mD_eq, mmS_eq, agD_eq, adD_eq, suD_eq, muD_eq, fdD_eq, moD_eq, pwD_eq, slD_eq, srD_eq, eqS_eq, inS_eq] <;> rfl
theorem aug_mul {i j : Int} (h1 : -18446744073709551616 < i) (h2 : i < 18446744073709551616) : agD .Mult i (.int j) = some (.int (i * j)) := by
  rw [agD_eq]; exact if_pos (mulOk_l _ (sml_of h1 h2))
theorem aug_mul' {i j : Int} (h1 : -18446744073709551616 < j) (h2 : j < 18446744073709551616) : agD .Mult i (.int j) = some (.int (i * j)) := by
  rw [agD_eq]; exact if_pos (mulOk_r _ (sml_of h1 h2))
theorem aug_div {i j : Int} (h1 : 0 < j) (h2 : j < 1073741824) : agD .FloorDiv i (.int j) = some (.int (i / j)) := by
  rw [agD_eq]; exact if_pos (by rw [decide_eq_true h1, decide_eq_true h2]; rfl)
theorem aug_shr {i j : Int} (h1 : 0 ≤ j) : agD .RShift i (.int j) = some (.int (i / 2 ^ j.toNat)) := by
  rw [agD_eq]; exact if_pos (decide_eq_true h1)
theorem aug_and (i j : Int) : agD .BitAnd i (.int j) = some (.int (Builtin.bitAnd i j)) := by rw [agD_eq]; rfl
theorem aug_or (i j : Int) : agD .BitOr i (.int j) = some (.int (Builtin.bitOr i j)) := by rw [agD_eq]; rfl
theorem aug_xor (i j : Int) : agD .BitXor i (.int j) = some (.int (Builtin.bitXor i j)) := by rw [agD_eq]; rfl
theorem bi_lst_d (kvs : List (D × D)) : bD .list [.dct kvs] = some (true, .lst (kvs.map (·.1))) := by rw [bD_eq]; rfl
theorem hb_len : hotBi .len = true := (rfl)
theorem hb_int : hotBi .int = true := (rfl)
theorem hb_repr : hotBi .repr = true := (rfl)
theorem tp_nm (i : Nat) : tgTp (.nm i) = false := (rfl)
theorem tp_tp (ts : List Tgt) : tgTp (.tp ts) = true := (rfl)
theorem no_int (i : Int) : noMut (.int i) = true := (rfl)
theorem no_bl (i : Bool) : noMut (.bl i) = true := (rfl)
theorem no_non : noMut .non = true := (rfl)
theorem no_str (i : Str) : noMut (.str i) = true := (rfl)
theorem no_tup (xs : List D) : noMut (.tup xs) = noMuts xs := by rw [noMut]
theorem nos_nil : noMuts [] = true := (rfl)
theorem nos_cons (x : D) (xs : List D) : noMuts (x :: xs) = (noMut x && noMuts xs) := by rw [noMuts]
theorem nos_map {α : Type} (f : α → D) (xs : List α) (h : ∀ x, noMut (f x) = true) : noMuts (xs.map f) = true := by
  induction xs with
  | nil => rfl
  | cons x xs ih => rw [List.map_cons, nos_cons, h, ih]; rfl
theorem nos_ints (xs : List Int) : noMuts (xs.map D.int) = true := nos_map _ _ fun _ => rfl
theorem elems_l (xs : List D) : elemsOk (.lst xs) = noMuts xs := (rfl)
theorem elems_non : elemsOk .non = true := (rfl)
theorem lim_eq : lim = 16777216 := (rfl)
theorem okSl_non : okSl .non = true := (rfl)
theorem okSl_val (d : D) : okSl (.val d) = !isExc d := (rfl)
theorem okSl_own (d : D) : okSl (.own d) = true := (rfl)
theorem free_eq (δ : Dst) (i : Nat) : free δ i = match δ[i]? with
  | some (.lock _) => false
  | none => false
  | _ => true := (rfl)
/-! ### two ways in one -/
theorem mg_ok (p : Prop) [Decidable p] (a b : Opd) (δ : Dst) : (if p then some (Rs.ok a δ) else some (Rs.ok b δ)) = some (Rs.ok (if p then a else b) δ) := by split <;> rfl
theorem mg_t (p : Prop) [Decidable p] (o : Bool) (a b : D) : (if p then Opd.t o a else Opd.t o b) = Opd.t o (if p then a else b) := by split <;> rfl
theorem mg_int (p : Prop) [Decidable p] (a b : Int) : (if p then D.int a else D.int b) = D.int (if p then a else b) := by split <;> rfl
theorem mg_bl (p : Prop) [Decidable p] (a b : Bool) : (if p then D.bl a else D.bl b) = D.bl (if p then a else b) := by split <;> rfl
theorem mg_str (p : Prop) [Decidable p] (a b : Str) : (if p then D.str a else D.str b) = D.str (if p then a else b) := by split <;> rfl
theorem mg_lst (p : Prop) [Decidable p] (a b : List D) : (if p then D.lst a else D.lst b) = D.lst (if p then a else b) := by split <;> rfl
theorem mg_tup (p : Prop) [Decidable p] (a b : List D) : (if p then D.tup a else D.tup b) = D.tup (if p then a else b) := by split <;> rfl
theorem mg_map {α : Type} (p : Prop) [Decidable p] (f : α → D) (a b : List α) : (if p then a.map f else b.map f) = (if p then a else b).map f := by split <;> rfl
theorem mg_opt {α : Type} (p : Prop) [Decidable p] (a b : α) : (if p then some a else some b) = some (if p then a else b) := by split <;> rfl
theorem mg_res (p : Prop) [Decidable p] (o : Bool) (a b : D) (l : List D) : (if p then some (Res.ok o a l) else some (Res.ok o b l)) = some (Res.ok o (if p then a else b) l) := by split <;> rfl
theorem mg_optD (p : Prop) [Decidable p] (a b : D) : (if p then some a else some b) = some (if p then a else b) := by split <;> rfl
theorem bl_id (b : Bool) : decide (b = true) = b := by cases b <;> rfl
theorem bl_and1 (p : Prop) [Decidable p] (b : Bool) : (if p then b else decide p) = (decide p && b) := by by_cases h : p <;> simp [h]
theorem bl_and2 (p : Prop) [Decidable p] (b : Bool) : (if p then b else false) = (decide p && b) := by by_cases h : p <;> simp [h]
theorem bl_or1 (p : Prop) [Decidable p] (b : Bool) : (if p then decide p else b) = (decide p || b) := by by_cases h : p <;> simp [h]
theorem bl_or2 (p : Prop) [Decidable p] (b : Bool) : (if p then true else b) = (decide p || b) := by by_cases h : p <;> simp [h]
theorem b_not (b : Bool) : ((!b) = true) = ¬ (b = true) := by cases b <;> simp
theorem b_false (b : Bool) : (b = false) = ¬ (b = true) := by cases b <;> simp
theorem bl_and3 (a b : Bool) : (if a = true then b else a) = (a && b) := by cases a <;> rfl
theorem bl_or3 (a b : Bool) : (if a = true then a else b) = (a || b) := by cases a <;> rfl
theorem all_id {α : Type} (f : α → Bool) (xs : List α) : (xs.map f).all id = xs.all f := by rw [List.all_map]; rfl
theorem any_id {α : Type} (f : α → Bool) (xs : List α) : (xs.map f).any id = xs.any f := by rw [List.any_map]; rfl
theorem pow_one_mul (x : Int) : 1 * x = x := Int.one_mul x
/-! ### statements, one by one -/
theorem step_ex {c : Cx} {s : Stm} {ss : List Stm} {δ : Dst} (Q : Option (Rs Fl) → Prop) (P : Dst → Prop) (h : ∃ δ', xS c s δ = some (.ok .nx δ') ∧ P δ') (k : ∀ δ', P δ' → Q (xSs c ss δ')) : Q (xSs c (s :: ss) δ) := by
  obtain ⟨δ', e, p⟩ := h
  rw [exs_cons, ap_bind, e]
  exact k δ' p
theorem step_eq {c : Cx} {s : Stm} {ss : List Stm} {δ δ' : Dst} (h : xS c s δ = some (.ok .nx δ')) : xSs c (s :: ss) δ = xSs c ss δ' := by
  rw [exs_cons, ap_bind, h]
/-! ### dict([(k, True) ..]) -/
theorem pairsOf_map {α : Type} (f : α → Int) (g : α → D) (xs : List α) : pairsOf (xs.map fun x => .tup [.int (f x), g x]) = some (xs.map fun x => (.int (f x), g x)) := by
  induction xs with
  | nil => rfl
  | cons x xs ih =>
    show (if keyD (.int (f x)) = true then (pairsOf (xs.map fun x => .tup [.int (f x), g x])).map ((.int (f x), g x) :: ·) else none) = _
    rw [if_pos (show keyD (.int (f x)) = true from rfl), ih]; rfl
theorem foldK_true (v : D) : ∀ (ks us : List Int), us.Nodup → ∃ ws : List Int, foldK (us.map fun k => (.int k, v)) (ks.map fun k => (.int k, v)) = ws.map (fun k => (.int k, v)) ∧ ws.Nodup ∧ (∀ x, x ∈ ws ↔ x ∈ us ∨ x ∈ ks) ∧ ws.length ≤ us.length + ks.length
  | [], us, h => ⟨us, rfl, h, by simp, by simp⟩
  | k :: ks, us, h => by
    have e1 : (us.map fun k => ((.int k, v) : D × D)).any (fun p => eqK p.1 (.int k)) = decide (k ∈ us) := by
      rw [List.any_map]
      induction us with
      | nil => rfl
      | cons u us ih =>
        rw [List.any_cons, ih (List.nodup_cons.mp h).2]
        show (decide (u = k) || decide (k ∈ us)) = _
        by_cases q : k = u
        · simp [q]
        · have : ¬ u = k := fun e => q e.symm
          simp [q, this]
    have e2 : putKD (us.map fun k => (.int k, v)) (.int k) v = (if k ∈ us then us else us ++ [k]).map fun k => ((.int k, v) : D × D) := by
      unfold putKD
      rw [e1]
      by_cases q : k ∈ us
      · rw [if_pos (decide_eq_true q), if_pos q, List.map_map]
        refine List.map_congr_left fun u _ => ?_
        show (if eqK (.int u) (.int k) = true then (D.int u, v) else (D.int u, v)) = _
        split <;> rfl
      · rw [if_neg (by rw [decide_eq_false q]; decide), if_neg q, List.map_append]; rfl
    have hn : (if k ∈ us then us else us ++ [k]).Nodup := by
      split
      · exact h
      · rename_i q
        rw [List.nodup_append]
        refine ⟨h, by simp, fun a ha b hb e => ?_⟩
        rw [List.mem_singleton] at hb
        subst hb; subst e
        exact q ha
    obtain ⟨ws, w1, w2, w3, w4⟩ := foldK_true v ks _ hn
    refine ⟨ws, ?_, w2, fun x => ?_, ?_⟩
    · show foldK (putKD (us.map fun k => (.int k, v)) (.int k) v) (ks.map fun k => (.int k, v)) = _
      rw [e2, w1]
    · rw [w3, List.mem_cons]
      by_cases q : k ∈ us
      · rw [if_pos q]
        constructor
        · rintro (a | a)
          · exact .inl a
          · exact .inr (.inr a)
        · rintro (a | a | a)
          · exact .inl a
          · subst a; exact .inl q
          · exact .inr a
      · rw [if_neg q, List.mem_append, List.mem_singleton]
        constructor
        · rintro ((a | a) | a)
          · exact .inl a
          · exact .inr (.inl a)
          · exact .inr (.inr a)
        · rintro (a | a | a)
          · exact .inl (.inl a)
          · exact .inl (.inr a)
          · exact .inr a
    · have : (if k ∈ us then us else us ++ [k]).length ≤ us.length + 1 := by split <;> simp
      rw [List.length_cons]
      omega
theorem sortI_asc {ws : List Int} (h : ws.Nodup) : (sortI ws).Pairwise (· < ·) ∧ (∀ x, x ∈ sortI ws ↔ x ∈ ws) ∧ (sortI ws).length = ws.length := by
  have p : (sortI ws).Perm ws := List.mergeSort_perm ws _
  have s : (sortI ws).Pairwise (fun a b => decide (a ≤ b) = true) := List.pairwise_mergeSort (fun a b c h1 h2 => by simp at *; omega) (fun a b => by simp; omega) ws
  have n : (sortI ws).Nodup := p.nodup_iff.mpr h
  refine ⟨?_, fun x => p.mem_iff, p.length_eq⟩
  have := s.and n
  refine this.imp fun ⟨h1, h2⟩ => ?_
  simp at h1
  omega
/-- sorted(dict([(k, True) ..])) -/
theorem sort_dict {ks : List Int} (v : D) (h : ks.length < 64) : ∃ rs : List Int, bD .sorted [.dct (foldK [] (ks.map fun k => (.int k, v)))] = some (true, .lst (rs.map .int)) ∧ rs.Pairwise (· < ·) ∧ (∀ x, x ∈ rs ↔ x ∈ ks) ∧ rs.length ≤ ks.length := by
  obtain ⟨ws, w1, w2, w3, w4⟩ := foldK_true v ks [] List.nodup_nil
  obtain ⟨s1, s2, s3⟩ := sortI_asc w2
  simp at w4
  have w1 : foldK [] (ks.map fun k => (.int k, v)) = ws.map (fun k => (.int k, v)) := w1
  refine ⟨sortI ws, ?_, s1, fun x => by rw [s2, w3]; simp, by omega⟩
  rw [w1, bi_sort_d, List.map_map]
  have : (ws.map ((fun x : D × D => x.1) ∘ fun k => (.int k, v))) = ws.map D.int := rfl
  rw [this, intsOf_ints]
  show (if ws.length < 64 then _ else none) = _
  rw [if_pos (by omega)]
/-! ### repr and == of things of one shape -/
/-- it can be shown in so many signs -/
structure Sm (b k : Nat) (d : D) : Prop where
  p : ∃ p, toP d = some p ∧ p.showable = true ∧ p.canLay0 = true ∧ p.depth ≤ k ∧ p.shown.length ≤ b
def shw (d : D) : Str := match toP d with | some p => p.shown | none => ""
theorem repr_eq {b k : Nat} {d : D} (h : Sm b k d) (hb : b ≤ 16777216) (hk : k ≤ 64) : bD .repr [d] = some (false, .str (shw d)) := by
  obtain ⟨p, e, h1, h2, h3, h4⟩ := h.p
  rw [bD_eq]
  show (match toP d with
    | some d => if d.showable && decide (d.depth ≤ 64) && decide (d.shown.length ≤ lim) then some (false, D.str d.shown) else none
    | none => none) = _
  unfold shw
  rw [e]
  show (if (p.showable && decide (p.depth ≤ 64) && decide (p.shown.length ≤ lim)) = true then some (false, D.str p.shown) else none) = _
  rw [if_pos (by rw [h1, decide_eq_true (show p.depth ≤ 64 by omega), decide_eq_true (show p.shown.length ≤ lim by rw [lim_eq]; omega)]; rfl)]
theorem Sm.mono {b b' k k' : Nat} {d : D} (h : Sm b k d) (hb : b ≤ b') (hk : k ≤ k') : Sm b' k' d := by
  obtain ⟨p, e, h1, h2, h3, h4⟩ := h.p
  exact ⟨p, e, h1, h2, by omega, by omega⟩
theorem eq_same {b k : Nat} {d : D} (h : Sm b k d) (hk : k ≤ 64) : eqS d d = some true := by
  obtain ⟨p, e, h1, h2, h3, h4⟩ := h.p
  have sh : SeqAt.shaped p = true := by
    show (p.canLay0 && decide (p.depth ≤ 64)) = true
    rw [h2, decide_eq_true (show p.depth ≤ 64 by omega)]; rfl
  have g : (match toP d, toP d with
    | some d, some e => if SeqAt.shaped d && SeqAt.shaped e then some (PyData.eqv d e) else none
    | _, _ => none) = some true := by
    rw [e]
    show (if (SeqAt.shaped p && SeqAt.shaped p) = true then some (PyData.eqv p p) else none) = _
    rw [sh, SeqAt.eqv_refl p h2]; rfl
  cases d with
  | int i => rw [eq_ii, decide_eq_true rfl]
  | bl i => rw [eq_bb, decide_eq_true rfl]
  | str i => rw [eq_ss, decide_eq_true rfl]
  | non => rw [eqS_eq]; rfl
  | _ => rw [eqS_eq]; exact g
theorem ten_two {k : Nat} (hk : k ≤ 570) {i : Int} (h : i.natAbs < 10 ^ k) : i.natAbs.log2 < 1920 := by
  by_cases h0 : i.natAbs = 0
  · rw [h0]; decide
  · rw [Nat.log2_lt h0]
    have h1 : 10 ^ k ≤ 10 ^ 570 := Nat.pow_le_pow_right (by decide) hk
    have h2 : 10 ^ 570 ≤ 2 ^ 1920 := by decide +kernel
    omega
theorem Sm_int {i : Int} (k : Nat) (hk : 0 < k) (hk2 : k ≤ 570) (h : i.natAbs < 10 ^ k) : Sm (k + 1) 0 (.int i) := by
  refine ⟨.int i, rfl, ?_, rfl, Nat.le_refl _, ?_⟩
  · show decide (i.natAbs.log2 < 1920) = true
    rw [decide_eq_true (ten_two hk2 h)]
  · show (Str.ofString (toString i)).length ≤ _
    rw [ofString_length]
    exact int_text_length_le10 hk h
theorem Sm_bl (b : Bool) : Sm 5 0 (.bl b) := by
  refine ⟨.bool b, rfl, rfl, rfl, Nat.le_refl _, ?_⟩
  cases b <;> decide
theorem Sm_non : Sm 4 0 .non := ⟨.none, rfl, rfl, rfl, Nat.le_refl _, by decide⟩
theorem Sm_str (x : Str) (h : (PyData.canLay0 (.str x) && decide ((PyData.shown (.str x)).length ≤ 60)) = true) : Sm 60 0 (.str x) := by
  simp only [Bool.and_eq_true, decide_eq_true_eq] at h
  exact ⟨.str x, rfl, rfl, h.1, Nat.le_refl _, h.2⟩
theorem Sms {b k : Nat} : ∀ {xs : List D}, (∀ x ∈ xs, Sm b k x) → ∃ ps, toPs xs = some ps ∧ PyData.showableAll ps = true ∧ PyData.canLayAll0 ps = true ∧ PyData.depthAll ps ≤ k ∧ ((PyData.shownAll ps).map (·.length)).sum ≤ xs.length * b ∧ (PyData.shownAll ps).length = xs.length
  | [], _ => ⟨[], by rw [toPs], rfl, rfl, Nat.zero_le _, by simp [PyData.shownAll], rfl⟩
  | x :: xs, h => by
    obtain ⟨p, e, h1, h2, h3, h4⟩ := (h x (by simp)).p
    obtain ⟨ps, es, g1, g2, g3, g4, g5⟩ := Sms (fun y hy => h y (List.mem_cons_of_mem _ hy))
    refine ⟨p :: ps, by rw [toPs, e, es], by rw [PyData.showableAll, h1, g1]; rfl, by rw [PyData.canLayAll0, h2, g2]; rfl, ?_, ?_, ?_⟩
    · rw [PyData.depthAll]; omega
    · rw [PyData.shownAll, List.map_cons, List.sum_cons, List.length_cons, Nat.add_mul]; omega
    · rw [PyData.shownAll, List.length_cons, g5, List.length_cons]
theorem Sm_tup {b k : Nat} {xs : List D} (h : ∀ x ∈ xs, Sm b k x) : Sm (xs.length * (b + 2) + 3) (k + 1) (.tup xs) := by
  obtain ⟨ps, es, g1, g2, g3, g4, g5⟩ := Sms h
  refine ⟨.tuple ps, by rw [toP, es], by rw [PyData.showable, g1], by rw [PyData.canLay0, g2], by rw [PyData.depth]; omega, ?_⟩
  rw [PyData.shown]
  have := tupleText_len_le (PyData.shownAll ps)
  rw [g5] at this
  rw [Nat.mul_add]
  omega
theorem Sm_lst {b k : Nat} {xs : List D} (h : ∀ x ∈ xs, Sm b k x) : Sm (xs.length * (b + 2) + 3) (k + 1) (.lst xs) := by
  obtain ⟨ps, es, g1, g2, g3, g4, g5⟩ := Sms h
  refine ⟨.list ps, by rw [toP, es], by rw [PyData.showable, g1], by rw [PyData.canLay0, g2], by rw [PyData.depth]; omega, ?_⟩
  rw [PyData.shown]
  have := listText_len_le (PyData.shownAll ps)
  rw [g5] at this
  rw [Nat.mul_add]
  omega
end Ex

set_option Elab.async false
set_option linter.all false
set_option maxRecDepth 100000
/-! Part Y: more loops; things that can be shown and compared. -/
namespace Ex
open PySem Ev
theorem turns_range {body : D → M Fl} {m : Nat} (I : Nat → Dst → Prop)
    (hb : ∀ i δ, i < m → I i δ → ∃ δ', body (D.int (i : Int)) δ = some (.ok .nx δ') ∧ I (i + 1) δ') {δ : Dst} (h0 : I 0 δ) :
    ∃ δ', turns body ((List.range m).map fun (i : Nat) => D.int (i : Int)) δ = some (.ok .nx δ') ∧ I m δ' := by
  have L := turns_inv (body := body) (fun (i : Nat) => D.int (i : Int)) (xs := List.range m) (fun pre δ => I pre.length δ) (fun pre x post δ e h => by
    have hx : x = pre.length := by
      have h1 : (List.range m)[pre.length]? = some x := by rw [e]; simp
      rw [List.getElem?_range (by
        have := congrArg List.length e
        simp at this
        omega)] at h1
      exact (Option.some.inj h1).symm
    have hl : pre.length < m := by
      have := congrArg List.length e
      simp at this
      omega
    obtain ⟨δ', h1, h2⟩ := hb _ δ hl h
    rw [hx]
    exact ⟨δ', h1, by rw [List.length_append]; exact h2⟩) h0
  rwa [List.length_range] at L
/-- a loop that may return, always the same -/
theorem turns_ret {α : Type} {body : D → M Fl} (enc : α → D) (p : α → Bool) (o : Bool) (d : D) (I J : Dst → Prop) : ∀ (xs : List α)
    (_ : ∀ x ∈ xs, ∀ δ, I δ → if p x = true then ∃ δ', body (enc x) δ = some (.ok (.rt o d) δ') ∧ J δ' else ∃ δ', body (enc x) δ = some (.ok .nx δ') ∧ I δ') {δ : Dst} (_ : I δ),
    if xs.any p = true then ∃ δ', turns body (xs.map enc) δ = some (.ok (.rt o d) δ') ∧ J δ' else ∃ δ', turns body (xs.map enc) δ = some (.ok .nx δ') ∧ I δ'
  | [], _, δ, h => ⟨δ, rfl, h⟩
  | x :: xs, hb, δ, h => by
    have h1 := hb x (by simp) δ h
    rw [List.any_cons, List.map_cons, turns_cons, ap_bind]
    by_cases q : p x = true
    · rw [if_pos q] at h1
      obtain ⟨δ', e, hJ⟩ := h1
      rw [q, e]
      exact ⟨δ', rfl, hJ⟩
    · rw [if_neg q] at h1
      obtain ⟨δ', e, hI⟩ := h1
      have := turns_ret enc p o d I J xs (fun y hy => hb y (List.mem_cons_of_mem _ hy)) hI
      rw [e]
      have q' : p x = false := by simpa using q
      rw [q', Bool.false_or]
      exact this
/-- the same, over range -/
theorem turns_rangeR {body : D → M Fl} {m : Nat} (p : Nat → Bool) (o : Bool) (d : D) (I : Nat → Dst → Prop) (J : Dst → Prop)
    (hb : ∀ i δ, i < m → I i δ → if p i = true then ∃ δ', body (D.int (i : Int)) δ = some (.ok (.rt o d) δ') ∧ J δ' else ∃ δ', body (D.int (i : Int)) δ = some (.ok .nx δ') ∧ I (i + 1) δ') {δ : Dst} (h0 : I 0 δ) :
    if (List.range m).any p = true then ∃ δ', turns body ((List.range m).map fun (i : Nat) => D.int (i : Int)) δ = some (.ok (.rt o d) δ') ∧ J δ' else ∃ δ', turns body ((List.range m).map fun (i : Nat) => D.int (i : Int)) δ = some (.ok .nx δ') ∧ I m δ' := by
  have main : ∀ j i, i + j = m → ∀ δ, I i δ → if ((List.range' i j).any p) = true then ∃ δ', turns body ((List.range' i j).map fun (i : Nat) => D.int (i : Int)) δ = some (.ok (.rt o d) δ') ∧ J δ' else ∃ δ', turns body ((List.range' i j).map fun (i : Nat) => D.int (i : Int)) δ = some (.ok .nx δ') ∧ I m δ' := by
    intro j
    induction j with
    | zero => intro i hi δ h; rw [Nat.add_zero] at hi; subst hi; exact ⟨δ, rfl, h⟩
    | succ j ih =>
      intro i hi δ h
      have h1 := hb i δ (by omega) h
      rw [List.range'_succ, List.any_cons, List.map_cons, turns_cons, ap_bind]
      by_cases q : p i = true
      · rw [if_pos q] at h1
        obtain ⟨δ', e, hJ⟩ := h1
        rw [q, e]
        exact ⟨δ', rfl, hJ⟩
      · rw [if_neg q] at h1
        obtain ⟨δ', e, hI⟩ := h1
        have q' : p i = false := by simpa using q
        rw [e, q', Bool.false_or]
        exact ih (i + 1) (by omega) δ' hI
  rw [List.range_eq_range']
  exact main m 0 (by omega) δ h0
/-! ### what is shown -/
def lvW : Nat → Nat
  | 0 => 25
  | k + 1 => 64 * (lvW k + 2) + 3
/-- of so many levels, not too long -/
def Lv (k : Nat) (d : D) : Prop := k ≤ 3 ∧ Sm (lvW k) k d
theorem lvW_mono {k k' : Nat} (h : k ≤ k') : lvW k ≤ lvW k' := by
  induction h with
  | refl => exact Nat.le_refl _
  | step h ih => exact Nat.le_trans ih (by show _ ≤ 64 * (lvW _ + 2) + 3; omega)
theorem Lv.up {k k' : Nat} {d : D} (h : Lv k d) (h1 : k ≤ k') (h2 : k' ≤ 3) : Lv k' d := ⟨h2, h.2.mono (lvW_mono h1) h1⟩
theorem lv_int {k : Nat} {i : Int} (hk : k ≤ 3) (h0 : -1000000000000000000000000 < i) (h : i < 1000000000000000000000000) : Lv k (.int i) := by
  have z : Lv 0 (.int i) := ⟨by decide, (Sm_int 24 (by decide) (by decide) (by omega) : Sm 25 0 (.int i))⟩
  exact z.up (Nat.zero_le k) hk
theorem lv_bl {k : Nat} {b : Bool} (hk : k ≤ 3) : Lv k (.bl b) := by
  have z : Lv 0 (.bl b) := ⟨by decide, (Sm_bl b).mono (by decide) (by decide)⟩
  exact z.up (Nat.zero_le k) hk
theorem lv_non {k : Nat} (hk : k ≤ 3) : Lv k .non := by
  have z : Lv 0 .non := ⟨by decide, Sm_non.mono (by decide) (by decide)⟩
  exact z.up (Nat.zero_le k) hk
theorem lv_str {k : Nat} {x : Str} (hk : k ≤ 3) (h : (PyData.canLay0 (.str x) && decide ((PyData.shown (.str x)).length ≤ 25)) = true) : Lv k (.str x) := by
  simp only [Bool.and_eq_true, decide_eq_true_eq] at h
  have z : Lv 0 (.str x) := ⟨by decide, ⟨.str x, rfl, rfl, h.1, Nat.le_refl _, h.2⟩⟩
  exact z.up (Nat.zero_le k) hk
theorem lv_tup {k : Nat} {xs : List D} (hk : k + 1 ≤ 3) (hl : xs.length ≤ 64) (h : ∀ x ∈ xs, Lv k x) : Lv (k + 1) (.tup xs) := by
  refine ⟨hk, (Sm_tup (b := lvW k) fun x hx => (h x hx).2).mono ?_ (Nat.le_refl _)⟩
  have := Nat.mul_le_mul_right (lvW k + 2) hl
  show _ ≤ 64 * (lvW k + 2) + 3
  omega
theorem lv_lst {k : Nat} {xs : List D} (hk : k + 1 ≤ 3) (hl : xs.length ≤ 64) (h : ∀ x ∈ xs, Lv k x) : Lv (k + 1) (.lst xs) := by
  refine ⟨hk, (Sm_lst (b := lvW k) fun x hx => (h x hx).2).mono ?_ (Nat.le_refl _)⟩
  have := Nat.mul_le_mul_right (lvW k + 2) hl
  show _ ≤ 64 * (lvW k + 2) + 3
  omega
theorem repr_lv {d : D} (h : Lv 3 d) : bD .repr [d] = some (false, .str (shw d)) := repr_eq h.2 (by decide) (by decide)
theorem eq_lv {d : D} (h : Lv 3 d) : eqS d d = some true := eq_same h.2 (by decide)
/-! ### data without truth values: == is = -/
mutual
def pur : Nat → D → Bool
  | _, .non => true
  | _, .int _ => true
  | _, .str x => PyData.canLay0 (.str x)
  | 0, .tup _ => false
  | 0, .lst _ => false
  | k + 1, .tup xs => purs k xs
  | k + 1, .lst xs => purs k xs
  | _, _ => false
def purs : Nat → List D → Bool
  | _, [] => true
  | k, x :: xs => pur k x && purs k xs
end
theorem purs_of {k : Nat} : ∀ {xs : List D}, (∀ x ∈ xs, pur k x = true) → purs k xs = true
  | [], _ => by rw [purs]
  | x :: xs, h => by rw [purs, h x (by simp), purs_of fun y hy => h y (List.mem_cons_of_mem _ hy)]; rfl
theorem purs_map {α : Type} {k : Nat} (f : α → D) (h : ∀ a, pur k (f a) = true) (xs : List α) : purs k (xs.map f) = true := purs_of fun x hx => by
  obtain ⟨a, _, rfl⟩ := List.mem_map.mp hx
  exact h a
theorem pur_int (k : Nat) (i : Int) : pur k (.int i) = true := by cases k <;> rw [pur]
theorem pur_non (k : Nat) : pur k .non = true := by cases k <;> rw [pur]
theorem pur_tup (k : Nat) (xs : List D) : pur (k + 1) (.tup xs) = purs k xs := by rw [pur]
theorem pur_lst (k : Nat) (xs : List D) : pur (k + 1) (.lst xs) = purs k xs := by rw [pur]
theorem pur_nil (k : Nat) : purs k [] = true := by rw [purs]
theorem pur_cons (k : Nat) (x : D) (xs : List D) : purs k (x :: xs) = (pur k x && purs k xs) := by rw [purs]
mutual
theorem toP_pur : ∀ (k : Nat) (d : D), pur k d = true → ∃ p, toP d = some p ∧ p.canLay0 = true ∧ p.depth ≤ k
  | k, .non, _ => ⟨.none, rfl, rfl, Nat.zero_le _⟩
  | k, .int i, _ => ⟨.int i, rfl, rfl, Nat.zero_le _⟩
  | k, .str x, h => ⟨.str x, rfl, by cases k <;> (rw [pur] at h; exact h), Nat.zero_le _⟩
  | 0, .tup xs, h => by rw [pur] at h; cases h
  | 0, .lst xs, h => by rw [pur] at h; cases h
  | k + 1, .tup xs, h => by
    rw [pur] at h
    obtain ⟨ps, e, h1, h2⟩ := toPs_pur k xs h
    exact ⟨.tuple ps, by rw [toP, e], by rw [PyData.canLay0, h1], by rw [PyData.depth]; omega⟩
  | k + 1, .lst xs, h => by
    rw [pur] at h
    obtain ⟨ps, e, h1, h2⟩ := toPs_pur k xs h
    exact ⟨.list ps, by rw [toP, e], by rw [PyData.canLay0, h1], by rw [PyData.depth]; omega⟩
  | k, .bl _, h => by cases k <;> (rw [pur] at h <;> first | cases h | (intros; contradiction))
  | k, .ro _, h => by cases k <;> (rw [pur] at h <;> first | cases h | (intros; contradiction))
  | k, .dct _, h => by cases k <;> (rw [pur] at h <;> first | cases h | (intros; contradiction))
  | k, .fn _, h => by cases k <;> (rw [pur] at h <;> first | cases h | (intros; contradiction))
  | k, .cls _, h => by cases k <;> (rw [pur] at h <;> first | cases h | (intros; contradiction))
  | k, .exc _ _, h => by cases k <;> (rw [pur] at h <;> first | cases h | (intros; contradiction))
  | k, .ty _, h => by cases k <;> (rw [pur] at h <;> first | cases h | (intros; contradiction))
theorem toPs_pur : ∀ (k : Nat) (xs : List D), purs k xs = true → ∃ ps, toPs xs = some ps ∧ PyData.canLayAll0 ps = true ∧ PyData.depthAll ps ≤ k
  | k, [], _ => ⟨[], by rw [toPs], rfl, Nat.zero_le _⟩
  | k, x :: xs, h => by
    rw [purs, Bool.and_eq_true] at h
    obtain ⟨p, e, h1, h2⟩ := toP_pur k x h.1
    obtain ⟨ps, es, g1, g2⟩ := toPs_pur k xs h.2
    exact ⟨p :: ps, by rw [toPs, e, es], by rw [PyData.canLayAll0, h1, g1]; rfl, by rw [PyData.depthAll]; omega⟩
end
/-- tags -/
def tg : D → Nat
  | .non => 0 | .bl _ => 1 | .int _ => 2 | .str _ => 3 | .tup _ => 4 | .lst _ => 5 | _ => 6
theorem toP_tup {xs : List D} {p : PyData} (h : toP (.tup xs) = some p) : ∃ ps, toPs xs = some ps ∧ p = .tuple ps := by
  rw [toP] at h
  split at h
  · cases h; exact ⟨_, by assumption, rfl⟩
  · cases h
theorem toP_lst {xs : List D} {p : PyData} (h : toP (.lst xs) = some p) : ∃ ps, toPs xs = some ps ∧ p = .list ps := by
  rw [toP] at h
  split at h
  · cases h; exact ⟨_, by assumption, rfl⟩
  · cases h
theorem toPs_cons {x : D} {xs : List D} {qs : List PyData} (h : toPs (x :: xs) = some qs) : ∃ p ps, toP x = some p ∧ toPs xs = some ps ∧ qs = p :: ps := by
  rw [toPs] at h
  split at h
  · cases h; exact ⟨_, _, by assumption, by assumption, rfl⟩
  · cases h
inductive PX5 : D → PyData → Prop where
  | non : PX5 .non .none
  | int (i : Int) : PX5 (.int i) (.int i)
  | str (x : Str) : PX5 (.str x) (.str x)
  | tup (xs : List D) (ps : List PyData) (k : Nat) (h : purs k xs = true) (e : toPs xs = some ps) : PX5 (.tup xs) (.tuple ps)
  | lst (xs : List D) (ps : List PyData) (k : Nat) (h : purs k xs = true) (e : toPs xs = some ps) : PX5 (.lst xs) (.list ps)
theorem px5 {x : D} {k : Nat} {p : PyData} (h : pur k x = true) (e : toP x = some p) : PX5 x p := by
  cases x with
  | non => cases e; exact .non
  | int i => cases e; exact .int i
  | str i => cases e; exact .str i
  | tup xs =>
    cases k with
    | zero => rw [pur] at h; cases h
    | succ k =>
      rw [pur] at h
      obtain ⟨ps, e1, rfl⟩ := toP_tup e
      exact .tup xs ps k h e1
  | lst xs =>
    cases k with
    | zero => rw [pur] at h; cases h
    | succ k =>
      rw [pur] at h
      obtain ⟨ps, e1, rfl⟩ := toP_lst e
      exact .lst xs ps k h e1
  | bl b => cases k <;> (simp [pur] at h)
  | _ => cases e
mutual
theorem eqv_pur : ∀ (x y : D) {k j : Nat} {p q : PyData}, pur k x = true → pur j y = true → toP x = some p → toP y = some q → (PyData.eqv p q = true ↔ x = y)
  | .tup xs, y, k, j, p, q, hx, hy, ex, ey => by
    have := px5 hx ex
    cases this with
    | tup _ ps k h e =>
      cases px5 hy ey with
      | tup ys qs j h2 e2 =>
        rw [PyData.eqv, eqv_purs xs ys h h2 e e2]
        simp
      | _ => simp [PyData.eqv]
  | .lst xs, y, k, j, p, q, hx, hy, ex, ey => by
    have := px5 hx ex
    cases this with
    | lst _ ps k h e =>
      cases px5 hy ey with
      | lst ys qs j h2 e2 =>
        rw [PyData.eqv, eqv_purs xs ys h h2 e e2]
        simp
      | _ => simp [PyData.eqv]
  | .non, y, k, j, p, q, hx, hy, ex, ey => by
    cases px5 hx ex; cases px5 hy ey <;> simp [PyData.eqv]
  | .int i, y, k, j, p, q, hx, hy, ex, ey => by
    cases px5 hx ex; cases px5 hy ey <;> simp [PyData.eqv]
  | .str i, y, k, j, p, q, hx, hy, ex, ey => by
    cases px5 hx ex; cases px5 hy ey <;> simp [PyData.eqv]
  | .bl b, y, k, j, p, q, hx, hy, ex, ey => nomatch px5 hx ex
  | .ro b, y, k, j, p, q, hx, hy, ex, ey => nomatch px5 hx ex
  | .dct b, y, k, j, p, q, hx, hy, ex, ey => nomatch px5 hx ex
  | .fn b, y, k, j, p, q, hx, hy, ex, ey => nomatch px5 hx ex
  | .cls b, y, k, j, p, q, hx, hy, ex, ey => nomatch px5 hx ex
  | .exc b _, y, k, j, p, q, hx, hy, ex, ey => nomatch px5 hx ex
  | .ty b, y, k, j, p, q, hx, hy, ex, ey => nomatch px5 hx ex
theorem eqv_purs : ∀ (xs ys : List D) {k j : Nat} {ps qs : List PyData}, purs k xs = true → purs j ys = true → toPs xs = some ps → toPs ys = some qs → (PyData.eqvAll ps qs = true ↔ xs = ys)
  | [], ys, k, j, ps, qs, hx, hy, ex, ey => by
    rw [toPs] at ex; cases ex
    cases ys with
    | nil => rw [toPs] at ey; cases ey; simp [PyData.eqvAll]
    | cons y ys => obtain ⟨q, qs, _, _, rfl⟩ := toPs_cons ey; simp [PyData.eqvAll]
  | x :: xs, ys, k, j, ps, qs, hx, hy, ex, ey => by
    obtain ⟨p, ps, e1, e2, rfl⟩ := toPs_cons ex
    rw [purs, Bool.and_eq_true] at hx
    cases ys with
    | nil => rw [toPs] at ey; cases ey; simp [PyData.eqvAll]
    | cons y ys =>
      obtain ⟨q, qs, g1, g2, rfl⟩ := toPs_cons ey
      rw [purs, Bool.and_eq_true] at hy
      rw [PyData.eqvAll, Bool.and_eq_true, eqv_pur x y hx.1 hy.1 e1 g1, eqv_purs xs ys hx.2 hy.2 e2 g2]
      simp
end
noncomputable def eqP (x y : D) : Bool := @decide (x = y) (Classical.propDecidable _)
theorem eqP_iff {x y : D} : eqP x y = true ↔ x = y := by unfold eqP; simp
theorem eqP_ne {x y : D} (h : ¬ x = y) : eqP x y = false := by unfold eqP; simp [h]
theorem eqP_rfl (x : D) : eqP x x = true := eqP_iff.mpr rfl
theorem eqP_enc {α : Type} [DecidableEq α] {f : α → D} (hi : ∀ a b, f a = f b → a = b) (a b : α) : eqP (f a) (f b) = decide (a = b) := by
  by_cases h : a = b
  · subst h; rw [eqP_rfl]; simp
  · rw [eqP_ne fun e => h (hi a b e)]; simp [h]
/-- == -/
theorem eq_pur {x y : D} (hx : pur 64 x = true) (hy : pur 64 y = true) : eqS x y = some (eqP x y) := by
  obtain ⟨p, e1, c1, d1⟩ := toP_pur 64 x hx
  obtain ⟨q, e2, c2, d2⟩ := toP_pur 64 y hy
  have s1 : SeqAt.shaped p = true := by show (p.canLay0 && decide (p.depth ≤ 64)) = true; rw [c1, decide_eq_true d1]; rfl
  have s2 : SeqAt.shaped q = true := by show (q.canLay0 && decide (q.depth ≤ 64)) = true; rw [c2, decide_eq_true d2]; rfl
  have g : (match toP x, toP y with
    | some d, some e => if SeqAt.shaped d && SeqAt.shaped e then some (PyData.eqv d e) else none
    | _, _ => none) = some (eqP x y) := by
    rw [e1, e2]
    show (if (SeqAt.shaped p && SeqAt.shaped q) = true then some (PyData.eqv p q) else none) = _
    rw [s1, s2]
    show some _ = _
    congr 1
    rw [Bool.eq_iff_iff, eqv_pur x y hx hy e1 e2, eqP_iff]
  have at_ : ∀ i j : Int, eqP (.int i) (.int j) = decide (i = j) := eqP_enc (f := D.int) fun a b e => by cases e; rfl
  have as_ : ∀ i j : Str, eqP (.str i) (.str j) = decide (i = j) := eqP_enc (f := D.str) fun a b e => by cases e; rfl
  cases px5 hx e1 <;> cases px5 hy e2 <;> first
    | (rw [eq_ii, at_]; done)
    | (rw [eq_ss, as_]; done)
    | (rw [eqS_eq, eqP_rfl]; rfl; done)
    | (rw [eqS_eq]; exact g)
theorem any_pur {x : D} {k j : Nat} {p : PyData} (hx : pur k x = true) (ex : toP x = some p) : ∀ {ys : List D} {qs : List PyData}, purs j ys = true → toPs ys = some qs → (qs.any fun z => PyData.eqv z p) = ys.any fun y => eqP y x
  | [], qs, _, e => by rw [toPs] at e; cases e; rfl
  | y :: ys, qs, h, e => by
    obtain ⟨q, qs, g1, g2, rfl⟩ := toPs_cons e
    rw [purs, Bool.and_eq_true] at h
    rw [List.any_cons, List.any_cons, any_pur hx ex h.2 g2]
    congr 1
    rw [Bool.eq_iff_iff, eqv_pur y x h.1 hx g1 ex, eqP_iff]
theorem eqF_pur {x y : D} {k j : Nat} (hx : pur k x = true) (hy : pur j y = true) (fx : flatD x = true) (fy : flatD y = true) : eqF y x = eqP y x := by
  rw [Bool.eq_iff_iff, eqP_iff]
  cases x <;> cases y <;> first | (cases fx; done) | (cases fy; done) | (cases k <;> simp [pur] at hx; done) | (cases j <;> simp [pur] at hy; done) | (simp [eqF])
/-- in a list -/
theorem in_pur {x : D} {ys : List D} (hx : pur 63 x = true) (hy : purs 63 ys = true) : ilS x ys = some (ys.any fun y => eqP y x) := by
  obtain ⟨p, e1, c1, d1⟩ := toP_pur 63 x hx
  obtain ⟨qs, e2, c2, d2⟩ := toPs_pur 63 ys hy
  rw [ilS_eq]
  unfold Ev.inL
  split
  · rename_i h
    rw [Bool.and_eq_true, List.all_eq_true] at h
    congr 1
    clear e2 c2 d2 qs
    induction ys with
    | nil => rfl
    | cons y ys ih =>
      rw [purs, Bool.and_eq_true] at hy
      rw [List.any_cons, List.any_cons, ih hy.2 ⟨h.1, fun z hz => h.2 z (List.mem_cons_of_mem _ hz)⟩, eqF_pur hx hy.1 h.1 (h.2 y (by simp))]
  · have s1 : SeqAt.shaped p = true := by show (p.canLay0 && decide (p.depth ≤ 64)) = true; rw [c1, decide_eq_true (by omega)]; rfl
    have s2 : SeqAt.shaped (.list qs) = true := by
      show (PyData.canLay0 (.list qs) && decide (PyData.depth (.list qs) ≤ 64)) = true
      rw [PyData.canLay0, PyData.depth, c2, decide_eq_true (by omega)]; rfl
    rw [e1, e2]
    show (if (SeqAt.shaped p && SeqAt.shaped (.list qs)) = true then some (qs.any fun z => PyData.eqv z p) else none) = _
    rw [s1, s2, any_pur hx e1 hy e2]
    rfl
theorem in_enc {α : Type} [BEq α] [LawfulBEq α] {f : α → D} (hp : ∀ a, pur 63 (f a) = true) (hi : ∀ a b, f a = f b → a = b) (x : α) (ys : List α) : ilS (f x) (ys.map f) = some (decide (x ∈ ys)) := by
  rw [in_pur (hp x) (purs_map f hp ys), List.any_map]
  congr 1
  rw [Bool.eq_iff_iff, List.any_eq_true, decide_eq_true_eq]
  constructor
  · rintro ⟨y, hy, e⟩
    have e : eqP (f y) (f x) = true := e
    rw [eqP_iff] at e
    rw [← hi y x e]; exact hy
  · intro h
    exact ⟨x, h, eqP_rfl _⟩
theorem eq_enc {α : Type} [DecidableEq α] {f : α → D} (hp : ∀ a, pur 64 (f a) = true) (hi : ∀ a b, f a = f b → a = b) (x y : α) : eqS (f x) (f y) = some (decide (x = y)) := by
  rw [eq_pur (hp x) (hp y), eqP_enc hi]
/-! slices -/
theorem cut_to {α : Type} (xs : List α) (i : Nat) : cutL xs none (some (i : Int)) = xs.take i := by
  unfold cutL
  rw [HT.sIx_none, HT.sIx_nat, List.drop_zero, Nat.sub_zero]
  rw [List.take_eq_take_iff]
  omega
theorem cut_from {α : Type} (xs : List α) (i : Nat) : cutL xs (some (i : Int)) none = xs.drop i := by
  unfold cutL
  rw [HT.sIx_none, HT.sIx_nat]
  by_cases h : i ≤ xs.length
  · rw [Nat.min_eq_left h, List.take_of_length_le (by rw [List.length_drop]; exact Nat.le_refl _)]
  · rw [Nat.min_eq_right (by omega), List.drop_eq_nil_of_le (Nat.le_refl _), List.drop_eq_nil_of_le (by omega)]; simp
theorem cut_from1 {α : Type} (xs : List α) (i : Nat) : cutL xs (some ((i : Int) + 1)) none = xs.drop (i + 1) := cut_from xs (i + 1)
theorem take_map' {α β : Type} (f : α → β) (n : Nat) (xs : List α) : (xs.map f).take n = (xs.take n).map f := by simp
theorem isExc_ite (p : Prop) [Decidable p] (a b : D) : isExc (if p then a else b) = if p then isExc a else isExc b := by split <;> rfl
def ofO : Option Int → D
  | none => .non
  | some x => .int x
theorem isExc_ofO (x : Option Int) : isExc (ofO x) = false := by cases x <;> rfl
theorem ofO_non : ofO none = .non := (rfl)
theorem ofO_some (x : Int) : ofO (some x) = .int x := (rfl)
theorem no_ofO (x : Option Int) : noMut (ofO x) = true := by cases x <;> rfl
theorem escs_mt {α : Type} {δ : Dst} (io : List Bool) (f : α → List D) (xs : List α) : escsM io (xs.map fun x => Opd.t false (.tup (f x))) δ = some (.ok (xs.map fun x => .tup (f x)) δ) := by
  have := escs_of (δ := δ) io [] (xs.map fun x => D.tup (f x)) (fun d hd => by obtain ⟨x, _, rfl⟩ := List.mem_map.mp hd; rfl)
  rw [List.append_nil, List.map_map, ap_bind] at this
  show escsM io (xs.map (Opd.t false ∘ fun x => D.tup (f x))) δ = _
  rw [this, ap_escs_nil]
  simp [M.pure]
theorem escs_mi {α : Type} {δ : Dst} (io : List Bool) (f : α → Int) (xs : List α) : escsM io (xs.map fun x => Opd.t false (.int (f x))) δ = some (.ok (xs.map fun x => .int (f x)) δ) := by
  have := escs_of (δ := δ) io [] (xs.map fun x => D.int (f x)) (fun d hd => by obtain ⟨x, _, rfl⟩ := List.mem_map.mp hd; rfl)
  rw [List.append_nil, List.map_map, ap_bind] at this
  show escsM io (xs.map (Opd.t false ∘ fun x => D.int (f x))) δ = _
  rw [this, ap_escs_nil]
  simp [M.pure]
theorem escs_mt' {α : Type} {δ : Dst} (io : List Bool) (f : α → List D) (xs : List α) (os : List Opd) : escsM io ((xs.map fun x => Opd.t false (.tup (f x))) ++ os) δ = ((escsM io os).bind fun rs => M.pure ((xs.map fun x => .tup (f x)) ++ rs)) δ := by
  have := escs_of (δ := δ) io os (xs.map fun x => D.tup (f x)) (fun d hd => by obtain ⟨x, _, rfl⟩ := List.mem_map.mp hd; rfl)
  rw [List.map_map] at this
  exact this
theorem escs_mi' {α : Type} {δ : Dst} (io : List Bool) (f : α → Int) (xs : List α) (os : List Opd) : escsM io ((xs.map fun x => Opd.t false (.int (f x))) ++ os) δ = ((escsM io os).bind fun rs => M.pure ((xs.map fun x => .int (f x)) ++ rs)) δ := by
  have := escs_of (δ := δ) io os (xs.map fun x => D.int (f x)) (fun d hd => by obtain ⟨x, _, rfl⟩ := List.mem_map.mp hd; rfl)
  rw [List.map_map] at this
  exact this
theorem nos_mapA {α : Type} (f : α → D) (xs : List α) : noMuts (xs.map f) = xs.all fun x => noMut (f x) := by
  induction xs with
  | nil => rfl
  | cons x xs ih => rw [List.map_cons, nos_cons, ih, List.all_cons]
theorem all_tt {α : Type} (xs : List α) : (xs.all fun _ => true) = true := by simp
theorem all_ff {α : Type} (xs : List α) : (xs.any fun _ => false) = false := by simp
/-! ### a call on known values, by reckoning -/
mutual
def dB : D → D → Bool
  | .non, .non => true
  | .bl a, .bl b => a == b
  | .int a, .int b => a == b
  | .str a, .str b => a == b
  | .tup a, .tup b => dBs a b
  | .lst a, .lst b => dBs a b
  | .dct a, .dct b => dBk a b
  | _, _ => false
def dBs : List D → List D → Bool
  | [], [] => true
  | a :: as, b :: bs => dB a b && dBs as bs
  | _, _ => false
def dBk : List (D × D) → List (D × D) → Bool
  | [], [] => true
  | (a, c) :: as, (b, d) :: bs => dB a b && dB c d && dBk as bs
  | _, _ => false
end
mutual
theorem dB_eq : ∀ (a b : D), dB a b = true → a = b
  | .non, b, h => by cases b <;> first | rfl | (simp [dB] at h)
  | .bl a, b, h => by cases b <;> simp_all [dB]
  | .int a, b, h => by cases b <;> simp_all [dB]
  | .str a, b, h => by cases b <;> simp_all [dB]
  | .tup a, b, h => by
    cases b with
    | tup b => rw [dB] at h; rw [dBs_eq a b h]
    | _ => simp [dB] at h
  | .lst a, b, h => by
    cases b with
    | lst b => rw [dB] at h; rw [dBs_eq a b h]
    | _ => simp [dB] at h
  | .dct a, b, h => by
    cases b with
    | dct b => rw [dB] at h; rw [dBk_eq a b h]
    | _ => simp [dB] at h
  | .ro a, b, h => by cases b <;> simp [dB] at h
  | .fn a, b, h => by cases b <;> simp [dB] at h
  | .cls a, b, h => by cases b <;> simp [dB] at h
  | .exc a c, b, h => by cases b <;> simp [dB] at h
  | .ty a, b, h => by cases b <;> simp [dB] at h
theorem dBs_eq : ∀ (a b : List D), dBs a b = true → a = b
  | [], b, h => by cases b <;> first | rfl | (simp [dBs] at h)
  | x :: xs, b, h => by
    cases b with
    | nil => simp [dBs] at h
    | cons y ys => rw [dBs, Bool.and_eq_true] at h; rw [dB_eq x y h.1, dBs_eq xs ys h.2]
theorem dBk_eq : ∀ (a b : List (D × D)), dBk a b = true → a = b
  | [], b, h => by cases b <;> first | rfl | (simp [dBk] at h)
  | (x, u) :: xs, b, h => by
    cases b with
    | nil => simp [dBk] at h
    | cons y ys => obtain ⟨y, v⟩ := y; rw [dBk, Bool.and_eq_true, Bool.and_eq_true] at h; rw [dB_eq x y h.1.1, dB_eq u v h.1.2, dBk_eq xs ys h.2]
end
def resB (r : Option Res) (o : Bool) (d : D) (outs : List D) : Bool := match r with
  | some (.ok o' d' l) => o' == o && dB d' d && dBs l outs
  | _ => false
def resE (r : Option Res) (c : Nat) : Bool := match r with
  | some (.er e) => e.cls == c && dB e.fld .non
  | _ => false
theorem conc {T : Tb} {k : Nat} {h : Bool} {g : Nat} {as : List (Bool × D)} {o : Bool} {d : D} {outs : List D} (e : resB (runT T k h g as) o d outs = true) : RT T k h g as = some (.ok o d outs) := by
  rw [RT_eq]
  unfold resB at e
  split at e
  · rename_i o' d' l q
    rw [Bool.and_eq_true, Bool.and_eq_true, beq_iff_eq] at e
    rw [q, e.1.1, dB_eq _ _ e.1.2, dBs_eq _ _ e.2]
  · cases e
theorem concE {T : Tb} {k : Nat} {h : Bool} {g : Nat} {as : List (Bool × D)} {c : Nat} (e : resE (runT T k h g as) c = true) : RT T k h g as = some (.er ⟨c, .non⟩) := by
  rw [RT_eq]
  unfold resE at e
  split at e
  · rename_i x q
    obtain ⟨c', f⟩ := x
    rw [Bool.and_eq_true, beq_iff_eq] at e
    have h2 : f = .non := dB_eq _ _ e.2
    have h1 : c' = c := e.1
    rw [q, h1, h2]
  · cases e
/-- over range; a turn may end with continue -/
theorem turns_rangeC {body : D → M Fl} {m : Nat} (I : Nat → Dst → Prop)
    (hb : ∀ i δ, i < m → I i δ → ∃ f δ', body (D.int (i : Int)) δ = some (.ok f δ') ∧ (f = .nx ∨ f = .ct) ∧ I (i + 1) δ') {δ : Dst} (h0 : I 0 δ) :
    ∃ δ', turns body ((List.range m).map fun (i : Nat) => D.int (i : Int)) δ = some (.ok .nx δ') ∧ I m δ' := by
  have main : ∀ j i, i + j = m → ∀ δ, I i δ → ∃ δ', turns body ((List.range' i j).map fun (i : Nat) => D.int (i : Int)) δ = some (.ok .nx δ') ∧ I m δ' := by
    intro j
    induction j with
    | zero => intro i hi δ h; rw [Nat.add_zero] at hi; subst hi; exact ⟨δ, rfl, h⟩
    | succ j ih =>
      intro i hi δ h
      obtain ⟨f, δ', e, hf, hI⟩ := hb i δ (by omega) h
      rw [List.range'_succ, List.map_cons, turns_cons, ap_bind, e]
      rcases hf with rfl | rfl
      · exact ih (i + 1) (by omega) δ' hI
      · exact ih (i + 1) (by omega) δ' hI
  rw [List.range_eq_range']
  exact main m 0 (by omega) δ h0
/-! known things, shown and compared -/
def reprB (d : D) : Bool := match toP d with
  | some p => p.showable && decide (p.depth ≤ 64) && decide (p.shown.length ≤ lim)
  | none => false
theorem repr_conc {d : D} (h : reprB d = true) : bD .repr [d] = some (false, .str (shw d)) := by
  rw [bD_eq]
  unfold reprB at h
  show (match toP d with
    | some d => if d.showable && decide (d.depth ≤ 64) && decide (d.shown.length ≤ lim) then some (false, D.str d.shown) else none
    | none => none) = _
  unfold shw
  cases e : toP d with
  | none => rw [e] at h; cases h
  | some p =>
    rw [e] at h
    show (if (p.showable && decide (p.depth ≤ 64) && decide (p.shown.length ≤ lim)) = true then some (false, D.str p.shown) else none) = _
    rw [if_pos h]
def shapB (d : D) : Bool := match toP d with
  | some p => SeqAt.shaped p
  | none => false
theorem eq_conc {d : D} (h : shapB d = true) : eqS d d = some true := by
  unfold shapB at h
  cases e : toP d with
  | none => rw [e] at h; cases h
  | some p =>
    rw [e] at h
    have h : SeqAt.shaped p = true := h
    have h2 : p.canLay0 = true := SeqAt.canLay_of_shaped h
    have g : (match toP d, toP d with
      | some d, some e => if SeqAt.shaped d && SeqAt.shaped e then some (PyData.eqv d e) else none
      | _, _ => none) = some true := by
      rw [e]
      show (if (SeqAt.shaped p && SeqAt.shaped p) = true then some (PyData.eqv p p) else none) = some true
      rw [h, SeqAt.eqv_refl p h2]; rfl
    cases d with
    | int i => rw [eq_ii, decide_eq_true rfl]
    | bl i => rw [eq_bb, decide_eq_true rfl]
    | str i => rw [eq_ss, decide_eq_true rfl]
    | non => rw [eqS_eq]; rfl
    | _ => rw [eqS_eq]; exact g
end Ex

set_option Elab.async false
set_option linter.all false
set_option maxRecDepth 100000
set_option pp.maxSteps 4
set_option pp.deepTerms.threshold 0
set_option pp.deepTerms false
namespace Lw
def fuel : Nat := 8192
end Lw
namespace Lw
open PySem Ev Ex L2 PyProof.Rows
def tab : List (Str × Gk) := [(("is_class" : Str), Gk.fn 0),
  (("check_class" : Str), Gk.fn 1),
  (("are_examples" : Str), Gk.fn 2),
  (("is_sample" : Str), Gk.fn 3),
  (("check_sample" : Str), Gk.fn 4),
  (("has" : Str), Gk.fn 5),
  (("fits_of" : Str), Gk.fn 6),
  (("left_of" : Str), Gk.fn 7),
  (("fits" : Str), Gk.fn 8),
  (("left" : Str), Gk.fn 9),
  (("left_some" : Str), Gk.fn 10),
  (("settled_by" : Str), Gk.fn 11),
  (("settled" : Str), Gk.fn 12),
  (("closed_sample" : Str), Gk.fn 13),
  (("is_free" : Str), Gk.fn 14),
  (("least_of" : Str), Gk.fn 15),
  (("greatest_of" : Str), Gk.fn 16),
  (("least_left" : Str), Gk.fn 17),
  (("greatest_left" : Str), Gk.fn 18),
  (("half_answer" : Str), Gk.fn 19),
  (("_law_number" : Str), Gk.fn 20),
  (("_law_draws" : Str), Gk.fn 21),
  (("_law_flat" : Str), Gk.fn 22),
  (("_law_next" : Str), Gk.fn 23),
  (("_law_more" : Str), Gk.fn 24),
  (("_law_pick" : Str), Gk.fn 25),
  (("_law_kind" : Str), Gk.fn 26),
  (("_law_power" : Str), Gk.fn 27),
  (("_law_has" : Str), Gk.fn 28),
  (("_law_class" : Str), Gk.fn 29),
  (("_law_sample" : Str), Gk.fn 30),
  (("_law_left" : Str), Gk.fn 31),
  (("_law_settled" : Str), Gk.fn 32),
  (("_law_asked" : Str), Gk.fn 33),
  (("_law_is_sample" : Str), Gk.fn 34),
  (("_law_refuses" : Str), Gk.fn 35),
  (("law" : Str), Gk.fn 36),
  (("LearnError" : Str), Gk.cls 0),
  (("NotClass" : Str), Gk.cls 1),
  (("NotSample" : Str), Gk.cls 2),
  (("NotTree" : Str), Gk.cls 3),
  (("NotPaper" : Str), Gk.cls 4),
  (("BadNumber" : Str), Gk.cls 5),
  (("NoAnswer" : Str), Gk.cls 6),
  (("TooLarge" : Str), Gk.cls 7),
  (("MOST_POINTS" : Str), Gk.cst 0),
  (("MOST_RULES" : Str), Gk.cst 1),
  (("all" : Str), Gk.bn),
  (("dict" : Str), Gk.bn),
  (("enumerate" : Str), Gk.bn),
  (("int" : Str), Gk.bn),
  (("isinstance" : Str), Gk.bn),
  (("len" : Str), Gk.bn),
  (("list" : Str), Gk.bn),
  (("range" : Str), Gk.bn),
  (("repr" : Str), Gk.bn),
  (("sorted" : Str), Gk.bn),
  (("sum" : Str), Gk.bn),
  (("tuple" : Str), Gk.bn),
  (("zip" : Str), Gk.bn)]
def glb : Str → Option Gk := fun x => tab.lookup x
def x_is_class_0 : PX := (.cmp .Lt (.var 4) (.var 5))
def x_is_class_1 : PX := (.cmp2 .LtE .Lt (.cn (.int 0)) (.var 6) (.bin .LShift (.cn (.int 1)) (.var 2)))
def x_are_examples_0 : PX := (.var 4)
def x_are_examples_1 : PX := (.cmp .Lt (.var 6) (.var 7))
def x_are_examples_2 : PX := (.andE (.cmp2 .LtE .Lt (.cn (.int 0)) (.var 4) (.var 0)) (.cmp .In (.var 8) (.tup [(.cn (.int 0)), (.cn (.int 1))])))
def x_fits_of_0 : PX := (.cmp .Eq (.call 5 [(.var 0), (.var 2)]) (.var 3))
def x_left_of_0 : PX := (.var 2)
def x_settled_by_0 : PX := (.cn (.bl true))
def f_settled_by_0 : List Stm := [.asg (.nm 4) (.dc [5] (.nm 5) 0 [(.var 1)] none (.call 5 [(.var 5), (.var 3)]) x_settled_by_0), .ifS (.cmp .Eq (.bi .len [(.var 4)]) (.cn (.int 1))) [.ex (.mm .append 2 [(.tup [(.var 3), (.sub (.bi .list [(.var 4)]) (.cn (.int 0)))])])] []]
def f_is_free_0 : List Stm := [.asg (.nm 4) (.call 7 [(.sub (.var 0) (.cn (.int 1))), (.tupS [true, true] [(.slc (.var 1) none (some (.var 2))), (.slc (.var 1) (some (.bin .Add (.var 2) (.cn (.int 1)))) none)])]), .ifS (.cmp .In (.bi .tuple [(.var 3)]) (.call 11 [(.sub (.var 0) (.cn (.int 0))), (.var 4)])) [.ret (.cn (.bl false))] []]
def f_least_of_0 : List Stm := [.aug 1 .BitAnd (.var 2)]
def f_greatest_of_0 : List Stm := [.aug 1 .BitOr (.var 2)]
def x_half_answer_0 : PX := (.call 5 [(.var 5), (.var 2)])
def f__law_draws_1 : List Stm := [.ifS (.cmp .Eq (.var 3) (.cn (.int 0))) [.brk] [], .ex (.mm .append 1 [(.bin .Mod (.bi .int [(.var 3)]) (.cn (.int 1000)))]), .asg (.nm 3) (.bin .FloorDiv (.var 3) (.cn (.int 1000)))]
def f__law_draws_0 : List Stm := [.asg (.nm 3) (.call 20 [(.var 2)]), .ifS (.cmp .GtE (.var 3) (.cn (.int 1000000000000000000))) [.forS (.nm 4) 1 [(.cn (.int 60))] f__law_draws_1] [.asg (.nm 5) (.bin .Mod (.bi .int [(.bin .Add (.bin .Mult (.var 3) (.cn (.int 48271))) (.cn (.int 11)))]) (.cn (.int 2147483647))), .asg (.nm 6) (.bin .Mod (.bi .int [(.bin .Add (.bin .Mult (.var 5) (.cn (.int 69621))) (.var 3))]) (.cn (.int 2147483629))), .ex (.mm .extend 1 [(.lst [(.bin .Mod (.bi .int [(.var 3)]) (.cn (.int 1000))), (.bin .Mod (.bi .int [(.var 5)]) (.cn (.int 1000))), (.bin .Mod (.bi .int [(.var 6)]) (.cn (.int 1000)))])])]]
def f__law_flat_0 : List Stm := [.ex (.mm .extend 1 [(.var 2)])]
def f__law_more_0 : List Stm := [.asg (.nm 2) (.bin .Mod (.bi .int [(.bin .Add (.bin .Mult (.var 2) (.cn (.int 48271))) (.cn (.int 12345)))]) (.cn (.int 2147483647))), .ex (.mm .append 3 [(.bin .Mod (.bi .int [(.bin .FloorDiv (.var 2) (.cn (.int 7)))]) (.cn (.int 1000)))])]
def f__law_power_0 : List Stm := [.asg (.nm 1) (.bin .Mult (.cn (.int 2)) (.var 1))]
def x__law_class_0 : PX := (.bin .Sub (.call 27 [(.var 7)]) (.cn (.int 1)))
def x__law_class_1 : PX := (.call 27 [(.var 7)])
def x__law_class_2 : PX := (.bin .Mod (.bi .int [(.bin .Add (.bin .Mult (.cn (.int 1000)) (.call 23 [(.var 0)])) (.call 23 [(.var 0)]))]) (.call 27 [(.var 3)]))
def x__law_class_3 : PX := (.tup [(.bin .BitXor (.var 9) (.var 5)), (.cn (.bl true))])
def f__law_sample_0 : List Stm := [.ifS (.cmp .Eq (.bin .Mod (.bi .int [(.call 23 [(.var 0)])]) (.cn (.int 3))) (.cn (.int 0))) [.ex (.mm .append 2 [(.tup [(.var 3), (.bin .Mod (.bi .int [(.call 23 [(.var 0)])]) (.cn (.int 2)))])])] []]
def x__law_left_0 : PX := (.cmp .Eq (.call 28 [(.var 2), (.var 3)]) (.var 4))
def x__law_left_1 : PX := (.var 2)
def x__law_settled_0 : PX := (.cmp .Eq (.call 28 [(.var 3), (.var 2)]) (.call 28 [(.sub (.var 1) (.cn (.int 0))), (.var 2)]))
def x__law_settled_1 : PX := (.tup [(.var 2), (.call 28 [(.sub (.var 1) (.cn (.int 0))), (.var 2)])])
def x__law_refuses_0 : PX := (.call 0 [(.var 12)])
def x__law_refuses_1 : PX := (.call 33 [(.var 10), (.var 4), (.tup [(.tup [(.cn (.int 99)), (.cn (.int 5))])]), (.cn (.int 99999))])
def x__law_refuses_3 : PX := (.call 33 [(.var 10), (.var 1), (.var 12), (.cn (.int 99999))])
def x__law_refuses_2 : PX := (.lc [12] (.nm 12) 0 [(.var 6)] none x__law_refuses_3)
def x__law_refuses_4 : PX := (.call 33 [(.cn (.int 6)), (.var 1), (.tup []), (.var 13)])
def x__law_refuses_5 : PX := (.call 33 [(.cn (.int 7)), (.var 1), (.tup []), (.var 14)])
def x__law_refuses_6 : PX := (.call 34 [(.var 11), (.tup [])])
def x__law_refuses_7 : PX := (.call 34 [(.var 8), (.var 12)])
def x_law_0 : PX := (.call 33 [(.var 19), (.var 4), (.var 8), (.var 17)])
def x_law_1 : PX := (.cmp .NotIn (.sub (.var 8) (.var 18)) (.call 32 [(.var 6), (.call 31 [(.var 7), (.bin .Add (.slc (.var 8) none (some (.var 18))) (.slc (.var 8) (some (.bin .Add (.var 18) (.cn (.int 1)))) none))])]))
def x_law_2 : PX := (.cmp .Eq (.bin .BitAnd (.var 16) (.var 20)) (.var 16))
def x_law_3 : PX := (.var 16)
def x_law_4 : PX := (.cmp .Eq (.bin .BitOr (.var 16) (.var 20)) (.var 16))
def x_law_5 : PX := (.var 16)
def x_law_6 : PX := (.var 16)
def x_law_7 : PX := (.call 33 [(.var 19), (.var 4), (.var 8), (.var 17)])
def f_law_0 : List Stm := [.asg (.nm 8) (.call 30 [(.var 1), (.var 6)]), .asg (.nm 9) (.call 31 [(.var 7), (.var 8)]), .ifS (.cmp .NotEq (.bi .repr [(.lst [(.call 0 [(.var 4)]), (.call 34 [(.var 6), (.var 8)]), (.call 33 [(.cn (.int 0)), (.var 4), (.var 8), (.cn .non)])])]) (.bi .repr [(.lst [(.cn (.bl true)), (.cn (.bl true)), (.bi .tuple [(.var 9)])])])) [.ret (.cn (.bl false))] [], .par [16, 17] [(.bin .Mod (.bi .int [(.bin .Add (.bin .Mult (.cn (.int 1000)) (.call 23 [(.var 1)])) (.call 23 [(.var 1)]))]) (.call 27 [(.var 6)])), (.bin .Mod (.bi .int [(.call 23 [(.var 1)])]) (.var 6))], .ifS (.cmp .NotEq (.bi .repr [(.call 33 [(.cn (.int 7)), (.var 4), (.var 8), (.var 16)])]) (.bi .repr [(.cmp .Eq (.bi .len [(.call 31 [(.lst [(.var 16)]), (.var 8)])]) (.cn (.int 1)))])) [.ret (.cn (.bl false))] [], .ifS (.nt (.var 9)) [.ifS (.cmp .NotEq (.lc [19] (.nm 19) 1 [(.cn (.int 1)), (.cn (.int 7))] none x_law_0) (.bin .Add (.bin .Add (.bin .Mult (.lst [(.cn (.str "!none"))]) (.cn (.int 3))) (.bin .Mult (.lst [(.cn .non)]) (.cn (.int 2)))) (.lst [(.cn (.str "!none"))]))) [.ret (.cn (.bl false))] [], .cnt] [], .asg (.nm 10) (.call 32 [(.var 6), (.var 9)]), .asg (.nm 11) (.bi .all [(.lc [18] (.nm 18) 1 [(.bi .len [(.var 8)])] none x_law_1)]), .asg (.nm 12) (.lc [16] (.nm 16) 0 [(.var 9)] (some (.bi .all [(.lc [20] (.nm 20) 0 [(.var 9)] none x_law_2)])) x_law_3), .asg (.nm 13) (.lc [16] (.nm 16) 0 [(.var 9)] (some (.bi .all [(.lc [20] (.nm 20) 0 [(.var 9)] none x_law_4)])) x_law_5), .asg (.nm 14) (.bi .len [(.lc [16] (.nm 16) 0 [(.var 9)] (some (.cmp .Eq (.call 28 [(.var 16), (.var 17)]) (.cn (.int 1)))) x_law_6)]), .asg (.nm 15) (.lst [(.var 10), (.bi .tuple [(.var 10)]), (.var 11), (.ite (.var 12) (.sub (.var 12) (.cn (.int 0))) (.cn .non)), (.ite (.var 13) (.sub (.var 13) (.cn (.int 0))) (.cn .non)), (.ite (.cmp .Eq (.bin .Mult (.cn (.int 2)) (.var 14)) (.bi .len [(.var 9)])) (.cn .non) (.bi .int [(.cmp .Gt (.bin .Mult (.cn (.int 2)) (.var 14)) (.bi .len [(.var 9)]))]))]), .ifS (.cmp .NotEq (.bi .repr [(.lc [19] (.nm 19) 1 [(.cn (.int 1)), (.cn (.int 7))] none x_law_7)]) (.bi .repr [(.var 15)])) [.ret (.cn (.bl false))] []]
/-- is_class: 0=some 1=rises 2=n 3=rules 4=one 5=other 6=rule -/
def b_is_class : List Stm := [.asg (.tp [(.nm 2), (.nm 3)]) (.var 0), .ifS (.orE (.nt (.cmp2 .LtE .LtE (.cn (.int 1)) (.var 2) (.glob 0))) (.nt (.cmp2 .LtE .LtE (.cn (.int 1)) (.bi .len [(.var 3)]) (.glob 1)))) [.ret (.cn (.bl false))] [], .asg (.nm 1) (.bi .all [(.lc [4, 5] (.tp [(.nm 4), (.nm 5)]) 3 [(.var 3), (.slc (.var 3) (some (.cn (.int 1))) none)] none x_is_class_0)]), .ret (.andE (.var 1) (.bi .all [(.lc [6] (.nm 6) 0 [(.var 3)] none x_is_class_1)]))]
def d0 : Def := ⟨7, 1, [false], b_is_class⟩
/-- check_class: 0=some -/
def b_check_class : List Stm := [.ifS (.nt (.call 0 [(.var 0)])) [.raise 1] []]
def d1 : Def := ⟨1, 1, [false], b_check_class⟩
/-- are_examples: 0=n 1=sample 2=points 3=rises 4=point 5=_ 6=one 7=other 8=answer -/
def b_are_examples : List Stm := [.asg (.nm 2) (.lc [4, 5] (.tp [(.nm 4), (.nm 5)]) 0 [(.var 1)] none x_are_examples_0), .asg (.nm 3) (.bi .all [(.lc [6, 7] (.tp [(.nm 6), (.nm 7)]) 3 [(.var 2), (.slc (.var 2) (some (.cn (.int 1))) none)] none x_are_examples_1)]), .ret (.andE (.var 3) (.bi .all [(.lc [4, 8] (.tp [(.nm 4), (.nm 8)]) 0 [(.var 1)] none x_are_examples_2)]))]
def d2 : Def := ⟨9, 2, [false, false], b_are_examples⟩
/-- is_sample: 0=n 1=sample -/
def b_is_sample : List Stm := [.ifS (.nt (.cmp2 .LtE .LtE (.cn (.int 1)) (.var 0) (.glob 0))) [.raise 5] [], .ret (.call 2 [(.var 0), (.var 1)])]
def d3 : Def := ⟨2, 2, [false, false], b_is_sample⟩
/-- check_sample: 0=some 1=sample -/
def b_check_sample : List Stm := [.ex (.call 1 [(.var 0)]), .ifS (.nt (.call 2 [(.sub (.var 0) (.cn (.int 0))), (.var 1)])) [.raise 2] []]
def d4 : Def := ⟨2, 2, [false, false], b_check_sample⟩
/-- has: 0=rule 1=point -/
def b_has : List Stm := [.ret (.bin .Mod (.bin .RShift (.var 0) (.var 1)) (.cn (.int 2)))]
def d5 : Def := ⟨2, 2, [false, false], b_has⟩
/-- fits_of: 0=rule 1=sample 2=point 3=answer -/
def b_fits_of : List Stm := [.ret (.bi .all [(.lc [2, 3] (.tp [(.nm 2), (.nm 3)]) 0 [(.var 1)] none x_fits_of_0)])]
def d6 : Def := ⟨4, 2, [false, false], b_fits_of⟩
/-- left_of: 0=rules 1=sample 2=rule -/
def b_left_of : List Stm := [.ret (.lc [2] (.nm 2) 0 [(.var 0)] (some (.call 6 [(.var 2), (.var 1)])) x_left_of_0)]
def d7 : Def := ⟨3, 2, [false, false], b_left_of⟩
/-- fits: 0=some 1=rule 2=sample -/
def b_fits : List Stm := [.ex (.call 4 [(.var 0), (.var 2)]), .ifS (.nt (.cmp2 .LtE .Lt (.cn (.int 0)) (.var 1) (.bin .LShift (.cn (.int 1)) (.sub (.var 0) (.cn (.int 0)))))) [.raise 5] [], .ret (.call 6 [(.var 1), (.var 2)])]
def d8 : Def := ⟨3, 3, [false, false, false], b_fits⟩
/-- left: 0=some 1=sample -/
def b_left : List Stm := [.ex (.call 4 [(.var 0), (.var 1)]), .ret (.bi .tuple [(.call 7 [(.sub (.var 0) (.cn (.int 1))), (.var 1)])])]
def d9 : Def := ⟨2, 2, [false, false], b_left⟩
/-- left_some: 0=some 1=sample 2=found -/
def b_left_some : List Stm := [.ex (.call 4 [(.var 0), (.var 1)]), .asg (.nm 2) (.call 7 [(.sub (.var 0) (.cn (.int 1))), (.var 1)]), .ifS (.nt (.var 2)) [.raise 6] [], .ret (.var 2)]
def d10 : Def := ⟨3, 2, [false, false], b_left_some⟩
/-- settled_by: 0=n 1=rules 2=found 3=point 4=answers 5=rule -/
def b_settled_by : List Stm := [.asg (.nm 2) (.lst []), .forS (.nm 3) 1 [(.var 0)] f_settled_by_0, .ret (.var 2)]
def d11 : Def := ⟨6, 2, [false, false], b_settled_by⟩
/-- settled: 0=some 1=sample -/
def b_settled : List Stm := [.ret (.call 11 [(.sub (.var 0) (.cn (.int 0))), (.call 10 [(.var 0), (.var 1)])])]
def d12 : Def := ⟨2, 2, [false, false], b_settled⟩
/-- closed_sample: 0=some 1=sample -/
def b_closed_sample : List Stm := [.ret (.bi .tuple [(.call 12 [(.var 0), (.var 1)])])]
def d13 : Def := ⟨2, 2, [false, false], b_closed_sample⟩
/-- is_free: 0=some 1=sample 2=at 3=example 4=rest -/
def b_is_free : List Stm := [.ex (.call 10 [(.var 0), (.var 1)]), .forS (.tp [(.nm 2), (.nm 3)]) 2 [(.var 1)] f_is_free_0, .ret (.cn (.bl true))]
def d14 : Def := ⟨5, 2, [false, false], b_is_free⟩
/-- least_of: 0=rules 1=common 2=rule -/
def b_least_of : List Stm := [.asg (.nm 1) (.sub (.var 0) (.cn (.int 0))), .forS (.nm 2) 0 [(.var 0)] f_least_of_0, .ret (.ite (.cmp .In (.var 1) (.var 0)) (.var 1) (.cn .non))]
def d15 : Def := ⟨3, 1, [false], b_least_of⟩
/-- greatest_of: 0=rules 1=whole 2=rule -/
def b_greatest_of : List Stm := [.asg (.nm 1) (.cn (.int 0)), .forS (.nm 2) 0 [(.var 0)] f_greatest_of_0, .ret (.ite (.cmp .In (.var 1) (.var 0)) (.var 1) (.cn .non))]
def d16 : Def := ⟨3, 1, [false], b_greatest_of⟩
/-- least_left: 0=some 1=sample 2=found -/
def b_least_left : List Stm := [.ex (.call 4 [(.var 0), (.var 1)]), .asg (.nm 2) (.call 7 [(.sub (.var 0) (.cn (.int 1))), (.var 1)]), .ret (.ite (.var 2) (.call 15 [(.var 2)]) (.cn .non))]
def d17 : Def := ⟨3, 2, [false, false], b_least_left⟩
/-- greatest_left: 0=some 1=sample 2=found -/
def b_greatest_left : List Stm := [.ex (.call 4 [(.var 0), (.var 1)]), .asg (.nm 2) (.call 7 [(.sub (.var 0) (.cn (.int 1))), (.var 1)]), .ret (.ite (.var 2) (.call 16 [(.var 2)]) (.cn .non))]
def d18 : Def := ⟨3, 2, [false, false], b_greatest_left⟩
/-- half_answer: 0=some 1=sample 2=point 3=found 4=ones 5=rule -/
def b_half_answer : List Stm := [.ex (.call 4 [(.var 0), (.var 1)]), .ifS (.nt (.cmp2 .LtE .Lt (.cn (.int 0)) (.var 2) (.sub (.var 0) (.cn (.int 0))))) [.raise 5] [], .asg (.nm 3) (.call 10 [(.var 0), (.var 1)]), .asg (.nm 4) (.bi .sum [(.lc [5] (.nm 5) 0 [(.var 3)] none x_half_answer_0)]), .ret (.ite (.cmp .Eq (.bin .Mult (.cn (.int 2)) (.var 4)) (.bi .len [(.var 3)])) (.cn .non) (.bi .int [(.cmp .Gt (.bin .Mult (.cn (.int 2)) (.var 4)) (.bi .len [(.var 3)]))]))]
def d19 : Def := ⟨6, 3, [false, false, false], b_half_answer⟩
/-- _law_number: 0=cell -/
def b__law_number : List Stm := [.ifS (.cmp .Lt (.var 0) (.cn (.int 0))) [.ret (.bin .Sub (.cn (.int 0)) (.var 0))] [], .ret (.var 0)]
def d20 : Def := ⟨1, 1, [false], b__law_number⟩
/-- _law_draws: 0=script 1=draws 2=cell 3=rest 4=k 5=once 6=twice -/
def b__law_draws : List Stm := [.asg (.nm 1) (.lst []), .forS (.nm 2) 0 [(.var 0)] f__law_draws_0, .ex (.mm .reverse 1 []), .ret (.var 1)]
def d21 : Def := ⟨7, 1, [false], b__law_draws⟩
/-- _law_flat: 0=rows 1=found 2=row -/
def b__law_flat : List Stm := [.asg (.nm 1) (.lst []), .forS (.nm 2) 0 [(.var 0)] f__law_flat_0, .ret (.var 1)]
def d22 : Def := ⟨3, 1, [false], b__law_flat⟩
/-- _law_next: 0=draws -/
def b__law_next : List Stm := [.ifS (.var 0) [.ret (.mm .pop 0 [])] [], .ret (.cn (.int 0))]
def d23 : Def := ⟨1, 1, [true], b__law_next⟩
/-- _law_more: 0=draws 1=many 2=seed 3=more 4=k -/
def b__law_more : List Stm := [.asg (.nm 2) (.bin .Add (.bin .Add (.bin .Mult (.cn (.int 1000)) (.call 23 [(.var 0)])) (.call 23 [(.var 0)])) (.cn (.int 1))), .asg (.nm 3) (.lst []), .forS (.nm 4) 1 [(.var 1)] f__law_more_0, .ret (.bin .Add (.var 3) (.var 0))]
def d24 : Def := ⟨5, 2, [true, false], b__law_more⟩
/-- _law_pick: 0=draws 1=some -/
def b__law_pick : List Stm := [.ret (.sub (.var 1) (.bin .Mod (.bi .int [(.call 23 [(.var 0)])]) (.bi .len [(.var 1)])))]
def d25 : Def := ⟨2, 2, [true, false], b__law_pick⟩
/-- _law_kind: 0=error 1=names 2=found -/
def b__law_kind : List Stm := [.asg (.nm 1) (.lst [(.cn (.str "class")), (.cn (.str "sample")), (.cn (.str "tree")), (.cn (.str "paper")), (.cn (.str "number")), (.cn (.str "none")), (.cn (.str "large"))]), .asg (.nm 2) (.lst [(.isE (.var 0) 1), (.isE (.var 0) 2), (.isE (.var 0) 3), (.isE (.var 0) 4)]), .asg (.nm 2) (.bin .Add (.var 2) (.lst [(.isE (.var 0) 5), (.isE (.var 0) 6), (.isE (.var 0) 7)])), .ret (.ite (.cmp .Eq (.mt .count (.var 2) [(.cn (.bl true))]) (.cn (.int 1))) (.bin .Add (.cn (.str "!")) (.sub (.var 1) (.mt .index (.var 2) [(.cn (.bl true))]))) (.cn (.str "!other")))]
def d26 : Def := ⟨3, 1, [false], b__law_kind⟩
/-- _law_power: 0=at 1=found 2=turn -/
def b__law_power : List Stm := [.asg (.nm 1) (.cn (.int 1)), .forS (.nm 2) 1 [(.var 0)] f__law_power_0, .ret (.var 1)]
def d27 : Def := ⟨3, 1, [false], b__law_power⟩
/-- _law_has: 0=rule 1=point -/
def b__law_has : List Stm := [.ret (.bin .Mod (.bi .int [(.bin .FloorDiv (.var 0) (.call 27 [(.var 1)]))]) (.cn (.int 2)))]
def d28 : Def := ⟨2, 2, [false, false], b__law_has⟩
/-- _law_class: 0=draws 1=points 2=rules 3=n 4=kind 5=mask 6=found 7=at 8=turn 9=rule -/
def b__law_class : List Stm := [.asg (.nm 3) (.bin .Add (.cn (.int 1)) (.bin .Mod (.bi .int [(.call 23 [(.var 0)])]) (.var 1))), .asg (.nm 4) (.bin .Mod (.bi .int [(.call 23 [(.var 0)])]) (.cn (.int 6))), .ifS (.cmp .Eq (.var 4) (.cn (.int 0))) [.asg (.nm 6) (.lc [7] (.nm 7) 1 [(.bin .Add (.var 3) (.cn (.int 1)))] none x__law_class_0)] [.ifS (.cmp .Eq (.var 4) (.cn (.int 1))) [.asg (.nm 6) (.bin .Add (.lst [(.cn (.int 0))]) (.lc [7] (.nm 7) 1 [(.var 3)] none x__law_class_1))] [.ifS (.andE (.cmp .Eq (.var 4) (.cn (.int 2))) (.cmp .Lt (.var 3) (.cn (.int 4)))) [.asg (.nm 6) (.lrng [(.call 27 [(.var 3)])])] [.asg (.nm 6) (.lc [8] (.nm 8) 1 [(.bin .Add (.cn (.int 1)) (.bin .Mod (.bi .int [(.call 23 [(.var 0)])]) (.var 2)))] none x__law_class_2)]]], .asg (.nm 5) (.ite (.cmp .Eq (.bin .Mod (.bi .int [(.call 23 [(.var 0)])]) (.cn (.int 3))) (.cn (.int 0))) (.bin .Mod (.bi .int [(.call 23 [(.var 0)])]) (.call 27 [(.var 3)])) (.cn (.int 0))), .ret (.tup [(.var 3), (.bi .tuple [(.bi .sorted [(.bi .dict [(.lc [9] (.nm 9) 0 [(.var 6)] none x__law_class_3)])])])])]
def d29 : Def := ⟨10, 3, [true, false, false], b__law_class⟩
/-- _law_sample: 0=draws 1=n 2=found 3=point -/
def b__law_sample : List Stm := [.asg (.nm 2) (.lst []), .forS (.nm 3) 1 [(.var 1)] f__law_sample_0, .ret (.bi .tuple [(.var 2)])]
def d30 : Def := ⟨4, 2, [true, false], b__law_sample⟩
/-- _law_left: 0=rules 1=sample 2=rule 3=point 4=answer -/
def b__law_left : List Stm := [.ret (.lc [2] (.nm 2) 0 [(.var 0)] (some (.bi .all [(.lc [3, 4] (.tp [(.nm 3), (.nm 4)]) 0 [(.var 1)] none x__law_left_0)])) x__law_left_1)]
def d31 : Def := ⟨5, 2, [false, false], b__law_left⟩
/-- _law_settled: 0=n 1=rules 2=point 3=rule -/
def b__law_settled : List Stm := [.ret (.lc [2] (.nm 2) 1 [(.var 0)] (some (.bi .all [(.lc [3] (.nm 3) 0 [(.var 1)] none x__law_settled_0)])) x__law_settled_1)]
def d32 : Def := ⟨4, 2, [false, false], b__law_settled⟩
/-- _law_asked: 0=way 1=some 2=sample 3=more 4=error -/
def b__law_asked : List Stm := [.try_ [.ifS (.cmp .Lt (.var 0) (.cn (.int 6))) [.ret (.callv (.sub (.lst [(.cn (.fn 9)), (.cn (.fn 12)), (.cn (.fn 13)), (.cn (.fn 14)), (.cn (.fn 17)), (.cn (.fn 18))]) (.var 0)) [(.var 1), (.var 2)])] [], .ret (.ite (.cmp .Eq (.var 0) (.cn (.int 6))) (.call 19 [(.var 1), (.var 2), (.var 3)]) (.call 8 [(.var 1), (.var 3), (.var 2)]))] 0 (some 4) [.ret (.call 26 [(.var 4)])]]
def d33 : Def := ⟨5, 4, [false, false, false, false], b__law_asked⟩
/-- _law_is_sample: 0=n 1=sample 2=error -/
def b__law_is_sample : List Stm := [.try_ [.ret (.call 3 [(.var 0), (.var 1)])] 0 (some 2) [.ret (.call 26 [(.var 2)])]]
def d34 : Def := ⟨3, 2, [false, false], b__law_is_sample⟩
/-- _law_refuses: 0=draws 1=some 2=sample 3=wrong 4=bad 5=told 6=samples 7=numbers 8=n 9=rules 10=way 11=size 12=one 13=point 14=rule -/
def b__law_refuses : List Stm := [.asg (.tp [(.nm 8), (.nm 9)]) (.var 1), .asg (.nm 3) (.lst [(.tup [(.cn (.int 0)), (.tup [(.cn (.int 0))])]), (.tup [(.cn (.int 13)), (.tup [(.cn (.int 0))])]), (.tup [(.var 8), (.tup [])]), (.tup [(.var 8), (.bin .Add (.var 9) (.slc (.var 9) (some (.un .USub (.cn (.int 1)))) none))]), (.tup [(.var 8), (.tup [(.call 27 [(.var 8)])])]), (.tup [(.var 8), (.tup [(.un .USub (.cn (.int 1)))])]), (.tup [(.cn (.int 8)), (.trng [(.cn (.int 201))])])]), .ifS (.cmp .Gt (.bi .len [(.var 9)]) (.cn (.int 1))) [.ex (.mm .append 3 [(.tup [(.var 8), (.rev (.var 9))])])] [], .ifS (.orE (.cmp .NotEq (.lc [12] (.nm 12) 0 [(.var 3)] none x__law_refuses_0) (.bin .Mult (.lst [(.cn (.bl false))]) (.bi .len [(.var 3)]))) (.cmp .IsNot (.call 0 [(.tup [(.cn (.int 12)), (.trng [(.cn (.int 200))])])]) (.cn (.bl true)))) [.ret (.cn (.bl false))] [], .asg (.nm 4) (.call 25 [(.var 0), (.var 3)]), .asg (.nm 5) (.lc [10] (.nm 10) 1 [(.cn (.int 8))] none x__law_refuses_1), .asg (.nm 6) (.lst [(.tup [(.tup [(.var 8), (.cn (.int 0))])]), (.tup [(.tup [(.un .USub (.cn (.int 1))), (.cn (.int 0))])]), (.tup [(.tup [(.cn (.int 0)), (.cn (.int 2))])]), (.tup [(.tup [(.cn (.int 0)), (.un .USub (.cn (.int 1)))])]), (.tup [(.tup [(.cn (.int 0)), (.cn (.int 0))]), (.tup [(.cn (.int 0)), (.cn (.int 1))])])]), .asg (.nm 5) (.bin .Add (.var 5) (.call 22 [(.lc [10] (.nm 10) 1 [(.cn (.int 8))] none x__law_refuses_2)])), .asg (.nm 7) (.bin .Add (.bin .Add (.lc [13] (.nm 13) 0 [(.lst [(.un .USub (.cn (.int 1))), (.var 8)])] none x__law_refuses_4) (.lc [14] (.nm 14) 0 [(.lst [(.un .USub (.cn (.int 1))), (.call 27 [(.var 8)])])] none x__law_refuses_5)) (.lc [11] (.nm 11) 0 [(.lst [(.cn (.int 0)), (.cn (.int 13))])] none x__law_refuses_6)), .ret (.andE (.cmp .Eq (.var 5) (.bin .Add (.bin .Mult (.lst [(.cn (.str "!class"))]) (.cn (.int 8))) (.bin .Mult (.lst [(.cn (.str "!sample"))]) (.cn (.int 40))))) (.andE (.cmp .Eq (.var 7) (.bin .Mult (.lst [(.cn (.str "!number"))]) (.cn (.int 6)))) (.cmp .Eq (.lc [12] (.nm 12) 0 [(.var 6)] none x__law_refuses_7) (.bin .Mult (.lst [(.cn (.bl false))]) (.cn (.int 5))))))]
def d35 : Def := ⟨15, 3, [true, false, false], b__law_refuses⟩
/-- law: 0=script 1=draws 2=grows 3=answers 4=some 5=turn 6=n 7=rules 8=sample 9=found 10=told 11=free 12=least 13=greatest 14=ones 15=due 16=rule 17=point 18=at 19=way 20=other -/
def b_law : List Stm := [.asg (.nm 1) (.call 21 [(.var 0)]), .asg (.nm 1) (.call 24 [(.var 1), (.cn (.int 160))]), .asg (.nm 2) (.tup [(.cn (.int 3)), (.tup [(.cn (.int 0)), (.cn (.int 1)), (.cn (.int 3)), (.cn (.int 7))])]), .asg (.nm 3) (.lst [(.call 9 [(.var 2), (.tup [(.tup [(.cn (.int 1)), (.cn (.int 1))])])]), (.call 12 [(.var 2), (.tup [(.tup [(.cn (.int 1)), (.cn (.int 1))])])]), (.call 13 [(.var 2), (.tup [(.tup [(.cn (.int 1)), (.cn (.int 1))])])]), (.call 17 [(.var 2), (.tup [])]), (.call 19 [(.var 2), (.tup []), (.cn (.int 1))]), (.call 14 [(.var 2), (.tup [(.tup [(.cn (.int 0)), (.cn (.int 1))]), (.tup [(.cn (.int 1)), (.cn (.int 1))])])])]), .ifS (.cmp .NotEq (.bi .repr [(.var 3)]) (.bi .repr [(.lst [(.tup [(.cn (.int 3)), (.cn (.int 7))]), (.lst [(.tup [(.cn (.int 0)), (.cn (.int 1))]), (.tup [(.cn (.int 1)), (.cn (.int 1))])]), (.tup [(.tup [(.cn (.int 0)), (.cn (.int 1))]), (.tup [(.cn (.int 1)), (.cn (.int 1))])]), (.cn (.int 0)), (.cn .non), (.cn (.bl false))])])) [.ret (.cn (.bl false))] [], .asg (.nm 4) (.call 29 [(.var 1), (.cn (.int 6)), (.cn (.int 20))]), .asg (.tp [(.nm 6), (.nm 7)]) (.var 4), .forS (.nm 5) 1 [(.cn (.int 3))] f_law_0, .ret (.call 35 [(.var 1), (.var 4), (.var 8)])]
def d36 : Def := ⟨21, 1, [false], b_law⟩
def row : Nat → List Bool := fun e => ([[true, false, false, false, false, false, false, false], [true, true, false, false, false, false, false, false], [true, false, true, false, false, false, false, false], [true, false, false, true, false, false, false, false], [true, false, false, false, true, false, false, false], [true, false, false, false, false, true, false, false], [true, false, false, false, false, false, true, false], [true, false, false, false, false, false, false, true]] : List (List Bool)).getD e [true, false, false, false, false, false, false, false]
def below : Nat → Nat → Bool := fun e k => (row e).getD k ((row e).headD true)
def csts : Nat → Option D := fun n => ([(.int 12), (.int 200)] : List D)[n]?
def defs : Nat → Option Def := fun g => ([d0, d1, d2, d3, d4, d5, d6, d7, d8, d9, d10, d11, d12, d13, d14, d15, d16, d17, d18, d19, d20, d21, d22, d23, d24, d25, d26, d27, d28, d29, d30, d31, d32, d33, d34, d35, d36] : List Def)[g]?
def T : Tb := ⟨defs, csts, below, fuel⟩
abbrev i_is_class : Nat := 0
abbrev d_is_class : Def := d0
theorem io_is_class : T.ios 0 = [false] := rfl
theorem r_is_class {k : Nat} {h : Bool} {a0 : D} : RT T (k + 1) h 0 [(false, a0)] = endX [false] 1 (xSs (CX T k h [false]) b_is_class [Sl.val a0, Sl.non, Sl.non, Sl.non, Sl.non, Sl.non, Sl.non]) := run_of d0 rfl rfl rfl rfl
abbrev i_check_class : Nat := 1
abbrev d_check_class : Def := d1
theorem io_check_class : T.ios 1 = [false] := rfl
theorem r_check_class {k : Nat} {h : Bool} {a0 : D} : RT T (k + 1) h 1 [(false, a0)] = endX [false] 1 (xSs (CX T k h [false]) b_check_class [Sl.val a0]) := run_of d1 rfl rfl rfl rfl
abbrev i_are_examples : Nat := 2
abbrev d_are_examples : Def := d2
theorem io_are_examples : T.ios 2 = [false, false] := rfl
theorem r_are_examples {k : Nat} {h : Bool} {a0 a1 : D} : RT T (k + 1) h 2 [(false, a0), (false, a1)] = endX [false, false] 2 (xSs (CX T k h [false, false]) b_are_examples [Sl.val a0, Sl.val a1, Sl.non, Sl.non, Sl.non, Sl.non, Sl.non, Sl.non, Sl.non]) := run_of d2 rfl rfl rfl rfl
abbrev i_is_sample : Nat := 3
abbrev d_is_sample : Def := d3
theorem io_is_sample : T.ios 3 = [false, false] := rfl
theorem r_is_sample {k : Nat} {h : Bool} {a0 a1 : D} : RT T (k + 1) h 3 [(false, a0), (false, a1)] = endX [false, false] 2 (xSs (CX T k h [false, false]) b_is_sample [Sl.val a0, Sl.val a1]) := run_of d3 rfl rfl rfl rfl
abbrev i_check_sample : Nat := 4
abbrev d_check_sample : Def := d4
theorem io_check_sample : T.ios 4 = [false, false] := rfl
theorem r_check_sample {k : Nat} {h : Bool} {a0 a1 : D} : RT T (k + 1) h 4 [(false, a0), (false, a1)] = endX [false, false] 2 (xSs (CX T k h [false, false]) b_check_sample [Sl.val a0, Sl.val a1]) := run_of d4 rfl rfl rfl rfl
abbrev i_has : Nat := 5
abbrev d_has : Def := d5
theorem io_has : T.ios 5 = [false, false] := rfl
theorem r_has {k : Nat} {h : Bool} {a0 a1 : D} : RT T (k + 1) h 5 [(false, a0), (false, a1)] = endX [false, false] 2 (xSs (CX T k h [false, false]) b_has [Sl.val a0, Sl.val a1]) := run_of d5 rfl rfl rfl rfl
abbrev i_fits_of : Nat := 6
abbrev d_fits_of : Def := d6
theorem io_fits_of : T.ios 6 = [false, false] := rfl
theorem r_fits_of {k : Nat} {h : Bool} {a0 a1 : D} : RT T (k + 1) h 6 [(false, a0), (false, a1)] = endX [false, false] 2 (xSs (CX T k h [false, false]) b_fits_of [Sl.val a0, Sl.val a1, Sl.non, Sl.non]) := run_of d6 rfl rfl rfl rfl
abbrev i_left_of : Nat := 7
abbrev d_left_of : Def := d7
theorem io_left_of : T.ios 7 = [false, false] := rfl
theorem r_left_of {k : Nat} {h : Bool} {a0 a1 : D} : RT T (k + 1) h 7 [(false, a0), (false, a1)] = endX [false, false] 2 (xSs (CX T k h [false, false]) b_left_of [Sl.val a0, Sl.val a1, Sl.non]) := run_of d7 rfl rfl rfl rfl
abbrev i_fits : Nat := 8
abbrev d_fits : Def := d8
theorem io_fits : T.ios 8 = [false, false, false] := rfl
theorem r_fits {k : Nat} {h : Bool} {a0 a1 a2 : D} : RT T (k + 1) h 8 [(false, a0), (false, a1), (false, a2)] = endX [false, false, false] 3 (xSs (CX T k h [false, false, false]) b_fits [Sl.val a0, Sl.val a1, Sl.val a2]) := run_of d8 rfl rfl rfl rfl
abbrev i_left : Nat := 9
abbrev d_left : Def := d9
theorem io_left : T.ios 9 = [false, false] := rfl
theorem r_left {k : Nat} {h : Bool} {a0 a1 : D} : RT T (k + 1) h 9 [(false, a0), (false, a1)] = endX [false, false] 2 (xSs (CX T k h [false, false]) b_left [Sl.val a0, Sl.val a1]) := run_of d9 rfl rfl rfl rfl
abbrev i_left_some : Nat := 10
abbrev d_left_some : Def := d10
theorem io_left_some : T.ios 10 = [false, false] := rfl
theorem r_left_some {k : Nat} {h : Bool} {a0 a1 : D} : RT T (k + 1) h 10 [(false, a0), (false, a1)] = endX [false, false] 2 (xSs (CX T k h [false, false]) b_left_some [Sl.val a0, Sl.val a1, Sl.non]) := run_of d10 rfl rfl rfl rfl
abbrev i_settled_by : Nat := 11
abbrev d_settled_by : Def := d11
theorem io_settled_by : T.ios 11 = [false, false] := rfl
theorem r_settled_by {k : Nat} {h : Bool} {a0 a1 : D} : RT T (k + 1) h 11 [(false, a0), (false, a1)] = endX [false, false] 2 (xSs (CX T k h [false, false]) b_settled_by [Sl.val a0, Sl.val a1, Sl.non, Sl.non, Sl.non, Sl.non]) := run_of d11 rfl rfl rfl rfl
abbrev i_settled : Nat := 12
abbrev d_settled : Def := d12
theorem io_settled : T.ios 12 = [false, false] := rfl
theorem r_settled {k : Nat} {h : Bool} {a0 a1 : D} : RT T (k + 1) h 12 [(false, a0), (false, a1)] = endX [false, false] 2 (xSs (CX T k h [false, false]) b_settled [Sl.val a0, Sl.val a1]) := run_of d12 rfl rfl rfl rfl
abbrev i_closed_sample : Nat := 13
abbrev d_closed_sample : Def := d13
theorem io_closed_sample : T.ios 13 = [false, false] := rfl
theorem r_closed_sample {k : Nat} {h : Bool} {a0 a1 : D} : RT T (k + 1) h 13 [(false, a0), (false, a1)] = endX [false, false] 2 (xSs (CX T k h [false, false]) b_closed_sample [Sl.val a0, Sl.val a1]) := run_of d13 rfl rfl rfl rfl
abbrev i_is_free : Nat := 14
abbrev d_is_free : Def := d14
theorem io_is_free : T.ios 14 = [false, false] := rfl
theorem r_is_free {k : Nat} {h : Bool} {a0 a1 : D} : RT T (k + 1) h 14 [(false, a0), (false, a1)] = endX [false, false] 2 (xSs (CX T k h [false, false]) b_is_free [Sl.val a0, Sl.val a1, Sl.non, Sl.non, Sl.non]) := run_of d14 rfl rfl rfl rfl
abbrev i_least_of : Nat := 15
abbrev d_least_of : Def := d15
theorem io_least_of : T.ios 15 = [false] := rfl
theorem r_least_of {k : Nat} {h : Bool} {a0 : D} : RT T (k + 1) h 15 [(false, a0)] = endX [false] 1 (xSs (CX T k h [false]) b_least_of [Sl.val a0, Sl.non, Sl.non]) := run_of d15 rfl rfl rfl rfl
abbrev i_greatest_of : Nat := 16
abbrev d_greatest_of : Def := d16
theorem io_greatest_of : T.ios 16 = [false] := rfl
theorem r_greatest_of {k : Nat} {h : Bool} {a0 : D} : RT T (k + 1) h 16 [(false, a0)] = endX [false] 1 (xSs (CX T k h [false]) b_greatest_of [Sl.val a0, Sl.non, Sl.non]) := run_of d16 rfl rfl rfl rfl
abbrev i_least_left : Nat := 17
abbrev d_least_left : Def := d17
theorem io_least_left : T.ios 17 = [false, false] := rfl
theorem r_least_left {k : Nat} {h : Bool} {a0 a1 : D} : RT T (k + 1) h 17 [(false, a0), (false, a1)] = endX [false, false] 2 (xSs (CX T k h [false, false]) b_least_left [Sl.val a0, Sl.val a1, Sl.non]) := run_of d17 rfl rfl rfl rfl
abbrev i_greatest_left : Nat := 18
abbrev d_greatest_left : Def := d18
theorem io_greatest_left : T.ios 18 = [false, false] := rfl
theorem r_greatest_left {k : Nat} {h : Bool} {a0 a1 : D} : RT T (k + 1) h 18 [(false, a0), (false, a1)] = endX [false, false] 2 (xSs (CX T k h [false, false]) b_greatest_left [Sl.val a0, Sl.val a1, Sl.non]) := run_of d18 rfl rfl rfl rfl
abbrev i_half_answer : Nat := 19
abbrev d_half_answer : Def := d19
theorem io_half_answer : T.ios 19 = [false, false, false] := rfl
theorem r_half_answer {k : Nat} {h : Bool} {a0 a1 a2 : D} : RT T (k + 1) h 19 [(false, a0), (false, a1), (false, a2)] = endX [false, false, false] 3 (xSs (CX T k h [false, false, false]) b_half_answer [Sl.val a0, Sl.val a1, Sl.val a2, Sl.non, Sl.non, Sl.non]) := run_of d19 rfl rfl rfl rfl
abbrev i__law_number : Nat := 20
abbrev d__law_number : Def := d20
theorem io__law_number : T.ios 20 = [false] := rfl
theorem r__law_number {k : Nat} {h : Bool} {a0 : D} : RT T (k + 1) h 20 [(false, a0)] = endX [false] 1 (xSs (CX T k h [false]) b__law_number [Sl.val a0]) := run_of d20 rfl rfl rfl rfl
abbrev i__law_draws : Nat := 21
abbrev d__law_draws : Def := d21
theorem io__law_draws : T.ios 21 = [false] := rfl
theorem r__law_draws {k : Nat} {h : Bool} {a0 : D} : RT T (k + 1) h 21 [(false, a0)] = endX [false] 1 (xSs (CX T k h [false]) b__law_draws [Sl.val a0, Sl.non, Sl.non, Sl.non, Sl.non, Sl.non, Sl.non]) := run_of d21 rfl rfl rfl rfl
abbrev i__law_flat : Nat := 22
abbrev d__law_flat : Def := d22
theorem io__law_flat : T.ios 22 = [false] := rfl
theorem r__law_flat {k : Nat} {h : Bool} {a0 : D} : RT T (k + 1) h 22 [(false, a0)] = endX [false] 1 (xSs (CX T k h [false]) b__law_flat [Sl.val a0, Sl.non, Sl.non]) := run_of d22 rfl rfl rfl rfl
abbrev i__law_next : Nat := 23
abbrev d__law_next : Def := d23
theorem io__law_next : T.ios 23 = [true] := rfl
theorem r__law_next {k : Nat} {h : Bool} {a0 : D} : RT T (k + 1) h 23 [(true, a0)] = endX [true] 1 (xSs (CX T k h [true]) b__law_next [Sl.own a0]) := run_of d23 rfl rfl rfl rfl
abbrev i__law_more : Nat := 24
abbrev d__law_more : Def := d24
theorem io__law_more : T.ios 24 = [true, false] := rfl
theorem r__law_more {k : Nat} {h : Bool} {a0 a1 : D} : RT T (k + 1) h 24 [(true, a0), (false, a1)] = endX [true, false] 2 (xSs (CX T k h [true, false]) b__law_more [Sl.own a0, Sl.val a1, Sl.non, Sl.non, Sl.non]) := run_of d24 rfl rfl rfl rfl
abbrev i__law_pick : Nat := 25
abbrev d__law_pick : Def := d25
theorem io__law_pick : T.ios 25 = [true, false] := rfl
theorem r__law_pick {k : Nat} {h : Bool} {a0 a1 : D} : RT T (k + 1) h 25 [(true, a0), (false, a1)] = endX [true, false] 2 (xSs (CX T k h [true, false]) b__law_pick [Sl.own a0, Sl.val a1]) := run_of d25 rfl rfl rfl rfl
abbrev i__law_kind : Nat := 26
abbrev d__law_kind : Def := d26
theorem io__law_kind : T.ios 26 = [false] := rfl
theorem r__law_kind {k : Nat} {h : Bool} {a0 : D} : RT T (k + 1) h 26 [(false, a0)] = endX [false] 1 (xSs (CX T k h [false]) b__law_kind [Sl.val a0, Sl.non, Sl.non]) := run_of d26 rfl rfl rfl rfl
abbrev i__law_power : Nat := 27
abbrev d__law_power : Def := d27
theorem io__law_power : T.ios 27 = [false] := rfl
theorem r__law_power {k : Nat} {h : Bool} {a0 : D} : RT T (k + 1) h 27 [(false, a0)] = endX [false] 1 (xSs (CX T k h [false]) b__law_power [Sl.val a0, Sl.non, Sl.non]) := run_of d27 rfl rfl rfl rfl
abbrev i__law_has : Nat := 28
abbrev d__law_has : Def := d28
theorem io__law_has : T.ios 28 = [false, false] := rfl
theorem r__law_has {k : Nat} {h : Bool} {a0 a1 : D} : RT T (k + 1) h 28 [(false, a0), (false, a1)] = endX [false, false] 2 (xSs (CX T k h [false, false]) b__law_has [Sl.val a0, Sl.val a1]) := run_of d28 rfl rfl rfl rfl
abbrev i__law_class : Nat := 29
abbrev d__law_class : Def := d29
theorem io__law_class : T.ios 29 = [true, false, false] := rfl
theorem r__law_class {k : Nat} {h : Bool} {a0 a1 a2 : D} : RT T (k + 1) h 29 [(true, a0), (false, a1), (false, a2)] = endX [true, false, false] 3 (xSs (CX T k h [true, false, false]) b__law_class [Sl.own a0, Sl.val a1, Sl.val a2, Sl.non, Sl.non, Sl.non, Sl.non, Sl.non, Sl.non, Sl.non]) := run_of d29 rfl rfl rfl rfl
abbrev i__law_sample : Nat := 30
abbrev d__law_sample : Def := d30
theorem io__law_sample : T.ios 30 = [true, false] := rfl
theorem r__law_sample {k : Nat} {h : Bool} {a0 a1 : D} : RT T (k + 1) h 30 [(true, a0), (false, a1)] = endX [true, false] 2 (xSs (CX T k h [true, false]) b__law_sample [Sl.own a0, Sl.val a1, Sl.non, Sl.non]) := run_of d30 rfl rfl rfl rfl
abbrev i__law_left : Nat := 31
abbrev d__law_left : Def := d31
theorem io__law_left : T.ios 31 = [false, false] := rfl
theorem r__law_left {k : Nat} {h : Bool} {a0 a1 : D} : RT T (k + 1) h 31 [(false, a0), (false, a1)] = endX [false, false] 2 (xSs (CX T k h [false, false]) b__law_left [Sl.val a0, Sl.val a1, Sl.non, Sl.non, Sl.non]) := run_of d31 rfl rfl rfl rfl
abbrev i__law_settled : Nat := 32
abbrev d__law_settled : Def := d32
theorem io__law_settled : T.ios 32 = [false, false] := rfl
theorem r__law_settled {k : Nat} {h : Bool} {a0 a1 : D} : RT T (k + 1) h 32 [(false, a0), (false, a1)] = endX [false, false] 2 (xSs (CX T k h [false, false]) b__law_settled [Sl.val a0, Sl.val a1, Sl.non, Sl.non]) := run_of d32 rfl rfl rfl rfl
abbrev i__law_asked : Nat := 33
abbrev d__law_asked : Def := d33
theorem io__law_asked : T.ios 33 = [false, false, false, false] := rfl
theorem r__law_asked {k : Nat} {h : Bool} {a0 a1 a2 a3 : D} : RT T (k + 1) h 33 [(false, a0), (false, a1), (false, a2), (false, a3)] = endX [false, false, false, false] 4 (xSs (CX T k h [false, false, false, false]) b__law_asked [Sl.val a0, Sl.val a1, Sl.val a2, Sl.val a3, Sl.non]) := run_of d33 rfl rfl rfl rfl
abbrev i__law_is_sample : Nat := 34
abbrev d__law_is_sample : Def := d34
theorem io__law_is_sample : T.ios 34 = [false, false] := rfl
theorem r__law_is_sample {k : Nat} {h : Bool} {a0 a1 : D} : RT T (k + 1) h 34 [(false, a0), (false, a1)] = endX [false, false] 2 (xSs (CX T k h [false, false]) b__law_is_sample [Sl.val a0, Sl.val a1, Sl.non]) := run_of d34 rfl rfl rfl rfl
abbrev i__law_refuses : Nat := 35
abbrev d__law_refuses : Def := d35
theorem io__law_refuses : T.ios 35 = [true, false, false] := rfl
theorem r__law_refuses {k : Nat} {h : Bool} {a0 a1 a2 : D} : RT T (k + 1) h 35 [(true, a0), (false, a1), (false, a2)] = endX [true, false, false] 3 (xSs (CX T k h [true, false, false]) b__law_refuses [Sl.own a0, Sl.val a1, Sl.val a2, Sl.non, Sl.non, Sl.non, Sl.non, Sl.non, Sl.non, Sl.non, Sl.non, Sl.non, Sl.non, Sl.non, Sl.non]) := run_of d35 rfl rfl rfl rfl
abbrev i_law : Nat := 36
abbrev d_law : Def := d36
theorem io_law : T.ios 36 = [false] := rfl
theorem r_law {k : Nat} {h : Bool} {a0 : D} : RT T (k + 1) h 36 [(false, a0)] = endX [false] 1 (xSs (CX T k h [false]) b_law [Sl.val a0, Sl.non, Sl.non, Sl.non, Sl.non, Sl.non, Sl.non, Sl.non, Sl.non, Sl.non, Sl.non, Sl.non, Sl.non, Sl.non, Sl.non, Sl.non, Sl.non, Sl.non, Sl.non, Sl.non, Sl.non]) := run_of d36 rfl rfl rfl rfl
theorem cst_MOST_POINTS : T.cst 0 = some (.int 12) := rfl
theorem cst_MOST_RULES : T.cst 1 = some (.int 200) := rfl
theorem T_fuel : T.fuel = fuel := rfl
theorem T_sub : T.sub = below := rfl
section
set_option maxHeartbeats 4000000 in
theorem c0 : chkSs glb ["some", "rises", "n", "rules", "one", "other", "rule"] (defScope (PySem.Challenge.pw_fewexamples_k00_classes_and_what_still_f.main.body.getD 12 (.Pass ⟨0, 0, 0, 0⟩))) d0.body (defBody (PySem.Challenge.pw_fewexamples_k00_classes_and_what_still_f.main.body.getD 12 (.Pass ⟨0, 0, 0, 0⟩))) = true := by decide +kernel
set_option maxHeartbeats 4000000 in
theorem c1 : chkSs glb ["some"] (defScope (PySem.Challenge.pw_fewexamples_k00_classes_and_what_still_f.main.body.getD 13 (.Pass ⟨0, 0, 0, 0⟩))) d1.body (defBody (PySem.Challenge.pw_fewexamples_k00_classes_and_what_still_f.main.body.getD 13 (.Pass ⟨0, 0, 0, 0⟩))) = true := by decide +kernel
set_option maxHeartbeats 4000000 in
theorem c2 : chkSs glb ["n", "sample", "points", "rises", "point", "_", "one", "other", "answer"] (defScope (PySem.Challenge.pw_fewexamples_k00_classes_and_what_still_f.main.body.getD 14 (.Pass ⟨0, 0, 0, 0⟩))) d2.body (defBody (PySem.Challenge.pw_fewexamples_k00_classes_and_what_still_f.main.body.getD 14 (.Pass ⟨0, 0, 0, 0⟩))) = true := by decide +kernel
set_option maxHeartbeats 4000000 in
theorem c3 : chkSs glb ["n", "sample"] (defScope (PySem.Challenge.pw_fewexamples_k00_classes_and_what_still_f.main.body.getD 15 (.Pass ⟨0, 0, 0, 0⟩))) d3.body (defBody (PySem.Challenge.pw_fewexamples_k00_classes_and_what_still_f.main.body.getD 15 (.Pass ⟨0, 0, 0, 0⟩))) = true := by decide +kernel
set_option maxHeartbeats 4000000 in
theorem c4 : chkSs glb ["some", "sample"] (defScope (PySem.Challenge.pw_fewexamples_k00_classes_and_what_still_f.main.body.getD 16 (.Pass ⟨0, 0, 0, 0⟩))) d4.body (defBody (PySem.Challenge.pw_fewexamples_k00_classes_and_what_still_f.main.body.getD 16 (.Pass ⟨0, 0, 0, 0⟩))) = true := by decide +kernel
set_option maxHeartbeats 4000000 in
theorem c5 : chkSs glb ["rule", "point"] (defScope (PySem.Challenge.pw_fewexamples_k00_classes_and_what_still_f.main.body.getD 17 (.Pass ⟨0, 0, 0, 0⟩))) d5.body (defBody (PySem.Challenge.pw_fewexamples_k00_classes_and_what_still_f.main.body.getD 17 (.Pass ⟨0, 0, 0, 0⟩))) = true := by decide +kernel
set_option maxHeartbeats 4000000 in
theorem c6 : chkSs glb ["rule", "sample", "point", "answer"] (defScope (PySem.Challenge.pw_fewexamples_k00_classes_and_what_still_f.main.body.getD 18 (.Pass ⟨0, 0, 0, 0⟩))) d6.body (defBody (PySem.Challenge.pw_fewexamples_k00_classes_and_what_still_f.main.body.getD 18 (.Pass ⟨0, 0, 0, 0⟩))) = true := by decide +kernel
set_option maxHeartbeats 4000000 in
theorem c7 : chkSs glb ["rules", "sample", "rule"] (defScope (PySem.Challenge.pw_fewexamples_k00_classes_and_what_still_f.main.body.getD 19 (.Pass ⟨0, 0, 0, 0⟩))) d7.body (defBody (PySem.Challenge.pw_fewexamples_k00_classes_and_what_still_f.main.body.getD 19 (.Pass ⟨0, 0, 0, 0⟩))) = true := by decide +kernel
set_option maxHeartbeats 4000000 in
theorem c8 : chkSs glb ["some", "rule", "sample"] (defScope (PySem.Challenge.pw_fewexamples_k00_classes_and_what_still_f.main.body.getD 20 (.Pass ⟨0, 0, 0, 0⟩))) d8.body (defBody (PySem.Challenge.pw_fewexamples_k00_classes_and_what_still_f.main.body.getD 20 (.Pass ⟨0, 0, 0, 0⟩))) = true := by decide +kernel
set_option maxHeartbeats 4000000 in
theorem c9 : chkSs glb ["some", "sample"] (defScope (PySem.Challenge.pw_fewexamples_k00_classes_and_what_still_f.main.body.getD 21 (.Pass ⟨0, 0, 0, 0⟩))) d9.body (defBody (PySem.Challenge.pw_fewexamples_k00_classes_and_what_still_f.main.body.getD 21 (.Pass ⟨0, 0, 0, 0⟩))) = true := by decide +kernel
set_option maxHeartbeats 4000000 in
theorem c10 : chkSs glb ["some", "sample", "found"] (defScope (PySem.Challenge.pw_fewexamples_k00_classes_and_what_still_f.main.body.getD 22 (.Pass ⟨0, 0, 0, 0⟩))) d10.body (defBody (PySem.Challenge.pw_fewexamples_k00_classes_and_what_still_f.main.body.getD 22 (.Pass ⟨0, 0, 0, 0⟩))) = true := by decide +kernel
set_option maxHeartbeats 4000000 in
theorem c11 : chkSs glb ["n", "rules", "found", "point", "answers", "rule"] (defScope (PySem.Challenge.pw_fewexamples_k00_classes_and_what_still_f.main.body.getD 23 (.Pass ⟨0, 0, 0, 0⟩))) d11.body (defBody (PySem.Challenge.pw_fewexamples_k00_classes_and_what_still_f.main.body.getD 23 (.Pass ⟨0, 0, 0, 0⟩))) = true := by decide +kernel
set_option maxHeartbeats 4000000 in
theorem c12 : chkSs glb ["some", "sample"] (defScope (PySem.Challenge.pw_fewexamples_k00_classes_and_what_still_f.main.body.getD 24 (.Pass ⟨0, 0, 0, 0⟩))) d12.body (defBody (PySem.Challenge.pw_fewexamples_k00_classes_and_what_still_f.main.body.getD 24 (.Pass ⟨0, 0, 0, 0⟩))) = true := by decide +kernel
set_option maxHeartbeats 4000000 in
theorem c13 : chkSs glb ["some", "sample"] (defScope (PySem.Challenge.pw_fewexamples_k00_classes_and_what_still_f.main.body.getD 25 (.Pass ⟨0, 0, 0, 0⟩))) d13.body (defBody (PySem.Challenge.pw_fewexamples_k00_classes_and_what_still_f.main.body.getD 25 (.Pass ⟨0, 0, 0, 0⟩))) = true := by decide +kernel
set_option maxHeartbeats 4000000 in
theorem c14 : chkSs glb ["some", "sample", "at", "example", "rest"] (defScope (PySem.Challenge.pw_fewexamples_k00_classes_and_what_still_f.main.body.getD 26 (.Pass ⟨0, 0, 0, 0⟩))) d14.body (defBody (PySem.Challenge.pw_fewexamples_k00_classes_and_what_still_f.main.body.getD 26 (.Pass ⟨0, 0, 0, 0⟩))) = true := by decide +kernel
set_option maxHeartbeats 4000000 in
theorem c15 : chkSs glb ["rules", "common", "rule"] (defScope (PySem.Challenge.pw_fewexamples_k00_classes_and_what_still_f.main.body.getD 27 (.Pass ⟨0, 0, 0, 0⟩))) d15.body (defBody (PySem.Challenge.pw_fewexamples_k00_classes_and_what_still_f.main.body.getD 27 (.Pass ⟨0, 0, 0, 0⟩))) = true := by decide +kernel
set_option maxHeartbeats 4000000 in
theorem c16 : chkSs glb ["rules", "whole", "rule"] (defScope (PySem.Challenge.pw_fewexamples_k00_classes_and_what_still_f.main.body.getD 28 (.Pass ⟨0, 0, 0, 0⟩))) d16.body (defBody (PySem.Challenge.pw_fewexamples_k00_classes_and_what_still_f.main.body.getD 28 (.Pass ⟨0, 0, 0, 0⟩))) = true := by decide +kernel
set_option maxHeartbeats 4000000 in
theorem c17 : chkSs glb ["some", "sample", "found"] (defScope (PySem.Challenge.pw_fewexamples_k00_classes_and_what_still_f.main.body.getD 29 (.Pass ⟨0, 0, 0, 0⟩))) d17.body (defBody (PySem.Challenge.pw_fewexamples_k00_classes_and_what_still_f.main.body.getD 29 (.Pass ⟨0, 0, 0, 0⟩))) = true := by decide +kernel
set_option maxHeartbeats 4000000 in
theorem c18 : chkSs glb ["some", "sample", "found"] (defScope (PySem.Challenge.pw_fewexamples_k00_classes_and_what_still_f.main.body.getD 30 (.Pass ⟨0, 0, 0, 0⟩))) d18.body (defBody (PySem.Challenge.pw_fewexamples_k00_classes_and_what_still_f.main.body.getD 30 (.Pass ⟨0, 0, 0, 0⟩))) = true := by decide +kernel
set_option maxHeartbeats 4000000 in
theorem c19 : chkSs glb ["some", "sample", "point", "found", "ones", "rule"] (defScope (PySem.Challenge.pw_fewexamples_k00_classes_and_what_still_f.main.body.getD 31 (.Pass ⟨0, 0, 0, 0⟩))) d19.body (defBody (PySem.Challenge.pw_fewexamples_k00_classes_and_what_still_f.main.body.getD 31 (.Pass ⟨0, 0, 0, 0⟩))) = true := by decide +kernel
set_option maxHeartbeats 4000000 in
theorem c20 : chkSs glb ["cell"] (defScope (PySem.Challenge.pw_fewexamples_k00_classes_and_what_still_f.main.body.getD 33 (.Pass ⟨0, 0, 0, 0⟩))) d20.body (defBody (PySem.Challenge.pw_fewexamples_k00_classes_and_what_still_f.main.body.getD 33 (.Pass ⟨0, 0, 0, 0⟩))) = true := by decide +kernel
set_option maxHeartbeats 4000000 in
theorem c21 : chkSs glb ["script", "draws", "cell", "rest", "k", "once", "twice"] (defScope (PySem.Challenge.pw_fewexamples_k00_classes_and_what_still_f.main.body.getD 34 (.Pass ⟨0, 0, 0, 0⟩))) d21.body (defBody (PySem.Challenge.pw_fewexamples_k00_classes_and_what_still_f.main.body.getD 34 (.Pass ⟨0, 0, 0, 0⟩))) = true := by decide +kernel
set_option maxHeartbeats 4000000 in
theorem c22 : chkSs glb ["rows", "found", "row"] (defScope (PySem.Challenge.pw_fewexamples_k00_classes_and_what_still_f.main.body.getD 35 (.Pass ⟨0, 0, 0, 0⟩))) d22.body (defBody (PySem.Challenge.pw_fewexamples_k00_classes_and_what_still_f.main.body.getD 35 (.Pass ⟨0, 0, 0, 0⟩))) = true := by decide +kernel
set_option maxHeartbeats 4000000 in
theorem c23 : chkSs glb ["draws"] (defScope (PySem.Challenge.pw_fewexamples_k00_classes_and_what_still_f.main.body.getD 36 (.Pass ⟨0, 0, 0, 0⟩))) d23.body (defBody (PySem.Challenge.pw_fewexamples_k00_classes_and_what_still_f.main.body.getD 36 (.Pass ⟨0, 0, 0, 0⟩))) = true := by decide +kernel
set_option maxHeartbeats 4000000 in
theorem c24 : chkSs glb ["draws", "many", "seed", "more", "k"] (defScope (PySem.Challenge.pw_fewexamples_k00_classes_and_what_still_f.main.body.getD 37 (.Pass ⟨0, 0, 0, 0⟩))) d24.body (defBody (PySem.Challenge.pw_fewexamples_k00_classes_and_what_still_f.main.body.getD 37 (.Pass ⟨0, 0, 0, 0⟩))) = true := by decide +kernel
set_option maxHeartbeats 4000000 in
theorem c25 : chkSs glb ["draws", "some"] (defScope (PySem.Challenge.pw_fewexamples_k00_classes_and_what_still_f.main.body.getD 38 (.Pass ⟨0, 0, 0, 0⟩))) d25.body (defBody (PySem.Challenge.pw_fewexamples_k00_classes_and_what_still_f.main.body.getD 38 (.Pass ⟨0, 0, 0, 0⟩))) = true := by decide +kernel
set_option maxHeartbeats 4000000 in
theorem c26 : chkSs glb ["error", "names", "found"] (defScope (PySem.Challenge.pw_fewexamples_k00_classes_and_what_still_f.main.body.getD 39 (.Pass ⟨0, 0, 0, 0⟩))) d26.body (defBody (PySem.Challenge.pw_fewexamples_k00_classes_and_what_still_f.main.body.getD 39 (.Pass ⟨0, 0, 0, 0⟩))) = true := by decide +kernel
set_option maxHeartbeats 4000000 in
theorem c27 : chkSs glb ["at", "found", "turn"] (defScope (PySem.Challenge.pw_fewexamples_k00_classes_and_what_still_f.main.body.getD 40 (.Pass ⟨0, 0, 0, 0⟩))) d27.body (defBody (PySem.Challenge.pw_fewexamples_k00_classes_and_what_still_f.main.body.getD 40 (.Pass ⟨0, 0, 0, 0⟩))) = true := by decide +kernel
set_option maxHeartbeats 4000000 in
theorem c28 : chkSs glb ["rule", "point"] (defScope (PySem.Challenge.pw_fewexamples_k00_classes_and_what_still_f.main.body.getD 41 (.Pass ⟨0, 0, 0, 0⟩))) d28.body (defBody (PySem.Challenge.pw_fewexamples_k00_classes_and_what_still_f.main.body.getD 41 (.Pass ⟨0, 0, 0, 0⟩))) = true := by decide +kernel
set_option maxHeartbeats 4000000 in
theorem c29 : chkSs glb ["draws", "points", "rules", "n", "kind", "mask", "found", "at", "turn", "rule"] (defScope (PySem.Challenge.pw_fewexamples_k00_classes_and_what_still_f.main.body.getD 42 (.Pass ⟨0, 0, 0, 0⟩))) d29.body (defBody (PySem.Challenge.pw_fewexamples_k00_classes_and_what_still_f.main.body.getD 42 (.Pass ⟨0, 0, 0, 0⟩))) = true := by decide +kernel
set_option maxHeartbeats 4000000 in
theorem c30 : chkSs glb ["draws", "n", "found", "point"] (defScope (PySem.Challenge.pw_fewexamples_k00_classes_and_what_still_f.main.body.getD 43 (.Pass ⟨0, 0, 0, 0⟩))) d30.body (defBody (PySem.Challenge.pw_fewexamples_k00_classes_and_what_still_f.main.body.getD 43 (.Pass ⟨0, 0, 0, 0⟩))) = true := by decide +kernel
set_option maxHeartbeats 4000000 in
theorem c31 : chkSs glb ["rules", "sample", "rule", "point", "answer"] (defScope (PySem.Challenge.pw_fewexamples_k00_classes_and_what_still_f.main.body.getD 44 (.Pass ⟨0, 0, 0, 0⟩))) d31.body (defBody (PySem.Challenge.pw_fewexamples_k00_classes_and_what_still_f.main.body.getD 44 (.Pass ⟨0, 0, 0, 0⟩))) = true := by decide +kernel
set_option maxHeartbeats 4000000 in
theorem c32 : chkSs glb ["n", "rules", "point", "rule"] (defScope (PySem.Challenge.pw_fewexamples_k00_classes_and_what_still_f.main.body.getD 47 (.Pass ⟨0, 0, 0, 0⟩))) d32.body (defBody (PySem.Challenge.pw_fewexamples_k00_classes_and_what_still_f.main.body.getD 47 (.Pass ⟨0, 0, 0, 0⟩))) = true := by decide +kernel
set_option maxHeartbeats 4000000 in
theorem c33 : chkSs glb ["way", "some", "sample", "more", "error"] (defScope (PySem.Challenge.pw_fewexamples_k00_classes_and_what_still_f.main.body.getD 48 (.Pass ⟨0, 0, 0, 0⟩))) d33.body (defBody (PySem.Challenge.pw_fewexamples_k00_classes_and_what_still_f.main.body.getD 48 (.Pass ⟨0, 0, 0, 0⟩))) = true := by decide +kernel
set_option maxHeartbeats 4000000 in
theorem c34 : chkSs glb ["n", "sample", "error"] (defScope (PySem.Challenge.pw_fewexamples_k00_classes_and_what_still_f.main.body.getD 49 (.Pass ⟨0, 0, 0, 0⟩))) d34.body (defBody (PySem.Challenge.pw_fewexamples_k00_classes_and_what_still_f.main.body.getD 49 (.Pass ⟨0, 0, 0, 0⟩))) = true := by decide +kernel
set_option maxHeartbeats 4000000 in
theorem c35 : chkSs glb ["draws", "some", "sample", "wrong", "bad", "told", "samples", "numbers", "n", "rules", "way", "size", "one", "point", "rule"] (defScope (PySem.Challenge.pw_fewexamples_k00_classes_and_what_still_f.main.body.getD 50 (.Pass ⟨0, 0, 0, 0⟩))) d35.body (defBody (PySem.Challenge.pw_fewexamples_k00_classes_and_what_still_f.main.body.getD 50 (.Pass ⟨0, 0, 0, 0⟩))) = true := by decide +kernel
set_option maxHeartbeats 4000000 in
theorem c36 : chkSs glb ["script", "draws", "grows", "answers", "some", "turn", "n", "rules", "sample", "found", "told", "free", "least", "greatest", "ones", "due", "rule", "point", "at", "way", "other"] (defScope (PySem.Challenge.pw_fewexamples_k00_classes_and_what_still_f.main.body.getD 51 (.Pass ⟨0, 0, 0, 0⟩))) d36.body (defBody (PySem.Challenge.pw_fewexamples_k00_classes_and_what_still_f.main.body.getD 51 (.Pass ⟨0, 0, 0, 0⟩))) = true := by decide +kernel
end
set_option maxHeartbeats 40000000 in
theorem all {K : PySem.W.Frag} {h : Heap} {mg : Str → Option Value} {fa : Addr} (X : K.In h) (G : h.Ns mainGlobals mg) (hfa : mg "law" = some (.ref fa)) (P : Program) (w : World)
    {f0 f1 f2 f3 f4 f5 f6 f7 f8 f9 f10 f11 f12 f13 f14 f15 f16 f17 f18 f19 f20 f21 f22 f23 f24 f25 f26 f27 f28 f29 f30 f31 f32 f33 f34 f35 f36 C0 C1 C2 C3 C4 C5 C6 C7 : Addr} {od0 an0 od1 an1 od2 an2 od3 an3 od4 an4 od5 an5 od6 an6 od7 an7 od8 an8 od9 an9 od10 an10 od11 an11 od12 an12 od13 an13 od14 an14 od15 an15 od16 an16 od17 an17 od18 an18 od19 an19 od20 an20 od21 an21 od22 an22 od23 an23 od24 an24 od25 an25 od26 an26 od27 an27 od28 an28 od29 an29 od30 an30 od31 an31 od32 an32 od33 an33 od34 an34 od35 an35 od36 an36 : Option Addr} {oc0 kV0 dc0 pm0 cd0 ct0 oc1 kV1 dc1 pm1 cd1 ct1 oc2 kV2 dc2 pm2 cd2 ct2 oc3 kV3 dc3 pm3 cd3 ct3 oc4 kV4 dc4 pm4 cd4 ct4 oc5 kV5 dc5 pm5 cd5 ct5 oc6 kV6 dc6 pm6 cd6 ct6 oc7 kV7 dc7 pm7 cd7 ct7 oc8 kV8 dc8 pm8 cd8 ct8 oc9 kV9 dc9 pm9 cd9 ct9 oc10 kV10 dc10 pm10 cd10 ct10 oc11 kV11 dc11 pm11 cd11 ct11 oc12 kV12 dc12 pm12 cd12 ct12 oc13 kV13 dc13 pm13 cd13 ct13 oc14 kV14 dc14 pm14 cd14 ct14 oc15 kV15 dc15 pm15 cd15 ct15 oc16 kV16 dc16 pm16 cd16 ct16 oc17 kV17 dc17 pm17 cd17 ct17 oc18 kV18 dc18 pm18 cd18 ct18 oc19 kV19 dc19 pm19 cd19 ct19 oc20 kV20 dc20 pm20 cd20 ct20 oc21 kV21 dc21 pm21 cd21 ct21 oc22 kV22 dc22 pm22 cd22 ct22 oc23 kV23 dc23 pm23 cd23 ct23 oc24 kV24 dc24 pm24 cd24 ct24 oc25 kV25 dc25 pm25 cd25 ct25 oc26 kV26 dc26 pm26 cd26 ct26 oc27 kV27 dc27 pm27 cd27 ct27 oc28 kV28 dc28 pm28 cd28 ct28 oc29 kV29 dc29 pm29 cd29 ct29 oc30 kV30 dc30 pm30 cd30 ct30 oc31 kV31 dc31 pm31 cd31 ct31 oc32 kV32 dc32 pm32 cd32 ct32 oc33 kV33 dc33 pm33 cd33 ct33 oc34 kV34 dc34 pm34 cd34 ct34 oc35 kV35 dc35 pm35 cd35 ct35 oc36 kV36 dc36 pm36 cd36 ct36 : Value} {sl0 sl1 sl2 sl3 sl4 sl5 sl6 sl7 sl8 sl9 sl10 sl11 sl12 sl13 sl14 sl15 sl16 sl17 sl18 sl19 sl20 sl21 sl22 sl23 sl24 sl25 sl26 sl27 sl28 sl29 sl30 sl31 sl32 sl33 sl34 sl35 sl36 : Array (Option Value)} {tk0 tk1 : Tok}
    (a0 : PySem.W.nsIn K mainGlobals "is_class" = some (some (.ref f0)))
    (l0 : K.lookup f0 = some ⟨oc0, od0, .func (PySem.W.fnOf "is_class" "is_class" (defArgs (PySem.Challenge.pw_fewexamples_k00_classes_and_what_still_f.main.body.getD 12 (.Pass ⟨0, 0, 0, 0⟩))) (defBody (PySem.Challenge.pw_fewexamples_k00_classes_and_what_still_f.main.body.getD 12 (.Pass ⟨0, 0, 0, 0⟩))) (defScope (PySem.Challenge.pw_fewexamples_k00_classes_and_what_still_f.main.body.getD 12 (.Pass ⟨0, 0, 0, 0⟩))) .none kV0 dc0 pm0 an0 cd0 ct0), sl0⟩)
    (b0 : PySem.W.codeIn K cd0 "is_class" = true) (k0 : PySem.W.keepIn K (.ref f0) = true)
    (a1 : PySem.W.nsIn K mainGlobals "check_class" = some (some (.ref f1)))
    (l1 : K.lookup f1 = some ⟨oc1, od1, .func (PySem.W.fnOf "check_class" "check_class" (defArgs (PySem.Challenge.pw_fewexamples_k00_classes_and_what_still_f.main.body.getD 13 (.Pass ⟨0, 0, 0, 0⟩))) (defBody (PySem.Challenge.pw_fewexamples_k00_classes_and_what_still_f.main.body.getD 13 (.Pass ⟨0, 0, 0, 0⟩))) (defScope (PySem.Challenge.pw_fewexamples_k00_classes_and_what_still_f.main.body.getD 13 (.Pass ⟨0, 0, 0, 0⟩))) .none kV1 dc1 pm1 an1 cd1 ct1), sl1⟩)
    (b1 : PySem.W.codeIn K cd1 "check_class" = true) (k1 : PySem.W.keepIn K (.ref f1) = true)
    (a2 : PySem.W.nsIn K mainGlobals "are_examples" = some (some (.ref f2)))
    (l2 : K.lookup f2 = some ⟨oc2, od2, .func (PySem.W.fnOf "are_examples" "are_examples" (defArgs (PySem.Challenge.pw_fewexamples_k00_classes_and_what_still_f.main.body.getD 14 (.Pass ⟨0, 0, 0, 0⟩))) (defBody (PySem.Challenge.pw_fewexamples_k00_classes_and_what_still_f.main.body.getD 14 (.Pass ⟨0, 0, 0, 0⟩))) (defScope (PySem.Challenge.pw_fewexamples_k00_classes_and_what_still_f.main.body.getD 14 (.Pass ⟨0, 0, 0, 0⟩))) .none kV2 dc2 pm2 an2 cd2 ct2), sl2⟩)
    (b2 : PySem.W.codeIn K cd2 "are_examples" = true) (k2 : PySem.W.keepIn K (.ref f2) = true)
    (a3 : PySem.W.nsIn K mainGlobals "is_sample" = some (some (.ref f3)))
    (l3 : K.lookup f3 = some ⟨oc3, od3, .func (PySem.W.fnOf "is_sample" "is_sample" (defArgs (PySem.Challenge.pw_fewexamples_k00_classes_and_what_still_f.main.body.getD 15 (.Pass ⟨0, 0, 0, 0⟩))) (defBody (PySem.Challenge.pw_fewexamples_k00_classes_and_what_still_f.main.body.getD 15 (.Pass ⟨0, 0, 0, 0⟩))) (defScope (PySem.Challenge.pw_fewexamples_k00_classes_and_what_still_f.main.body.getD 15 (.Pass ⟨0, 0, 0, 0⟩))) .none kV3 dc3 pm3 an3 cd3 ct3), sl3⟩)
    (b3 : PySem.W.codeIn K cd3 "is_sample" = true) (k3 : PySem.W.keepIn K (.ref f3) = true)
    (a4 : PySem.W.nsIn K mainGlobals "check_sample" = some (some (.ref f4)))
    (l4 : K.lookup f4 = some ⟨oc4, od4, .func (PySem.W.fnOf "check_sample" "check_sample" (defArgs (PySem.Challenge.pw_fewexamples_k00_classes_and_what_still_f.main.body.getD 16 (.Pass ⟨0, 0, 0, 0⟩))) (defBody (PySem.Challenge.pw_fewexamples_k00_classes_and_what_still_f.main.body.getD 16 (.Pass ⟨0, 0, 0, 0⟩))) (defScope (PySem.Challenge.pw_fewexamples_k00_classes_and_what_still_f.main.body.getD 16 (.Pass ⟨0, 0, 0, 0⟩))) .none kV4 dc4 pm4 an4 cd4 ct4), sl4⟩)
    (b4 : PySem.W.codeIn K cd4 "check_sample" = true) (k4 : PySem.W.keepIn K (.ref f4) = true)
    (a5 : PySem.W.nsIn K mainGlobals "has" = some (some (.ref f5)))
    (l5 : K.lookup f5 = some ⟨oc5, od5, .func (PySem.W.fnOf "has" "has" (defArgs (PySem.Challenge.pw_fewexamples_k00_classes_and_what_still_f.main.body.getD 17 (.Pass ⟨0, 0, 0, 0⟩))) (defBody (PySem.Challenge.pw_fewexamples_k00_classes_and_what_still_f.main.body.getD 17 (.Pass ⟨0, 0, 0, 0⟩))) (defScope (PySem.Challenge.pw_fewexamples_k00_classes_and_what_still_f.main.body.getD 17 (.Pass ⟨0, 0, 0, 0⟩))) .none kV5 dc5 pm5 an5 cd5 ct5), sl5⟩)
    (b5 : PySem.W.codeIn K cd5 "has" = true) (k5 : PySem.W.keepIn K (.ref f5) = true)
    (a6 : PySem.W.nsIn K mainGlobals "fits_of" = some (some (.ref f6)))
    (l6 : K.lookup f6 = some ⟨oc6, od6, .func (PySem.W.fnOf "fits_of" "fits_of" (defArgs (PySem.Challenge.pw_fewexamples_k00_classes_and_what_still_f.main.body.getD 18 (.Pass ⟨0, 0, 0, 0⟩))) (defBody (PySem.Challenge.pw_fewexamples_k00_classes_and_what_still_f.main.body.getD 18 (.Pass ⟨0, 0, 0, 0⟩))) (defScope (PySem.Challenge.pw_fewexamples_k00_classes_and_what_still_f.main.body.getD 18 (.Pass ⟨0, 0, 0, 0⟩))) .none kV6 dc6 pm6 an6 cd6 ct6), sl6⟩)
    (b6 : PySem.W.codeIn K cd6 "fits_of" = true) (k6 : PySem.W.keepIn K (.ref f6) = true)
    (a7 : PySem.W.nsIn K mainGlobals "left_of" = some (some (.ref f7)))
    (l7 : K.lookup f7 = some ⟨oc7, od7, .func (PySem.W.fnOf "left_of" "left_of" (defArgs (PySem.Challenge.pw_fewexamples_k00_classes_and_what_still_f.main.body.getD 19 (.Pass ⟨0, 0, 0, 0⟩))) (defBody (PySem.Challenge.pw_fewexamples_k00_classes_and_what_still_f.main.body.getD 19 (.Pass ⟨0, 0, 0, 0⟩))) (defScope (PySem.Challenge.pw_fewexamples_k00_classes_and_what_still_f.main.body.getD 19 (.Pass ⟨0, 0, 0, 0⟩))) .none kV7 dc7 pm7 an7 cd7 ct7), sl7⟩)
    (b7 : PySem.W.codeIn K cd7 "left_of" = true) (k7 : PySem.W.keepIn K (.ref f7) = true)
    (a8 : PySem.W.nsIn K mainGlobals "fits" = some (some (.ref f8)))
    (l8 : K.lookup f8 = some ⟨oc8, od8, .func (PySem.W.fnOf "fits" "fits" (defArgs (PySem.Challenge.pw_fewexamples_k00_classes_and_what_still_f.main.body.getD 20 (.Pass ⟨0, 0, 0, 0⟩))) (defBody (PySem.Challenge.pw_fewexamples_k00_classes_and_what_still_f.main.body.getD 20 (.Pass ⟨0, 0, 0, 0⟩))) (defScope (PySem.Challenge.pw_fewexamples_k00_classes_and_what_still_f.main.body.getD 20 (.Pass ⟨0, 0, 0, 0⟩))) .none kV8 dc8 pm8 an8 cd8 ct8), sl8⟩)
    (b8 : PySem.W.codeIn K cd8 "fits" = true) (k8 : PySem.W.keepIn K (.ref f8) = true)
    (a9 : PySem.W.nsIn K mainGlobals "left" = some (some (.ref f9)))
    (l9 : K.lookup f9 = some ⟨oc9, od9, .func (PySem.W.fnOf "left" "left" (defArgs (PySem.Challenge.pw_fewexamples_k00_classes_and_what_still_f.main.body.getD 21 (.Pass ⟨0, 0, 0, 0⟩))) (defBody (PySem.Challenge.pw_fewexamples_k00_classes_and_what_still_f.main.body.getD 21 (.Pass ⟨0, 0, 0, 0⟩))) (defScope (PySem.Challenge.pw_fewexamples_k00_classes_and_what_still_f.main.body.getD 21 (.Pass ⟨0, 0, 0, 0⟩))) .none kV9 dc9 pm9 an9 cd9 ct9), sl9⟩)
    (b9 : PySem.W.codeIn K cd9 "left" = true) (k9 : PySem.W.keepIn K (.ref f9) = true)
    (a10 : PySem.W.nsIn K mainGlobals "left_some" = some (some (.ref f10)))
    (l10 : K.lookup f10 = some ⟨oc10, od10, .func (PySem.W.fnOf "left_some" "left_some" (defArgs (PySem.Challenge.pw_fewexamples_k00_classes_and_what_still_f.main.body.getD 22 (.Pass ⟨0, 0, 0, 0⟩))) (defBody (PySem.Challenge.pw_fewexamples_k00_classes_and_what_still_f.main.body.getD 22 (.Pass ⟨0, 0, 0, 0⟩))) (defScope (PySem.Challenge.pw_fewexamples_k00_classes_and_what_still_f.main.body.getD 22 (.Pass ⟨0, 0, 0, 0⟩))) .none kV10 dc10 pm10 an10 cd10 ct10), sl10⟩)
    (b10 : PySem.W.codeIn K cd10 "left_some" = true) (k10 : PySem.W.keepIn K (.ref f10) = true)
    (a11 : PySem.W.nsIn K mainGlobals "settled_by" = some (some (.ref f11)))
    (l11 : K.lookup f11 = some ⟨oc11, od11, .func (PySem.W.fnOf "settled_by" "settled_by" (defArgs (PySem.Challenge.pw_fewexamples_k00_classes_and_what_still_f.main.body.getD 23 (.Pass ⟨0, 0, 0, 0⟩))) (defBody (PySem.Challenge.pw_fewexamples_k00_classes_and_what_still_f.main.body.getD 23 (.Pass ⟨0, 0, 0, 0⟩))) (defScope (PySem.Challenge.pw_fewexamples_k00_classes_and_what_still_f.main.body.getD 23 (.Pass ⟨0, 0, 0, 0⟩))) .none kV11 dc11 pm11 an11 cd11 ct11), sl11⟩)
    (b11 : PySem.W.codeIn K cd11 "settled_by" = true) (k11 : PySem.W.keepIn K (.ref f11) = true)
    (a12 : PySem.W.nsIn K mainGlobals "settled" = some (some (.ref f12)))
    (l12 : K.lookup f12 = some ⟨oc12, od12, .func (PySem.W.fnOf "settled" "settled" (defArgs (PySem.Challenge.pw_fewexamples_k00_classes_and_what_still_f.main.body.getD 24 (.Pass ⟨0, 0, 0, 0⟩))) (defBody (PySem.Challenge.pw_fewexamples_k00_classes_and_what_still_f.main.body.getD 24 (.Pass ⟨0, 0, 0, 0⟩))) (defScope (PySem.Challenge.pw_fewexamples_k00_classes_and_what_still_f.main.body.getD 24 (.Pass ⟨0, 0, 0, 0⟩))) .none kV12 dc12 pm12 an12 cd12 ct12), sl12⟩)
    (b12 : PySem.W.codeIn K cd12 "settled" = true) (k12 : PySem.W.keepIn K (.ref f12) = true)
    (a13 : PySem.W.nsIn K mainGlobals "closed_sample" = some (some (.ref f13)))
    (l13 : K.lookup f13 = some ⟨oc13, od13, .func (PySem.W.fnOf "closed_sample" "closed_sample" (defArgs (PySem.Challenge.pw_fewexamples_k00_classes_and_what_still_f.main.body.getD 25 (.Pass ⟨0, 0, 0, 0⟩))) (defBody (PySem.Challenge.pw_fewexamples_k00_classes_and_what_still_f.main.body.getD 25 (.Pass ⟨0, 0, 0, 0⟩))) (defScope (PySem.Challenge.pw_fewexamples_k00_classes_and_what_still_f.main.body.getD 25 (.Pass ⟨0, 0, 0, 0⟩))) .none kV13 dc13 pm13 an13 cd13 ct13), sl13⟩)
    (b13 : PySem.W.codeIn K cd13 "closed_sample" = true) (k13 : PySem.W.keepIn K (.ref f13) = true)
    (a14 : PySem.W.nsIn K mainGlobals "is_free" = some (some (.ref f14)))
    (l14 : K.lookup f14 = some ⟨oc14, od14, .func (PySem.W.fnOf "is_free" "is_free" (defArgs (PySem.Challenge.pw_fewexamples_k00_classes_and_what_still_f.main.body.getD 26 (.Pass ⟨0, 0, 0, 0⟩))) (defBody (PySem.Challenge.pw_fewexamples_k00_classes_and_what_still_f.main.body.getD 26 (.Pass ⟨0, 0, 0, 0⟩))) (defScope (PySem.Challenge.pw_fewexamples_k00_classes_and_what_still_f.main.body.getD 26 (.Pass ⟨0, 0, 0, 0⟩))) .none kV14 dc14 pm14 an14 cd14 ct14), sl14⟩)
    (b14 : PySem.W.codeIn K cd14 "is_free" = true) (k14 : PySem.W.keepIn K (.ref f14) = true)
    (a15 : PySem.W.nsIn K mainGlobals "least_of" = some (some (.ref f15)))
    (l15 : K.lookup f15 = some ⟨oc15, od15, .func (PySem.W.fnOf "least_of" "least_of" (defArgs (PySem.Challenge.pw_fewexamples_k00_classes_and_what_still_f.main.body.getD 27 (.Pass ⟨0, 0, 0, 0⟩))) (defBody (PySem.Challenge.pw_fewexamples_k00_classes_and_what_still_f.main.body.getD 27 (.Pass ⟨0, 0, 0, 0⟩))) (defScope (PySem.Challenge.pw_fewexamples_k00_classes_and_what_still_f.main.body.getD 27 (.Pass ⟨0, 0, 0, 0⟩))) .none kV15 dc15 pm15 an15 cd15 ct15), sl15⟩)
    (b15 : PySem.W.codeIn K cd15 "least_of" = true) (k15 : PySem.W.keepIn K (.ref f15) = true)
    (a16 : PySem.W.nsIn K mainGlobals "greatest_of" = some (some (.ref f16)))
    (l16 : K.lookup f16 = some ⟨oc16, od16, .func (PySem.W.fnOf "greatest_of" "greatest_of" (defArgs (PySem.Challenge.pw_fewexamples_k00_classes_and_what_still_f.main.body.getD 28 (.Pass ⟨0, 0, 0, 0⟩))) (defBody (PySem.Challenge.pw_fewexamples_k00_classes_and_what_still_f.main.body.getD 28 (.Pass ⟨0, 0, 0, 0⟩))) (defScope (PySem.Challenge.pw_fewexamples_k00_classes_and_what_still_f.main.body.getD 28 (.Pass ⟨0, 0, 0, 0⟩))) .none kV16 dc16 pm16 an16 cd16 ct16), sl16⟩)
    (b16 : PySem.W.codeIn K cd16 "greatest_of" = true) (k16 : PySem.W.keepIn K (.ref f16) = true)
    (a17 : PySem.W.nsIn K mainGlobals "least_left" = some (some (.ref f17)))
    (l17 : K.lookup f17 = some ⟨oc17, od17, .func (PySem.W.fnOf "least_left" "least_left" (defArgs (PySem.Challenge.pw_fewexamples_k00_classes_and_what_still_f.main.body.getD 29 (.Pass ⟨0, 0, 0, 0⟩))) (defBody (PySem.Challenge.pw_fewexamples_k00_classes_and_what_still_f.main.body.getD 29 (.Pass ⟨0, 0, 0, 0⟩))) (defScope (PySem.Challenge.pw_fewexamples_k00_classes_and_what_still_f.main.body.getD 29 (.Pass ⟨0, 0, 0, 0⟩))) .none kV17 dc17 pm17 an17 cd17 ct17), sl17⟩)
    (b17 : PySem.W.codeIn K cd17 "least_left" = true) (k17 : PySem.W.keepIn K (.ref f17) = true)
    (a18 : PySem.W.nsIn K mainGlobals "greatest_left" = some (some (.ref f18)))
    (l18 : K.lookup f18 = some ⟨oc18, od18, .func (PySem.W.fnOf "greatest_left" "greatest_left" (defArgs (PySem.Challenge.pw_fewexamples_k00_classes_and_what_still_f.main.body.getD 30 (.Pass ⟨0, 0, 0, 0⟩))) (defBody (PySem.Challenge.pw_fewexamples_k00_classes_and_what_still_f.main.body.getD 30 (.Pass ⟨0, 0, 0, 0⟩))) (defScope (PySem.Challenge.pw_fewexamples_k00_classes_and_what_still_f.main.body.getD 30 (.Pass ⟨0, 0, 0, 0⟩))) .none kV18 dc18 pm18 an18 cd18 ct18), sl18⟩)
    (b18 : PySem.W.codeIn K cd18 "greatest_left" = true) (k18 : PySem.W.keepIn K (.ref f18) = true)
    (a19 : PySem.W.nsIn K mainGlobals "half_answer" = some (some (.ref f19)))
    (l19 : K.lookup f19 = some ⟨oc19, od19, .func (PySem.W.fnOf "half_answer" "half_answer" (defArgs (PySem.Challenge.pw_fewexamples_k00_classes_and_what_still_f.main.body.getD 31 (.Pass ⟨0, 0, 0, 0⟩))) (defBody (PySem.Challenge.pw_fewexamples_k00_classes_and_what_still_f.main.body.getD 31 (.Pass ⟨0, 0, 0, 0⟩))) (defScope (PySem.Challenge.pw_fewexamples_k00_classes_and_what_still_f.main.body.getD 31 (.Pass ⟨0, 0, 0, 0⟩))) .none kV19 dc19 pm19 an19 cd19 ct19), sl19⟩)
    (b19 : PySem.W.codeIn K cd19 "half_answer" = true) (k19 : PySem.W.keepIn K (.ref f19) = true)
    (a20 : PySem.W.nsIn K mainGlobals "_law_number" = some (some (.ref f20)))
    (l20 : K.lookup f20 = some ⟨oc20, od20, .func (PySem.W.fnOf "_law_number" "_law_number" (defArgs (PySem.Challenge.pw_fewexamples_k00_classes_and_what_still_f.main.body.getD 33 (.Pass ⟨0, 0, 0, 0⟩))) (defBody (PySem.Challenge.pw_fewexamples_k00_classes_and_what_still_f.main.body.getD 33 (.Pass ⟨0, 0, 0, 0⟩))) (defScope (PySem.Challenge.pw_fewexamples_k00_classes_and_what_still_f.main.body.getD 33 (.Pass ⟨0, 0, 0, 0⟩))) .none kV20 dc20 pm20 an20 cd20 ct20), sl20⟩)
    (b20 : PySem.W.codeIn K cd20 "_law_number" = true) (k20 : PySem.W.keepIn K (.ref f20) = true)
    (a21 : PySem.W.nsIn K mainGlobals "_law_draws" = some (some (.ref f21)))
    (l21 : K.lookup f21 = some ⟨oc21, od21, .func (PySem.W.fnOf "_law_draws" "_law_draws" (defArgs (PySem.Challenge.pw_fewexamples_k00_classes_and_what_still_f.main.body.getD 34 (.Pass ⟨0, 0, 0, 0⟩))) (defBody (PySem.Challenge.pw_fewexamples_k00_classes_and_what_still_f.main.body.getD 34 (.Pass ⟨0, 0, 0, 0⟩))) (defScope (PySem.Challenge.pw_fewexamples_k00_classes_and_what_still_f.main.body.getD 34 (.Pass ⟨0, 0, 0, 0⟩))) .none kV21 dc21 pm21 an21 cd21 ct21), sl21⟩)
    (b21 : PySem.W.codeIn K cd21 "_law_draws" = true) (k21 : PySem.W.keepIn K (.ref f21) = true)
    (a22 : PySem.W.nsIn K mainGlobals "_law_flat" = some (some (.ref f22)))
    (l22 : K.lookup f22 = some ⟨oc22, od22, .func (PySem.W.fnOf "_law_flat" "_law_flat" (defArgs (PySem.Challenge.pw_fewexamples_k00_classes_and_what_still_f.main.body.getD 35 (.Pass ⟨0, 0, 0, 0⟩))) (defBody (PySem.Challenge.pw_fewexamples_k00_classes_and_what_still_f.main.body.getD 35 (.Pass ⟨0, 0, 0, 0⟩))) (defScope (PySem.Challenge.pw_fewexamples_k00_classes_and_what_still_f.main.body.getD 35 (.Pass ⟨0, 0, 0, 0⟩))) .none kV22 dc22 pm22 an22 cd22 ct22), sl22⟩)
    (b22 : PySem.W.codeIn K cd22 "_law_flat" = true) (k22 : PySem.W.keepIn K (.ref f22) = true)
    (a23 : PySem.W.nsIn K mainGlobals "_law_next" = some (some (.ref f23)))
    (l23 : K.lookup f23 = some ⟨oc23, od23, .func (PySem.W.fnOf "_law_next" "_law_next" (defArgs (PySem.Challenge.pw_fewexamples_k00_classes_and_what_still_f.main.body.getD 36 (.Pass ⟨0, 0, 0, 0⟩))) (defBody (PySem.Challenge.pw_fewexamples_k00_classes_and_what_still_f.main.body.getD 36 (.Pass ⟨0, 0, 0, 0⟩))) (defScope (PySem.Challenge.pw_fewexamples_k00_classes_and_what_still_f.main.body.getD 36 (.Pass ⟨0, 0, 0, 0⟩))) .none kV23 dc23 pm23 an23 cd23 ct23), sl23⟩)
    (b23 : PySem.W.codeIn K cd23 "_law_next" = true) (k23 : PySem.W.keepIn K (.ref f23) = true)
    (a24 : PySem.W.nsIn K mainGlobals "_law_more" = some (some (.ref f24)))
    (l24 : K.lookup f24 = some ⟨oc24, od24, .func (PySem.W.fnOf "_law_more" "_law_more" (defArgs (PySem.Challenge.pw_fewexamples_k00_classes_and_what_still_f.main.body.getD 37 (.Pass ⟨0, 0, 0, 0⟩))) (defBody (PySem.Challenge.pw_fewexamples_k00_classes_and_what_still_f.main.body.getD 37 (.Pass ⟨0, 0, 0, 0⟩))) (defScope (PySem.Challenge.pw_fewexamples_k00_classes_and_what_still_f.main.body.getD 37 (.Pass ⟨0, 0, 0, 0⟩))) .none kV24 dc24 pm24 an24 cd24 ct24), sl24⟩)
    (b24 : PySem.W.codeIn K cd24 "_law_more" = true) (k24 : PySem.W.keepIn K (.ref f24) = true)
    (a25 : PySem.W.nsIn K mainGlobals "_law_pick" = some (some (.ref f25)))
    (l25 : K.lookup f25 = some ⟨oc25, od25, .func (PySem.W.fnOf "_law_pick" "_law_pick" (defArgs (PySem.Challenge.pw_fewexamples_k00_classes_and_what_still_f.main.body.getD 38 (.Pass ⟨0, 0, 0, 0⟩))) (defBody (PySem.Challenge.pw_fewexamples_k00_classes_and_what_still_f.main.body.getD 38 (.Pass ⟨0, 0, 0, 0⟩))) (defScope (PySem.Challenge.pw_fewexamples_k00_classes_and_what_still_f.main.body.getD 38 (.Pass ⟨0, 0, 0, 0⟩))) .none kV25 dc25 pm25 an25 cd25 ct25), sl25⟩)
    (b25 : PySem.W.codeIn K cd25 "_law_pick" = true) (k25 : PySem.W.keepIn K (.ref f25) = true)
    (a26 : PySem.W.nsIn K mainGlobals "_law_kind" = some (some (.ref f26)))
    (l26 : K.lookup f26 = some ⟨oc26, od26, .func (PySem.W.fnOf "_law_kind" "_law_kind" (defArgs (PySem.Challenge.pw_fewexamples_k00_classes_and_what_still_f.main.body.getD 39 (.Pass ⟨0, 0, 0, 0⟩))) (defBody (PySem.Challenge.pw_fewexamples_k00_classes_and_what_still_f.main.body.getD 39 (.Pass ⟨0, 0, 0, 0⟩))) (defScope (PySem.Challenge.pw_fewexamples_k00_classes_and_what_still_f.main.body.getD 39 (.Pass ⟨0, 0, 0, 0⟩))) .none kV26 dc26 pm26 an26 cd26 ct26), sl26⟩)
    (b26 : PySem.W.codeIn K cd26 "_law_kind" = true) (k26 : PySem.W.keepIn K (.ref f26) = true)
    (a27 : PySem.W.nsIn K mainGlobals "_law_power" = some (some (.ref f27)))
    (l27 : K.lookup f27 = some ⟨oc27, od27, .func (PySem.W.fnOf "_law_power" "_law_power" (defArgs (PySem.Challenge.pw_fewexamples_k00_classes_and_what_still_f.main.body.getD 40 (.Pass ⟨0, 0, 0, 0⟩))) (defBody (PySem.Challenge.pw_fewexamples_k00_classes_and_what_still_f.main.body.getD 40 (.Pass ⟨0, 0, 0, 0⟩))) (defScope (PySem.Challenge.pw_fewexamples_k00_classes_and_what_still_f.main.body.getD 40 (.Pass ⟨0, 0, 0, 0⟩))) .none kV27 dc27 pm27 an27 cd27 ct27), sl27⟩)
    (b27 : PySem.W.codeIn K cd27 "_law_power" = true) (k27 : PySem.W.keepIn K (.ref f27) = true)
    (a28 : PySem.W.nsIn K mainGlobals "_law_has" = some (some (.ref f28)))
    (l28 : K.lookup f28 = some ⟨oc28, od28, .func (PySem.W.fnOf "_law_has" "_law_has" (defArgs (PySem.Challenge.pw_fewexamples_k00_classes_and_what_still_f.main.body.getD 41 (.Pass ⟨0, 0, 0, 0⟩))) (defBody (PySem.Challenge.pw_fewexamples_k00_classes_and_what_still_f.main.body.getD 41 (.Pass ⟨0, 0, 0, 0⟩))) (defScope (PySem.Challenge.pw_fewexamples_k00_classes_and_what_still_f.main.body.getD 41 (.Pass ⟨0, 0, 0, 0⟩))) .none kV28 dc28 pm28 an28 cd28 ct28), sl28⟩)
    (b28 : PySem.W.codeIn K cd28 "_law_has" = true) (k28 : PySem.W.keepIn K (.ref f28) = true)
    (a29 : PySem.W.nsIn K mainGlobals "_law_class" = some (some (.ref f29)))
    (l29 : K.lookup f29 = some ⟨oc29, od29, .func (PySem.W.fnOf "_law_class" "_law_class" (defArgs (PySem.Challenge.pw_fewexamples_k00_classes_and_what_still_f.main.body.getD 42 (.Pass ⟨0, 0, 0, 0⟩))) (defBody (PySem.Challenge.pw_fewexamples_k00_classes_and_what_still_f.main.body.getD 42 (.Pass ⟨0, 0, 0, 0⟩))) (defScope (PySem.Challenge.pw_fewexamples_k00_classes_and_what_still_f.main.body.getD 42 (.Pass ⟨0, 0, 0, 0⟩))) .none kV29 dc29 pm29 an29 cd29 ct29), sl29⟩)
    (b29 : PySem.W.codeIn K cd29 "_law_class" = true) (k29 : PySem.W.keepIn K (.ref f29) = true)
    (a30 : PySem.W.nsIn K mainGlobals "_law_sample" = some (some (.ref f30)))
    (l30 : K.lookup f30 = some ⟨oc30, od30, .func (PySem.W.fnOf "_law_sample" "_law_sample" (defArgs (PySem.Challenge.pw_fewexamples_k00_classes_and_what_still_f.main.body.getD 43 (.Pass ⟨0, 0, 0, 0⟩))) (defBody (PySem.Challenge.pw_fewexamples_k00_classes_and_what_still_f.main.body.getD 43 (.Pass ⟨0, 0, 0, 0⟩))) (defScope (PySem.Challenge.pw_fewexamples_k00_classes_and_what_still_f.main.body.getD 43 (.Pass ⟨0, 0, 0, 0⟩))) .none kV30 dc30 pm30 an30 cd30 ct30), sl30⟩)
    (b30 : PySem.W.codeIn K cd30 "_law_sample" = true) (k30 : PySem.W.keepIn K (.ref f30) = true)
    (a31 : PySem.W.nsIn K mainGlobals "_law_left" = some (some (.ref f31)))
    (l31 : K.lookup f31 = some ⟨oc31, od31, .func (PySem.W.fnOf "_law_left" "_law_left" (defArgs (PySem.Challenge.pw_fewexamples_k00_classes_and_what_still_f.main.body.getD 44 (.Pass ⟨0, 0, 0, 0⟩))) (defBody (PySem.Challenge.pw_fewexamples_k00_classes_and_what_still_f.main.body.getD 44 (.Pass ⟨0, 0, 0, 0⟩))) (defScope (PySem.Challenge.pw_fewexamples_k00_classes_and_what_still_f.main.body.getD 44 (.Pass ⟨0, 0, 0, 0⟩))) .none kV31 dc31 pm31 an31 cd31 ct31), sl31⟩)
    (b31 : PySem.W.codeIn K cd31 "_law_left" = true) (k31 : PySem.W.keepIn K (.ref f31) = true)
    (a32 : PySem.W.nsIn K mainGlobals "_law_settled" = some (some (.ref f32)))
    (l32 : K.lookup f32 = some ⟨oc32, od32, .func (PySem.W.fnOf "_law_settled" "_law_settled" (defArgs (PySem.Challenge.pw_fewexamples_k00_classes_and_what_still_f.main.body.getD 47 (.Pass ⟨0, 0, 0, 0⟩))) (defBody (PySem.Challenge.pw_fewexamples_k00_classes_and_what_still_f.main.body.getD 47 (.Pass ⟨0, 0, 0, 0⟩))) (defScope (PySem.Challenge.pw_fewexamples_k00_classes_and_what_still_f.main.body.getD 47 (.Pass ⟨0, 0, 0, 0⟩))) .none kV32 dc32 pm32 an32 cd32 ct32), sl32⟩)
    (b32 : PySem.W.codeIn K cd32 "_law_settled" = true) (k32 : PySem.W.keepIn K (.ref f32) = true)
    (a33 : PySem.W.nsIn K mainGlobals "_law_asked" = some (some (.ref f33)))
    (l33 : K.lookup f33 = some ⟨oc33, od33, .func (PySem.W.fnOf "_law_asked" "_law_asked" (defArgs (PySem.Challenge.pw_fewexamples_k00_classes_and_what_still_f.main.body.getD 48 (.Pass ⟨0, 0, 0, 0⟩))) (defBody (PySem.Challenge.pw_fewexamples_k00_classes_and_what_still_f.main.body.getD 48 (.Pass ⟨0, 0, 0, 0⟩))) (defScope (PySem.Challenge.pw_fewexamples_k00_classes_and_what_still_f.main.body.getD 48 (.Pass ⟨0, 0, 0, 0⟩))) .none kV33 dc33 pm33 an33 cd33 ct33), sl33⟩)
    (b33 : PySem.W.codeIn K cd33 "_law_asked" = true) (k33 : PySem.W.keepIn K (.ref f33) = true)
    (a34 : PySem.W.nsIn K mainGlobals "_law_is_sample" = some (some (.ref f34)))
    (l34 : K.lookup f34 = some ⟨oc34, od34, .func (PySem.W.fnOf "_law_is_sample" "_law_is_sample" (defArgs (PySem.Challenge.pw_fewexamples_k00_classes_and_what_still_f.main.body.getD 49 (.Pass ⟨0, 0, 0, 0⟩))) (defBody (PySem.Challenge.pw_fewexamples_k00_classes_and_what_still_f.main.body.getD 49 (.Pass ⟨0, 0, 0, 0⟩))) (defScope (PySem.Challenge.pw_fewexamples_k00_classes_and_what_still_f.main.body.getD 49 (.Pass ⟨0, 0, 0, 0⟩))) .none kV34 dc34 pm34 an34 cd34 ct34), sl34⟩)
    (b34 : PySem.W.codeIn K cd34 "_law_is_sample" = true) (k34 : PySem.W.keepIn K (.ref f34) = true)
    (a35 : PySem.W.nsIn K mainGlobals "_law_refuses" = some (some (.ref f35)))
    (l35 : K.lookup f35 = some ⟨oc35, od35, .func (PySem.W.fnOf "_law_refuses" "_law_refuses" (defArgs (PySem.Challenge.pw_fewexamples_k00_classes_and_what_still_f.main.body.getD 50 (.Pass ⟨0, 0, 0, 0⟩))) (defBody (PySem.Challenge.pw_fewexamples_k00_classes_and_what_still_f.main.body.getD 50 (.Pass ⟨0, 0, 0, 0⟩))) (defScope (PySem.Challenge.pw_fewexamples_k00_classes_and_what_still_f.main.body.getD 50 (.Pass ⟨0, 0, 0, 0⟩))) .none kV35 dc35 pm35 an35 cd35 ct35), sl35⟩)
    (b35 : PySem.W.codeIn K cd35 "_law_refuses" = true) (k35 : PySem.W.keepIn K (.ref f35) = true)
    (a36 : PySem.W.nsIn K mainGlobals "law" = some (some (.ref f36)))
    (l36 : K.lookup f36 = some ⟨oc36, od36, .func (PySem.W.fnOf "law" "law" (defArgs (PySem.Challenge.pw_fewexamples_k00_classes_and_what_still_f.main.body.getD 51 (.Pass ⟨0, 0, 0, 0⟩))) (defBody (PySem.Challenge.pw_fewexamples_k00_classes_and_what_still_f.main.body.getD 51 (.Pass ⟨0, 0, 0, 0⟩))) (defScope (PySem.Challenge.pw_fewexamples_k00_classes_and_what_still_f.main.body.getD 51 (.Pass ⟨0, 0, 0, 0⟩))) .none kV36 dc36 pm36 an36 cd36 ct36), sl36⟩)
    (b36 : PySem.W.codeIn K cd36 "law" = true) (k36 : PySem.W.keepIn K (.ref f36) = true)
    (A0 : PySem.W.nsIn K mainGlobals "LearnError" = some (some (.ref C0)))
    (ga0 : PySem.W.findIn K (.ref C0) "__getattribute__" = some (some (.builtin "BaseException.__getattribute__"))) (gg0 : PySem.W.findIn K (.ref C0) "__getattr__" = some none) (s0 : PySem.W.subIn K (.ref C0) (.type "BaseException") = some true) (hd0 : PySem.W.hasDictIn K C0 = true) (ha0 : PySem.W.findIn K (.ref C0) "__class__" = some (some (.builtin "object.__class__"))) (hm0 : PySem.W.mroIn K C0 (.type "object") = some true) (xe0 : PySem.W.excIn K C0 [.type "ValueError", .type "Exception", .type "BaseException", .type "object"] "ValueError.__new__" = true) (kC0 : PySem.W.keepIn K (.ref C0) = true) (tC0 : PySem.W.typeIn K (.ref C0) = some (.type "type")) (iC0 : PySem.W.isClsIn K C0 = true)
    (A1 : PySem.W.nsIn K mainGlobals "NotClass" = some (some (.ref C1)))
    (ga1 : PySem.W.findIn K (.ref C1) "__getattribute__" = some (some (.builtin "BaseException.__getattribute__"))) (gg1 : PySem.W.findIn K (.ref C1) "__getattr__" = some none) (s1 : PySem.W.subIn K (.ref C1) (.type "BaseException") = some true) (hd1 : PySem.W.hasDictIn K C1 = true) (ha1 : PySem.W.findIn K (.ref C1) "__class__" = some (some (.builtin "object.__class__"))) (hm1 : PySem.W.mroIn K C1 (.type "object") = some true) (xe1 : PySem.W.excIn K C1 [.type "ValueError", .type "Exception", .type "BaseException", .type "object"] "ValueError.__new__" = true) (kC1 : PySem.W.keepIn K (.ref C1) = true) (tC1 : PySem.W.typeIn K (.ref C1) = some (.type "type")) (iC1 : PySem.W.isClsIn K C1 = true)
    (A2 : PySem.W.nsIn K mainGlobals "NotSample" = some (some (.ref C2)))
    (ga2 : PySem.W.findIn K (.ref C2) "__getattribute__" = some (some (.builtin "BaseException.__getattribute__"))) (gg2 : PySem.W.findIn K (.ref C2) "__getattr__" = some none) (s2 : PySem.W.subIn K (.ref C2) (.type "BaseException") = some true) (hd2 : PySem.W.hasDictIn K C2 = true) (ha2 : PySem.W.findIn K (.ref C2) "__class__" = some (some (.builtin "object.__class__"))) (hm2 : PySem.W.mroIn K C2 (.type "object") = some true) (xe2 : PySem.W.excIn K C2 [.type "ValueError", .type "Exception", .type "BaseException", .type "object"] "ValueError.__new__" = true) (kC2 : PySem.W.keepIn K (.ref C2) = true) (tC2 : PySem.W.typeIn K (.ref C2) = some (.type "type")) (iC2 : PySem.W.isClsIn K C2 = true)
    (A3 : PySem.W.nsIn K mainGlobals "NotTree" = some (some (.ref C3)))
    (ga3 : PySem.W.findIn K (.ref C3) "__getattribute__" = some (some (.builtin "BaseException.__getattribute__"))) (gg3 : PySem.W.findIn K (.ref C3) "__getattr__" = some none) (s3 : PySem.W.subIn K (.ref C3) (.type "BaseException") = some true) (hd3 : PySem.W.hasDictIn K C3 = true) (ha3 : PySem.W.findIn K (.ref C3) "__class__" = some (some (.builtin "object.__class__"))) (hm3 : PySem.W.mroIn K C3 (.type "object") = some true) (xe3 : PySem.W.excIn K C3 [.type "ValueError", .type "Exception", .type "BaseException", .type "object"] "ValueError.__new__" = true) (kC3 : PySem.W.keepIn K (.ref C3) = true) (tC3 : PySem.W.typeIn K (.ref C3) = some (.type "type")) (iC3 : PySem.W.isClsIn K C3 = true)
    (A4 : PySem.W.nsIn K mainGlobals "NotPaper" = some (some (.ref C4)))
    (ga4 : PySem.W.findIn K (.ref C4) "__getattribute__" = some (some (.builtin "BaseException.__getattribute__"))) (gg4 : PySem.W.findIn K (.ref C4) "__getattr__" = some none) (s4 : PySem.W.subIn K (.ref C4) (.type "BaseException") = some true) (hd4 : PySem.W.hasDictIn K C4 = true) (ha4 : PySem.W.findIn K (.ref C4) "__class__" = some (some (.builtin "object.__class__"))) (hm4 : PySem.W.mroIn K C4 (.type "object") = some true) (xe4 : PySem.W.excIn K C4 [.type "ValueError", .type "Exception", .type "BaseException", .type "object"] "ValueError.__new__" = true) (kC4 : PySem.W.keepIn K (.ref C4) = true) (tC4 : PySem.W.typeIn K (.ref C4) = some (.type "type")) (iC4 : PySem.W.isClsIn K C4 = true)
    (A5 : PySem.W.nsIn K mainGlobals "BadNumber" = some (some (.ref C5)))
    (ga5 : PySem.W.findIn K (.ref C5) "__getattribute__" = some (some (.builtin "BaseException.__getattribute__"))) (gg5 : PySem.W.findIn K (.ref C5) "__getattr__" = some none) (s5 : PySem.W.subIn K (.ref C5) (.type "BaseException") = some true) (hd5 : PySem.W.hasDictIn K C5 = true) (ha5 : PySem.W.findIn K (.ref C5) "__class__" = some (some (.builtin "object.__class__"))) (hm5 : PySem.W.mroIn K C5 (.type "object") = some true) (xe5 : PySem.W.excIn K C5 [.type "ValueError", .type "Exception", .type "BaseException", .type "object"] "ValueError.__new__" = true) (kC5 : PySem.W.keepIn K (.ref C5) = true) (tC5 : PySem.W.typeIn K (.ref C5) = some (.type "type")) (iC5 : PySem.W.isClsIn K C5 = true)
    (A6 : PySem.W.nsIn K mainGlobals "NoAnswer" = some (some (.ref C6)))
    (ga6 : PySem.W.findIn K (.ref C6) "__getattribute__" = some (some (.builtin "BaseException.__getattribute__"))) (gg6 : PySem.W.findIn K (.ref C6) "__getattr__" = some none) (s6 : PySem.W.subIn K (.ref C6) (.type "BaseException") = some true) (hd6 : PySem.W.hasDictIn K C6 = true) (ha6 : PySem.W.findIn K (.ref C6) "__class__" = some (some (.builtin "object.__class__"))) (hm6 : PySem.W.mroIn K C6 (.type "object") = some true) (xe6 : PySem.W.excIn K C6 [.type "ValueError", .type "Exception", .type "BaseException", .type "object"] "ValueError.__new__" = true) (kC6 : PySem.W.keepIn K (.ref C6) = true) (tC6 : PySem.W.typeIn K (.ref C6) = some (.type "type")) (iC6 : PySem.W.isClsIn K C6 = true)
    (A7 : PySem.W.nsIn K mainGlobals "TooLarge" = some (some (.ref C7)))
    (ga7 : PySem.W.findIn K (.ref C7) "__getattribute__" = some (some (.builtin "BaseException.__getattribute__"))) (gg7 : PySem.W.findIn K (.ref C7) "__getattr__" = some none) (s7 : PySem.W.subIn K (.ref C7) (.type "BaseException") = some true) (hd7 : PySem.W.hasDictIn K C7 = true) (ha7 : PySem.W.findIn K (.ref C7) "__class__" = some (some (.builtin "object.__class__"))) (hm7 : PySem.W.mroIn K C7 (.type "object") = some true) (xe7 : PySem.W.excIn K C7 [.type "ValueError", .type "Exception", .type "BaseException", .type "object"] "ValueError.__new__" = true) (kC7 : PySem.W.keepIn K (.ref C7) = true) (tC7 : PySem.W.typeIn K (.ref C7) = some (.type "type")) (iC7 : PySem.W.isClsIn K C7 = true)
    (hn : PySem.W.specialIn K (.builtin "object.__class__") "__get__" = some (some (.builtin "getset_descriptor.__get__"))) (ht : PySem.W.takesIn K (.builtin "object.__class__") = some true)
    (q0_0 : PySem.W.subIn K (.ref C0) (.ref C0) = some true)
    (q0_1 : PySem.W.subIn K (.ref C0) (.ref C1) = some false)
    (q0_2 : PySem.W.subIn K (.ref C0) (.ref C2) = some false)
    (q0_3 : PySem.W.subIn K (.ref C0) (.ref C3) = some false)
    (q0_4 : PySem.W.subIn K (.ref C0) (.ref C4) = some false)
    (q0_5 : PySem.W.subIn K (.ref C0) (.ref C5) = some false)
    (q0_6 : PySem.W.subIn K (.ref C0) (.ref C6) = some false)
    (q0_7 : PySem.W.subIn K (.ref C0) (.ref C7) = some false)
    (q1_0 : PySem.W.subIn K (.ref C1) (.ref C0) = some true)
    (q1_1 : PySem.W.subIn K (.ref C1) (.ref C1) = some true)
    (q1_2 : PySem.W.subIn K (.ref C1) (.ref C2) = some false)
    (q1_3 : PySem.W.subIn K (.ref C1) (.ref C3) = some false)
    (q1_4 : PySem.W.subIn K (.ref C1) (.ref C4) = some false)
    (q1_5 : PySem.W.subIn K (.ref C1) (.ref C5) = some false)
    (q1_6 : PySem.W.subIn K (.ref C1) (.ref C6) = some false)
    (q1_7 : PySem.W.subIn K (.ref C1) (.ref C7) = some false)
    (q2_0 : PySem.W.subIn K (.ref C2) (.ref C0) = some true)
    (q2_1 : PySem.W.subIn K (.ref C2) (.ref C1) = some false)
    (q2_2 : PySem.W.subIn K (.ref C2) (.ref C2) = some true)
    (q2_3 : PySem.W.subIn K (.ref C2) (.ref C3) = some false)
    (q2_4 : PySem.W.subIn K (.ref C2) (.ref C4) = some false)
    (q2_5 : PySem.W.subIn K (.ref C2) (.ref C5) = some false)
    (q2_6 : PySem.W.subIn K (.ref C2) (.ref C6) = some false)
    (q2_7 : PySem.W.subIn K (.ref C2) (.ref C7) = some false)
    (q3_0 : PySem.W.subIn K (.ref C3) (.ref C0) = some true)
    (q3_1 : PySem.W.subIn K (.ref C3) (.ref C1) = some false)
    (q3_2 : PySem.W.subIn K (.ref C3) (.ref C2) = some false)
    (q3_3 : PySem.W.subIn K (.ref C3) (.ref C3) = some true)
    (q3_4 : PySem.W.subIn K (.ref C3) (.ref C4) = some false)
    (q3_5 : PySem.W.subIn K (.ref C3) (.ref C5) = some false)
    (q3_6 : PySem.W.subIn K (.ref C3) (.ref C6) = some false)
    (q3_7 : PySem.W.subIn K (.ref C3) (.ref C7) = some false)
    (q4_0 : PySem.W.subIn K (.ref C4) (.ref C0) = some true)
    (q4_1 : PySem.W.subIn K (.ref C4) (.ref C1) = some false)
    (q4_2 : PySem.W.subIn K (.ref C4) (.ref C2) = some false)
    (q4_3 : PySem.W.subIn K (.ref C4) (.ref C3) = some false)
    (q4_4 : PySem.W.subIn K (.ref C4) (.ref C4) = some true)
    (q4_5 : PySem.W.subIn K (.ref C4) (.ref C5) = some false)
    (q4_6 : PySem.W.subIn K (.ref C4) (.ref C6) = some false)
    (q4_7 : PySem.W.subIn K (.ref C4) (.ref C7) = some false)
    (q5_0 : PySem.W.subIn K (.ref C5) (.ref C0) = some true)
    (q5_1 : PySem.W.subIn K (.ref C5) (.ref C1) = some false)
    (q5_2 : PySem.W.subIn K (.ref C5) (.ref C2) = some false)
    (q5_3 : PySem.W.subIn K (.ref C5) (.ref C3) = some false)
    (q5_4 : PySem.W.subIn K (.ref C5) (.ref C4) = some false)
    (q5_5 : PySem.W.subIn K (.ref C5) (.ref C5) = some true)
    (q5_6 : PySem.W.subIn K (.ref C5) (.ref C6) = some false)
    (q5_7 : PySem.W.subIn K (.ref C5) (.ref C7) = some false)
    (q6_0 : PySem.W.subIn K (.ref C6) (.ref C0) = some true)
    (q6_1 : PySem.W.subIn K (.ref C6) (.ref C1) = some false)
    (q6_2 : PySem.W.subIn K (.ref C6) (.ref C2) = some false)
    (q6_3 : PySem.W.subIn K (.ref C6) (.ref C3) = some false)
    (q6_4 : PySem.W.subIn K (.ref C6) (.ref C4) = some false)
    (q6_5 : PySem.W.subIn K (.ref C6) (.ref C5) = some false)
    (q6_6 : PySem.W.subIn K (.ref C6) (.ref C6) = some true)
    (q6_7 : PySem.W.subIn K (.ref C6) (.ref C7) = some false)
    (q7_0 : PySem.W.subIn K (.ref C7) (.ref C0) = some true)
    (q7_1 : PySem.W.subIn K (.ref C7) (.ref C1) = some false)
    (q7_2 : PySem.W.subIn K (.ref C7) (.ref C2) = some false)
    (q7_3 : PySem.W.subIn K (.ref C7) (.ref C3) = some false)
    (q7_4 : PySem.W.subIn K (.ref C7) (.ref C4) = some false)
    (q7_5 : PySem.W.subIn K (.ref C7) (.ref C5) = some false)
    (q7_6 : PySem.W.subIn K (.ref C7) (.ref C6) = some false)
    (q7_7 : PySem.W.subIn K (.ref C7) (.ref C7) = some true)
    (m0 : PySem.W.nsIn K mainGlobals "MOST_POINTS" = some (some (.int 12 tk0)))
    (m1 : PySem.W.nsIn K mainGlobals "MOST_RULES" = some (some (.int 200 tk1)))
    (z_all : PySem.W.nsIn K mainGlobals "all" = some none)
    (z_dict : PySem.W.nsIn K mainGlobals "dict" = some none)
    (z_enumerate : PySem.W.nsIn K mainGlobals "enumerate" = some none)
    (z_int : PySem.W.nsIn K mainGlobals "int" = some none)
    (z_isinstance : PySem.W.nsIn K mainGlobals "isinstance" = some none)
    (z_len : PySem.W.nsIn K mainGlobals "len" = some none)
    (z_list : PySem.W.nsIn K mainGlobals "list" = some none)
    (z_range : PySem.W.nsIn K mainGlobals "range" = some none)
    (z_repr : PySem.W.nsIn K mainGlobals "repr" = some none)
    (z_sorted : PySem.W.nsIn K mainGlobals "sorted" = some none)
    (z_sum : PySem.W.nsIn K mainGlobals "sum" = some none)
    (z_tuple : PySem.W.nsIn K mainGlobals "tuple" = some none)
    (z_zip : PySem.W.nsIn K mainGlobals "zip" = some none) :
    ∃ c : RC, c.K = K ∧ c.fa 36 = fa ∧ ∀ b : Heap, c.K.In b → b.Ns mainGlobals mg → ∀ k, FnG (mdOf c P w mg b) false k (c.fa 36) (spC c (runT T k false 36)) := by
  have e : f36 = fa := by
    have q := (PySem.W.mg_of X G a36).symm.trans hfa
    injection q with q
    injection q
  subst e
  let c : RC := ⟨K, fun g => ([f0, f1, f2, f3, f4, f5, f6, f7, f8, f9, f10, f11, f12, f13, f14, f15, f16, f17, f18, f19, f20, f21, f22, f23, f24, f25, f26, f27, f28, f29, f30, f31, f32, f33, f34, f35, f36] : List Addr).getD g f0, fun k => ([C0, C1, C2, C3, C4, C5, C6, C7] : List Addr).getD k C0⟩
  refine ⟨c, rfl, rfl, fun b KB GB k => ?_⟩
  have nm : NamesG (mdOf c P w mg b) glb csts := names_of (.cons (PySem.W.mg_of KB GB a0) (.cons (PySem.W.mg_of KB GB a1) (.cons (PySem.W.mg_of KB GB a2) (.cons (PySem.W.mg_of KB GB a3) (.cons (PySem.W.mg_of KB GB a4) (.cons (PySem.W.mg_of KB GB a5) (.cons (PySem.W.mg_of KB GB a6) (.cons (PySem.W.mg_of KB GB a7) (.cons (PySem.W.mg_of KB GB a8) (.cons (PySem.W.mg_of KB GB a9) (.cons (PySem.W.mg_of KB GB a10) (.cons (PySem.W.mg_of KB GB a11) (.cons (PySem.W.mg_of KB GB a12) (.cons (PySem.W.mg_of KB GB a13) (.cons (PySem.W.mg_of KB GB a14) (.cons (PySem.W.mg_of KB GB a15) (.cons (PySem.W.mg_of KB GB a16) (.cons (PySem.W.mg_of KB GB a17) (.cons (PySem.W.mg_of KB GB a18) (.cons (PySem.W.mg_of KB GB a19) (.cons (PySem.W.mg_of KB GB a20) (.cons (PySem.W.mg_of KB GB a21) (.cons (PySem.W.mg_of KB GB a22) (.cons (PySem.W.mg_of KB GB a23) (.cons (PySem.W.mg_of KB GB a24) (.cons (PySem.W.mg_of KB GB a25) (.cons (PySem.W.mg_of KB GB a26) (.cons (PySem.W.mg_of KB GB a27) (.cons (PySem.W.mg_of KB GB a28) (.cons (PySem.W.mg_of KB GB a29) (.cons (PySem.W.mg_of KB GB a30) (.cons (PySem.W.mg_of KB GB a31) (.cons (PySem.W.mg_of KB GB a32) (.cons (PySem.W.mg_of KB GB a33) (.cons (PySem.W.mg_of KB GB a34) (.cons (PySem.W.mg_of KB GB a35) (.cons (PySem.W.mg_of KB GB a36) (.cons (PySem.W.mg_of KB GB A0) (.cons (PySem.W.mg_of KB GB A1) (.cons (PySem.W.mg_of KB GB A2) (.cons (PySem.W.mg_of KB GB A3) (.cons (PySem.W.mg_of KB GB A4) (.cons (PySem.W.mg_of KB GB A5) (.cons (PySem.W.mg_of KB GB A6) (.cons (PySem.W.mg_of KB GB A7) (.cons (cst_int (PySem.W.mg_of KB GB m0) ⟨_, rfl⟩ rfl) (.cons (cst_int (PySem.W.mg_of KB GB m1) ⟨_, rfl⟩ rfl) (.cons (PySem.W.mg_none_of KB GB z_all) (.cons (PySem.W.mg_none_of KB GB z_dict) (.cons (PySem.W.mg_none_of KB GB z_enumerate) (.cons (PySem.W.mg_none_of KB GB z_int) (.cons (PySem.W.mg_none_of KB GB z_isinstance) (.cons (PySem.W.mg_none_of KB GB z_len) (.cons (PySem.W.mg_none_of KB GB z_list) (.cons (PySem.W.mg_none_of KB GB z_range) (.cons (PySem.W.mg_none_of KB GB z_repr) (.cons (PySem.W.mg_none_of KB GB z_sorted) (.cons (PySem.W.mg_none_of KB GB z_sum) (.cons (PySem.W.mg_none_of KB GB z_tuple) (.cons (PySem.W.mg_none_of KB GB z_zip) .nil))))))))))))))))))))))))))))))))))))))))))))))))))))))))))))
  have cf : AllT (ClsF K) [C0, C1, C2, C3, C4, C5, C6, C7] := (.cons (⟨ga0, gg0, s0, hd0, ha0, hn, ht, hm0, ⟨_, _, _, _, PySem.F.excBase_ValueError, xe0⟩, kC0, tC0, iC0⟩) (.cons (⟨ga1, gg1, s1, hd1, ha1, hn, ht, hm1, ⟨_, _, _, _, PySem.F.excBase_ValueError, xe1⟩, kC1, tC1, iC1⟩) (.cons (⟨ga2, gg2, s2, hd2, ha2, hn, ht, hm2, ⟨_, _, _, _, PySem.F.excBase_ValueError, xe2⟩, kC2, tC2, iC2⟩) (.cons (⟨ga3, gg3, s3, hd3, ha3, hn, ht, hm3, ⟨_, _, _, _, PySem.F.excBase_ValueError, xe3⟩, kC3, tC3, iC3⟩) (.cons (⟨ga4, gg4, s4, hd4, ha4, hn, ht, hm4, ⟨_, _, _, _, PySem.F.excBase_ValueError, xe4⟩, kC4, tC4, iC4⟩) (.cons (⟨ga5, gg5, s5, hd5, ha5, hn, ht, hm5, ⟨_, _, _, _, PySem.F.excBase_ValueError, xe5⟩, kC5, tC5, iC5⟩) (.cons (⟨ga6, gg6, s6, hd6, ha6, hn, ht, hm6, ⟨_, _, _, _, PySem.F.excBase_ValueError, xe6⟩, kC6, tC6, iC6⟩) (.cons (⟨ga7, gg7, s7, hd7, ha7, hn, ht, hm7, ⟨_, _, _, _, PySem.F.excBase_ValueError, xe7⟩, kC7, tC7, iC7⟩) .nil))))))))
  have qs : ∀ e k, PySem.W.subIn K (.ref (([C0, C1, C2, C3, C4, C5, C6, C7] : List Addr).getD e C0)) (.ref (([C0, C1, C2, C3, C4, C5, C6, C7] : List Addr).getD k C0)) = some (below e k) := fun e k => match e with
    | 0 => (match k with | 0 => q0_0 | 1 => q0_1 | 2 => q0_2 | 3 => q0_3 | 4 => q0_4 | 5 => q0_5 | 6 => q0_6 | 7 => q0_7 | _ + 8 => q0_0)
    | 1 => (match k with | 0 => q1_0 | 1 => q1_1 | 2 => q1_2 | 3 => q1_3 | 4 => q1_4 | 5 => q1_5 | 6 => q1_6 | 7 => q1_7 | _ + 8 => q1_0)
    | 2 => (match k with | 0 => q2_0 | 1 => q2_1 | 2 => q2_2 | 3 => q2_3 | 4 => q2_4 | 5 => q2_5 | 6 => q2_6 | 7 => q2_7 | _ + 8 => q2_0)
    | 3 => (match k with | 0 => q3_0 | 1 => q3_1 | 2 => q3_2 | 3 => q3_3 | 4 => q3_4 | 5 => q3_5 | 6 => q3_6 | 7 => q3_7 | _ + 8 => q3_0)
    | 4 => (match k with | 0 => q4_0 | 1 => q4_1 | 2 => q4_2 | 3 => q4_3 | 4 => q4_4 | 5 => q4_5 | 6 => q4_6 | 7 => q4_7 | _ + 8 => q4_0)
    | 5 => (match k with | 0 => q5_0 | 1 => q5_1 | 2 => q5_2 | 3 => q5_3 | 4 => q5_4 | 5 => q5_5 | 6 => q5_6 | 7 => q5_7 | _ + 8 => q5_0)
    | 6 => (match k with | 0 => q6_0 | 1 => q6_1 | 2 => q6_2 | 3 => q6_3 | 4 => q6_4 | 5 => q6_5 | 6 => q6_6 | 7 => q6_7 | _ + 8 => q6_0)
    | 7 => (match k with | 0 => q7_0 | 1 => q7_1 | 2 => q7_2 | 3 => q7_3 | 4 => q7_4 | 5 => q7_5 | 6 => q7_6 | 7 => q7_7 | _ + 8 => q7_0)
    | _ + 8 => (match k with | 0 => q0_0 | 1 => q0_1 | 2 => q0_2 | 3 => q0_3 | 4 => q0_4 | 5 => q0_5 | 6 => q0_6 | 7 => q0_7 | _ + 8 => q0_0)
  have cl : ClsG (mdOf c P w mg b) below := clsG_of (cs := [C0, C1, C2, C3, C4, C5, C6, C7]) (c0 := C0) (fun k => rfl) cf ⟨ga0, gg0, s0, hd0, ha0, hn, ht, hm0, ⟨_, _, _, _, PySem.F.excBase_ValueError, xe0⟩, kC0, tC0, iC0⟩ qs (fun e => match e with | 0 => rfl | 1 => rfl | 2 => rfl | 3 => rfl | 4 => rfl | 5 => rfl | 6 => rfl | 7 => rfl | _ + 8 => rfl)
  have kp : AllT (fun a => PySem.W.keepIn K (.ref a) = true) [f0, f1, f2, f3, f4, f5, f6, f7, f8, f9, f10, f11, f12, f13, f14, f15, f16, f17, f18, f19, f20, f21, f22, f23, f24, f25, f26, f27, f28, f29, f30, f31, f32, f33, f34, f35, f36] := (.cons (k0) (.cons (k1) (.cons (k2) (.cons (k3) (.cons (k4) (.cons (k5) (.cons (k6) (.cons (k7) (.cons (k8) (.cons (k9) (.cons (k10) (.cons (k11) (.cons (k12) (.cons (k13) (.cons (k14) (.cons (k15) (.cons (k16) (.cons (k17) (.cons (k18) (.cons (k19) (.cons (k20) (.cons (k21) (.cons (k22) (.cons (k23) (.cons (k24) (.cons (k25) (.cons (k26) (.cons (k27) (.cons (k28) (.cons (k29) (.cons (k30) (.cons (k31) (.cons (k32) (.cons (k33) (.cons (k34) (.cons (k35) (.cons (k36) .nil)))))))))))))))))))))))))))))))))))))
  have D0 : DefOk (mdOf c P w mg b) glb 0 d0 ∧ d0.ps ≤ d0.n := ⟨defOk_of (PySem.Challenge.pw_fewexamples_k00_classes_and_what_still_f.main.body.getD 12 (.Pass ⟨0, 0, 0, 0⟩)) "is_class" ["some", "rises", "n", "rules", "one", "other", "rule"] ["some"] l0 b0 rfl (by decide +kernel) rfl rfl (fun us hu => match us, hu with | [_], _ => fun _ _ _ _ _ _ => rfl) c0, by decide⟩
  have D1 : DefOk (mdOf c P w mg b) glb 1 d1 ∧ d1.ps ≤ d1.n := ⟨defOk_of (PySem.Challenge.pw_fewexamples_k00_classes_and_what_still_f.main.body.getD 13 (.Pass ⟨0, 0, 0, 0⟩)) "check_class" ["some"] ["some"] l1 b1 rfl (by decide +kernel) rfl rfl (fun us hu => match us, hu with | [_], _ => fun _ _ _ _ _ _ => rfl) c1, by decide⟩
  have D2 : DefOk (mdOf c P w mg b) glb 2 d2 ∧ d2.ps ≤ d2.n := ⟨defOk_of (PySem.Challenge.pw_fewexamples_k00_classes_and_what_still_f.main.body.getD 14 (.Pass ⟨0, 0, 0, 0⟩)) "are_examples" ["n", "sample", "points", "rises", "point", "_", "one", "other", "answer"] ["n", "sample"] l2 b2 rfl (by decide +kernel) rfl rfl (fun us hu => match us, hu with | [_, _], _ => fun _ _ _ _ _ _ => rfl) c2, by decide⟩
  have D3 : DefOk (mdOf c P w mg b) glb 3 d3 ∧ d3.ps ≤ d3.n := ⟨defOk_of (PySem.Challenge.pw_fewexamples_k00_classes_and_what_still_f.main.body.getD 15 (.Pass ⟨0, 0, 0, 0⟩)) "is_sample" ["n", "sample"] ["n", "sample"] l3 b3 rfl (by decide +kernel) rfl rfl (fun us hu => match us, hu with | [_, _], _ => fun _ _ _ _ _ _ => rfl) c3, by decide⟩
  have D4 : DefOk (mdOf c P w mg b) glb 4 d4 ∧ d4.ps ≤ d4.n := ⟨defOk_of (PySem.Challenge.pw_fewexamples_k00_classes_and_what_still_f.main.body.getD 16 (.Pass ⟨0, 0, 0, 0⟩)) "check_sample" ["some", "sample"] ["some", "sample"] l4 b4 rfl (by decide +kernel) rfl rfl (fun us hu => match us, hu with | [_, _], _ => fun _ _ _ _ _ _ => rfl) c4, by decide⟩
  have D5 : DefOk (mdOf c P w mg b) glb 5 d5 ∧ d5.ps ≤ d5.n := ⟨defOk_of (PySem.Challenge.pw_fewexamples_k00_classes_and_what_still_f.main.body.getD 17 (.Pass ⟨0, 0, 0, 0⟩)) "has" ["rule", "point"] ["rule", "point"] l5 b5 rfl (by decide +kernel) rfl rfl (fun us hu => match us, hu with | [_, _], _ => fun _ _ _ _ _ _ => rfl) c5, by decide⟩
  have D6 : DefOk (mdOf c P w mg b) glb 6 d6 ∧ d6.ps ≤ d6.n := ⟨defOk_of (PySem.Challenge.pw_fewexamples_k00_classes_and_what_still_f.main.body.getD 18 (.Pass ⟨0, 0, 0, 0⟩)) "fits_of" ["rule", "sample", "point", "answer"] ["rule", "sample"] l6 b6 rfl (by decide +kernel) rfl rfl (fun us hu => match us, hu with | [_, _], _ => fun _ _ _ _ _ _ => rfl) c6, by decide⟩
  have D7 : DefOk (mdOf c P w mg b) glb 7 d7 ∧ d7.ps ≤ d7.n := ⟨defOk_of (PySem.Challenge.pw_fewexamples_k00_classes_and_what_still_f.main.body.getD 19 (.Pass ⟨0, 0, 0, 0⟩)) "left_of" ["rules", "sample", "rule"] ["rules", "sample"] l7 b7 rfl (by decide +kernel) rfl rfl (fun us hu => match us, hu with | [_, _], _ => fun _ _ _ _ _ _ => rfl) c7, by decide⟩
  have D8 : DefOk (mdOf c P w mg b) glb 8 d8 ∧ d8.ps ≤ d8.n := ⟨defOk_of (PySem.Challenge.pw_fewexamples_k00_classes_and_what_still_f.main.body.getD 20 (.Pass ⟨0, 0, 0, 0⟩)) "fits" ["some", "rule", "sample"] ["some", "rule", "sample"] l8 b8 rfl (by decide +kernel) rfl rfl (fun us hu => match us, hu with | [_, _, _], _ => fun _ _ _ _ _ _ => rfl) c8, by decide⟩
  have D9 : DefOk (mdOf c P w mg b) glb 9 d9 ∧ d9.ps ≤ d9.n := ⟨defOk_of (PySem.Challenge.pw_fewexamples_k00_classes_and_what_still_f.main.body.getD 21 (.Pass ⟨0, 0, 0, 0⟩)) "left" ["some", "sample"] ["some", "sample"] l9 b9 rfl (by decide +kernel) rfl rfl (fun us hu => match us, hu with | [_, _], _ => fun _ _ _ _ _ _ => rfl) c9, by decide⟩
  have D10 : DefOk (mdOf c P w mg b) glb 10 d10 ∧ d10.ps ≤ d10.n := ⟨defOk_of (PySem.Challenge.pw_fewexamples_k00_classes_and_what_still_f.main.body.getD 22 (.Pass ⟨0, 0, 0, 0⟩)) "left_some" ["some", "sample", "found"] ["some", "sample"] l10 b10 rfl (by decide +kernel) rfl rfl (fun us hu => match us, hu with | [_, _], _ => fun _ _ _ _ _ _ => rfl) c10, by decide⟩
  have D11 : DefOk (mdOf c P w mg b) glb 11 d11 ∧ d11.ps ≤ d11.n := ⟨defOk_of (PySem.Challenge.pw_fewexamples_k00_classes_and_what_still_f.main.body.getD 23 (.Pass ⟨0, 0, 0, 0⟩)) "settled_by" ["n", "rules", "found", "point", "answers", "rule"] ["n", "rules"] l11 b11 rfl (by decide +kernel) rfl rfl (fun us hu => match us, hu with | [_, _], _ => fun _ _ _ _ _ _ => rfl) c11, by decide⟩
  have D12 : DefOk (mdOf c P w mg b) glb 12 d12 ∧ d12.ps ≤ d12.n := ⟨defOk_of (PySem.Challenge.pw_fewexamples_k00_classes_and_what_still_f.main.body.getD 24 (.Pass ⟨0, 0, 0, 0⟩)) "settled" ["some", "sample"] ["some", "sample"] l12 b12 rfl (by decide +kernel) rfl rfl (fun us hu => match us, hu with | [_, _], _ => fun _ _ _ _ _ _ => rfl) c12, by decide⟩
  have D13 : DefOk (mdOf c P w mg b) glb 13 d13 ∧ d13.ps ≤ d13.n := ⟨defOk_of (PySem.Challenge.pw_fewexamples_k00_classes_and_what_still_f.main.body.getD 25 (.Pass ⟨0, 0, 0, 0⟩)) "closed_sample" ["some", "sample"] ["some", "sample"] l13 b13 rfl (by decide +kernel) rfl rfl (fun us hu => match us, hu with | [_, _], _ => fun _ _ _ _ _ _ => rfl) c13, by decide⟩
  have D14 : DefOk (mdOf c P w mg b) glb 14 d14 ∧ d14.ps ≤ d14.n := ⟨defOk_of (PySem.Challenge.pw_fewexamples_k00_classes_and_what_still_f.main.body.getD 26 (.Pass ⟨0, 0, 0, 0⟩)) "is_free" ["some", "sample", "at", "example", "rest"] ["some", "sample"] l14 b14 rfl (by decide +kernel) rfl rfl (fun us hu => match us, hu with | [_, _], _ => fun _ _ _ _ _ _ => rfl) c14, by decide⟩
  have D15 : DefOk (mdOf c P w mg b) glb 15 d15 ∧ d15.ps ≤ d15.n := ⟨defOk_of (PySem.Challenge.pw_fewexamples_k00_classes_and_what_still_f.main.body.getD 27 (.Pass ⟨0, 0, 0, 0⟩)) "least_of" ["rules", "common", "rule"] ["rules"] l15 b15 rfl (by decide +kernel) rfl rfl (fun us hu => match us, hu with | [_], _ => fun _ _ _ _ _ _ => rfl) c15, by decide⟩
  have D16 : DefOk (mdOf c P w mg b) glb 16 d16 ∧ d16.ps ≤ d16.n := ⟨defOk_of (PySem.Challenge.pw_fewexamples_k00_classes_and_what_still_f.main.body.getD 28 (.Pass ⟨0, 0, 0, 0⟩)) "greatest_of" ["rules", "whole", "rule"] ["rules"] l16 b16 rfl (by decide +kernel) rfl rfl (fun us hu => match us, hu with | [_], _ => fun _ _ _ _ _ _ => rfl) c16, by decide⟩
  have D17 : DefOk (mdOf c P w mg b) glb 17 d17 ∧ d17.ps ≤ d17.n := ⟨defOk_of (PySem.Challenge.pw_fewexamples_k00_classes_and_what_still_f.main.body.getD 29 (.Pass ⟨0, 0, 0, 0⟩)) "least_left" ["some", "sample", "found"] ["some", "sample"] l17 b17 rfl (by decide +kernel) rfl rfl (fun us hu => match us, hu with | [_, _], _ => fun _ _ _ _ _ _ => rfl) c17, by decide⟩
  have D18 : DefOk (mdOf c P w mg b) glb 18 d18 ∧ d18.ps ≤ d18.n := ⟨defOk_of (PySem.Challenge.pw_fewexamples_k00_classes_and_what_still_f.main.body.getD 30 (.Pass ⟨0, 0, 0, 0⟩)) "greatest_left" ["some", "sample", "found"] ["some", "sample"] l18 b18 rfl (by decide +kernel) rfl rfl (fun us hu => match us, hu with | [_, _], _ => fun _ _ _ _ _ _ => rfl) c18, by decide⟩
  have D19 : DefOk (mdOf c P w mg b) glb 19 d19 ∧ d19.ps ≤ d19.n := ⟨defOk_of (PySem.Challenge.pw_fewexamples_k00_classes_and_what_still_f.main.body.getD 31 (.Pass ⟨0, 0, 0, 0⟩)) "half_answer" ["some", "sample", "point", "found", "ones", "rule"] ["some", "sample", "point"] l19 b19 rfl (by decide +kernel) rfl rfl (fun us hu => match us, hu with | [_, _, _], _ => fun _ _ _ _ _ _ => rfl) c19, by decide⟩
  have D20 : DefOk (mdOf c P w mg b) glb 20 d20 ∧ d20.ps ≤ d20.n := ⟨defOk_of (PySem.Challenge.pw_fewexamples_k00_classes_and_what_still_f.main.body.getD 33 (.Pass ⟨0, 0, 0, 0⟩)) "_law_number" ["cell"] ["cell"] l20 b20 rfl (by decide +kernel) rfl rfl (fun us hu => match us, hu with | [_], _ => fun _ _ _ _ _ _ => rfl) c20, by decide⟩
  have D21 : DefOk (mdOf c P w mg b) glb 21 d21 ∧ d21.ps ≤ d21.n := ⟨defOk_of (PySem.Challenge.pw_fewexamples_k00_classes_and_what_still_f.main.body.getD 34 (.Pass ⟨0, 0, 0, 0⟩)) "_law_draws" ["script", "draws", "cell", "rest", "k", "once", "twice"] ["script"] l21 b21 rfl (by decide +kernel) rfl rfl (fun us hu => match us, hu with | [_], _ => fun _ _ _ _ _ _ => rfl) c21, by decide⟩
  have D22 : DefOk (mdOf c P w mg b) glb 22 d22 ∧ d22.ps ≤ d22.n := ⟨defOk_of (PySem.Challenge.pw_fewexamples_k00_classes_and_what_still_f.main.body.getD 35 (.Pass ⟨0, 0, 0, 0⟩)) "_law_flat" ["rows", "found", "row"] ["rows"] l22 b22 rfl (by decide +kernel) rfl rfl (fun us hu => match us, hu with | [_], _ => fun _ _ _ _ _ _ => rfl) c22, by decide⟩
  have D23 : DefOk (mdOf c P w mg b) glb 23 d23 ∧ d23.ps ≤ d23.n := ⟨defOk_of (PySem.Challenge.pw_fewexamples_k00_classes_and_what_still_f.main.body.getD 36 (.Pass ⟨0, 0, 0, 0⟩)) "_law_next" ["draws"] ["draws"] l23 b23 rfl (by decide +kernel) rfl rfl (fun us hu => match us, hu with | [_], _ => fun _ _ _ _ _ _ => rfl) c23, by decide⟩
  have D24 : DefOk (mdOf c P w mg b) glb 24 d24 ∧ d24.ps ≤ d24.n := ⟨defOk_of (PySem.Challenge.pw_fewexamples_k00_classes_and_what_still_f.main.body.getD 37 (.Pass ⟨0, 0, 0, 0⟩)) "_law_more" ["draws", "many", "seed", "more", "k"] ["draws", "many"] l24 b24 rfl (by decide +kernel) rfl rfl (fun us hu => match us, hu with | [_, _], _ => fun _ _ _ _ _ _ => rfl) c24, by decide⟩
  have D25 : DefOk (mdOf c P w mg b) glb 25 d25 ∧ d25.ps ≤ d25.n := ⟨defOk_of (PySem.Challenge.pw_fewexamples_k00_classes_and_what_still_f.main.body.getD 38 (.Pass ⟨0, 0, 0, 0⟩)) "_law_pick" ["draws", "some"] ["draws", "some"] l25 b25 rfl (by decide +kernel) rfl rfl (fun us hu => match us, hu with | [_, _], _ => fun _ _ _ _ _ _ => rfl) c25, by decide⟩
  have D26 : DefOk (mdOf c P w mg b) glb 26 d26 ∧ d26.ps ≤ d26.n := ⟨defOk_of (PySem.Challenge.pw_fewexamples_k00_classes_and_what_still_f.main.body.getD 39 (.Pass ⟨0, 0, 0, 0⟩)) "_law_kind" ["error", "names", "found"] ["error"] l26 b26 rfl (by decide +kernel) rfl rfl (fun us hu => match us, hu with | [_], _ => fun _ _ _ _ _ _ => rfl) c26, by decide⟩
  have D27 : DefOk (mdOf c P w mg b) glb 27 d27 ∧ d27.ps ≤ d27.n := ⟨defOk_of (PySem.Challenge.pw_fewexamples_k00_classes_and_what_still_f.main.body.getD 40 (.Pass ⟨0, 0, 0, 0⟩)) "_law_power" ["at", "found", "turn"] ["at"] l27 b27 rfl (by decide +kernel) rfl rfl (fun us hu => match us, hu with | [_], _ => fun _ _ _ _ _ _ => rfl) c27, by decide⟩
  have D28 : DefOk (mdOf c P w mg b) glb 28 d28 ∧ d28.ps ≤ d28.n := ⟨defOk_of (PySem.Challenge.pw_fewexamples_k00_classes_and_what_still_f.main.body.getD 41 (.Pass ⟨0, 0, 0, 0⟩)) "_law_has" ["rule", "point"] ["rule", "point"] l28 b28 rfl (by decide +kernel) rfl rfl (fun us hu => match us, hu with | [_, _], _ => fun _ _ _ _ _ _ => rfl) c28, by decide⟩
  have D29 : DefOk (mdOf c P w mg b) glb 29 d29 ∧ d29.ps ≤ d29.n := ⟨defOk_of (PySem.Challenge.pw_fewexamples_k00_classes_and_what_still_f.main.body.getD 42 (.Pass ⟨0, 0, 0, 0⟩)) "_law_class" ["draws", "points", "rules", "n", "kind", "mask", "found", "at", "turn", "rule"] ["draws", "points", "rules"] l29 b29 rfl (by decide +kernel) rfl rfl (fun us hu => match us, hu with | [_, _, _], _ => fun _ _ _ _ _ _ => rfl) c29, by decide⟩
  have D30 : DefOk (mdOf c P w mg b) glb 30 d30 ∧ d30.ps ≤ d30.n := ⟨defOk_of (PySem.Challenge.pw_fewexamples_k00_classes_and_what_still_f.main.body.getD 43 (.Pass ⟨0, 0, 0, 0⟩)) "_law_sample" ["draws", "n", "found", "point"] ["draws", "n"] l30 b30 rfl (by decide +kernel) rfl rfl (fun us hu => match us, hu with | [_, _], _ => fun _ _ _ _ _ _ => rfl) c30, by decide⟩
  have D31 : DefOk (mdOf c P w mg b) glb 31 d31 ∧ d31.ps ≤ d31.n := ⟨defOk_of (PySem.Challenge.pw_fewexamples_k00_classes_and_what_still_f.main.body.getD 44 (.Pass ⟨0, 0, 0, 0⟩)) "_law_left" ["rules", "sample", "rule", "point", "answer"] ["rules", "sample"] l31 b31 rfl (by decide +kernel) rfl rfl (fun us hu => match us, hu with | [_, _], _ => fun _ _ _ _ _ _ => rfl) c31, by decide⟩
  have D32 : DefOk (mdOf c P w mg b) glb 32 d32 ∧ d32.ps ≤ d32.n := ⟨defOk_of (PySem.Challenge.pw_fewexamples_k00_classes_and_what_still_f.main.body.getD 47 (.Pass ⟨0, 0, 0, 0⟩)) "_law_settled" ["n", "rules", "point", "rule"] ["n", "rules"] l32 b32 rfl (by decide +kernel) rfl rfl (fun us hu => match us, hu with | [_, _], _ => fun _ _ _ _ _ _ => rfl) c32, by decide⟩
  have D33 : DefOk (mdOf c P w mg b) glb 33 d33 ∧ d33.ps ≤ d33.n := ⟨defOk_of (PySem.Challenge.pw_fewexamples_k00_classes_and_what_still_f.main.body.getD 48 (.Pass ⟨0, 0, 0, 0⟩)) "_law_asked" ["way", "some", "sample", "more", "error"] ["way", "some", "sample", "more"] l33 b33 rfl (by decide +kernel) rfl rfl (fun us hu => match us, hu with | [_, _, _, _], _ => fun _ _ _ _ _ _ => rfl) c33, by decide⟩
  have D34 : DefOk (mdOf c P w mg b) glb 34 d34 ∧ d34.ps ≤ d34.n := ⟨defOk_of (PySem.Challenge.pw_fewexamples_k00_classes_and_what_still_f.main.body.getD 49 (.Pass ⟨0, 0, 0, 0⟩)) "_law_is_sample" ["n", "sample", "error"] ["n", "sample"] l34 b34 rfl (by decide +kernel) rfl rfl (fun us hu => match us, hu with | [_, _], _ => fun _ _ _ _ _ _ => rfl) c34, by decide⟩
  have D35 : DefOk (mdOf c P w mg b) glb 35 d35 ∧ d35.ps ≤ d35.n := ⟨defOk_of (PySem.Challenge.pw_fewexamples_k00_classes_and_what_still_f.main.body.getD 50 (.Pass ⟨0, 0, 0, 0⟩)) "_law_refuses" ["draws", "some", "sample", "wrong", "bad", "told", "samples", "numbers", "n", "rules", "way", "size", "one", "point", "rule"] ["draws", "some", "sample"] l35 b35 rfl (by decide +kernel) rfl rfl (fun us hu => match us, hu with | [_, _, _], _ => fun _ _ _ _ _ _ => rfl) c35, by decide⟩
  have D36 : DefOk (mdOf c P w mg b) glb 36 d36 ∧ d36.ps ≤ d36.n := ⟨defOk_of (PySem.Challenge.pw_fewexamples_k00_classes_and_what_still_f.main.body.getD 51 (.Pass ⟨0, 0, 0, 0⟩)) "law" ["script", "draws", "grows", "answers", "some", "turn", "n", "rules", "sample", "found", "told", "free", "least", "greatest", "ones", "due", "rule", "point", "at", "way", "other"] ["script"] l36 b36 rfl (by decide +kernel) rfl rfl (fun us hu => match us, hu with | [_], _ => fun _ _ _ _ _ _ => rfl) c36, by decide⟩
  have dk : AllI (fun g (f : Def) => DefOk (mdOf c P w mg b) glb g f ∧ f.ps ≤ f.n) 0 [d0, d1, d2, d3, d4, d5, d6, d7, d8, d9, d10, d11, d12, d13, d14, d15, d16, d17, d18, d19, d20, d21, d22, d23, d24, d25, d26, d27, d28, d29, d30, d31, d32, d33, d34, d35, d36] := (.cons (D0) (.cons (D1) (.cons (D2) (.cons (D3) (.cons (D4) (.cons (D5) (.cons (D6) (.cons (D7) (.cons (D8) (.cons (D9) (.cons (D10) (.cons (D11) (.cons (D12) (.cons (D13) (.cons (D14) (.cons (D15) (.cons (D16) (.cons (D17) (.cons (D18) (.cons (D19) (.cons (D20) (.cons (D21) (.cons (D22) (.cons (D23) (.cons (D24) (.cons (D25) (.cons (D26) (.cons (D27) (.cons (D28) (.cons (D29) (.cons (D30) (.cons (D31) (.cons (D32) (.cons (D33) (.cons (D34) (.cons (D35) (.cons (D36) .nil)))))))))))))))))))))))))))))))))))))
  exact fns_ok (T := T) (fun g f hg => by have := dk.at hg; rwa [Nat.zero_add] at this) nm cl (fun g => kp.at k0 g) k false 36
end Lw

namespace Lw
open PySem Ev Ex
local macro_rules | `(tactic| simp! [$as,*]) => `(tactic| simp -failIfUnchanged (maxSteps := 4000000) (disch := first | omega | with_reducible assumption | (simp only [List.length_map, List.length_append, List.length_cons, List.length_nil, List.length_dropLast, List.length_drop, List.length_take, List.length_zip, List.length_reverse, List.length_range, List.length_replicate, List.length_zipIdx]; omega) | (simp only [Mb, List.mem_range] at *; omega) | decide | (simp only [*]; done) | omega) only [↓ap_bind, ↓ap_pure, ↓ap_stuck, ↓ap_opt, ↓ap_ite, ↓mt_ite, ↓rdO_t, ↓rdO_s, ↓ap_rd, ↓ap_rds_nil, ↓ap_rds_cons, ↓ap_esc_t, ↓ap_esc_s, ↓ap_escs_nil, ↓ap_escs_cons, ↓ap_escp_nil, ↓ap_escp_cons, ↓ap_tgt_nm, ↓ap_tgt_tp, lk_nl, lk_non, lk_val, lk_own, lk_lock, ↓ap_tgts_nil, ↓ap_tgts_cons, ↓ap_tgtM_tp, ↓ap_tgtM_nm, ↓ap_ret_t, ↓ap_ret_s, ↓ap_isLst, ↓ap_mmM, ↓ap_intAt, ↓ap_tru, tru_bl, tru_non, tru_int, tru_lst, tru_tup, ↓ev_var, ↓ev_cn, ↓ev_glob, ↓ev_bin, ↓ev_un, ↓ev_nt, ↓ev_and, ↓ev_or, ↓andM_bl, ↓orM_bl, ↓andM_eq, ↓orM_eq, ↓ev_ite, ↓ev_cmp, ↓ev_cmp2, ↓ev_tup, ↓ev_lst, ↓ev_sub, ↓ev_slc, ↓ev_tupS, ↓ev_lstS, ↓ev_rev, ↓ess_nil, ↓ess_cons, rv_l, rv_t, sq_l, sq_t, sq_r, ↓escs_mt, ↓escs_mi, ↓escs_mt', ↓escs_mi', ↓escs_int, ↓escs_ints, ↓escs_tup, ↓escs_lst, il_ints, il_map, il_nil, il_1, il_2, ↓ev_call, ↓ev_callv, ↓ev_bi, ↓ev_lrng, ↓ev_trng, ↓ev_isE, ↓ev_mt, ↓ev_mm, ↓Ex.ap_lcB, ↓ev_lc, ↓ap_lcR, ↓Ex.ap_dcB, ↓ev_dc, ↓ap_dcR, ky_int, ky_str, okAtK_ok, okAtK_ite, valOfK_ok, valOfK_ite, ↓gatherK_map, ↓gatK_nil, ↓gatK_cons, ↓evs_nil, ↓evs_cons, ↓evo_none, ↓evo_some, ↓evi_none, ↓evi_some, ↓evt_eq, ↓ex_ex, ↓ex_asg, ↓ex_par, ↓parM_nil, ↓parM_cons, ↓ex_aug, ↓ex_ret, ↓ex_retN, ↓ex_if, ↓ex_for, ↓ap_forB, ↓Ex.for_eq, ↓ap_forR, ↓turns_nil, ↓turns_cons, ↓ex_whl, ↓ex_raise, ↓ex_try, ↓ex_pass, ↓ex_brk, ↓ex_cnt, ↓exs_nil, ↓exs_cons, ↓ap_call, ↓args_nil, ↓args_cons, ↓arg_t, ↓arg_s, ↓so_io, ↓so_no, ↓so_nil, ↓slO_io, ↓slO_no, ↓dem_nil, ↓dem_s, ↓dem_n, nodup0, nodup1, nodup2, end_nx, end_rt, end_er, end_ite, ↓outs_z, ↓outs_s, ↓wk_nil, ↓wk_t, ↓wk_s, ↓lk_nil, ↓lk_cons, ↓ul_nil, ↓ul_cons, ↓wp_nil, ↓wp_cons, ↓bk_nil, ↓bk_cons, ↓pl_eq, tv_nm, tv_tp, tvs_nil, tvs_cons, okAt_ok, okAt_ite, valOf_ok, valOf_ite, ↓gather_map, ↓gat_nil, ↓gat_cons, guard_map, guard_filter, guard_filterN, ys_true, ite_self, drop_map', take_map', cut_to, cut_from, cut_from1, isExc_ite, isExc_ofO, no_ofO, dropLast_map', append_map', app_int, zipL_map, reverse_map', List.getLast?_map, items1_ok, items1b_ok, lim_ok, lim_ok', intsOf_map, intsOf_ints, blsOf_map, intsOf_nil, blsOf_nil, intsOf_cons, blsOf_cons, upTo0, zipL_map, enumL_map, items0l, items0r, items0t,  items2l, items2t, items3l, items3t, cut1, bn_add, bn_sub, bn_mul, bn_div, bn_mod, bn_pow, bn_shl, bn_shr, bn_and, bn_or, bn_xor, add_ii, add_ss, addL_w, addT_w, sub_ii, mul_l, mul_r, mulL_w, mul_ti, div_s, div_w, mod_w, pow_w, shl_w, shr_w, repL1, replicate_map', and_ii, or_ii, xor_ii, un_neg, un_inv, cm_eq, cm_ne, cm_lt, cm_le, cm_gt, cm_ge, cm_is, cm_isn, cm_isb, cm_isnb, cm_in_t, cm_in_l, cm_ni_t, cm_ni_l, eq_ii, eq_bb, eq_ss, isNon_non, isNon_int, isNon_tup, isNon_lst, isNon_str, isNon_bl, isExc_non, isExc_int, isExc_bl, isExc_str, isExc_tup, isExc_lst, isExc_dct, isExc_fn, in_ints, in_nil, in_1, in_2, mg_ok, mg_t, mg_int, mg_bl, mg_str, mg_lst, mg_tup, mg_map, mg_res, mg_optD, bl_id, bl_and1, bl_and2, bl_or1, bl_or2, bl_and3, bl_or3, all_id, any_id, Int.one_mul, fl_int, fl_bl, fl_str, eqF_ii, eqF_ss, eqF_bb, su_t0, su_t1, su_l0, su_l1, su_t2, su_l2, su_t3, su_l3, su_t4, su_l4, su_t5, su_l5, su_t6, su_l6, su_t7, su_l7, su_t8, su_l8, su_t9, su_l9, su_ti, su_li, su_tI, su_lI, sl_t, sl_l, bi_len_l, bi_len_t, bi_len_d, bi_sum, bi_all, bi_any, bi_max_l, bi_min_l, bi_max_t, bi_min_t, bi_int_i, bi_int_b, bi_bool_i, bi_tup_l, bi_tup_t, bi_lst_l, bi_lst_t, bi_lst_d, bi_sort_l, bi_dict, pairsOf_map, mt_ix, mt_ct, ty_ix, ty_ct, List.countP_cons, List.countP_nil, ix_hit, ix_miss, List.replicate_zero, app_w, ext_w, mm_pop, mm_rev, aug_add, aug_sub, aug_mul, aug_mul', aug_div, aug_shr, aug_and, aug_or, aug_xor, hb_len, hb_int, hb_repr, tp_nm, tp_tp, no_int, no_bl, no_non, no_str, no_tup, nos_nil, nos_cons, nos_ints, nos_mapA, all_tt, all_ff, elems_l, elems_non, okSl_non, okSl_val, okSl_own, free_eq, CX_hot, CX_io, CX_ios, CX_cst, CX_sub, CX_call, CX_fuel, ↓CX_set, x_oms, x_omn, x_obs, x_obn, x_get0, x_getS, x_getN, x_set0, x_setS, x_gD0, x_gDS, x_gDN, List.length_cons, List.length_nil, List.length_map, List.length_zipIdx, x_mc, x_mn, List.map_map, Function.comp_def, zip_same, List.filterMap_cons, List.filterMap_nil, x_allc, x_alln, x_anyc, x_anyn, x_hd, x_hdn, x_tl, x_tln, List.append_nil, x_na, x_ca, List.contains_cons, List.contains_nil, List.sum_cons, List.sum_nil, List.isEmpty_cons, List.isEmpty_nil, Bool.and_true, Bool.true_and, Bool.and_false, Bool.false_and, Bool.or_true, Bool.true_or, Bool.or_false, Bool.false_or, x_nt, x_nf, x_tn, Bool.not_not, Bool.false_eq_true, if_true, if_false, decide_true, decide_false, decide_eq_true_eq, b_not, b_false, Bool.and_eq_true, Bool.or_eq_true, and_self, or_self, and_true, true_and, or_true, true_or, and_false, false_and, or_false, false_or, not_true_eq_false, not_false_eq_true, imp_self, implies_true, x_isn, x_iss, List.drop_succ_cons, List.drop_zero, Bool.beq_eq_decide_eq, BEq.rfl, ↓reduceIte, reduceCtorEq, Int.cast_ofNat_Int, Int.natCast_zero, Int.natCast_one, Nat.reduceAdd, Nat.reduceSub, Nat.reduceMul, Nat.reduceLT, Nat.reduceLeDiff, Nat.reduceEqDiff, Nat.reducePow, Nat.reduceBEq, Nat.reduceBNe, Int.reduceAdd, Int.reduceSub, Int.reduceMul, Int.reduceDiv, Int.reduceMod, Int.reduceLT, Int.reduceLE, Int.reduceGT, Int.reduceGE, Int.reduceEq, Int.reduceNe, Int.reduceNeg, Int.reducePow, Int.reduceToNat, Int.reduceBEq, Int.reduceBNe, $as,*])
set_option maxHeartbeats 4000000
/-! what the law's own first functions do -/
def Dr (ds : List Int) : Prop := ∀ d ∈ ds, 0 ≤ d ∧ d < 1000
def nx (ds : List Int) : Int := ds.getLast?.getD 0
theorem Dr.nx {ds : List Int} (h : Dr ds) : 0 ≤ Lw.nx ds ∧ Lw.nx ds < 1000 := by
  unfold Lw.nx
  cases e : ds.getLast? with
  | none => exact ⟨by decide, by decide⟩
  | some x => exact h x (List.mem_of_getLast? e)
theorem Dr.drop {ds : List Int} (h : Dr ds) : Dr ds.dropLast := fun d hd => h d (List.dropLast_subset _ hd)
theorem Dr.nil : Dr [] := fun d hd => by cases hd
theorem Dr.app {xs ys : List Int} (h : Dr xs) (h2 : Dr ys) : Dr (xs ++ ys) := fun d hd => by
  rcases List.mem_append.mp hd with q | q
  · exact h d q
  · exact h2 d q
theorem Dr.mod (x : Int) : Dr [x % 1000] := fun d hd => by
  rw [List.mem_singleton.mp hd]
  omega
theorem next_ev {k : Nat} {h : Bool} {ds : List Int} : RT T (k + 1) h i__law_next [(true, .lst (ds.map D.int))] = some (.ok false (.int (nx ds)) [.lst (ds.dropLast.map D.int)]) := by
  rw [r__law_next, nx]
  cases e : ds.getLast? with
  | none =>
    have e2 : ds = [] := List.getLast?_eq_none_iff.mp e
    subst e2
    simp! [b__law_next]
    rfl
  | some x =>
    have e2 : ds.isEmpty = false := by cases ds <;> simp_all
    simp! [b__law_next, List.isEmpty_map, e2, e]
    rfl
theorem number_ev {k : Nat} {h : Bool} {r : Int} : RT T (k + 1) h i__law_number [(false, .int r)] = some (.ok false (.int r.natAbs) [.non]) := by
  rw [r__law_number]
  simp! [b__law_number]
  split <;> (congr; omega)
theorem power_ev {k : Nat} {at_ : Int} (h0 : at_ < 4611686018427387904) (h1 : -4611686018427387904 ≤ at_) : RT T (k + 1) false i__law_power [(false, .int at_)] = some (.ok false (.int (2 ^ at_.toNat)) [.non]) := by
  rw [r__law_power]
  have L := turns_inv (body := forB (CX T k false [false]) (.nm 2) f__law_power_0) (fun i : Nat => D.int i) (xs := List.range at_.toNat)
    (fun pre δ => ∃ s, δ = [.val (.int at_), .val (.int (2 ^ pre.length)), s] ∧ NL s) (fun pre x post δ e ⟨s, hδ, hs⟩ => by
      subst hδ
      simp! [f__law_power_0, List.length_append, Int.pow_succ]
      exact ⟨_, rfl, _, by rw [Int.mul_comm 2], nl_val _⟩) (δ := [.val (.int at_), .val (.int 1), .non]) ⟨.non, rfl, nl_non⟩
  obtain ⟨δ', e, s, hδ, hs⟩ := L
  subst hδ
  rw [List.length_range] at e
  simp! [b__law_power, e]
theorem lhas_ev {k : Nat} {r p : Int} (h0 : 0 ≤ p) (h1 : p < 8000) : RT T (k + 2) false i__law_has [(false, .int r), (false, .int p)] = some (.ok false (.int (r / 2 ^ p.toNat % 2)) [.non, .non]) := by
  rw [r__law_has]
  have e1 : (0 : Int) < 2 ^ p.toNat := Int.pow_pos (by decide)
  have e2 : (2 ^ p.toNat : Int).natAbs.log2 < 9000 := by
    have : (2 ^ p.toNat : Int).natAbs = 2 ^ p.toNat := by rw [Int.natAbs_pow]; rfl
    rw [this, Nat.log2_two_pow]
    omega
  simp! [b__law_has, io__law_power, power_ev (show p < 4611686018427387904 by omega) (show -4611686018427387904 ≤ p by omega)]
theorem pick_ev {k : Nat} {ds : List Int} {xs : List D} (hn : 0 < xs.length) (hx : ∀ x ∈ xs, isExc x = false) (hd : 0 ≤ nx ds) (d : D) (hs : d = .tup xs ∨ d = .lst xs) : ∃ x ∈ xs, RT T (k + 2) false i__law_pick [(true, .lst (ds.map D.int)), (false, d)] = some (.ok false x [.lst (ds.dropLast.map D.int), .non]) := by
  have h0 : (0 : Int) < xs.length := by omega
  have h1 : 0 ≤ nx ds % (xs.length : Int) := Int.emod_nonneg _ (by omega)
  have h2 : nx ds % (xs.length : Int) < xs.length := Int.emod_lt_of_pos _ h0
  have h3 : (nx ds % (xs.length : Int)).toNat < xs.length := by omega
  refine ⟨xs[(nx ds % (xs.length : Int)).toNat], List.getElem_mem _, ?_⟩
  have e : L2.ixN xs.length (nx ds % (xs.length : Int)) = some (nx ds % (xs.length : Int)).toNat := ix_of h1 h2
  have q : xs[(nx ds % (xs.length : Int)).toNat]? = some xs[(nx ds % (xs.length : Int)).toNat] := List.getElem?_eq_getElem h3
  rcases hs with rfl | rfl
  · have s : sbD (.tup xs) (.int (nx ds % (xs.length : Int))) = some xs[(nx ds % (xs.length : Int)).toNat] := by rw [su_t, e]; exact q
    rw [r__law_pick]
    simp! [b__law_pick, io__law_next, next_ev, s, hx _ (List.getElem_mem h3)]
  · have s : sbD (.lst xs) (.int (nx ds % (xs.length : Int))) = some xs[(nx ds % (xs.length : Int)).toNat] := by rw [su_l, e]; exact q
    rw [r__law_pick]
    simp! [b__law_pick, io__law_next, next_ev, s, hx _ (List.getElem_mem h3)]
theorem more_ev {k : Nat} {ds : List Int} {m : Int} (hd : Dr ds) (h0 : 0 ≤ m) (h1 : m ≤ 100000) (hl : ds.length ≤ 1000000) : ∃ ds', Dr ds' ∧ ds'.length ≤ 1100000 ∧ RT T (k + 2) false i__law_more [(true, .lst (ds.map D.int)), (false, .int m)] = some (.ok true (.lst (ds'.map D.int)) [.lst (ds.dropLast.dropLast.map D.int), .non]) := by
  rw [r__law_more]
  have L := turns_inv (body := forB (CX T (k + 1) false [true, false]) (.nm 4) f__law_more_0) (fun i : Nat => D.int i) (xs := List.range m.toNat)
    (fun pre δ => ∃ (sd : Int) (xs : List Int) (s : Sl), δ = [.own (.lst (ds.dropLast.dropLast.map D.int)), .val (.int m), .val (.int sd), .own (.lst (xs.map D.int)), s] ∧ NL s ∧ Dr xs ∧ xs.length = pre.length) (fun pre x post δ e ⟨sd, xs, s, hδ, hs, hx, hl⟩ => by
      subst hδ
      have hp : pre.length < m.toNat := by
        have := congrArg List.length e
        simp at this
        omega
      simp! [f__law_more_0]
      refine ⟨_, rfl, _, xs ++ [(sd * 48271 + 12345) % 2147483647 / 7 % 1000], _, rfl, nl_val _, hx.app (Dr.mod _), by simp [hl]⟩) (δ := [.own (.lst (ds.dropLast.dropLast.map D.int)), .val (.int m), .val (.int (1000 * nx ds + nx ds.dropLast + 1)), .own (.lst []), .non]) ⟨_, [], .non, rfl, nl_non, Dr.nil, rfl⟩
  obtain ⟨δ', e, sd, xs, s, hδ, hs, hx, hl2⟩ := L
  subst hδ
  rw [List.length_range] at hl2
  refine ⟨xs ++ ds.dropLast.dropLast, hx.app hd.drop.drop, by simp; omega, ?_⟩
  have hl3 : xs.length + (ds.length - 1 - 1) ≤ 16777216 := by omega
  simp! [b__law_more, io__law_next, next_ev, e, List.length_dropLast]
theorem draws_ev {k : Nat} {nums : List Int} (hl : nums.length ≤ 63) : ∃ ds', Dr ds' ∧ ds'.length ≤ 1000000 ∧ RT T (k + 2) false i__law_draws [(false, .ro (nums.map D.int))] = some (.ok true (.lst (ds'.map D.int)) [.non]) := by
  rw [r__law_draws]
  have L := turns_inv (body := forB (CX T (k + 1) false [false]) (.nm 2) f__law_draws_0) D.int (xs := nums)
    (fun pre δ => ∃ (xs : List Int) (s2 s3 s4 s5 s6 : Sl), δ = [.val (.ro (nums.map D.int)), .own (.lst (xs.map D.int)), s2, s3, s4, s5, s6] ∧ (NL s2 ∧ NL s3 ∧ NL s4 ∧ NL s5 ∧ NL s6) ∧ Dr xs ∧ xs.length ≤ 60 * pre.length) (fun pre x post δ e ⟨xs, s2, s3, s4, s5, s6, hδ, ⟨h2, h3, h4, h5, h6⟩, hx, hl2⟩ => by
      subst hδ
      have hp : pre.length < 63 := by
        have := congrArg List.length e
        simp at this
        omega
      have hnum : ∃ y : Int, ∀ k, RT T (k + 1) false i__law_number [(false, .int x)] = some (.ok false (.int y) [.non]) := ⟨x.natAbs, fun k => number_ev⟩
      obtain ⟨y, hnum⟩ := hnum
      by_cases hc : (1000000000000000000 : Int) ≤ y
      · have L2 := turns_gen (body := forB (CX T (k + 1) false [false]) (.nm 4) f__law_draws_1) (fun i : Nat => D.int i) (xs := List.range 60)
          (fun pre2 δ => ∃ (ys : List Int) (r : Int) (s4 : Sl), δ = [.val (.ro (nums.map D.int)), .own (.lst (ys.map D.int)), .val (.int x), .val (.int r), s4, s5, s6] ∧ NL s4 ∧ Dr ys ∧ ys.length ≤ 60 * pre.length + pre2.length)
          (fun δ => ∃ (ys : List Int) (r : Int) (s4 : Sl), δ = [.val (.ro (nums.map D.int)), .own (.lst (ys.map D.int)), .val (.int x), .val (.int r), s4, s5, s6] ∧ NL s4 ∧ Dr ys ∧ ys.length ≤ 60 * pre.length + 60) (fun pre2 x2 post2 δ e2 ⟨ys, r, s4, hδ, h4, hy, hl3⟩ => by
            subst hδ
            have hp2 : pre2.length < 60 := by
              have := congrArg List.length e2
              simp at this
              omega
            by_cases hr : r = 0
            · simp! [f__law_draws_1, hr]
              exact ⟨_, _, rfl, .inr ⟨rfl, ys, _, _, rfl, nl_val _, hy, by omega⟩⟩
            · simp! [f__law_draws_1, hr]
              exact ⟨_, _, rfl, .inl ⟨rfl, ys ++ [r % 1000], _, _, rfl, nl_val _, hy.app (Dr.mod _), by simp; omega⟩⟩)
          (fun δ ⟨ys, r, s4, hδ, h4, hy, hl3⟩ => ⟨ys, r, s4, hδ, h4, hy, by rw [List.length_range] at hl3; omega⟩)
          (δ := [.val (.ro (nums.map D.int)), .own (.lst (xs.map D.int)), .val (.int x), .val (.int y), s4, s5, s6]) ⟨_, _, _, rfl, h4, hx, by simp; omega⟩
        obtain ⟨δ', e2, ys, r, s4', hδ, h4, hy, hl3⟩ := L2
        subst hδ
        have e3 : (60 : Int).toNat = 60 := rfl
        simp! [f__law_draws_0, io__law_number, hnum, hc, e3, e2]
        exact ⟨_, rfl, ys, _, _, _, _, _, rfl, ⟨nl_val _, nl_val _, h4, h5, h6⟩, hy, by simp; omega⟩
      · simp! [f__law_draws_0, io__law_number, hnum, hc, List.map_append]
        exact ⟨_, rfl, xs ++ [y % 1000, (y * 48271 + 11) % 2147483647 % 1000, ((y * 48271 + 11) % 2147483647 * 69621 + y) % 2147483629 % 1000], _, _, _, _, _, by rw [List.map_append]; rfl, ⟨nl_val _, nl_val _, h4, nl_val _, nl_val _⟩, hx.app ((Dr.mod _).app ((Dr.mod _).app (Dr.mod _))), by simp; omega⟩) (δ := [.val (.ro (nums.map D.int)), .own (.lst []), .non, .non, .non, .non, .non]) ⟨[], _, _, _, _, _, rfl, ⟨nl_non, nl_non, nl_non, nl_non, nl_non⟩, Dr.nil, by simp⟩
  obtain ⟨δ', e, xs, s2, s3, s4, s5, s6, hδ, hs, hx, hl2⟩ := L
  subst hδ
  refine ⟨xs.reverse, fun d hd => hx d (List.mem_reverse.mp hd), by simp; omega, ?_⟩
  simp! [b__law_draws, e]
theorem kind_ev {k c : Nat} {h : Bool} (h0 : 0 < c) (h1 : c < 8) : RT T (k + 1) h i__law_kind [(false, .exc c .non)] = some (.ok false (.str ((["!class", "!sample", "!tree", "!paper", "!number", "!none", "!large"] : List Str).getD (c - 1) "")) [.non]) := by
  rw [r__law_kind]
  have : c = 1 ∨ c = 2 ∨ c = 3 ∨ c = 4 ∨ c = 5 ∨ c = 6 ∨ c = 7 := by omega
  rcases this with rfl | rfl | rfl | rfl | rfl | rfl | rfl <;> (simp! [b__law_kind, T_sub, below, row]; exact congrArg (fun s => some (Res.ok false (D.str s) [D.non])) (by decide +kernel))
/-- a class of the program -/
structure Cls (n : Int) (rs : List Int) : Prop where
  n1 : 1 ≤ n
  n2 : n ≤ 12
  l1 : 1 ≤ rs.length
  l2 : rs.length < 64
  asc : rs.Pairwise (· < ·)
  r : ∀ r ∈ rs, 0 ≤ r ∧ r < 2 ^ n.toNat
theorem pow_le {a b : Nat} (h : a ≤ b) : (2 : Int) ^ a ≤ 2 ^ b := by
  have := Nat.pow_le_pow_right (n := 2) (by decide) h
  exact_mod_cast this
theorem pow_lt {a b : Nat} (h : a < b) : (2 : Int) ^ a < 2 ^ b := by
  have := Nat.pow_lt_pow_right (a := 2) (by decide) h
  exact_mod_cast this
theorem pow_pos2 (a : Nat) : (0 : Int) < 2 ^ a := Int.pow_pos (by decide)
theorem xor_lt {x y : Int} {n : Nat} (hx : 0 ≤ x ∧ x < 2 ^ n) (hy : 0 ≤ y ∧ y < 2 ^ n) : 0 ≤ Builtin.bitXor x y ∧ Builtin.bitXor x y < 2 ^ n := by
  rw [Bits.bitXor_pp hx.1 hy.1]
  have e : ((2 ^ n : Nat) : Int) = 2 ^ n := by simp
  have h1 : x.toNat < 2 ^ n := by omega
  have h2 : y.toNat < 2 ^ n := by omega
  have := Nat.xor_lt_two_pow h1 h2
  omega
theorem class_ev {k : Nat} {ds : List Int} {P R : Int} (hd : Dr ds) (p1 : 1 ≤ P) (p2 : P ≤ 12) (r1 : 1 ≤ R) (r2 : R ≤ 60) :
    ∃ n rs ds', Dr ds' ∧ ds'.length ≤ ds.length ∧ Cls n rs ∧ n ≤ P ∧ RT T (k + 2) false i__law_class [(true, .lst (ds.map D.int)), (false, .int P), (false, .int R)] = some (.ok false (.tup [.int n, .tup (rs.map D.int)]) [.lst (ds'.map D.int), .non, .non]) := by
  rw [r__law_class, b__law_class]
  have hn := hd.nx
  have q1 : 0 ≤ nx ds % P := Int.emod_nonneg _ (by omega)
  have q2 : nx ds % P < P := Int.emod_lt_of_pos _ (by omega)
  obtain ⟨n, hnn⟩ : ∃ n : Int, n = 1 + nx ds % P := ⟨_, rfl⟩
  rw [step_eq (δ' := [.own (.lst (ds.dropLast.map D.int)), .val (.int P), .val (.int R), .val (.int n), .non, .non, .non, .non, .non, .non]) (by
    simp! [io__law_next, next_ev, hnn])]
  obtain ⟨kd, hkd⟩ : ∃ kd : Int, kd = nx ds.dropLast % 6 := ⟨_, rfl⟩
  rw [step_eq (δ' := [.own (.lst (ds.dropLast.dropLast.map D.int)), .val (.int P), .val (.int R), .val (.int n), .val (.int kd), .non, .non, .non, .non, .non]) (by
    simp! [io__law_next, next_ev, hkd])]
  have hd2 := hd.drop.drop
  have hel : ds.dropLast.dropLast.length ≤ ds.length := by simp; omega
  generalize ds.dropLast.dropLast = es at *
  refine step_ex (fun r => ∃ n rs ds', Dr ds' ∧ ds'.length ≤ ds.length ∧ Cls n rs ∧ n ≤ P ∧ endX [true, false, false] 3 r = some (.ok false (.tup [.int n, .tup (rs.map D.int)]) [.lst (ds'.map D.int), .non, .non]))
    (fun δ => ∃ es fs : List Int, Dr es ∧ es.length ≤ ds.length ∧ 0 < fs.length ∧ fs.length < 64 ∧ (∀ r ∈ fs, 0 ≤ r ∧ r < 2 ^ n.toNat) ∧ δ = [.own (.lst (es.map D.int)), .val (.int P), .val (.int R), .val (.int n), .val (.int kd), .non, .own (.lst (fs.map D.int)), .non, .non, .non]) ?_ ?_
  · have hn62 : n < 13 := by omega
    have hn0 : 0 < n := by omega
    have mk : ∀ (es fs : List Int), [Sl.own (.lst (es.map D.int)), .val (.int P), .val (.int R), .val (.int n), .val (.int kd), .non, .own (.lst (fs.map D.int)), .non, .non, .non] = [Sl.own (.lst (es.map D.int)), .val (.int P), .val (.int R), .val (.int n), .val (.int kd), .non, .own (.lst (fs.map D.int)), .non, .non, .non] := fun _ _ => rfl
    by_cases c0 : kd = 0
    · refine ⟨_, ?_, es, (List.range (n + 1).toNat).map fun (i : Nat) => (2 : Int) ^ i - 1, hd2, hel, by simp; omega, by simp; omega, fun r hr => ?_, mk _ _⟩
      · simp! [x__law_class_0, c0, io__law_power, power_ev]
      · obtain ⟨i, hi, rfl⟩ := List.mem_map.mp hr
        have := List.mem_range.mp hi
        have h1 := pow_le (show i ≤ n.toNat by omega)
        have h2 := pow_pos2 i
        omega
    by_cases c1 : kd = 1
    · refine ⟨_, ?_, es, 0 :: (List.range n.toNat).map fun (i : Nat) => (2 : Int) ^ i, hd2, hel, by simp, by simp; omega, fun r hr => ?_, mk _ _⟩
      · simp! [x__law_class_1, c1, io__law_power, power_ev]
      · have h3 := pow_pos2 n.toNat
        rcases List.mem_cons.mp hr with rfl | hr
        · omega
        obtain ⟨i, hi, rfl⟩ := List.mem_map.mp hr
        have := List.mem_range.mp hi
        have h1 := pow_lt (show i < n.toNat by omega)
        have h2 := pow_pos2 i
        omega
    by_cases c2 : kd = 2 ∧ n < 4
    · obtain ⟨c2, c3⟩ := c2
      have h1 := pow_le (show n.toNat ≤ 3 by omega)
      have h2 := pow_pos2 n.toNat
      have h3 : (2 : Int) ^ 3 = 8 := by decide
      refine ⟨_, ?_, es, (List.range (2 ^ n.toNat : Int).toNat).map fun (i : Nat) => (i : Int), hd2, hel, by simp; omega, by simp; omega, fun r hr => ?_, mk _ _⟩
      · simp! [c2, c3, io__law_power, power_ev]
      · obtain ⟨i, hi, rfl⟩ := List.mem_map.mp hr
        have := List.mem_range.mp hi
        omega
    · have m1 : 0 ≤ nx es % R := Int.emod_nonneg _ (by omega)
      have m2 : nx es % R < R := Int.emod_lt_of_pos _ (by omega)
      have e3 := pow_pos2 n.toNat
      have L := gather_inv (vs := [8]) (body := Ex.lcB (CX T (k + 1) false [true, false, false]) (.nm 8) none x__law_class_2) (fun i : Nat => D.int i) (xs := List.range (1 + nx es % R).toNat)
        (fun pre acc δ => ∃ es' fs : List Int, δ = [.own (.lst (es'.map D.int)), .val (.int P), .val (.int R), .val (.int n), .val (.int kd), .non, .non, .non, .non, .non] ∧ acc = fs.map D.int ∧ Dr es' ∧ es'.length ≤ ds.length ∧ fs.length = pre.length ∧ ∀ r ∈ fs, 0 ≤ r ∧ r < 2 ^ n.toNat) (fun pre x post acc δ e ⟨es', fs, hδ, ha, he, hel, hf, hr⟩ => by
          subst hδ; subst ha
          simp! [x__law_class_2, io__law_next, next_ev, io__law_power, power_ev]
          refine ⟨_, _, rfl, es'.dropLast.dropLast, fs ++ [(1000 * nx es' + nx es'.dropLast) % 2 ^ n.toNat], rfl, app_int _ _, he.drop.drop, by simp; omega, by simp [hf], fun r hr' => ?_⟩
          rcases List.mem_append.mp hr' with q | q
          · exact hr r q
          · rw [List.mem_singleton.mp q]
            exact ⟨Int.emod_nonneg _ (by omega), Int.emod_lt_of_pos _ e3⟩)
        (δ := [.own (.lst (es.dropLast.map D.int)), .val (.int P), .val (.int R), .val (.int n), .val (.int kd), .non, .non, .non, .non, .non]) ⟨_, [], rfl, rfl, hd2.drop, by simp; omega, rfl, by simp⟩
      obtain ⟨ys, δ', e, es', fs, hδ, ha, he, hel', hf, hr⟩ := L
      subst hδ; subst ha
      rw [List.length_range] at hf
      refine ⟨_, ?_, es', fs, he, hel', by omega, by omega, hr, mk _ _⟩
      simp! [io__law_next, next_ev, c0, c1, c2, -Ex.gather_map, e]

  · rintro δ ⟨es, fs, he, hel, f1, f2, f3, rfl⟩
    refine step_ex (fun r => ∃ n rs ds', Dr ds' ∧ ds'.length ≤ ds.length ∧ Cls n rs ∧ n ≤ P ∧ endX [true, false, false] 3 r = some (.ok false (.tup [.int n, .tup (rs.map D.int)]) [.lst (ds'.map D.int), .non, .non]))
      (fun δ => ∃ (es : List Int) (m : Int), Dr es ∧ es.length ≤ ds.length ∧ (0 ≤ m ∧ m < 2 ^ n.toNat) ∧ δ = [.own (.lst (es.map D.int)), .val (.int P), .val (.int R), .val (.int n), .val (.int kd), .val (.int m), .own (.lst (fs.map D.int)), .non, .non, .non]) ?_ ?_
    · have e3 := pow_pos2 n.toNat
      by_cases hc : nx es % 3 = 0
      · simp! [io__law_next, next_ev, hc, io__law_power, power_ev (show n < 4611686018427387904 by omega) (show -4611686018427387904 ≤ n by omega)]
        exact ⟨_, rfl, _, nx es.dropLast % 2 ^ n.toNat, he.drop.drop, by simp; omega, ⟨Int.emod_nonneg _ (by omega), Int.emod_lt_of_pos _ e3⟩, rfl⟩
      · simp! [io__law_next, next_ev, hc, io__law_power, power_ev (show n < 4611686018427387904 by omega) (show -4611686018427387904 ≤ n by omega)]
        exact ⟨_, rfl, _, 0, he.drop, by simp; omega, ⟨by decide, e3⟩, rfl⟩
    · rintro δ ⟨es, m, he, hel, hm, rfl⟩
      obtain ⟨rs, s1, s2, s3, s4⟩ := sort_dict (ks := fs.map fun x => Builtin.bitXor x m) (.bl true) (by simpa using f2)
      refine ⟨n, rs, es, he, hel, ⟨by omega, by omega, ?_, by simp at s4; omega, s2, fun r hr => ?_⟩, by omega, ?_⟩
      · cases rs with
        | nil =>
          cases fs with
          | nil => simp at f1
          | cons f fs => exact absurd ((s3 (Builtin.bitXor f m)).mpr (by simp)) (by simp)
        | cons r rs => simp
      · obtain ⟨f, hf, rfl⟩ := List.mem_map.mp ((s3 r).mp hr)
        exact xor_lt (f3 f hf) hm
      · rw [List.map_map] at s1
        have s1 : bD .sorted [.dct (foldK [] (fs.map fun x => (D.int (Builtin.bitXor x m), D.bl true)))] = some (true, .lst (rs.map D.int)) := s1
        simp! [x__law_class_3, s1]
/-! classes.py: has, is_class, check_class -/
abbrev cls (n : Int) (rs : List Int) : D := .tup [.int n, .tup (rs.map D.int)]
abbrev eP (p : Int × Int) : D := .tup [.int p.1, .int p.2]
abbrev exs (ex : List (Int × Int)) : D := .tup (ex.map eP)
def bitI (r p : Int) : Int := r / 2 ^ p.toNat % 2
theorem bitI_01 (r p : Int) : bitI r p = 0 ∨ bitI r p = 1 := by unfold bitI; omega
theorem bitI_lo (r p : Int) : -18446744073709551616 < bitI r p := by unfold bitI; omega
theorem bitI_hi (r p : Int) : bitI r p < 18446744073709551616 := by unfold bitI; omega
theorem has_ev {k : Nat} {h : Bool} {r p : Int} (hp : 0 ≤ p) : RT T (k + 1) h i_has [(false, .int r), (false, .int p)] = some (.ok false (.int (bitI r p)) [.non, .non]) := by
  rw [r_has]
  simp! [b_has, bitI]
theorem lhas_ev2 {k : Nat} {r p : Int} (h0 : 0 ≤ p) (h1 : p < 8000) : RT T (k + 2) false i__law_has [(false, .int r), (false, .int p)] = some (.ok false (.int (bitI r p)) [.non, .non]) := lhas_ev h0 h1
def isClassB (n : Int) (rs : List Int) : Bool := if ¬(1 ≤ n ∧ n ≤ 12) ∨ ¬(1 ≤ (rs.length : Int) ∧ (rs.length : Int) ≤ 200) then false else ((rs.zip (rs.drop 1)).all fun x => decide (x.1 < x.2)) && rs.all fun x => decide (0 ≤ x) && decide (x < 2 ^ n.toNat)
theorem is_class_ev {k : Nat} {n : Int} {rs : List Int} (h4 : rs.length ≤ 16777215) : RT T (k + 1) false i_is_class [(false, cls n rs)] = some (.ok false (.bl (isClassB n rs)) [.non]) := by
  rw [r_is_class, isClassB]
  simp! [b_is_class, x_is_class_0, x_is_class_1, cst_MOST_POINTS, cst_MOST_RULES, List.length_zip, List.length_drop]
theorem check_class_ev {k : Nat} {n : Int} {rs : List Int} (h4 : rs.length ≤ 16777215) : RT T (k + 2) false i_check_class [(false, cls n rs)] = if isClassB n rs then some (.ok false .non [.non]) else some (.er ⟨1, .non⟩) := by
  rw [r_check_class]
  simp! [b_check_class, io_is_class, is_class_ev h4]
  cases isClassB n rs <;> rfl
theorem isClassB_of {n : Int} {rs : List Int} (h : Cls n rs) : isClassB n rs = true := by
  unfold isClassB
  have := h.n1; have := h.n2; have := h.l1; have := h.l2
  rw [if_neg (by omega)]
  rw [Bool.and_eq_true, List.all_eq_true, List.all_eq_true]
  constructor
  · intro x hx
    have p := h.asc
    rw [List.pairwise_iff_getElem] at p
    obtain ⟨i, hi, e⟩ := List.mem_iff_getElem.mp hx
    simp at hi
    subst e
    simp
    have := p i (i + 1) (by omega) (by omega) (by omega)
    exact this
  · intro x hx
    have := h.r x hx
    simp
    exact this
/-! classes.py: samples, what is left -/
def isSmpB (n : Int) (ex : List (Int × Int)) : Bool := ((ex.zip (ex.drop 1)).all fun x => decide (x.1.1 < x.2.1)) && ex.all fun p => decide (0 ≤ p.1 ∧ p.1 < n) && (decide (p.2 = 0) || decide (p.2 = 1))
theorem are_examples_ev {k : Nat} {n : Int} {ex : List (Int × Int)} (h4 : ex.length ≤ 16777215) : RT T (k + 1) false i_are_examples [(false, .int n), (false, exs ex)] = some (.ok false (.bl (isSmpB n ex)) [.non, .non]) := by
  rw [r_are_examples, isSmpB]
  simp! [b_are_examples, x_are_examples_0, x_are_examples_1, x_are_examples_2, eP, List.length_zip, List.length_drop]
theorem is_sample_ev {k : Nat} {n : Int} {ex : List (Int × Int)} (h4 : ex.length ≤ 16777215) : RT T (k + 2) false i_is_sample [(false, .int n), (false, exs ex)] = if 1 ≤ n ∧ n ≤ 12 then some (.ok false (.bl (isSmpB n ex)) [.non, .non]) else some (.er ⟨5, .non⟩) := by
  rw [r_is_sample]
  simp! [b_is_sample, io_are_examples, are_examples_ev h4, cst_MOST_POINTS, ite_not]
theorem check_sample_ev {k : Nat} {n : Int} {rs : List Int} {ex : List (Int × Int)} (h4 : rs.length ≤ 16777215) (h5 : ex.length ≤ 16777215) : RT T (k + 3) false i_check_sample [(false, cls n rs), (false, exs ex)] =
    if isClassB n rs then (if isSmpB n ex then some (.ok false .non [.non, .non]) else some (.er ⟨2, .non⟩)) else some (.er ⟨1, .non⟩) := by
  rw [r_check_sample]
  cases hc : isClassB n rs
  · simp! [b_check_sample, io_check_class, check_class_ev h4, hc]
  · simp! [b_check_sample, io_check_class, check_class_ev h4, hc, io_are_examples, are_examples_ev h5]
    cases isSmpB n ex <;> rfl
def fitB (ex : List (Int × Int)) (r : Int) : Bool := ex.all fun x => decide (bitI r x.1 = x.2)
theorem fits_of_ev {k : Nat} {r : Int} {ex : List (Int × Int)} (h5 : ex.length ≤ 16777215) (hp : ∀ x, Mb ex x → 0 ≤ x.1) : RT T (k + 2) false i_fits_of [(false, .int r), (false, exs ex)] = some (.ok false (.bl (fitB ex r)) [.non, .non]) := by
  rw [r_fits_of]
  simp! [b_fits_of, x_fits_of_0, eP, io_has, has_ev, fitB]
theorem left_of_ev {k : Nat} {rs : List Int} {ex : List (Int × Int)} (h4 : rs.length ≤ 16777215) (h5 : ex.length ≤ 16777215) (hp : ∀ x, Mb ex x → 0 ≤ x.1) : RT T (k + 3) false i_left_of [(false, .tup (rs.map D.int)), (false, exs ex)] = some (.ok true (.lst ((rs.filter (fitB ex)).map D.int)) [.non, .non]) := by
  rw [r_left_of]
  simp! [b_left_of, x_left_of_0, eP, io_fits_of, fits_of_ev h5 hp]
theorem isSmp_nn {n : Int} {ex : List (Int × Int)} (h : isSmpB n ex = true) : ∀ x, Mb ex x → 0 ≤ x.1 := by
  unfold isSmpB at h
  simp only [Bool.and_eq_true, List.all_eq_true, decide_eq_true_eq] at h
  exact fun x hx => (h.2 x hx).1.1
section
variable {k : Nat} {n : Int} {rs : List Int} {ex : List (Int × Int)}
theorem chk_bad (h4 : rs.length ≤ 16777215) (h5 : ex.length ≤ 16777215) (hc : isClassB n rs = false) : RT T (k + 3) false i_check_sample [(false, cls n rs), (false, exs ex)] = some (.er ⟨1, .non⟩) := by
  rw [check_sample_ev h4 h5, hc]; rfl
theorem chk_bad2 (h4 : rs.length ≤ 16777215) (h5 : ex.length ≤ 16777215) (hc : isClassB n rs = true) (hs : isSmpB n ex = false) : RT T (k + 3) false i_check_sample [(false, cls n rs), (false, exs ex)] = some (.er ⟨2, .non⟩) := by
  rw [check_sample_ev h4 h5, hc, hs]; rfl
theorem chk_ok (h4 : rs.length ≤ 16777215) (h5 : ex.length ≤ 16777215) (hc : isClassB n rs = true) (hs : isSmpB n ex = true) : RT T (k + 3) false i_check_sample [(false, cls n rs), (false, exs ex)] = some (.ok false .non [.non, .non]) := by
  rw [check_sample_ev h4 h5, hc, hs]; rfl
theorem fits_ev {r : Int} (h4 : rs.length ≤ 16777215) (h5 : ex.length ≤ 16777215) (hc : isClassB n rs = true) (hs : isSmpB n ex = true) (hn : 0 ≤ n ∧ n < 100) : RT T (k + 4) false i_fits [(false, cls n rs), (false, .int r), (false, exs ex)] = if 0 ≤ r ∧ r < 2 ^ n.toNat then some (.ok false (.bl (fitB ex r)) [.non, .non, .non]) else some (.er ⟨5, .non⟩) := by
  rw [r_fits]
  simp! [b_fits, io_check_sample, chk_ok h4 h5 hc hs, io_fits_of, fits_of_ev h5 (isSmp_nn hs), ite_not]
theorem left_ev (h4 : rs.length ≤ 16777215) (h5 : ex.length ≤ 16777215) (hc : isClassB n rs = true) (hs : isSmpB n ex = true) : RT T (k + 4) false i_left [(false, cls n rs), (false, exs ex)] = some (.ok false (.tup ((rs.filter (fitB ex)).map D.int)) [.non, .non]) := by
  rw [r_left]
  simp! [b_left, io_check_sample, chk_ok h4 h5 hc hs, io_left_of, left_of_ev h4 h5 (isSmp_nn hs)]
theorem left_some_ev (h4 : rs.length ≤ 16777215) (h5 : ex.length ≤ 16777215) (hc : isClassB n rs = true) (hs : isSmpB n ex = true) : RT T (k + 4) false i_left_some [(false, cls n rs), (false, exs ex)] = if rs.filter (fitB ex) = [] then some (.er ⟨6, .non⟩) else some (.ok true (.lst ((rs.filter (fitB ex)).map D.int)) [.non, .non]) := by
  rw [r_left_some]
  cases he : rs.filter (fitB ex) with
  | nil => simp! [b_left_some, io_check_sample, chk_ok h4 h5 hc hs, io_left_of, left_of_ev h4 h5 (isSmp_nn hs), he]
  | cons r q => simp! [b_left_some, io_check_sample, chk_ok h4 h5 hc hs, io_left_of, left_of_ev h4 h5 (isSmp_nn hs), he]
end
/-! classes.py: what is settled -/
def setAt (rs : List Int) (p : Int) : Option Int := match rs with
  | [] => none
  | r0 :: _ => if rs.all fun r => decide (bitI r p = bitI r0 p) then some (bitI r0 p) else none
theorem foldK_set (v : D) (rs : List Int) (p : Int) : (∃ b, setAt rs p = some b ∧ foldK [] (rs.map fun r => (D.int (bitI r p), v)) = [(D.int b, v)]) ∨ (setAt rs p = none ∧ (foldK [] (rs.map fun r => (D.int (bitI r p), v))).length ≠ 1) := by
  obtain ⟨ws, w1, w2, w3, w4⟩ := foldK_true v (rs.map fun r => bitI r p) [] List.nodup_nil
  rw [List.map_map] at w1
  have w1 : foldK [] (rs.map fun r => (D.int (bitI r p), v)) = ws.map fun k => (D.int k, v) := w1
  rw [w1]
  cases rs with
  | nil =>
    right
    refine ⟨rfl, ?_⟩
    cases ws with
    | nil => simp
    | cons w ws => exact absurd ((w3 w).mp (by simp)) (by simp)
  | cons r0 rs =>
    have m0 : bitI r0 p ∈ ws := (w3 _).mpr (by simp)
    by_cases ha : ((r0 :: rs).all fun r => decide (bitI r p = bitI r0 p)) = true
    · left
      refine ⟨bitI r0 p, if_pos ha, ?_⟩
      have h1 : ∀ w ∈ ws, w = bitI r0 p := fun w hw => by
        have := (w3 w).mp hw
        simp only [List.not_mem_nil, false_or] at this
        obtain ⟨r, hr, rfl⟩ := List.mem_map.mp this
        exact of_decide_eq_true (List.all_eq_true.mp ha r hr)
      cases ws with
      | nil => cases m0
      | cons w ws =>
        cases ws with
        | nil => rw [h1 w (by simp)]; rfl
        | cons u ws =>
          have := h1 w (by simp)
          have := h1 u (by simp)
          simp_all
    · right
      refine ⟨if_neg ha, fun hl => ha ?_⟩
      rw [List.length_map] at hl
      obtain ⟨w, rfl⟩ := List.length_eq_one_iff.mp hl
      rw [List.all_eq_true]
      intro r hr
      have e1 : bitI r p ∈ [w] := (w3 _).mpr (.inr (List.mem_map_of_mem hr))
      rw [List.mem_singleton] at e1 m0
      simp [e1, m0]
/-- what the rules settle -/
def setL (n : Int) (rs : List Int) : List (Int × Int) := (List.range n.toNat).filterMap fun (i : Nat) => (setAt rs (i : Int)).map fun b => ((i : Int), b)
theorem setL_snoc (rs : List Int) (m : Nat) : ((List.range (m + 1)).filterMap fun (i : Nat) => (setAt rs (i : Int)).map fun b => ((i : Int), b)) = ((List.range m).filterMap fun (i : Nat) => (setAt rs (i : Int)).map fun b => ((i : Int), b)) ++ (match setAt rs (m : Int) with | none => [] | some b => [((m : Int), b)]) := by
  rw [List.range_succ, List.filterMap_append]
  congr 1
  rw [List.filterMap_cons, List.filterMap_nil]
  cases setAt rs (m : Int) <;> rfl
/-- up to a point -/
def setU (rs : List Int) (m : Nat) : List (Int × Int) := (List.range m).filterMap fun (i : Nat) => (setAt rs (i : Int)).map fun b => ((i : Int), b)
theorem setU_len (rs : List Int) (m : Nat) : (setU rs m).length ≤ m := by
  have := List.length_filterMap_le (fun (i : Nat) => (setAt rs (i : Int)).map fun b => ((i : Int), b)) (List.range m)
  rwa [List.length_range] at this
theorem settled_by_ev {k : Nat} {n : Int} {rs : List Int} {d : D} (hd : d = .lst (rs.map D.int) ∨ d = .tup (rs.map D.int)) (hn : 0 ≤ n ∧ n < 1000) (h4 : rs.length ≤ 16777215) : RT T (k + 2) false i_settled_by [(false, .int n), (false, d)] = some (.ok true (.lst ((setL n rs).map eP)) [.non, .non]) := by
  rw [r_settled_by]
  have it : itS 0 [d] = some (rs.map D.int) := by
    rcases hd with rfl | rfl
    · rw [items0l]
    · rw [items0t]
  have L := turns_range (body := forB (CX T (k + 1) false [false, false]) (.nm 3) f_settled_by_0) (m := n.toNat)
    (fun i δ => ∃ s3 s4 : Sl, δ = [.val (.int n), .val d, .own (.lst ((setU rs i).map eP)), s3, s4, .non] ∧ NL s3 ∧ NL s4) (fun i δ hi ⟨s3, s4, hδ, h3, h4'⟩ => by
      subst hδ
      have hlen := setU_len rs i
      rcases foldK_set (.bl true) rs (i : Int) with ⟨b, e1, e2⟩ | ⟨e1, e2⟩
      · have e3 : setU rs (i + 1) = setU rs i ++ [((i : Int), b)] := by
          unfold setU
          rw [setL_snoc, e1]
        simp! [f_settled_by_0, x_settled_by_0, it, io_has, has_ev, e2]
        exact ⟨_, rfl, _, _, by rw [e3, List.map_append]; rfl, nl_val _, nl_own _⟩
      · have e3 : setU rs (i + 1) = setU rs i := by
          unfold setU
          rw [setL_snoc, e1, List.append_nil]
        have e4 : ¬ (((foldK [] (rs.map fun r => (D.int (bitI r i), D.bl true))).length : Nat) : Int) = 1 := by omega
        simp! [f_settled_by_0, x_settled_by_0, it, io_has, has_ev, e4]
        exact ⟨_, rfl, _, _, by rw [e3], nl_val _, nl_own _⟩) (δ := [.val (.int n), .val d, .own (.lst []), .non, .non, .non]) ⟨.non, .non, rfl, nl_non, nl_non⟩
  obtain ⟨δ', e, s3, s4, hδ, h3, h4'⟩ := L
  subst hδ
  have : setU rs n.toNat = setL n rs := rfl
  rw [this] at e
  simp! [b_settled_by, e]
section
variable {k : Nat} {n : Int} {rs : List Int} {ex : List (Int × Int)}
theorem settled_ev (h4 : rs.length ≤ 16777215) (h5 : ex.length ≤ 16777215) (hc : isClassB n rs = true) (hs : isSmpB n ex = true) (hn : 0 ≤ n ∧ n < 100) : RT T (k + 5) false i_settled [(false, cls n rs), (false, exs ex)] = if rs.filter (fitB ex) = [] then some (.er ⟨6, .non⟩) else some (.ok true (.lst ((setL n (rs.filter (fitB ex))).map eP)) [.non, .non]) := by
  rw [r_settled]
  have hl := List.length_filter_le (fitB ex) rs
  by_cases he : rs.filter (fitB ex) = []
  · simp! [b_settled, io_left_some, left_some_ev h4 h5 hc hs, he]
  · simp! [b_settled, io_left_some, left_some_ev h4 h5 hc hs, he, io_settled_by, settled_by_ev (n := n) (rs := rs.filter (fitB ex)) (.inl rfl) (by omega) (by omega)]
theorem closed_ev (h4 : rs.length ≤ 16777215) (h5 : ex.length ≤ 16777215) (hc : isClassB n rs = true) (hs : isSmpB n ex = true) (hn : 0 ≤ n ∧ n < 100) : RT T (k + 6) false i_closed_sample [(false, cls n rs), (false, exs ex)] = if rs.filter (fitB ex) = [] then some (.er ⟨6, .non⟩) else some (.ok false (.tup ((setL n (rs.filter (fitB ex))).map eP)) [.non, .non]) := by
  rw [r_closed_sample]
  by_cases he : rs.filter (fitB ex) = []
  · simp! [b_closed_sample, io_settled, settled_ev h4 h5 hc hs hn, he]
  · simp! [b_closed_sample, io_settled, settled_ev h4 h5 hc hs hn, he]
end
/-! classes.py: free, least, greatest, half -/
theorem eP_pur (k : Nat) (p : Int × Int) : pur (k + 1) (eP p) = true := by
  rw [pur_tup, pur_cons, pur_cons, pur_nil, pur_int, pur_int]; rfl
theorem eP_inj (a b : Int × Int) (h : eP a = eP b) : a = b := by
  obtain ⟨a1, a2⟩ := a; obtain ⟨b1, b2⟩ := b
  injection h with h; injection h with h1 h2; injection h2 with h2 _; injection h1 with h1; injection h2 with h2
  exact Prod.ext h1 h2
theorem in_pairs (x : Int × Int) (ys : List (Int × Int)) : ilS (eP x) (ys.map eP) = some (decide (x ∈ ys)) := in_enc (eP_pur 62) eP_inj x ys
def isFreeB (n : Int) (rs : List Int) (ex : List (Int × Int)) : Bool := !(ex.zipIdx.any fun p => decide (p.1 ∈ setL n (rs.filter (fitB (ex.take p.2 ++ ex.drop (p.2 + 1))))))
theorem tk_dr {α : Type} {xs : List α} {i : Nat} {x : α} (h : x ∈ xs.take i ++ xs.drop (i + 1)) : x ∈ xs := by
  rcases List.mem_append.mp h with h | h
  · exact List.mem_of_mem_take h
  · exact List.mem_of_mem_drop h
section
variable {k : Nat} {n : Int} {rs : List Int} {ex : List (Int × Int)}
theorem is_free_ev (h4 : rs.length ≤ 1000000) (h5 : ex.length ≤ 1000000) (hc : isClassB n rs = true) (hs : isSmpB n ex = true) (hn : 0 ≤ n ∧ n < 100) : RT T (k + 5) false i_is_free [(false, cls n rs), (false, exs ex)] = if rs.filter (fitB ex) = [] then some (.er ⟨6, .non⟩) else some (.ok false (.bl (isFreeB n rs ex)) [.non, .non]) := by
  rw [r_is_free]
  by_cases he : rs.filter (fitB ex) = []
  · simp! [b_is_free, io_left_some, left_some_ev (show rs.length ≤ 16777215 by omega) (show ex.length ≤ 16777215 by omega) hc hs, he]
  · have nn := isSmp_nn hs
    have L := turns_ret (body := forB (CX T (k + 4) false [false, false]) (.tp [.nm 2, .nm 3]) f_is_free_0) (fun p : (Int × Int) × Nat => .tup [.int (p.2 : Int), eP p.1]) (fun p => decide (p.1 ∈ setL n (rs.filter (fitB (ex.take p.2 ++ ex.drop (p.2 + 1)))))) false (.bl false)
      (fun δ => ∃ s2 s3 s4, δ = [.val (cls n rs), .val (exs ex), s2, s3, s4] ∧ NL s2 ∧ NL s3 ∧ NL s4) (fun δ => ∃ s2 s3 s4, δ = [.val (cls n rs), .val (exs ex), s2, s3, s4]) ex.zipIdx (fun x hx δ ⟨s2, s3, s4, hδ, n2, n3, n4⟩ => by
        subst hδ
        have hl : (ex.take x.2 ++ ex.drop (x.2 + 1)).length ≤ 16777215 := by simp; omega
        have hnn : ∀ y, Mb (ex.take x.2 ++ ex.drop (x.2 + 1)) y → 0 ≤ y.1 := fun y hy => nn y (tk_dr hy)
        have e1 := fun k => left_of_ev (k := k) (rs := rs) (show rs.length ≤ 16777215 by omega) hl hnn
        have hfl := List.length_filter_le (fitB (ex.take x.2 ++ ex.drop (x.2 + 1))) rs
        have e2 := fun k => settled_by_ev (k := k) (n := n) (rs := rs.filter (fitB (ex.take x.2 ++ ex.drop (x.2 + 1)))) (.inl rfl) (by omega) (by omega)
        have e3 : ∀ ys : List (Int × Int), ilS (.tup [.int x.1.1, .int x.1.2]) (ys.map eP) = some (decide (x.1 ∈ ys)) := fun ys => in_pairs x.1 ys
        have e5 : ∀ zs : List (Int × Int), zs.map (fun p => D.tup [D.int p.1, D.int p.2]) = zs.map eP := fun zs => rfl
        have e4 : (ex.map eP).take x.2 ++ (ex.map eP).drop (x.2 + 1) = (ex.take x.2 ++ ex.drop (x.2 + 1)).map eP := by simp
        by_cases q : x.1 ∈ setL n (rs.filter (fitB (ex.take x.2 ++ ex.drop (x.2 + 1))))
        · rw [if_pos (by simpa using q)]
          simp! [f_is_free_0,  io_left_of, e1, io_settled_by, e2, e3, q]
          exact ⟨_, rfl, _, _, _, rfl⟩
        · rw [if_neg (by simpa using q)]
          simp! [f_is_free_0,  io_left_of, e1, io_settled_by, e2, e3, q]
          exact ⟨_, rfl, _, _, _, rfl, nl_val _, nl_val _, nl_own _⟩) (δ := [.val (cls n rs), .val (exs ex), .non, .non, .non]) ⟨_, _, _, rfl, nl_non, nl_non, nl_non⟩
    unfold isFreeB
    cases hq : (ex.zipIdx.any fun p => decide (p.1 ∈ setL n (rs.filter (fitB (ex.take p.2 ++ ex.drop (p.2 + 1))))))
    · rw [if_neg (by rw [hq]; decide)] at L
      obtain ⟨δ', e, s2, s3, s4, hδ, _⟩ := L
      subst hδ
      simp! [b_is_free, io_left_some, left_some_ev (show rs.length ≤ 16777215 by omega) (show ex.length ≤ 16777215 by omega) hc hs, he, e]
    · rw [if_pos hq] at L
      obtain ⟨δ', e, s2, s3, s4, hδ⟩ := L
      subst hδ
      simp! [b_is_free, io_left_some, left_some_ev (show rs.length ≤ 16777215 by omega) (show ex.length ≤ 16777215 by omega) hc hs, he, e]
end
def andF (rs : List Int) : Int := rs.foldl Builtin.bitAnd (rs.headD 0)
def orF (rs : List Int) : Int := rs.foldl Builtin.bitOr 0
def leastD (rs : List Int) : Option Int := if rs.any fun j => decide (j = andF rs) then some (andF rs) else none
def greatD (rs : List Int) : Option Int := if rs.any fun j => decide (j = orF rs) then some (orF rs) else none
theorem least_of_ev {k : Nat} {rs : List Int} (h0 : rs ≠ []) : RT T (k + 1) false i_least_of [(false, .lst (rs.map D.int))] = some (.ok false (ofO (leastD rs)) [.non]) := by
  rw [r_least_of]
  have L := turns_fold (body := forB (CX T k false [false]) (.nm 2) f_least_of_0) D.int (xs := rs) Builtin.bitAnd (fun c δ => ∃ s, δ = [.val (.lst (rs.map D.int)), .val (.int c), s] ∧ NL s) (fun s x δ hx ⟨s2, hδ, h2⟩ => by
    subst hδ
    simp! [f_least_of_0]
    exact ⟨_, rfl, _, rfl, nl_val _⟩) (s := rs.headD 0) (δ := [.val (.lst (rs.map D.int)), .val (.int (rs.headD 0)), .non]) ⟨_, rfl, nl_non⟩
  obtain ⟨δ', e, s, hδ, h⟩ := L
  subst hδ
  have e0 : sbD (.lst (rs.map D.int)) (.int 0) = some (.int (rs.headD 0)) := by
    cases rs with
    | nil => exact absurd rfl h0
    | cons r rs => exact su_l0 _ _
  unfold leastD
  have ea : rs.foldl Builtin.bitAnd (rs.headD 0) = andF rs := rfl
  rw [ea] at e
  by_cases q : (rs.any fun j => decide (j = andF rs)) = true
  · rw [if_pos q]
    simp! [b_least_of, e0, e, q, ofO]
  · rw [if_neg q]
    simp! [b_least_of, e0, e, q, ofO]
theorem greatest_of_ev {k : Nat} {rs : List Int} : RT T (k + 1) false i_greatest_of [(false, .lst (rs.map D.int))] = some (.ok false (ofO (greatD rs)) [.non]) := by
  rw [r_greatest_of]
  have L := turns_fold (body := forB (CX T k false [false]) (.nm 2) f_greatest_of_0) D.int (xs := rs) Builtin.bitOr (fun c δ => ∃ s, δ = [.val (.lst (rs.map D.int)), .val (.int c), s] ∧ NL s) (fun s x δ hx ⟨s2, hδ, h2⟩ => by
    subst hδ
    simp! [f_greatest_of_0]
    exact ⟨_, rfl, _, rfl, nl_val _⟩) (s := 0) (δ := [.val (.lst (rs.map D.int)), .val (.int 0), .non]) ⟨_, rfl, nl_non⟩
  obtain ⟨δ', e, s, hδ, h⟩ := L
  subst hδ
  unfold greatD
  have ea : rs.foldl Builtin.bitOr 0 = orF rs := rfl
  rw [ea] at e
  by_cases q : (rs.any fun j => decide (j = orF rs)) = true
  · rw [if_pos q]
    simp! [b_greatest_of, e, q, ofO]
  · rw [if_neg q]
    simp! [b_greatest_of, e, q, ofO]
def halfD (rs : List Int) (p : Int) : Option Int := if 2 * (rs.map fun r => bitI r p).sum = rs.length then none else some (if (rs.length : Int) < 2 * (rs.map fun r => bitI r p).sum then 1 else 0)
section
variable {k : Nat} {n : Int} {rs : List Int} {ex : List (Int × Int)}
theorem least_left_ev (h4 : rs.length ≤ 16777215) (h5 : ex.length ≤ 16777215) (hc : isClassB n rs = true) (hs : isSmpB n ex = true) : RT T (k + 4) false i_least_left [(false, cls n rs), (false, exs ex)] = some (.ok false (ofO (leastD (rs.filter (fitB ex)))) [.non, .non]) := by
  rw [r_least_left]
  by_cases he : rs.filter (fitB ex) = []
  · simp! [b_least_left, io_check_sample, chk_ok h4 h5 hc hs, io_left_of, left_of_ev h4 h5 (isSmp_nn hs), he]
    rfl
  · have he2 : (rs.filter (fitB ex)).isEmpty = false := by simpa using he
    simp! [b_least_left, io_check_sample, chk_ok h4 h5 hc hs, io_left_of, left_of_ev h4 h5 (isSmp_nn hs), List.isEmpty_map, he2, io_least_of, least_of_ev he]
theorem greatest_left_ev (h4 : rs.length ≤ 16777215) (h5 : ex.length ≤ 16777215) (hc : isClassB n rs = true) (hs : isSmpB n ex = true) : RT T (k + 4) false i_greatest_left [(false, cls n rs), (false, exs ex)] = some (.ok false (ofO (greatD (rs.filter (fitB ex)))) [.non, .non]) := by
  rw [r_greatest_left]
  by_cases he : rs.filter (fitB ex) = []
  · simp! [b_greatest_left, io_check_sample, chk_ok h4 h5 hc hs, io_left_of, left_of_ev h4 h5 (isSmp_nn hs), he]
    rfl
  · have he2 : (rs.filter (fitB ex)).isEmpty = false := by simpa using he
    simp! [b_greatest_left, io_check_sample, chk_ok h4 h5 hc hs, io_left_of, left_of_ev h4 h5 (isSmp_nn hs), List.isEmpty_map, he2, io_greatest_of, greatest_of_ev]
theorem half_answer_ev {p : Int} (h4 : rs.length ≤ 16777215) (h5 : ex.length ≤ 16777215) (hc : isClassB n rs = true) (hs : isSmpB n ex = true) : RT T (k + 5) false i_half_answer [(false, cls n rs), (false, exs ex), (false, .int p)] = if 0 ≤ p ∧ p < n then (if rs.filter (fitB ex) = [] then some (.er ⟨6, .non⟩) else some (.ok false (ofO (halfD (rs.filter (fitB ex)) p)) [.non, .non, .non])) else some (.er ⟨5, .non⟩) := by
  rw [r_half_answer]
  by_cases hp : 0 ≤ p ∧ p < n
  · obtain ⟨hp1, hp2⟩ := hp
    by_cases he : rs.filter (fitB ex) = []
    · simp! [b_half_answer, io_check_sample, chk_ok h4 h5 hc hs, io_left_some, left_some_ev h4 h5 hc hs, he, hp1, hp2]
    · have hfl := List.length_filter_le (fitB ex) rs
      by_cases q : 2 * ((rs.filter (fitB ex)).map fun r => bitI r p).sum = (rs.filter (fitB ex)).length
      · simp! [b_half_answer, x_half_answer_0, io_check_sample, chk_ok h4 h5 hc hs, io_left_some, left_some_ev h4 h5 hc hs, he, hp1, hp2, io_has, has_ev, q, halfD, ofO]
      · simp! [b_half_answer, x_half_answer_0, io_check_sample, chk_ok h4 h5 hc hs, io_left_some, left_some_ev h4 h5 hc hs, he, hp1, hp2, io_has, has_ev, q, halfD, ofO]
  · simp! [b_half_answer, io_check_sample, chk_ok h4 h5 hc hs, hp]
end
/-! the law's own: flat, left, settled -/
theorem flat_ev {k : Nat} {rows : List (List D)} (hl : (rows.map List.length).sum ≤ 16000000) : RT T (k + 1) false i__law_flat [(false, .lst (rows.map D.lst))] = some (.ok true (.lst rows.flatten) [.non]) := by
  rw [r__law_flat]
  have L := turns_inv (body := forB (CX T k false [false]) (.nm 2) f__law_flat_0) D.lst (xs := rows) (fun pre δ => ∃ s, δ = [.val (.lst (rows.map D.lst)), .own (.lst pre.flatten), s] ∧ NL s) (fun pre x post δ e ⟨s, hδ, hs⟩ => by
    subst hδ
    have h1 : pre.flatten.length + x.length ≤ 16777216 := by
      rw [e] at hl
      simp [List.length_flatten] at hl ⊢
      omega
    simp! [f__law_flat_0]
    exact ⟨_, rfl, .val (.lst x), by simp, nl_val _⟩) (δ := [.val (.lst (rows.map D.lst)), .own (.lst []), .non]) ⟨_, rfl, nl_non⟩
  obtain ⟨δ', e, s, hδ, hs⟩ := L
  subst hδ
  simp! [b__law_flat, e]
theorem lleft_ev {k : Nat} {rs : List Int} {ex : List (Int × Int)} {d : D} (hd : d = .lst (rs.map D.int) ∨ d = .tup (rs.map D.int)) (h4 : rs.length ≤ 16777215) (h5 : ex.length ≤ 16777215) (hp : ∀ x, Mb ex x → 0 ≤ x.1) (hp2 : ∀ x, Mb ex x → x.1 < 8000) : RT T (k + 3) false i__law_left [(false, d), (false, exs ex)] = some (.ok true (.lst ((rs.filter (fitB ex)).map D.int)) [.non, .non]) := by
  rw [r__law_left]
  have it : itS 0 [d] = some (rs.map D.int) := by
    rcases hd with rfl | rfl
    · rw [items0l]
    · rw [items0t]
  simp! [b__law_left, x__law_left_0, x__law_left_1, eP, it, io__law_has, lhas_ev2]
  rfl
theorem setL_eq {n : Int} {rs : List Int} (h : rs ≠ []) : (((List.range n.toNat).filter fun (i : Nat) => rs.all fun r => decide (bitI r i = bitI (rs.headD 0) i)).map fun (i : Nat) => D.tup [.int i, .int (bitI (rs.headD 0) i)]) = (setL n rs).map eP := by
  unfold setL
  rw [List.map_filterMap]
  cases rs with
  | nil => exact absurd rfl h
  | cons r0 rs =>
    generalize n.toNat = m
    induction m with
    | zero => rfl
    | succ m ih =>
      rw [List.range_succ, List.filter_append, List.map_append, List.filterMap_append, ih]
      congr 1
      show _ = List.filterMap _ [m]
      rw [List.filter_cons, List.filter_nil, List.filterMap_cons, List.filterMap_nil]
      have es : setAt (r0 :: rs) (m : Int) = if (r0 :: rs).all fun r => decide (bitI r m = bitI r0 m) then some (bitI r0 m) else none := rfl
      rw [es]
      by_cases q : ((r0 :: rs).all fun r => decide (bitI r m = bitI r0 m)) = true
      · rw [if_pos q, if_pos (show ((r0 :: rs).all fun r => decide (bitI r m = bitI ((r0 :: rs).headD 0) m)) = true from q)]; rfl
      · rw [if_neg q, if_neg (show ¬ ((r0 :: rs).all fun r => decide (bitI r m = bitI ((r0 :: rs).headD 0) m)) = true from q)]; rfl
theorem lsettled_ev {k : Nat} {n : Int} {rs : List Int} (h0 : rs ≠ []) (h4 : rs.length ≤ 16777215) (hn : 0 ≤ n ∧ n < 100) : RT T (k + 3) false i__law_settled [(false, .int n), (false, .lst (rs.map D.int))] = some (.ok true (.lst ((setL n rs).map eP)) [.non, .non]) := by
  rw [r__law_settled, ← setL_eq h0]
  have e0 : sbD (.lst (rs.map D.int)) (.int 0) = some (.int (rs.headD 0)) := by
    cases rs with
    | nil => exact absurd rfl h0
    | cons r rs => exact su_l0 _ _
  simp! [b__law_settled, x__law_settled_0, x__law_settled_1, e0, io__law_has, lhas_ev2]
/-- a sample -/
structure Smp (n : Int) (ex : List (Int × Int)) : Prop where
  asc : ex.Pairwise fun a b => a.1 < b.1
  rng : ∀ p ∈ ex, (0 ≤ p.1 ∧ p.1 < n) ∧ (p.2 = 0 ∨ p.2 = 1)
theorem Smp.len {n : Int} {ex : List (Int × Int)} (h : Smp n ex) : ex.length ≤ n.toNat := by
  have key : ∀ (ex : List (Int × Int)) (lo : Int), ex.Pairwise (fun a b => a.1 < b.1) → (∀ p ∈ ex, lo ≤ p.1 ∧ p.1 < n) → ex.length ≤ (n - lo).toNat := by
    intro ex
    induction ex with
    | nil => intro lo _ _; simp
    | cons p ex ih =>
      intro lo h1 h2
      rw [List.pairwise_cons] at h1
      have := ih (p.1 + 1) h1.2 (fun q hq => ⟨by have := h1.1 q hq; omega, (h2 q (List.mem_cons_of_mem _ hq)).2⟩)
      have := h2 p (by simp)
      rw [List.length_cons]
      omega
  have := key ex 0 h.asc (fun p hp => (h.rng p hp).1)
  simpa using this
theorem isSmpB_of {n : Int} {ex : List (Int × Int)} (h : Smp n ex) : isSmpB n ex = true := by
  unfold isSmpB
  rw [Bool.and_eq_true, List.all_eq_true, List.all_eq_true]
  constructor
  · intro x hx
    have p := h.asc
    rw [List.pairwise_iff_getElem] at p
    obtain ⟨i, hi, e⟩ := List.mem_iff_getElem.mp hx
    simp at hi
    subst e
    simp
    have := p i (i + 1) (by omega) (by omega) (by omega)
    exact this
  · intro x hx
    have := h.rng x hx
    simp
    exact this
theorem sample_ev {k : Nat} {ds : List Int} {n : Int} (hd : Dr ds) (hn : 0 ≤ n ∧ n < 100) : ∃ ex ds', Dr ds' ∧ ds'.length ≤ ds.length ∧ Smp n ex ∧ RT T (k + 2) false i__law_sample [(true, .lst (ds.map D.int)), (false, .int n)] = some (.ok false (.tup (ex.map eP)) [.lst (ds'.map D.int), .non]) := by
  rw [r__law_sample]
  have L := turns_range (body := forB (CX T (k + 1) false [true, false]) (.nm 3) f__law_sample_0) (m := n.toNat)
    (fun i δ => ∃ (es : List Int) (ex : List (Int × Int)) (s : Sl), δ = [.own (.lst (es.map D.int)), .val (.int n), .own (.lst (ex.map eP)), s] ∧ NL s ∧ Dr es ∧ es.length ≤ ds.length ∧ ex.Pairwise (fun a b => a.1 < b.1) ∧ (∀ p ∈ ex, (0 ≤ p.1 ∧ p.1 < i) ∧ (p.2 = 0 ∨ p.2 = 1)) ∧ ex.length ≤ i) (fun i δ hi ⟨es, ex, s, hδ, hs, he, hel, h1, h2, h3⟩ => by
      subst hδ
      by_cases q : nx es % 3 = 0
      · simp! [f__law_sample_0, io__law_next, next_ev, q]
        refine ⟨_, rfl, es.dropLast.dropLast, ex ++ [((i : Int), nx es.dropLast % 2)], _, by rw [List.map_append]; rfl, nl_val _, he.drop.drop, by simp; omega, ?_, ?_, by simp; omega⟩
        · rw [List.pairwise_append]
          refine ⟨h1, by simp, fun a ha b hb => ?_⟩
          rw [List.mem_singleton] at hb
          subst hb
          exact (h2 a ha).1.2
        · intro p hp
          rcases List.mem_append.mp hp with hp | hp
          · have := h2 p hp
            refine ⟨⟨this.1.1, by omega⟩, this.2⟩
          · rw [List.mem_singleton] at hp
            subst hp
            refine ⟨⟨by simp, by simp; omega⟩, ?_⟩
            show nx es.dropLast % 2 = 0 ∨ nx es.dropLast % 2 = 1
            omega
      · simp! [f__law_sample_0, io__law_next, next_ev, q]
        exact ⟨_, rfl, es.dropLast, ex, _, rfl, nl_val _, he.drop, by simp; omega, h1, fun p hp => ⟨⟨(h2 p hp).1.1, by have := (h2 p hp).1.2; omega⟩, (h2 p hp).2⟩, by omega⟩)
    (δ := [.own (.lst (ds.map D.int)), .val (.int n), .own (.lst []), .non]) ⟨ds, [], .non, rfl, nl_non, hd, Nat.le_refl _, .nil, by simp, Nat.le_refl _⟩
  obtain ⟨δ', e, es, ex, s, hδ, hs, he, hel, h1, h2, h3⟩ := L
  subst hδ
  refine ⟨ex, es, he, hel, ⟨h1, fun p hp => ⟨⟨(h2 p hp).1.1, by have := (h2 p hp).1.2; omega⟩, (h2 p hp).2⟩⟩, ?_⟩
  simp! [b__law_sample, e]
/-! asking the program -/
abbrev word (c : Nat) : Str := (["!class", "!sample", "!tree", "!paper", "!number", "!none", "!large"] : List Str).getD (c - 1) ""
theorem er_all {a : List D} {a0 b : D} {e : Exc} (h : ∀ k, RT T (k + 3) false i_check_sample [(false, .tup (a0 :: a)), (false, b)] = some (.er e)) (k : Nat) :
    RT T (k + 4) false i_left [(false, .tup (a0 :: a)), (false, b)] = some (.er e) ∧ RT T (k + 5) false i_settled [(false, .tup (a0 :: a)), (false, b)] = some (.er e) ∧ RT T (k + 6) false i_closed_sample [(false, .tup (a0 :: a)), (false, b)] = some (.er e) ∧
    RT T (k + 5) false i_is_free [(false, .tup (a0 :: a)), (false, b)] = some (.er e) ∧ RT T (k + 4) false i_least_left [(false, .tup (a0 :: a)), (false, b)] = some (.er e) ∧ RT T (k + 4) false i_greatest_left [(false, .tup (a0 :: a)), (false, b)] = some (.er e) ∧
    (∀ c, RT T (k + 4) false i_half_answer [(false, .tup (a0 :: a)), (false, b), (false, c)] = some (.er e)) ∧ (∀ c, RT T (k + 4) false i_fits [(false, .tup (a0 :: a)), (false, c), (false, b)] = some (.er e)) := by
  have hs : ∀ k, RT T (k + 4) false i_left_some [(false, .tup (a0 :: a)), (false, b)] = some (.er e) := fun k => by
    rw [r_left_some]; simp! [b_left_some, io_check_sample, h]
  have hs2 : ∀ k, RT T (k + 5) false i_settled [(false, .tup (a0 :: a)), (false, b)] = some (.er e) := fun k => by
    rw [r_settled]; simp! [b_settled, io_left_some, hs]
  refine ⟨?_, hs2 k, ?_, ?_, ?_, ?_, fun c => ?_, fun c => ?_⟩
  · rw [r_left]; simp! [b_left, io_check_sample, h]
  · rw [r_closed_sample]; simp! [b_closed_sample, io_settled, hs2]
  · rw [r_is_free]; simp! [b_is_free, io_left_some, hs]
  · rw [r_least_left]; simp! [b_least_left, io_check_sample, h]
  · rw [r_greatest_left]; simp! [b_greatest_left, io_check_sample, h]
  · rw [r_half_answer]; simp! [b_half_answer, io_check_sample, h]
  · rw [r_fits]; simp! [b_fits, io_check_sample, h]
/-- ways 0 to 5 -/
theorem asked_ok {k g : Nat} {w : Int} (hw : (w = 0 ∧ g = i_left) ∨ (w = 1 ∧ g = i_settled) ∨ (w = 2 ∧ g = i_closed_sample) ∨ (w = 3 ∧ g = i_is_free) ∨ (w = 4 ∧ g = i_least_left) ∨ (w = 5 ∧ g = i_greatest_left)) {a b c x : D} {o : Bool} (hx : isExc x = false ∧ (if o = true then elemsOk x else noMut x) = true) (h : RT T (k + 1) false g [(false, a), (false, b)] = some (.ok o x [.non, .non])) :
    RT T (k + 2) false i__law_asked [(false, .int w), (false, a), (false, b), (false, c)] = some (.ok o x [.non, .non, .non, .non]) := by
  rw [r__law_asked]
  rcases hw with ⟨rfl, rfl⟩ | ⟨rfl, rfl⟩ | ⟨rfl, rfl⟩ | ⟨rfl, rfl⟩ | ⟨rfl, rfl⟩ | ⟨rfl, rfl⟩ <;> simp! [b__law_asked, io_left, io_settled, io_closed_sample, io_is_free, io_least_left, io_greatest_left, h, hx]
theorem asked_er {k g e : Nat} {w : Int} (he : 0 < e ∧ e < 8) (hw : (w = 0 ∧ g = i_left) ∨ (w = 1 ∧ g = i_settled) ∨ (w = 2 ∧ g = i_closed_sample) ∨ (w = 3 ∧ g = i_is_free) ∨ (w = 4 ∧ g = i_least_left) ∨ (w = 5 ∧ g = i_greatest_left)) {a b c : D} (hn : isExc a = false ∧ isExc b = false ∧ isExc c = false) (h : RT T (k + 1) false g [(false, a), (false, b)] = some (.er ⟨e, .non⟩)) :
    RT T (k + 2) false i__law_asked [(false, .int w), (false, a), (false, b), (false, c)] = some (.ok false (.str (word e)) [.non, .non, .non, .non]) := by
  have kd := kind_ev (k := k) (c := e) (h := true) he.1 he.2
  obtain ⟨na, nb, nc⟩ := hn
  rw [r__law_asked]
  have hsub : below e 0 = true := by
    have : e = 1 ∨ e = 2 ∨ e = 3 ∨ e = 4 ∨ e = 5 ∨ e = 6 ∨ e = 7 := by omega
    rcases this with rfl | rfl | rfl | rfl | rfl | rfl | rfl <;> rfl
  rcases hw with ⟨rfl, rfl⟩ | ⟨rfl, rfl⟩ | ⟨rfl, rfl⟩ | ⟨rfl, rfl⟩ | ⟨rfl, rfl⟩ | ⟨rfl, rfl⟩ <;> simp! [b__law_asked, io_left, io_settled, io_closed_sample, io_is_free, io_least_left, io_greatest_left, h, T_sub, hsub, io__law_kind, kd, word, na, nb, nc]
theorem asked6_ok {k : Nat} {a b c x : D} (hx : isExc x = false ∧ noMut x = true) (h : RT T (k + 1) false i_half_answer [(false, a), (false, b), (false, c)] = some (.ok false x [.non, .non, .non])) :
    RT T (k + 2) false i__law_asked [(false, .int 6), (false, a), (false, b), (false, c)] = some (.ok false x [.non, .non, .non, .non]) := by
  rw [r__law_asked]
  simp! [b__law_asked, io_half_answer, h, hx]
theorem asked7_ok {k : Nat} {a b c x : D} (hx : isExc x = false ∧ noMut x = true) (h : RT T (k + 1) false i_fits [(false, a), (false, c), (false, b)] = some (.ok false x [.non, .non, .non])) :
    RT T (k + 2) false i__law_asked [(false, .int 7), (false, a), (false, b), (false, c)] = some (.ok false x [.non, .non, .non, .non]) := by
  rw [r__law_asked]
  simp! [b__law_asked, io_fits, h, hx]
theorem below0 {e : Nat} (he : 0 < e ∧ e < 8) : below e 0 = true := by
  have : e = 1 ∨ e = 2 ∨ e = 3 ∨ e = 4 ∨ e = 5 ∨ e = 6 ∨ e = 7 := by omega
  rcases this with rfl | rfl | rfl | rfl | rfl | rfl | rfl <;> rfl
theorem asked6_er {k e : Nat} (he : 0 < e ∧ e < 8) {a b c : D} (hn : isExc a = false ∧ isExc b = false ∧ isExc c = false) (h : RT T (k + 1) false i_half_answer [(false, a), (false, b), (false, c)] = some (.er ⟨e, .non⟩)) :
    RT T (k + 2) false i__law_asked [(false, .int 6), (false, a), (false, b), (false, c)] = some (.ok false (.str (word e)) [.non, .non, .non, .non]) := by
  have kd := kind_ev (k := k) (c := e) (h := true) he.1 he.2
  obtain ⟨na, nb, nc⟩ := hn
  rw [r__law_asked]
  simp! [b__law_asked, io_half_answer, h, T_sub, below0 he, io__law_kind, kd, word, na, nb, nc]
theorem asked7_er {k e : Nat} (he : 0 < e ∧ e < 8) {a b c : D} (hn : isExc a = false ∧ isExc b = false ∧ isExc c = false) (h : RT T (k + 1) false i_fits [(false, a), (false, c), (false, b)] = some (.er ⟨e, .non⟩)) :
    RT T (k + 2) false i__law_asked [(false, .int 7), (false, a), (false, b), (false, c)] = some (.ok false (.str (word e)) [.non, .non, .non, .non]) := by
  have kd := kind_ev (k := k) (c := e) (h := true) he.1 he.2
  obtain ⟨na, nb, nc⟩ := hn
  rw [r__law_asked]
  simp! [b__law_asked, io_fits, h, T_sub, below0 he, io__law_kind, kd, word, na, nb, nc]
theorem asked_all {a : List D} {a0 b c : D} {e : Nat} (he : 0 < e ∧ e < 8) (h0 : isExc b = false ∧ isExc c = false) (h : ∀ k, RT T (k + 3) false i_check_sample [(false, .tup (a0 :: a)), (false, b)] = some (.er ⟨e, .non⟩)) (k : Nat) :
    ∀ w : Int, 0 ≤ w → w < 8 → RT T (k + 8) false i__law_asked [(false, .int w), (false, .tup (a0 :: a)), (false, b), (false, c)] = some (.ok false (.str (word e)) [.non, .non, .non, .non]) := fun w hw0 hw => by
  have : w = 0 ∨ w = 1 ∨ w = 2 ∨ w = 3 ∨ w = 4 ∨ w = 5 ∨ w = 6 ∨ w = 7 := by omega
  have n3 : isExc (.tup (a0 :: a)) = false ∧ isExc b = false ∧ isExc c = false := ⟨rfl, h0⟩
  rcases this with rfl | rfl | rfl | rfl | rfl | rfl | rfl | rfl
  · exact asked_er (k := k + 6) he (by simp) n3 (er_all h (k + 3)).1
  · exact asked_er (k := k + 6) he (by simp) n3 (er_all h (k + 2)).2.1
  · exact asked_er (k := k + 6) he (by simp) n3 (er_all h (k + 1)).2.2.1
  · exact asked_er (k := k + 6) he (by simp) n3 (er_all h (k + 2)).2.2.2.1
  · exact asked_er (k := k + 6) he (by simp) n3 (er_all h (k + 3)).2.2.2.2.1
  · exact asked_er (k := k + 6) he (by simp) n3 (er_all h (k + 3)).2.2.2.2.2.1
  · exact asked6_er (k := k + 6) he n3 ((er_all h (k + 3)).2.2.2.2.2.2.1 c)
  · exact asked7_er (k := k + 6) he n3 ((er_all h (k + 3)).2.2.2.2.2.2.2 c)
theorem lis_ev {k : Nat} {n : Int} {ex : List (Int × Int)} (h4 : ex.length ≤ 16777215) : RT T (k + 3) false i__law_is_sample [(false, .int n), (false, exs ex)] = some (.ok false (if 1 ≤ n ∧ n ≤ 12 then .bl (isSmpB n ex) else .str (word 5)) [.non, .non]) := by
  have kd := kind_ev (k := k + 1) (c := 5) (h := true) (by decide) (by decide)
  rw [r__law_is_sample]
  by_cases q : 1 ≤ n ∧ n ≤ 12
  · simp! [b__law_is_sample, io_is_sample, is_sample_ev h4, q]
  · simp! [b__law_is_sample, io_is_sample, is_sample_ev h4, q, T_sub, below0 (show 0 < 5 ∧ 5 < 8 by decide), io__law_kind, kd, word]
/-! ascending -/
theorem asc_iff {α : Type} (f : α → Int) : ∀ xs : List α, ((xs.zip (xs.drop 1)).all fun x => decide (f x.1 < f x.2)) = true ↔ xs.Pairwise fun a b => f a < f b
  | [] => by simp
  | [x] => by simp
  | x :: y :: r => by
    have ih := asc_iff f (y :: r)
    show ((((x, y) :: (y :: r).zip r)).all fun x => decide (f x.1 < f x.2)) = true ↔ _
    have e : (y :: r).zip ((y :: r).drop 1) = (y :: r).zip r := rfl
    rw [e] at ih
    rw [List.all_cons, Bool.and_eq_true, ih, decide_eq_true_eq, List.pairwise_cons (a := x)]
    constructor
    · rintro ⟨h1, h2⟩
      refine ⟨fun z hz => ?_, h2⟩
      rcases List.mem_cons.mp hz with rfl | hz
      · exact h1
      · have := (List.pairwise_cons.mp h2).1 z hz
        have h1 : f x < f y := h1
        omega
    · rintro ⟨h1, h2⟩
      exact ⟨h1 y (by simp), h2⟩
theorem isClassB_iff {n : Int} {rs : List Int} : isClassB n rs = true ↔ (1 ≤ n ∧ n ≤ 12) ∧ (1 ≤ rs.length ∧ rs.length ≤ 200) ∧ rs.Pairwise (· < ·) ∧ ∀ r ∈ rs, 0 ≤ r ∧ r < 2 ^ n.toNat := by
  unfold isClassB
  by_cases c : ¬(1 ≤ n ∧ n ≤ 12) ∨ ¬(1 ≤ (rs.length : Int) ∧ (rs.length : Int) ≤ 200)
  · rw [if_pos c]
    constructor
    · intro h; cases h
    · rintro ⟨h1, h2, _⟩
      exfalso
      rcases c with c | c
      · exact c h1
      · omega
  · rw [if_neg c, Bool.and_eq_true, show ((rs.zip (rs.drop 1)).all fun x => decide (x.1 < x.2)) = true ↔ rs.Pairwise (· < ·) from asc_iff id rs, List.all_eq_true]
    have c1 : (1 ≤ n ∧ n ≤ 12) ∧ (1 ≤ rs.length ∧ rs.length ≤ 200) := by omega
    constructor
    · rintro ⟨h1, h2⟩
      exact ⟨c1.1, c1.2, h1, fun r hr => by have := h2 r hr; simpa using this⟩
    · rintro ⟨_, _, h1, h2⟩
      exact ⟨h1, fun r hr => by have := h2 r hr; simpa using this⟩
theorem isClassB_false {n : Int} {rs : List Int} (h : ¬ ((1 ≤ n ∧ n ≤ 12) ∧ (1 ≤ rs.length ∧ rs.length ≤ 200) ∧ rs.Pairwise (· < ·) ∧ ∀ r ∈ rs, 0 ≤ r ∧ r < 2 ^ n.toNat)) : isClassB n rs = false := by
  cases e : isClassB n rs with
  | false => rfl
  | true => exact absurd (isClassB_iff.mp e) h
/-! what is refused -/
theorem cut_last {α : Type} {xs : List α} (h : 1 ≤ xs.length) : cutL xs (some (-1)) none = xs.drop (xs.length - 1) := by
  unfold cutL
  rw [HT.sIx_none]
  have e : HT.sIx xs.length 0 (some (-1)) = xs.length - 1 := by
    show (if (-1 : Int) < 0 then ((-1 : Int) + (xs.length : Int)).toNat else min (-1 : Int).toNat xs.length) = _
    rw [if_pos (by decide)]
    omega
  rw [e, List.take_of_length_le]
  rw [List.length_drop]; omega
/-- the wrong classes -/
def wrongL (n : Int) (rs : List Int) : List (Int × List Int) := [(0, [0]), (13, [0]), (n, []), (n, rs ++ rs.drop (rs.length - 1)), (n, [2 ^ n.toNat]), (n, [-1]), (8, (List.range 201).map fun (i : Nat) => (i : Int))] ++ (if (1 : Int) < rs.length then [(n, rs.reverse)] else [])
theorem wrong_bad {n : Int} {rs : List Int} (hC : Cls n rs) : ∀ x ∈ wrongL n rs, isClassB x.1 x.2 = false ∧ x.2.length ≤ 300 := by
  have := hC.l1; have := hC.l2
  intro x hx
  unfold wrongL at hx
  rcases List.mem_append.mp hx with hx | hx
  · simp only [List.mem_cons, List.not_mem_nil, or_false] at hx
    rcases hx with rfl | rfl | rfl | rfl | rfl | rfl | rfl
    · exact ⟨isClassB_false fun h => absurd h.1 (by decide), by decide⟩
    · exact ⟨isClassB_false fun h => absurd h.1 (by decide), by decide⟩
    · exact ⟨isClassB_false fun h => absurd h.2.1 (by simp), by simp⟩
    · refine ⟨isClassB_false fun h => ?_, by simp; omega⟩
      have p := h.2.2.1
      have hd : rs.drop (rs.length - 1) = [rs[rs.length - 1]'(by omega)] := by
        rw [List.drop_eq_getElem_cons (by omega)]
        congr 1
        exact List.drop_eq_nil_of_le (by omega)
      rw [hd, List.pairwise_append] at p
      have := p.2.2 (rs[rs.length - 1]'(by omega)) (List.getElem_mem _) _ (List.mem_singleton.mpr rfl)
      omega
    · exact ⟨isClassB_false fun h => absurd (h.2.2.2 (2 ^ n.toNat) (List.mem_singleton.mpr rfl)).2 (by show ¬ (2 : Int) ^ n.toNat < 2 ^ n.toNat; omega), by simp⟩
    · exact ⟨isClassB_false fun h => absurd (h.2.2.2 (-1) (List.mem_singleton.mpr rfl)).1 (by decide), by simp⟩
    · refine ⟨isClassB_false fun h => absurd h.2.1.2 (by simp), by simp⟩
  · split at hx
    · rw [List.mem_singleton] at hx
      subst hx
      refine ⟨isClassB_false fun h => ?_, by simp; omega⟩
      have p := h.2.2.1
      have p : rs.reverse.Pairwise (· < ·) := p
      rw [List.pairwise_reverse] at p
      have a := hC.asc
      rw [List.pairwise_iff_getElem] at a p
      have := a 0 1 (by omega) (by omega) (by decide)
      have := p 0 1 (by omega) (by omega) (by decide)
      omega
    · cases hx
theorem up2 : upTo 0 2 = [.int 0, .int 1] := rfl
theorem up8 : upTo 0 8 = [.int 0, .int 1, .int 2, .int 3, .int 4, .int 5, .int 6, .int 7] := rfl
theorem big200 : isClassB 12 ((List.range 200).map fun (i : Nat) => (i : Int)) = true := by
  rw [isClassB_iff]
  refine ⟨by decide, by simp, ?_, fun r hr => ?_⟩
  · rw [List.pairwise_map]
    exact List.pairwise_lt_range.imp fun h => by omega
  · obtain ⟨i, hi, rfl⟩ := List.mem_map.mp hr
    have := List.mem_range.mp hi
    have e : (2 : Int) ^ (12 : Int).toNat = 4096 := by decide
    omega
theorem fitB_nil (r : Int) : fitB [] r = true := rfl
set_option maxHeartbeats 8000000 in
theorem refuses_ev {k : Nat} {ds : List Int} {n : Int} {rs : List Int} {smp : D} (hd : Dr ds) (hC : Cls n rs) (hs : isExc smp = false) : ∃ ds' : List Int, RT T (k + 9) false i__law_refuses [(true, .lst (ds.map D.int)), (false, cls n rs), (false, smp)] = some (.ok false (.bl true) [.lst (ds'.map D.int), .non, .non]) := by
  refine ⟨ds.dropLast, ?_⟩
  have c1 := hC.n1; have c2 := hC.n2; have c3 := hC.l1; have c4 := hC.l2
  have hb := wrong_bad hC
  have hcB := isClassB_of hC
  rw [r__law_refuses, b__law_refuses]
  rw [step_eq (δ' := [.own (.lst (ds.map D.int)), .val (cls n rs), .val smp, .non, .non, .non, .non, .non, .val (.int n), .val (.tup (rs.map D.int)), .non, .non, .non, .non, .non]) (by
    simp! [])]
  rw [step_eq (δ' := [.own (.lst (ds.map D.int)), .val (cls n rs), .val smp, .own (.lst ([(0, [0]), (13, [0]), (n, []), (n, rs ++ rs.drop (rs.length - 1)), (n, [2 ^ n.toNat]), (n, [-1]), (8, (List.range 201).map fun (i : Nat) => (i : Int))].map fun p : Int × List Int => cls p.1 p.2)), .non, .non, .non, .non, .val (.int n), .val (.tup (rs.map D.int)), .non, .non, .non, .non, .non]) (by
    simp! [io__law_power, power_ev, cut_last]
    simp only [cls, List.map_cons, List.map_nil, List.map_map, Function.comp_def])]
  rw [step_eq (δ' := [.own (.lst (ds.map D.int)), .val (cls n rs), .val smp, .own (.lst ((wrongL n rs).map fun p : Int × List Int => cls p.1 p.2)), .non, .non, .non, .non, .val (.int n), .val (.tup (rs.map D.int)), .non, .non, .non, .non, .non]) (by
    unfold wrongL
    by_cases q : (1 : Int) < rs.length
    · rw [if_pos q]
      simp! [q]
    · rw [if_neg q, List.append_nil]
      simp! [q])]
  have hwl : (wrongL n rs).length ≤ 8 := by
    unfold wrongL
    rw [List.length_append]
    split <;> simp
  have hb1 : ∀ x, Mb (wrongL n rs) x → isClassB x.1 x.2 = false := fun x hx => (hb x hx).1
  have hb2 : ∀ x, Mb (wrongL n rs) x → x.2.length ≤ 16777215 := fun x hx => by have := (hb x hx).2; omega
  have eE : eqS (.lst ((wrongL n rs).map fun _ => D.bl false)) (.lst (List.replicate (wrongL n rs).length (D.bl false))) = some true := by
    rw [List.map_const']
    exact eq_lv (lv_lst (k := 2) (by decide) (by simp; omega) fun x hx => by rw [List.eq_of_mem_replicate hx]; exact lv_bl (by decide))
  have e200 : (upTo 0 200) = ((List.range 200).map fun (i : Nat) => (i : Int)).map D.int := by rw [upTo0, List.map_map]; rfl
  have eb : ∀ k, RT T (k + 1) false i_is_class [(false, .tup [.int 12, .tup ((List.range 200).map fun (i : Nat) => D.int i)])] = some (.ok false (.bl true) [.non]) := fun k => by
    have := is_class_ev (k := k) (n := 12) (rs := (List.range 200).map fun (i : Nat) => (i : Int)) (by simp)
    rw [big200] at this
    unfold cls at this
    rw [List.map_map] at this
    exact this
  rw [step_eq (δ' := [.own (.lst (ds.map D.int)), .val (cls n rs), .val smp, .own (.lst ((wrongL n rs).map fun p : Int × List Int => cls p.1 p.2)), .non, .non, .non, .non, .val (.int n), .val (.tup (rs.map D.int)), .non, .non, .non, .non, .non]) (by
    simp! [x__law_refuses_0, io_is_class, is_class_ev, hb1, eE, eb])]
  obtain ⟨x, hx, e3⟩ := pick_ev (k := k + 6) (ds := ds) (xs := (wrongL n rs).map fun p : Int × List Int => cls p.1 p.2) (by unfold wrongL; simp) (fun x hx => by obtain ⟨p, _, rfl⟩ := List.mem_map.mp hx; rfl) hd.nx.1 _ (.inr rfl)
  obtain ⟨p, hp, rfl⟩ := List.mem_map.mp hx
  obtain ⟨hp1, hp2⟩ := hb p hp
  rw [step_eq (δ' := [.own (.lst (ds.dropLast.map D.int)), .val (cls n rs), .val smp, .own (.lst ((wrongL n rs).map fun p : Int × List Int => cls p.1 p.2)), .val (cls p.1 p.2), .non, .non, .non, .val (.int n), .val (.tup (rs.map D.int)), .non, .non, .non, .non, .non]) (by
    simp! [io__law_pick, e3])]
  have k1 := asked_all (k := k) (e := 1) (by decide) (a0 := .int p.1) (a := [.tup (p.2.map D.int)]) (b := .tup [.tup [.int 99, .int 5]]) (c := .int 99999) ⟨rfl, rfl⟩ (fun k => chk_bad (ex := [(99, 5)]) (by omega) (by decide) hp1)
  obtain ⟨w1, hw1⟩ : ∃ w1, w1 = word 1 := ⟨_, rfl⟩
  rw [← hw1] at k1
  rw [step_eq (δ' := [.own (.lst (ds.dropLast.map D.int)), .val (cls n rs), .val smp, .own (.lst ((wrongL n rs).map fun p : Int × List Int => cls p.1 p.2)), .val (cls p.1 p.2), .own (.lst (List.replicate 8 (.str w1))), .non, .non, .val (.int n), .val (.tup (rs.map D.int)), .non, .non, .non, .non, .non]) (by
    simp! [x__law_refuses_1, -Ex.upTo0, up8, io__law_asked, k1]
    rfl)]
  obtain ⟨w2, hw2⟩ : ∃ w2, w2 = word 2 := ⟨_, rfl⟩
  obtain ⟨w5, hw5⟩ : ∃ w5, w5 = word 5 := ⟨_, rfl⟩
  have k2 : ∀ (b : D) (ex : List (Int × Int)), b = exs ex → ex.length ≤ 10 → isSmpB n ex = false → ∀ w : Int, 0 ≤ w → w < 8 → RT T (k + 8) false i__law_asked [(false, .int w), (false, cls n rs), (false, b), (false, .int 99999)] = some (.ok false (.str w2) [.non, .non, .non, .non]) := fun b ex hb hl he => by
    rw [hw2, hb]
    exact asked_all (k := k) (e := 2) (by decide) (a0 := .int n) (a := [.tup (rs.map D.int)]) ⟨rfl, rfl⟩ (fun k => chk_bad2 (by omega) (by omega) hcB he)
  have f1 := k2 (.tup [.tup [.int n, .int 0]]) [(n, 0)] rfl (by simp) (by simp [isSmpB])
  have f2 := k2 (.tup [.tup [.int (-1), .int 0]]) [(-1, 0)] rfl (by simp) (by simp [isSmpB])
  have f3 := k2 (.tup [.tup [.int 0, .int 2]]) [(0, 2)] rfl (by simp) (by simp [isSmpB])
  have f4 := k2 (.tup [.tup [.int 0, .int (-1)]]) [(0, -1)] rfl (by simp) (by simp [isSmpB])
  have f5 := k2 (.tup [.tup [.int 0, .int 0], .tup [.int 0, .int 1]]) [(0, 0), (0, 1)] rfl (by simp) (by simp [isSmpB])
  rw [step_eq (δ' := [.own (.lst (ds.dropLast.map D.int)), .val (cls n rs), .val smp, .own (.lst ((wrongL n rs).map fun p : Int × List Int => cls p.1 p.2)), .val (cls p.1 p.2), .own (.lst (List.replicate 8 (.str w1))), .own (.lst [.tup [.tup [.int n, .int 0]], .tup [.tup [.int (-1), .int 0]], .tup [.tup [.int 0, .int 2]], .tup [.tup [.int 0, .int (-1)]], .tup [.tup [.int 0, .int 0], .tup [.int 0, .int 1]]]), .non, .val (.int n), .val (.tup (rs.map D.int)), .non, .non, .non, .non, .non]) (by
    simp! [])]
  have fl := fun k => flat_ev (k := k) (rows := List.replicate 8 (List.replicate 5 (D.str w2))) (by simp)
  obtain ⟨fl40, hfl⟩ : ∃ fl40, fl40 = (List.replicate 8 (List.replicate 5 (D.str w2))).flatten := ⟨_, rfl⟩
  have hfll : fl40.length = 40 := by rw [hfl]; simp
  rw [← hfl] at fl
  simp only [List.replicate, List.map_cons, List.map_nil] at fl
  obtain ⟨r8, hr8⟩ : ∃ r8, r8 = List.replicate 8 (D.str w1) := ⟨_, rfl⟩
  have hr8l : r8.length = 8 := by rw [hr8]; simp
  rw [← hr8]
  rw [step_eq (δ' := [.own (.lst (ds.dropLast.map D.int)), .val (cls n rs), .val smp, .own (.lst ((wrongL n rs).map fun p : Int × List Int => cls p.1 p.2)), .val (cls p.1 p.2), .own (.lst (r8 ++ fl40)), .own (.lst [.tup [.tup [.int n, .int 0]], .tup [.tup [.int (-1), .int 0]], .tup [.tup [.int 0, .int 2]], .tup [.tup [.int 0, .int (-1)]], .tup [.tup [.int 0, .int 0], .tup [.int 0, .int 1]]]), .non, .val (.int n), .val (.tup (rs.map D.int)), .non, .non, .non, .non, .non]) (by
    simp! [x__law_refuses_2, x__law_refuses_3, -Ex.upTo0, up8, io__law_asked, f1, f2, f3, f4, f5, io__law_flat, hr8l, hfll, fl])]
  have h0 : isSmpB n [] = true := rfl
  have g6 : ∀ p : Int, p = -1 ∨ p = n → RT T (k + 8) false i__law_asked [(false, .int 6), (false, cls n rs), (false, .tup []), (false, .int p)] = some (.ok false (.str w5) [.non, .non, .non, .non]) := fun p hp => by
    rw [hw5]
    exact asked6_er (k := k + 6) (by decide) ⟨rfl, rfl, rfl⟩ ((half_answer_ev (k := k + 2) (ex := []) (by omega) (by simp) hcB h0).trans (by rw [if_neg (by omega)]))
  have g7 : ∀ p : Int, p = -1 ∨ p = 2 ^ n.toNat → RT T (k + 8) false i__law_asked [(false, .int 7), (false, cls n rs), (false, .tup []), (false, .int p)] = some (.ok false (.str w5) [.non, .non, .non, .non]) := fun p hp => by
    rw [hw5]
    exact asked7_er (k := k + 6) (by decide) ⟨rfl, rfl, rfl⟩ ((fits_ev (k := k + 3) (ex := []) (by omega) (by simp) hcB h0 (by omega)).trans (by rw [if_neg (by rcases hp with rfl | rfl <;> omega)]))
  have g61 := g6 (-1) (.inl rfl); have g62 := g6 n (.inr rfl); have g71 := g7 (-1) (.inl rfl); have g72 := g7 _ (.inr rfl)
  have g8 : ∀ m : Int, m = 0 ∨ m = 13 → RT T (k + 8) false i__law_is_sample [(false, .int m), (false, .tup [])] = some (.ok false (.str w5) [.non, .non]) := fun m hm => by
    have := lis_ev (k := k + 5) (n := m) (ex := []) (by simp)
    rw [if_neg (by omega), ← hw5] at this
    exact this
  have g80 := g8 0 (.inl rfl); have g81 := g8 13 (.inr rfl)
  rw [step_eq (δ' := [.own (.lst (ds.dropLast.map D.int)), .val (cls n rs), .val smp, .own (.lst ((wrongL n rs).map fun p : Int × List Int => cls p.1 p.2)), .val (cls p.1 p.2), .own (.lst (r8 ++ fl40)), .own (.lst [.tup [.tup [.int n, .int 0]], .tup [.tup [.int (-1), .int 0]], .tup [.tup [.int 0, .int 2]], .tup [.tup [.int 0, .int (-1)]], .tup [.tup [.int 0, .int 0], .tup [.int 0, .int 1]]]), .own (.lst [.str w5, .str w5, .str w5, .str w5, .str w5, .str w5]), .val (.int n), .val (.tup (rs.map D.int)), .non, .non, .non, .non, .non]) (by
    simp! [x__law_refuses_4, x__law_refuses_5, x__law_refuses_6, io__law_asked, g61, g62, g71, g72, io__law_power, power_ev, io__law_is_sample, g80, g81])]
  have ls : ∀ (b : D) (ex : List (Int × Int)), b = exs ex → ex.length ≤ 10 → isSmpB n ex = false → RT T (k + 8) false i__law_is_sample [(false, .int n), (false, b)] = some (.ok false (.bl false) [.non, .non]) := fun b ex hb hl he => by
    have := lis_ev (k := k + 5) (n := n) (ex := ex) (by omega)
    rw [if_pos ⟨c1, c2⟩, he] at this
    rw [hb]
    exact this
  have l1 := ls (.tup [.tup [.int n, .int 0]]) [(n, 0)] rfl (by simp) (by simp [isSmpB])
  have l2 := ls (.tup [.tup [.int (-1), .int 0]]) [(-1, 0)] rfl (by simp) (by simp [isSmpB])
  have l3 := ls (.tup [.tup [.int 0, .int 2]]) [(0, 2)] rfl (by simp) (by simp [isSmpB])
  have l4 := ls (.tup [.tup [.int 0, .int (-1)]]) [(0, -1)] rfl (by simp) (by simp [isSmpB])
  have l5 := ls (.tup [.tup [.int 0, .int 0], .tup [.int 0, .int 1]]) [(0, 0), (0, 1)] rfl (by simp) (by simp [isSmpB])
  have E1 : eqS (.lst (r8 ++ fl40)) (.lst (List.replicate 8 (.str "!class") ++ List.replicate 40 (.str "!sample"))) = some true := by
    have e : r8 ++ fl40 = List.replicate 8 (.str "!class") ++ List.replicate 40 (.str "!sample") := by
      rw [hr8, hfl, hw2, hw1]; rfl
    rw [e]
    exact eq_lv (lv_lst (k := 2) (by decide) (by simp) fun x hx => by
      rcases List.mem_append.mp hx with hx | hx <;> rw [List.eq_of_mem_replicate hx] <;> exact lv_str (by decide) (by decide +kernel))
  have E2 : eqS (.lst [.str w5, .str w5, .str w5, .str w5, .str w5, .str w5]) (.lst (List.replicate 6 (.str "!number"))) = some true := by
    rw [hw5]
    exact eq_lv (d := .lst (List.replicate 6 (.str "!number"))) (lv_lst (k := 2) (by decide) (by simp) fun x hx => by
      rw [List.eq_of_mem_replicate hx]; exact lv_str (by decide) (by decide +kernel))
  have E3 : eqS (.lst [.bl false, .bl false, .bl false, .bl false, .bl false]) (.lst (List.replicate 5 (.bl false))) = some true :=
    eq_lv (d := .lst (List.replicate 5 (.bl false))) (lv_lst (k := 2) (by decide) (by simp) fun x hx => by
      rw [List.eq_of_mem_replicate hx]; exact lv_bl (by decide))
  generalize hu1 : (D.lst [.str w5, .str w5, .str w5, .str w5, .str w5, .str w5]) = u1 at E2 ⊢
  simp! [x__law_refuses_7, io__law_is_sample, l1, l2, l3, l4, l5, E1, E2, E3, -List.replicate]
/-! bits of numbers -/
theorem and_nn {x y : Int} (hx : 0 ≤ x) (hy : 0 ≤ y) : Builtin.bitAnd x y = ((x.toNat &&& y.toNat : Nat) : Int) := by simp [Builtin.bitAnd, hx, hy]
theorem or_nn {x y : Int} (hx : 0 ≤ x) (hy : 0 ≤ y) : Builtin.bitOr x y = ((x.toNat ||| y.toNat : Nat) : Int) := Bits.bitOr_pp hx hy
structure Sl3 (op : Int → Int → Int) : Prop where
  nn : ∀ x y, 0 ≤ x → 0 ≤ y → 0 ≤ op x y
  comm : ∀ x y, 0 ≤ x → 0 ≤ y → op x y = op y x
  assoc : ∀ x y z, 0 ≤ x → 0 ≤ y → 0 ≤ z → op (op x y) z = op x (op y z)
  idem : ∀ x, 0 ≤ x → op x x = x
theorem sl_and : Sl3 Builtin.bitAnd where
  nn := fun x y hx hy => by rw [and_nn hx hy]; omega
  comm := fun x y hx hy => by rw [and_nn hx hy, and_nn hy hx, Nat.and_comm]
  assoc := fun x y z hx hy hz => by
    rw [and_nn hx hy, and_nn hy hz, and_nn (by omega) hz, and_nn hx (by omega), Int.toNat_natCast, Int.toNat_natCast, Nat.and_assoc]
  idem := fun x hx => by rw [and_nn hx hx, Nat.and_self]; omega
theorem sl_or : Sl3 Builtin.bitOr where
  nn := fun x y hx hy => by rw [or_nn hx hy]; omega
  comm := fun x y hx hy => by rw [or_nn hx hy, or_nn hy hx, Nat.or_comm]
  assoc := fun x y z hx hy hz => by
    rw [or_nn hx hy, or_nn hy hz, or_nn (by omega) hz, or_nn hx (by omega), Int.toNat_natCast, Int.toNat_natCast, Nat.or_assoc]
  idem := fun x hx => by rw [or_nn hx hx, Nat.or_self]; omega
section
variable {op : Int → Int → Int} (S : Sl3 op)
include S
theorem fold_nn : ∀ (rs : List Int) (i : Int), 0 ≤ i → (∀ r ∈ rs, 0 ≤ r) → 0 ≤ rs.foldl op i
  | [], i, h, _ => h
  | r :: rs, i, h, hr => fold_nn rs _ (S.nn i r h (hr r (by simp))) fun x hx => hr x (List.mem_cons_of_mem _ hx)
theorem fold_keep : ∀ (rs : List Int) (i o : Int), 0 ≤ i → 0 ≤ o → (∀ r ∈ rs, 0 ≤ r) → op i o = i → op (rs.foldl op i) o = rs.foldl op i
  | [], i, o, _, _, _, h => h
  | r :: rs, i, o, hi, ho, hr, h => by
    have h0 := hr r (by simp)
    refine fold_keep rs (op i r) o (S.nn i r hi h0) ho (fun x hx => hr x (List.mem_cons_of_mem _ hx)) ?_
    rw [S.assoc i r o hi h0 ho, S.comm r o h0 ho, ← S.assoc i o r hi ho h0, h]
theorem fold_low : ∀ (rs : List Int) (i o : Int), 0 ≤ i → (∀ r ∈ rs, 0 ≤ r) → o ∈ rs → op (rs.foldl op i) o = rs.foldl op i
  | r :: rs, i, o, hi, hr, ho => by
    have h0 := hr r (by simp)
    have h1 : ∀ x ∈ rs, 0 ≤ x := fun x hx => hr x (List.mem_cons_of_mem _ hx)
    rcases List.mem_cons.mp ho with rfl | ho
    · exact fold_keep S rs (op i o) o (S.nn i o hi h0) h0 h1 (by rw [S.assoc i o o hi h0 h0, S.idem o h0])
    · exact fold_low rs (op i r) o (S.nn i r hi h0) h1 ho
theorem fold_glb : ∀ (rs : List Int) (i x : Int), 0 ≤ i → 0 ≤ x → (∀ r ∈ rs, 0 ≤ r) → op x i = x → (∀ r ∈ rs, op x r = x) → op x (rs.foldl op i) = x
  | [], i, x, _, _, _, h, _ => h
  | r :: rs, i, x, hi, hx, hr, h, h2 => by
    have h0 := hr r (by simp)
    refine fold_glb rs (op i r) x (S.nn i r hi h0) hx (fun x hx => hr x (List.mem_cons_of_mem _ hx)) ?_ (fun y hy => h2 y (List.mem_cons_of_mem _ hy))
    rw [← S.assoc x i r hx hi h0, h, h2 r (by simp)]
theorem head_fold (rs : List Int) (i : Int) (hi : 0 ≤ i) (hr : ∀ r ∈ rs, 0 ≤ r) (h1 : ∀ r ∈ rs, (∀ o ∈ rs, op r o = r) → op r i = r) :
    (rs.filter fun r => rs.all fun o => decide (op r o = r)).head? = if rs.any fun j => decide (j = rs.foldl op i) then some (rs.foldl op i) else none := by
  have key : ∀ r ∈ rs, ((rs.all fun o => decide (op r o = r)) = true ↔ r = rs.foldl op i) := fun r hrr => by
    rw [List.all_eq_true]
    constructor
    · intro h
      have h : ∀ o ∈ rs, op r o = r := fun o ho => of_decide_eq_true (h o ho)
      have e1 := fold_glb S rs i r hi (hr r hrr) hr (h1 r hrr h) h
      have e2 := fold_low S rs i r hi hr hrr
      rw [S.comm r _ (hr r hrr) (fold_nn S rs i hi hr)] at e1
      rw [← e1, e2]
    · intro e o ho
      rw [e]
      exact decide_eq_true (fold_low S rs i o hi hr ho)
  by_cases q : (rs.any fun j => decide (j = rs.foldl op i)) = true
  · rw [if_pos q]
    cases hf : rs.filter fun r => rs.all fun o => decide (op r o = r) with
    | nil =>
      exfalso
      rw [List.any_eq_true] at q
      obtain ⟨j, hj, e⟩ := q
      have : j ∈ rs.filter fun r => rs.all fun o => decide (op r o = r) := List.mem_filter.mpr ⟨hj, (key j hj).mpr (of_decide_eq_true e)⟩
      rw [hf] at this
      cases this
    | cons r l =>
      have : r ∈ rs.filter fun r => rs.all fun o => decide (op r o = r) := by rw [hf]; simp
      obtain ⟨m1, m2⟩ := List.mem_filter.mp this
      rw [List.head?_cons, (key r m1).mp m2]
  · rw [if_neg q]
    cases hf : rs.filter fun r => rs.all fun o => decide (op r o = r) with
    | nil => rfl
    | cons r l =>
      exfalso
      have : r ∈ rs.filter fun r => rs.all fun o => decide (op r o = r) := by rw [hf]; simp
      obtain ⟨m1, m2⟩ := List.mem_filter.mp this
      exact q (List.any_eq_true.mpr ⟨r, m1, decide_eq_true ((key r m1).mp m2)⟩)
end
theorem least_math {rs : List Int} (h0 : rs ≠ []) (hr : ∀ r ∈ rs, 0 ≤ r) : (rs.filter fun r => rs.all fun o => decide (Builtin.bitAnd r o = r)).head? = leastD rs := by
  cases rs with
  | nil => exact absurd rfl h0
  | cons r rs => exact head_fold sl_and (r :: rs) r (hr r (by simp)) hr fun x hx h => h r (by simp)
theorem greatest_math {rs : List Int} (hr : ∀ r ∈ rs, 0 ≤ r) : (rs.filter fun r => rs.all fun o => decide (Builtin.bitOr r o = r)).head? = greatD rs :=
  head_fold sl_or rs 0 (by decide) hr fun x hx h => by rw [or_nn (hr x hx) (by decide)]; have := hr x hx; simp; omega
/-! one turn of the law -/
theorem zipIdx_range {α : Type} [Inhabited α] (xs : List α) : xs.zipIdx = (List.range xs.length).map fun i => (xs.getD i default, i) := by
  apply List.ext_getElem
  · simp
  · intro i h1 h2
    simp at h1 h2
    simp [h1]
theorem free_eq {n : Int} {rs : List Int} {ex : List (Int × Int)} : ((List.range ex.length).all fun i => !decide (ex.getD i default ∈ setL n (rs.filter (fitB (ex.take i ++ ex.drop (i + 1)))))) = isFreeB n rs ex := by
  unfold isFreeB
  rw [zipIdx_range, List.any_map, List.not_any_eq_all_not]
  rfl
theorem ones_eq (fs : List Int) (p : Int) : (((fs.filter fun r => decide (bitI r p = 1)).length : Nat) : Int) = (fs.map fun r => bitI r p).sum := by
  induction fs with
  | nil => rfl
  | cons r fs ih =>
    rw [List.filter_cons, List.map_cons, List.sum_cons, ← ih]
    rcases bitI_01 r p with h | h
    · rw [h]; simp
    · rw [h]; simp; omega
abbrev St (scr : D) (ds : List Int) (a2 a3 : D) (n : Int) (rs : List Int) (s5 s8 s9 s10 s11 s12 s13 s14 s15 s16 s17 : Sl) : Dst := [.val scr, .own (.lst (ds.map D.int)), .val a2, .own a3, .val (cls n rs), s5, .val (.int n), .val (.tup (rs.map D.int)), s8, s9, s10, s11, s12, s13, s14, s15, s16, s17, .non, .non, .non]
theorem xor_nn {n : Int} {rs : List Int} (h : Cls n rs) : ∀ r ∈ rs, 0 ≤ r := fun r hr => (h.r r hr).1
theorem lv_eP {p : Int × Int} (h : (0 ≤ p.1 ∧ p.1 < 1000) ∧ (p.2 = 0 ∨ p.2 = 1)) : Lv 1 (eP p) := lv_tup (k := 0) (by decide) (by simp) fun x hx => by
  simp only [List.mem_cons, List.not_mem_nil, or_false] at hx
  rcases hx with rfl | rfl <;> exact lv_int (by decide) (by omega) (by omega)
theorem setL_ok {n : Int} {rs : List Int} (hn : n ≤ 12) : (setL n rs).length ≤ 12 ∧ ∀ p ∈ setL n rs, (0 ≤ p.1 ∧ p.1 < 1000) ∧ (p.2 = 0 ∨ p.2 = 1) := by
  constructor
  · have := setU_len rs n.toNat
    have e : setU rs n.toNat = setL n rs := rfl
    rw [e] at this
    omega
  · intro p hp
    obtain ⟨i, hi, e⟩ := List.mem_filterMap.mp hp
    have hi := List.mem_range.mp hi
    cases rs with
    | nil => cases e
    | cons r0 rs =>
      have es : setAt (r0 :: rs) (i : Int) = if (r0 :: rs).all fun r => decide (bitI r i = bitI r0 i) then some (bitI r0 i) else none := rfl
      rw [es] at e
      split at e
      · injection e with e
        subst e
        exact ⟨⟨by simp, by simp; omega⟩, bitI_01 _ _⟩
      · cases e
theorem lv_ofO {x : Option Int} (h : ∀ y, x = some y → 0 ≤ y ∧ y < 1000000) : Lv 2 (ofO x) := by
  cases x with
  | none => exact lv_non (by decide)
  | some y => have := h y rfl; exact lv_int (by decide) (by omega) (by omega)
set_option maxHeartbeats 8000000 in
theorem body_ev {k : Nat} {scr a2 a3 : D} {ds : List Int} {n : Int} {rs : List Int} {s5 s8 s9 s10 s11 s12 s13 s14 s15 s16 s17 : Sl} (hd : Dr ds) (hC : Cls n rs)
    (n8 : NL s8) (n9 : NL s9) (n10 : NL s10) (n11 : NL s11) (n12 : NL s12) (n13 : NL s13) (n14 : NL s14) (n15 : NL s15) (n16 : NL s16) (n17 : NL s17) (p16 : ∃ d, s16 = .non ∨ s16 = .val d) :
    ∃ f ds' ex, (f = .nx ∨ f = .ct) ∧ Dr ds' ∧ ds'.length ≤ ds.length ∧ ∃ t9 t10 t11 t12 t13 t14 t15 t16 t17 : Sl, (NL t9 ∧ NL t10 ∧ NL t11 ∧ NL t12 ∧ NL t13 ∧ NL t14 ∧ NL t15 ∧ NL t16 ∧ NL t17) ∧ (∃ d, t16 = .val d) ∧
      xSs (CX T (k + 11) false [false]) f_law_0 (St scr ds a2 a3 n rs s5 s8 s9 s10 s11 s12 s13 s14 s15 s16 s17) = some (.ok f (St scr ds' a2 a3 n rs s5 (.val (exs ex)) t9 t10 t11 t12 t13 t14 t15 t16 t17)) := by
  have c1 := hC.n1; have c2 := hC.n2; have c3 := hC.l1; have c4 := hC.l2
  have hcB := isClassB_of hC
  have hrn := xor_nn hC
  obtain ⟨ex, ds1, hd1, hl1, hS, e1⟩ := sample_ev (k := k + 9) hd (n := n) (by omega)
  have hsB := isSmpB_of hS
  have hxl := hS.len
  have hx0 : ∀ x, Mb ex x → 0 ≤ x.1 := fun x hx => (hS.rng x hx).1.1
  have hx1 : ∀ x, Mb ex x → x.1 < 8000 := fun x hx => by have := (hS.rng x hx).1.2; omega
  unfold f_law_0
  rw [step_eq (δ' := St scr ds1 a2 a3 n rs s5 (.val (exs ex)) s9 s10 s11 s12 s13 s14 s15 s16 s17) (by
    simp! [St, io__law_sample, e1])]
  obtain ⟨fs, hfs⟩ : ∃ fs, fs = rs.filter (fitB ex) := ⟨_, rfl⟩
  have hfl : fs.length ≤ rs.length := by rw [hfs]; exact List.length_filter_le _ _
  have hfn : ∀ r ∈ fs, 0 ≤ r := fun r hr => by rw [hfs] at hr; exact hrn r (List.mem_filter.mp hr).1
  have e2 := fun k => lleft_ev (k := k) (rs := rs) (ex := ex) (.inr rfl) (by omega) (by omega) hx0 hx1
  simp only [← hfs] at e2
  rw [step_eq (δ' := St scr ds1 a2 a3 n rs s5 (.val (exs ex)) (.own (.lst (fs.map D.int))) s10 s11 s12 s13 s14 s15 s16 s17) (by
    simp! [St, io__law_left, e2])]
  have a0 := asked_ok (k := k + 9) (w := 0) (g := i_left) (by simp) (c := .non) (o := false) ⟨rfl, by rw [if_neg (by decide), no_tup, nos_ints]⟩ (left_ev (k := k + 6) (n := n) (rs := rs) (ex := ex) (by omega) (by omega) hcB hsB)
  rw [← hfs] at a0
  have a1 := lis_ev (k := k + 8) (n := n) (ex := ex) (by omega)
  rw [if_pos (by omega), hsB] at a1
  have hr1 : ∀ r ∈ fs, r < 4096 := fun r hr => by
    rw [hfs] at hr
    have := (hC.r r (List.mem_filter.mp hr).1).2
    have h2 := pow_le (show n.toNat ≤ 12 by omega)
    have e : (2 : Int) ^ 12 = 4096 := by decide
    omega
  have r1 : bD .repr [.lst [.bl true, .bl true, .tup (fs.map D.int)]] = some (false, .str (shw (.lst [.bl true, .bl true, .tup (fs.map D.int)]))) := repr_lv (lv_lst (k := 2) (by decide) (by simp) fun x hx => by
    simp only [List.mem_cons, List.not_mem_nil, or_false] at hx
    rcases hx with rfl | rfl | rfl
    · exact lv_bl (by decide)
    · exact lv_bl (by decide)
    · exact lv_tup (k := 1) (by decide) (by simp; omega) fun x hx => by
        obtain ⟨r, hr, rfl⟩ := List.mem_map.mp hx
        have := hfn r hr; have := hr1 r hr
        exact lv_int (by decide) (by omega) (by omega))
  generalize shw (.lst [.bl true, .bl true, .tup (fs.map D.int)]) = sh1 at r1
  rw [step_eq (δ' := St scr ds1 a2 a3 n rs s5 (.val (exs ex)) (.own (.lst (fs.map D.int))) s10 s11 s12 s13 s14 s15 s16 s17) (by
    simp! [St, io_is_class, is_class_ev, hcB, io__law_is_sample, a1, io__law_asked, a0, r1])]
  -- a rule and a point
  have q1 := hd1.nx; have q2 := hd1.drop.nx; have q3 := hd1.drop.drop.nx
  have hpw := pow_pos2 n.toNat
  obtain ⟨w, hw⟩ : ∃ w, w = (1000 * nx ds1 + nx ds1.dropLast) % 2 ^ n.toNat := ⟨_, rfl⟩
  obtain ⟨p, hp⟩ : ∃ p, p = nx ds1.dropLast.dropLast % n := ⟨_, rfl⟩
  have hw1 : 0 ≤ w ∧ w < 2 ^ n.toNat := by
    rw [hw]; exact ⟨Int.emod_nonneg _ (by omega), Int.emod_lt_of_pos _ hpw⟩
  have hp1 : 0 ≤ p ∧ p < n := by
    rw [hp]; exact ⟨Int.emod_nonneg _ (by omega), Int.emod_lt_of_pos _ (by omega)⟩
  rw [step_eq (δ' := St scr ds1.dropLast.dropLast.dropLast a2 a3 n rs s5 (.val (exs ex)) (.own (.lst (fs.map D.int))) s10 s11 s12 s13 s14 s15 (.val (.int w)) (.val (.int p))) (by
    simp! [St, io__law_next, next_ev, io__law_power, power_ev, hw, hp])]
  have hd3 := hd1.drop.drop.drop
  have hl3 : ds1.dropLast.dropLast.dropLast.length ≤ ds.length := by simp; omega
  generalize ds1.dropLast.dropLast.dropLast = ds3 at *
  -- does it fit
  have a7 := asked7_ok (k := k + 9) (a := cls n rs) (b := exs ex) (c := .int w) (x := .bl (fitB ex w)) ⟨rfl, rfl⟩ ((fits_ev (k := k + 6) (r := w) (by omega) (by omega) hcB hsB (by omega)).trans (by rw [if_pos hw1]))
  have e3 : ∀ k, RT T (k + 3) false i__law_left [(false, .lst [.int w]), (false, exs ex)] = some (.ok true (.lst (([w].filter (fitB ex)).map D.int)) [.non, .non]) := fun k => lleft_ev (rs := [w]) (.inl rfl) (by simp) (by omega) hx0 hx1
  have hone : decide ((([w].filter (fitB ex)).length : Int) = 1) = fitB ex w := by
    rw [List.filter_cons, List.filter_nil]
    cases fitB ex w <;> rfl
  have r2 : bD .repr [.bl (fitB ex w)] = some (false, .str (shw (.bl (fitB ex w)))) := repr_lv (lv_bl (by decide))
  generalize shw (.bl (fitB ex w)) = sh2 at r2
  generalize [w].filter (fitB ex) = one at e3 hone
  rw [step_eq (δ' := St scr ds3 a2 a3 n rs s5 (.val (exs ex)) (.own (.lst (fs.map D.int))) s10 s11 s12 s13 s14 s15 (.val (.int w)) (.val (.int p))) (by
    simp! [St, io__law_asked, a7, io__law_left, e3, hone, r2])]
  have up16 : Ev.upTo 1 6 = [.int 1, .int 2, .int 3, .int 4, .int 5, .int 6] := rfl
  by_cases he : fs = []
  · -- nothing is left
    have he2 : rs.filter (fitB ex) = [] := by rw [← hfs]; exact he
    obtain ⟨w6, hw6⟩ : ∃ w6, w6 = word 6 := ⟨_, rfl⟩
    have n3 : isExc (cls n rs) = false ∧ isExc (exs ex) = false ∧ isExc (.int p) = false := ⟨rfl, rfl, rfl⟩
    have b1 := asked_er (k := k + 9) (e := 6) (w := 1) (g := i_settled) (by decide) (by simp) n3 ((settled_ev (k := k + 5) (n := n) (rs := rs) (ex := ex) (by omega) (by omega) hcB hsB (by omega)).trans (by rw [if_pos he2]))
    have b2 := asked_er (k := k + 9) (e := 6) (w := 2) (g := i_closed_sample) (by decide) (by simp) n3 ((closed_ev (k := k + 4) (n := n) (rs := rs) (ex := ex) (by omega) (by omega) hcB hsB (by omega)).trans (by rw [if_pos he2]))
    have b3 := asked_er (k := k + 9) (e := 6) (w := 3) (g := i_is_free) (by decide) (by simp) n3 ((is_free_ev (k := k + 5) (n := n) (rs := rs) (ex := ex) (by omega) (by omega) hcB hsB (by omega)).trans (by rw [if_pos he2]))
    have b4 := asked_ok (k := k + 9) (w := 4) (g := i_least_left) (by simp) (c := .int p) (x := .non) (o := false) ⟨rfl, rfl⟩ ((least_left_ev (k := k + 6) (n := n) (rs := rs) (ex := ex) (by omega) (by omega) hcB hsB).trans (by rw [he2]; rfl))
    have b5 := asked_ok (k := k + 9) (w := 5) (g := i_greatest_left) (by simp) (c := .int p) (x := .non) (o := false) ⟨rfl, rfl⟩ ((greatest_left_ev (k := k + 6) (n := n) (rs := rs) (ex := ex) (by omega) (by omega) hcB hsB).trans (by rw [he2]; rfl))
    have b6 := asked6_er (k := k + 9) (e := 6) (by decide) n3 ((half_answer_ev (k := k + 5) (n := n) (rs := rs) (ex := ex) (p := p) (by omega) (by omega) hcB hsB).trans (by rw [if_pos hp1, if_pos he2]))
    rw [← hw6] at b1 b2 b3 b6
    have E : eqS (.lst [.str w6, .str w6, .str w6, .non, .non, .str w6]) (.lst (List.replicate 3 (.str "!none") ++ List.replicate 2 .non ++ [.str "!none"])) = some true := by
      rw [hw6]
      exact eq_lv (d := .lst [.str "!none", .str "!none", .str "!none", .non, .non, .str "!none"]) (lv_lst (k := 2) (by decide) (by simp) fun x hx => by
        simp only [List.mem_cons, List.not_mem_nil, or_false] at hx
        rcases hx with rfl | rfl | rfl | rfl | rfl | rfl <;> first | exact lv_non (by decide) | exact lv_str (by decide) (by decide +kernel))
    subst he
    refine ⟨.ct, ds3, ex, .inr rfl, hd3, hl3, .own (.lst []), s10, s11, s12, s13, s14, s15, .val (.int w), .val (.int p), ⟨nl_own _, n10, n11, n12, n13, n14, n15, nl_val _, nl_val _⟩, ⟨_, rfl⟩, ?_⟩
    simp! [St, x_law_0, up16, -Ex.upTo0, io__law_asked, b1, b2, b3, b4, b5, b6, E]
  · have hne2 : rs.filter (fitB ex) ≠ [] := by rw [← hfs]; exact he
    have hemp : fs.isEmpty = false := by simpa using he
    have eS := fun k => lsettled_ev (k := k) (n := n) he (by omega) (by omega)
    obtain ⟨S, hSS⟩ : ∃ S, S = setL n fs := ⟨_, rfl⟩
    have hSo := setL_ok (rs := fs) c2
    rw [← hSS] at hSo
    simp only [← hSS] at eS
    rw [step_eq (δ' := St scr ds3 a2 a3 n rs s5 (.val (exs ex)) (.own (.lst (fs.map D.int))) s10 s11 s12 s13 s14 s15 (.val (.int w)) (.val (.int p))) (by
      simp! [St, hemp, List.isEmpty_map])]
    -- told
    rw [step_eq (δ' := St scr ds3 a2 a3 n rs s5 (.val (exs ex)) (.own (.lst (fs.map D.int))) (.own (.lst (S.map eP))) s11 s12 s13 s14 s15 (.val (.int w)) (.val (.int p))) (by
      simp! [St, io__law_settled, eS])]
    -- free
    have hsub : ∀ i, ∀ x ∈ ex.take i ++ ex.drop (i + 1), x ∈ ex := fun i x hx => tk_dr hx
    have hni : ∀ i, (rs.filter (fitB (ex.take i ++ ex.drop (i + 1)))) ≠ [] := fun i h0 => he (by
      rw [hfs, List.filter_eq_nil_iff]
      intro r hr hf
      have := List.filter_eq_nil_iff.mp h0 r hr
      apply this
      unfold fitB at hf ⊢
      rw [List.all_eq_true] at hf ⊢
      exact fun x hx => hf x (hsub i x hx))
    have eL : ∀ i k, RT T (k + 3) false i__law_left [(false, .tup (rs.map D.int)), (false, exs (ex.take i ++ ex.drop (i + 1)))] = some (.ok true (.lst ((rs.filter (fitB (ex.take i ++ ex.drop (i + 1)))).map D.int)) [.non, .non]) := fun i k =>
      lleft_ev (.inr rfl) (by omega) (by simp; omega) (fun x hx => hx0 x (hsub i x hx)) (fun x hx => hx1 x (hsub i x hx))
    have eS2 : ∀ i k, RT T (k + 3) false i__law_settled [(false, .int n), (false, .lst ((rs.filter (fitB (ex.take i ++ ex.drop (i + 1)))).map D.int))] = some (.ok true (.lst ((setL n (rs.filter (fitB (ex.take i ++ ex.drop (i + 1))))).map eP)) [.non, .non]) := fun i k =>
      lsettled_ev (hni i) (by have := List.length_filter_le (fitB (ex.take i ++ ex.drop (i + 1))) rs; omega) (by omega)
    rw [step_eq (δ' := St scr ds3 a2 a3 n rs s5 (.val (exs ex)) (.own (.lst (fs.map D.int))) (.own (.lst (S.map eP))) (.val (.bl (isFreeB n rs ex))) s12 s13 s14 s15 (.val (.int w)) (.val (.int p))) (by
      simp! [St, x_law_1, io__law_settled, eS2, io__law_left, eL, in_pairs, free_eq])]
    -- least, greatest
    have m1 := least_math he hfn
    have m2 := greatest_math hfn
    obtain ⟨L, hL⟩ : ∃ L, L = fs.filter fun r => fs.all fun o => decide (Builtin.bitAnd r o = r) := ⟨_, rfl⟩
    obtain ⟨G, hG⟩ : ∃ G, G = fs.filter fun r => fs.all fun o => decide (Builtin.bitOr r o = r) := ⟨_, rfl⟩
    rw [← hL] at m1
    rw [← hG] at m2
    rw [step_eq (δ' := St scr ds3 a2 a3 n rs s5 (.val (exs ex)) (.own (.lst (fs.map D.int))) (.own (.lst (S.map eP))) (.val (.bl (isFreeB n rs ex))) (.own (.lst (L.map D.int))) s13 s14 s15 (.val (.int w)) (.val (.int p))) (by
      simp! [St, x_law_2, x_law_3, ← hL])]
    rw [step_eq (δ' := St scr ds3 a2 a3 n rs s5 (.val (exs ex)) (.own (.lst (fs.map D.int))) (.own (.lst (S.map eP))) (.val (.bl (isFreeB n rs ex))) (.own (.lst (L.map D.int))) (.own (.lst (G.map D.int))) s14 s15 (.val (.int w)) (.val (.int p))) (by
      simp! [St, x_law_4, x_law_5, ← hG])]
    -- ones
    obtain ⟨o, ho⟩ : ∃ o, o = (fs.map fun r => bitI r p).sum := ⟨_, rfl⟩
    have ho2 := ones_eq fs p
    rw [← ho] at ho2
    rw [step_eq (δ' := St scr ds3 a2 a3 n rs s5 (.val (exs ex)) (.own (.lst (fs.map D.int))) (.own (.lst (S.map eP))) (.val (.bl (isFreeB n rs ex))) (.own (.lst (L.map D.int))) (.own (.lst (G.map D.int))) (.val (.int o)) s15 (.val (.int w)) (.val (.int p))) (by
      simp! [St, x_law_6, io__law_has, lhas_ev2, ho2])]
    -- due
    obtain ⟨x1, hx1⟩ : ∃ x, x = leastD fs := ⟨_, rfl⟩
    obtain ⟨x2, hx2⟩ : ∃ x, x = greatD fs := ⟨_, rfl⟩
    obtain ⟨x3, hx3⟩ : ∃ x, x = halfD fs p := ⟨_, rfl⟩
    rw [← hx1] at m1
    rw [← hx2] at m2
    rw [step_eq (δ' := St scr ds3 a2 a3 n rs s5 (.val (exs ex)) (.own (.lst (fs.map D.int))) (.val (.lst (S.map eP))) (.val (.bl (isFreeB n rs ex))) (.own (.lst (L.map D.int))) (.own (.lst (G.map D.int))) (.val (.int o)) (.own (.lst [.lst (S.map eP), .tup (S.map eP), .bl (isFreeB n rs ex), ofO x1, ofO x2, ofO x3])) (.val (.int w)) (.val (.int p))) (by
      have e3 : ofO x3 = if 2 * o = fs.length then .non else .int (if (fs.length : Int) < 2 * o then 1 else 0) := by
        rw [hx3, ho]; unfold halfD; split <;> rfl
      rw [e3]
      cases L with
      | nil =>
        cases G with
        | nil => rw [← m1, ← m2]; simp! [St, List.head?_nil, ofO]
        | cons g G => rw [← m1, ← m2]; simp! [St, List.head?_cons, List.head?_nil, ofO]
      | cons l L =>
        cases G with
        | nil => rw [← m1, ← m2]; simp! [St, List.head?_cons, List.head?_nil, ofO]
        | cons g G => rw [← m1, ← m2]; simp! [St, List.head?_cons, ofO])]
    have b1 := asked_ok (k := k + 9) (w := 1) (g := i_settled) (by simp) (c := .int p) (x := .lst (S.map eP)) (o := true) ⟨rfl, by rw [if_pos rfl, elems_l]; exact nos_map _ _ fun x => rfl⟩ ((settled_ev (k := k + 5) (n := n) (rs := rs) (ex := ex) (by omega) (by omega) hcB hsB (by omega)).trans (by rw [if_neg hne2, ← hfs, ← hSS]))
    have b2 := asked_ok (k := k + 9) (w := 2) (g := i_closed_sample) (by simp) (c := .int p) (x := .tup (S.map eP)) (o := false) ⟨rfl, by rw [if_neg (by decide), no_tup]; exact nos_map _ _ fun x => rfl⟩ ((closed_ev (k := k + 4) (n := n) (rs := rs) (ex := ex) (by omega) (by omega) hcB hsB (by omega)).trans (by rw [if_neg hne2, ← hfs, ← hSS]))
    have b3 := asked_ok (k := k + 9) (w := 3) (g := i_is_free) (by simp) (c := .int p) (x := .bl (isFreeB n rs ex)) (o := false) ⟨rfl, rfl⟩ ((is_free_ev (k := k + 5) (n := n) (rs := rs) (ex := ex) (by omega) (by omega) hcB hsB (by omega)).trans (by rw [if_neg hne2]))
    have b4 := asked_ok (k := k + 9) (w := 4) (g := i_least_left) (by simp) (c := .int p) (x := ofO x1) (o := false) ⟨isExc_ofO _, no_ofO _⟩ ((least_left_ev (k := k + 6) (n := n) (rs := rs) (ex := ex) (by omega) (by omega) hcB hsB).trans (by rw [← hfs, ← hx1]))
    have b5 := asked_ok (k := k + 9) (w := 5) (g := i_greatest_left) (by simp) (c := .int p) (x := ofO x2) (o := false) ⟨isExc_ofO _, no_ofO _⟩ ((greatest_left_ev (k := k + 6) (n := n) (rs := rs) (ex := ex) (by omega) (by omega) hcB hsB).trans (by rw [← hfs, ← hx2]))
    have b6 := asked6_ok (k := k + 9) (a := cls n rs) (b := exs ex) (c := .int p) (x := ofO x3) ⟨isExc_ofO _, no_ofO _⟩ ((half_answer_ev (k := k + 5) (n := n) (rs := rs) (ex := ex) (p := p) (by omega) (by omega) hcB hsB).trans (by rw [if_pos hp1, if_neg hne2, ← hfs, ← hx3]))
    have hin : ∀ y (c : Int), y = (if fs.any (fun j => decide (j = c)) then some c else none) → ∀ z, y = some z → 0 ≤ z ∧ z < 1000000 := fun y c hy z hz => by
      rw [hz] at hy
      split at hy
      · rename_i q
        obtain ⟨j, hj, e⟩ := List.any_eq_true.mp q
        have e := of_decide_eq_true e
        injection hy with hy
        have := hfn j hj; have := hr1 j hj
        omega
      · cases hy
    have hv1 := lv_ofO (hin x1 _ hx1)
    have hv2 := lv_ofO (hin x2 _ hx2)
    have hv3 : Lv 2 (ofO x3) := lv_ofO fun y hy => by
      rw [hx3] at hy
      unfold halfD at hy
      split at hy
      · cases hy
      · injection hy with hy
        rw [← hy]
        split <;> decide
    have hvS : Lv 2 (.lst (S.map eP)) := lv_lst (k := 1) (by decide) (by simp; omega) fun x hx => by
      obtain ⟨q, hq, rfl⟩ := List.mem_map.mp hx
      exact lv_eP (hSo.2 q hq)
    have hvT : Lv 2 (.tup (S.map eP)) := lv_tup (k := 1) (by decide) (by simp; omega) fun x hx => by
      obtain ⟨q, hq, rfl⟩ := List.mem_map.mp hx
      exact lv_eP (hSo.2 q hq)
    obtain ⟨FB, hFB⟩ : ∃ FB, FB = isFreeB n rs ex := ⟨_, rfl⟩
    rw [← hFB] at b3 ⊢
    have r3 : bD .repr [.lst [.lst (S.map eP), .tup (S.map eP), .bl FB, ofO x1, ofO x2, ofO x3]] = some (false, .str (shw (.lst [.lst (S.map eP), .tup (S.map eP), .bl FB, ofO x1, ofO x2, ofO x3]))) := repr_lv (lv_lst (k := 2) (by decide) (by simp) fun x hx => by
      simp only [List.mem_cons, List.not_mem_nil, or_false] at hx
      rcases hx with rfl | rfl | rfl | rfl | rfl | rfl
      · exact hvS
      · exact hvT
      · exact lv_bl (by decide)
      · exact hv1
      · exact hv2
      · exact hv3)
    generalize shw (.lst [.lst (S.map eP), .tup (S.map eP), .bl FB, ofO x1, ofO x2, ofO x3]) = sh3 at r3
    refine ⟨.nx, ds3, ex, .inl rfl, hd3, hl3, .own (.lst (fs.map D.int)), .val (.lst (S.map eP)), .val (.bl FB), .own (.lst (L.map D.int)), .own (.lst (G.map D.int)), .val (.int o), .own (.lst [.lst (S.map eP), .tup (S.map eP), .bl FB, ofO x1, ofO x2, ofO x3]), .val (.int w), .val (.int p), ⟨nl_own _, nl_val _, nl_val _, nl_own _, nl_own _, nl_val _, nl_own _, nl_val _, nl_val _⟩, ⟨_, rfl⟩, ?_⟩
    simp! [St, x_law_7, up16, -Ex.upTo0, io__law_asked, b1, b2, b3, b4, b5, b6, r3]
/-! the law -/
set_option maxHeartbeats 16000000 in
theorem law_ev {nums : List Int} (hl : nums.length ≤ 63) : RT T 12 false i_law [(false, .ro (nums.map D.int))] = some (.ok false (.bl true) [.non]) := by
  rw [r_law, b_law]
  obtain ⟨scr, hscr⟩ : ∃ scr, scr = D.ro (nums.map D.int) := ⟨_, rfl⟩
  obtain ⟨ds0, hd0, hl0, e0⟩ := draws_ev (k := 9) hl
  rw [← hscr] at e0 ⊢
  obtain ⟨ds, hd, hl1, e1⟩ := more_ev (k := 9) (m := 160) hd0 (by decide) (by decide) hl0
  rw [step_eq (δ' := [.val scr, .own (.lst (ds0.map D.int)), .non, .non, .non, .non, .non, .non, .non, .non, .non, .non, .non, .non, .non, .non, .non, .non, .non, .non, .non]) (by
    simp! [io__law_draws, e0])]
  rw [step_eq (δ' := [.val scr, .own (.lst (ds.map D.int)), .non, .non, .non, .non, .non, .non, .non, .non, .non, .non, .non, .non, .non, .non, .non, .non, .non, .non, .non]) (by
    simp! [io__law_more, e1])]
  obtain ⟨gr, hgr⟩ : ∃ gr, gr = D.tup [.int 3, .tup [.int 0, .int 1, .int 3, .int 7]] := ⟨_, rfl⟩
  rw [step_eq (δ' := [.val scr, .own (.lst (ds.map D.int)), .val gr, .non, .non, .non, .non, .non, .non, .non, .non, .non, .non, .non, .non, .non, .non, .non, .non, .non, .non]) (by
    simp! [hgr])]
  have k1 : RT T 11 false i_left [(false, gr), (false, .tup [.tup [.int 1, .int 1]])] = some (.ok false (.tup [.int 3, .int 7]) [.non, .non]) := by rw [hgr]; exact conc (by decide +kernel)
  have k2 : RT T 11 false i_settled [(false, gr), (false, .tup [.tup [.int 1, .int 1]])] = some (.ok true (.lst [.tup [.int 0, .int 1], .tup [.int 1, .int 1]]) [.non, .non]) := by rw [hgr]; exact conc (by decide +kernel)
  have k3 : RT T 11 false i_closed_sample [(false, gr), (false, .tup [.tup [.int 1, .int 1]])] = some (.ok false (.tup [.tup [.int 0, .int 1], .tup [.int 1, .int 1]]) [.non, .non]) := by rw [hgr]; exact conc (by decide +kernel)
  have k4 : RT T 11 false i_least_left [(false, gr), (false, .tup [])] = some (.ok false (.int 0) [.non, .non]) := by rw [hgr]; exact conc (by decide +kernel)
  have k5 : RT T 11 false i_half_answer [(false, gr), (false, .tup []), (false, .int 1)] = some (.ok false .non [.non, .non, .non]) := by rw [hgr]; exact conc (by decide +kernel)
  have k6 : RT T 11 false i_is_free [(false, gr), (false, .tup [.tup [.int 0, .int 1], .tup [.int 1, .int 1]])] = some (.ok false (.bl false) [.non, .non]) := by rw [hgr]; exact conc (by decide +kernel)
  obtain ⟨an, han⟩ : ∃ an, an = D.lst [.tup [.int 3, .int 7], .lst [.tup [.int 0, .int 1], .tup [.int 1, .int 1]], .tup [.tup [.int 0, .int 1], .tup [.int 1, .int 1]], .int 0, .non, .bl false] := ⟨_, rfl⟩
  rw [step_eq (δ' := [.val scr, .own (.lst (ds.map D.int)), .val gr, .own an, .non, .non, .non, .non, .non, .non, .non, .non, .non, .non, .non, .non, .non, .non, .non, .non, .non]) (by
    simp! [io_left, k1, io_settled, k2, io_closed_sample, k3, io_least_left, k4, io_half_answer, k5, io_is_free, k6, han])]
  have r1 : bD .repr [an] = some (false, .str (shw an)) := by
    rw [han]; exact repr_conc (by decide +kernel)
  rw [step_eq (δ' := [.val scr, .own (.lst (ds.map D.int)), .val gr, .own an, .non, .non, .non, .non, .non, .non, .non, .non, .non, .non, .non, .non, .non, .non, .non, .non, .non]) (by
    generalize shw an = sh at r1
    rw [han] at r1 ⊢
    simp! [r1])]
  obtain ⟨n, rs, ds2, hd2, hl2, hC, hn, e2⟩ := class_ev (k := 9) hd (P := 6) (R := 20) (by decide) (by decide) (by decide) (by decide)
  rw [step_eq (δ' := [.val scr, .own (.lst (ds2.map D.int)), .val gr, .own an, .val (cls n rs), .non, .non, .non, .non, .non, .non, .non, .non, .non, .non, .non, .non, .non, .non, .non, .non]) (by
    simp! [io__law_class, e2, no_tup, nos_ints])]
  rw [step_eq (δ' := St scr ds2 gr an n rs .non .non .non .non .non .non .non .non .non .non .non) (by
    simp! [St])]
  have L := turns_rangeC (body := forB (CX T 11 false [false]) (.nm 5) f_law_0) (m := 3) (fun i δ => ∃ es s5 s8 s9 s10 s11 s12 s13 s14 s15 s16 s17, δ = St scr es gr an n rs s5 s8 s9 s10 s11 s12 s13 s14 s15 s16 s17 ∧ Dr es ∧ NL s5 ∧ (NL s8 ∧ NL s9 ∧ NL s10 ∧ NL s11 ∧ NL s12 ∧ NL s13 ∧ NL s14 ∧ NL s15 ∧ NL s16 ∧ NL s17) ∧ (∃ d, s16 = .non ∨ s16 = .val d) ∧ (0 < i → ∃ ex, s8 = .val (exs ex))) (fun i δ hi ⟨es, s5, s8, s9, s10, s11, s12, s13, s14, s15, s16, s17, hδ, he, h5, ⟨h8, h9, h10, h11, h12, h13, h14, h15, h16, h17⟩, p16, _⟩ => by
      subst hδ
      obtain ⟨f, ds', ex, hf, hd', _, t9, t10, t11, t12, t13, t14, t15, t16, t17, ⟨m9, m10, m11, m12, m13, m14, m15, m16, m17⟩, ⟨dd, hdd⟩, e⟩ := body_ev (k := 0) (scr := scr) (a2 := gr) (a3 := an) (s5 := .val (.int (i : Int))) he hC h8 h9 h10 h11 h12 h13 h14 h15 h16 h17 p16
      rw [Nat.zero_add] at e
      refine ⟨f, _, ?_, hf, ds', .val (.int (i : Int)), .val (exs ex), t9, t10, t11, t12, t13, t14, t15, t16, t17, rfl, hd', nl_val _, ⟨nl_val _, m9, m10, m11, m12, m13, m14, m15, m16, m17⟩, ⟨dd, .inr hdd⟩, fun _ => ⟨ex, rfl⟩⟩
      simp only [St] at e ⊢
      simp! [e]) (δ := St scr ds2 gr an n rs .non .non .non .non .non .non .non .non .non .non .non) ⟨ds2, .non, .non, .non, .non, .non, .non, .non, .non, .non, .non, .non, rfl, hd2, nl_non, ⟨nl_non, nl_non, nl_non, nl_non, nl_non, nl_non, nl_non, nl_non, nl_non, nl_non⟩, ⟨.non, .inl rfl⟩, fun h => absurd h (by decide)⟩
  obtain ⟨δ', e3, es, s5, s8, s9, s10, s11, s12, s13, s14, s15, s16, s17, hδ, he, h5, h8, _, hex⟩ := L
  obtain ⟨ex, rfl⟩ := hex (by decide)
  subst hδ
  rw [step_eq (δ' := St scr es gr an n rs s5 (.val (exs ex)) s9 s10 s11 s12 s13 s14 s15 s16 s17) (by
    simp only [St] at e3 ⊢
    simp! [e3])]
  obtain ⟨ds', e4⟩ := refuses_ev (k := 2) (smp := exs ex) he hC rfl
  have x0 : isExc scr = false := by rw [hscr]; rfl
  simp! [St, io__law_refuses, e4]
def deep : Nat := 12
theorem room : L2H.RoomH deep callerA := by
  refine ⟨?_, ?_⟩ <;> decide
theorem ans : ∀ nums : List Int, nums.length ≤ 63 → (∀ z ∈ nums, Builtin.Int.intBits z ≤ 1048576) → ∃ outs, runT T deep false i_law [(false, .ro (nums.map D.int))] = some (.ok false (.bl true) outs) := fun nums hl _ => by
  have := law_ev hl
  rw [RT_eq] at this
  exact ⟨_, this⟩
end Lw

open PySem PySem.W PyProof.Rows Ev
set_option maxHeartbeats 0 in
theorem PySem.Challenge.cw_fewexamples_k00_classes_and_what_still_f_holds : PySem.Challenge.rw_fewexamples_k00_classes_and_what_still_f.Holds := by
  w_on; o_law; k_head; (case hw => w_witness2)
  k_fill
  refine Ev.law_end (l := PySem.Challenge.rw_fewexamples_k00_classes_and_what_still_f) (T := Lw.T) (k := Lw.deep) (gi := 36) rfl (by rw [sizeLine_eq]; decide) rfl Lw.room (fun w h Y => PySem.W.kIn_of Y) ?F Lw.ans
  case F =>
    intro w mg fa h KX G hmg
    refine' Ev.fin_of (Lw.all KX G hmg _ w ?a0 ?l0 ?b0 ?k0 ?a1 ?l1 ?b1 ?k1 ?a2 ?l2 ?b2 ?k2 ?a3 ?l3 ?b3 ?k3 ?a4 ?l4 ?b4 ?k4 ?a5 ?l5 ?b5 ?k5 ?a6 ?l6 ?b6 ?k6 ?a7 ?l7 ?b7 ?k7 ?a8 ?l8 ?b8 ?k8 ?a9 ?l9 ?b9 ?k9 ?a10 ?l10 ?b10 ?k10 ?a11 ?l11 ?b11 ?k11 ?a12 ?l12 ?b12 ?k12 ?a13 ?l13 ?b13 ?k13 ?a14 ?l14 ?b14 ?k14 ?a15 ?l15 ?b15 ?k15 ?a16 ?l16 ?b16 ?k16 ?a17 ?l17 ?b17 ?k17 ?a18 ?l18 ?b18 ?k18 ?a19 ?l19 ?b19 ?k19 ?a20 ?l20 ?b20 ?k20 ?a21 ?l21 ?b21 ?k21 ?a22 ?l22 ?b22 ?k22 ?a23 ?l23 ?b23 ?k23 ?a24 ?l24 ?b24 ?k24 ?a25 ?l25 ?b25 ?k25 ?a26 ?l26 ?b26 ?k26 ?a27 ?l27 ?b27 ?k27 ?a28 ?l28 ?b28 ?k28 ?a29 ?l29 ?b29 ?k29 ?a30 ?l30 ?b30 ?k30 ?a31 ?l31 ?b31 ?k31 ?a32 ?l32 ?b32 ?k32 ?a33 ?l33 ?b33 ?k33 ?a34 ?l34 ?b34 ?k34 ?a35 ?l35 ?b35 ?k35 ?a36 ?l36 ?b36 ?k36 ?A0 ?ga0 ?gg0 ?s0 ?hd0 ?ha0 ?hm0 ?xe0 ?kC0 ?tC0 ?iC0 ?A1 ?ga1 ?gg1 ?s1 ?hd1 ?ha1 ?hm1 ?xe1 ?kC1 ?tC1 ?iC1 ?A2 ?ga2 ?gg2 ?s2 ?hd2 ?ha2 ?hm2 ?xe2 ?kC2 ?tC2 ?iC2 ?A3 ?ga3 ?gg3 ?s3 ?hd3 ?ha3 ?hm3 ?xe3 ?kC3 ?tC3 ?iC3 ?A4 ?ga4 ?gg4 ?s4 ?hd4 ?ha4 ?hm4 ?xe4 ?kC4 ?tC4 ?iC4 ?A5 ?ga5 ?gg5 ?s5 ?hd5 ?ha5 ?hm5 ?xe5 ?kC5 ?tC5 ?iC5 ?A6 ?ga6 ?gg6 ?s6 ?hd6 ?ha6 ?hm6 ?xe6 ?kC6 ?tC6 ?iC6 ?A7 ?ga7 ?gg7 ?s7 ?hd7 ?ha7 ?hm7 ?xe7 ?kC7 ?tC7 ?iC7 ?hn ?ht ?q0_0 ?q0_1 ?q0_2 ?q0_3 ?q0_4 ?q0_5 ?q0_6 ?q0_7 ?q1_0 ?q1_1 ?q1_2 ?q1_3 ?q1_4 ?q1_5 ?q1_6 ?q1_7 ?q2_0 ?q2_1 ?q2_2 ?q2_3 ?q2_4 ?q2_5 ?q2_6 ?q2_7 ?q3_0 ?q3_1 ?q3_2 ?q3_3 ?q3_4 ?q3_5 ?q3_6 ?q3_7 ?q4_0 ?q4_1 ?q4_2 ?q4_3 ?q4_4 ?q4_5 ?q4_6 ?q4_7 ?q5_0 ?q5_1 ?q5_2 ?q5_3 ?q5_4 ?q5_5 ?q5_6 ?q5_7 ?q6_0 ?q6_1 ?q6_2 ?q6_3 ?q6_4 ?q6_5 ?q6_6 ?q6_7 ?q7_0 ?q7_1 ?q7_2 ?q7_3 ?q7_4 ?q7_5 ?q7_6 ?q7_7 ?m0 ?m1 ?z_all ?z_dict ?z_enumerate ?z_int ?z_isinstance ?z_len ?z_list ?z_range ?z_repr ?z_sorted ?z_sum ?z_tuple ?z_zip)
    (case a0 => k_is)
    (case l0 => k_is)
    (case b0 => k_is)
    (case k0 => k_is)
    (case a1 => k_is)
    (case l1 => k_is)
    (case b1 => k_is)
    (case k1 => k_is)
    (case a2 => k_is)
    (case l2 => k_is)
    (case b2 => k_is)
    (case k2 => k_is)
    (case a3 => k_is)
    (case l3 => k_is)
    (case b3 => k_is)
    (case k3 => k_is)
    (case a4 => k_is)
    (case l4 => k_is)
    (case b4 => k_is)
    (case k4 => k_is)
    (case a5 => k_is)
    (case l5 => k_is)
    (case b5 => k_is)
    (case k5 => k_is)
    (case a6 => k_is)
    (case l6 => k_is)
    (case b6 => k_is)
    (case k6 => k_is)
    (case a7 => k_is)
    (case l7 => k_is)
    (case b7 => k_is)
    (case k7 => k_is)
    (case a8 => k_is)
    (case l8 => k_is)
    (case b8 => k_is)
    (case k8 => k_is)
    (case a9 => k_is)
    (case l9 => k_is)
    (case b9 => k_is)
    (case k9 => k_is)
    (case a10 => k_is)
    (case l10 => k_is)
    (case b10 => k_is)
    (case k10 => k_is)
    (case a11 => k_is)
    (case l11 => k_is)
    (case b11 => k_is)
    (case k11 => k_is)
    (case a12 => k_is)
    (case l12 => k_is)
    (case b12 => k_is)
    (case k12 => k_is)
    (case a13 => k_is)
    (case l13 => k_is)
    (case b13 => k_is)
    (case k13 => k_is)
    (case a14 => k_is)
    (case l14 => k_is)
    (case b14 => k_is)
    (case k14 => k_is)
    (case a15 => k_is)
    (case l15 => k_is)
    (case b15 => k_is)
    (case k15 => k_is)
    (case a16 => k_is)
    (case l16 => k_is)
    (case b16 => k_is)
    (case k16 => k_is)
    (case a17 => k_is)
    (case l17 => k_is)
    (case b17 => k_is)
    (case k17 => k_is)
    (case a18 => k_is)
    (case l18 => k_is)
    (case b18 => k_is)
    (case k18 => k_is)
    (case a19 => k_is)
    (case l19 => k_is)
    (case b19 => k_is)
    (case k19 => k_is)
    (case a20 => k_is)
    (case l20 => k_is)
    (case b20 => k_is)
    (case k20 => k_is)
    (case a21 => k_is)
    (case l21 => k_is)
    (case b21 => k_is)
    (case k21 => k_is)
    (case a22 => k_is)
    (case l22 => k_is)
    (case b22 => k_is)
    (case k22 => k_is)
    (case a23 => k_is)
    (case l23 => k_is)
    (case b23 => k_is)
    (case k23 => k_is)
    (case a24 => k_is)
    (case l24 => k_is)
    (case b24 => k_is)
    (case k24 => k_is)
    (case a25 => k_is)
    (case l25 => k_is)
    (case b25 => k_is)
    (case k25 => k_is)
    (case a26 => k_is)
    (case l26 => k_is)
    (case b26 => k_is)
    (case k26 => k_is)
    (case a27 => k_is)
    (case l27 => k_is)
    (case b27 => k_is)
    (case k27 => k_is)
    (case a28 => k_is)
    (case l28 => k_is)
    (case b28 => k_is)
    (case k28 => k_is)
    (case a29 => k_is)
    (case l29 => k_is)
    (case b29 => k_is)
    (case k29 => k_is)
    (case a30 => k_is)
    (case l30 => k_is)
    (case b30 => k_is)
    (case k30 => k_is)
    (case a31 => k_is)
    (case l31 => k_is)
    (case b31 => k_is)
    (case k31 => k_is)
    (case a32 => k_is)
    (case l32 => k_is)
    (case b32 => k_is)
    (case k32 => k_is)
    (case a33 => k_is)
    (case l33 => k_is)
    (case b33 => k_is)
    (case k33 => k_is)
    (case a34 => k_is)
    (case l34 => k_is)
    (case b34 => k_is)
    (case k34 => k_is)
    (case a35 => k_is)
    (case l35 => k_is)
    (case b35 => k_is)
    (case k35 => k_is)
    (case a36 => k_is)
    (case l36 => k_is)
    (case b36 => k_is)
    (case k36 => k_is)
    (case A0 => k_is)
    (case ga0 => k_is)
    (case gg0 => k_is)
    (case s0 => k_is)
    (case hd0 => k_is)
    (case ha0 => k_is)
    (case hm0 => k_is)
    (case xe0 => k_exc)
    (case kC0 => k_is)
    (case tC0 => k_is)
    (case iC0 => k_is)
    (case A1 => k_is)
    (case ga1 => k_is)
    (case gg1 => k_is)
    (case s1 => k_is)
    (case hd1 => k_is)
    (case ha1 => k_is)
    (case hm1 => k_is)
    (case xe1 => k_exc)
    (case kC1 => k_is)
    (case tC1 => k_is)
    (case iC1 => k_is)
    (case A2 => k_is)
    (case ga2 => k_is)
    (case gg2 => k_is)
    (case s2 => k_is)
    (case hd2 => k_is)
    (case ha2 => k_is)
    (case hm2 => k_is)
    (case xe2 => k_exc)
    (case kC2 => k_is)
    (case tC2 => k_is)
    (case iC2 => k_is)
    (case A3 => k_is)
    (case ga3 => k_is)
    (case gg3 => k_is)
    (case s3 => k_is)
    (case hd3 => k_is)
    (case ha3 => k_is)
    (case hm3 => k_is)
    (case xe3 => k_exc)
    (case kC3 => k_is)
    (case tC3 => k_is)
    (case iC3 => k_is)
    (case A4 => k_is)
    (case ga4 => k_is)
    (case gg4 => k_is)
    (case s4 => k_is)
    (case hd4 => k_is)
    (case ha4 => k_is)
    (case hm4 => k_is)
    (case xe4 => k_exc)
    (case kC4 => k_is)
    (case tC4 => k_is)
    (case iC4 => k_is)
    (case A5 => k_is)
    (case ga5 => k_is)
    (case gg5 => k_is)
    (case s5 => k_is)
    (case hd5 => k_is)
    (case ha5 => k_is)
    (case hm5 => k_is)
    (case xe5 => k_exc)
    (case kC5 => k_is)
    (case tC5 => k_is)
    (case iC5 => k_is)
    (case A6 => k_is)
    (case ga6 => k_is)
    (case gg6 => k_is)
    (case s6 => k_is)
    (case hd6 => k_is)
    (case ha6 => k_is)
    (case hm6 => k_is)
    (case xe6 => k_exc)
    (case kC6 => k_is)
    (case tC6 => k_is)
    (case iC6 => k_is)
    (case A7 => k_is)
    (case ga7 => k_is)
    (case gg7 => k_is)
    (case s7 => k_is)
    (case hd7 => k_is)
    (case ha7 => k_is)
    (case hm7 => k_is)
    (case xe7 => k_exc)
    (case kC7 => k_is)
    (case tC7 => k_is)
    (case iC7 => k_is)
    (case hn => k_is)
    (case ht => k_is)
    (case q0_0 => k_is)
    (case q0_1 => k_is)
    (case q0_2 => k_is)
    (case q0_3 => k_is)
    (case q0_4 => k_is)
    (case q0_5 => k_is)
    (case q0_6 => k_is)
    (case q0_7 => k_is)
    (case q1_0 => k_is)
    (case q1_1 => k_is)
    (case q1_2 => k_is)
    (case q1_3 => k_is)
    (case q1_4 => k_is)
    (case q1_5 => k_is)
    (case q1_6 => k_is)
    (case q1_7 => k_is)
    (case q2_0 => k_is)
    (case q2_1 => k_is)
    (case q2_2 => k_is)
    (case q2_3 => k_is)
    (case q2_4 => k_is)
    (case q2_5 => k_is)
    (case q2_6 => k_is)
    (case q2_7 => k_is)
    (case q3_0 => k_is)
    (case q3_1 => k_is)
    (case q3_2 => k_is)
    (case q3_3 => k_is)
    (case q3_4 => k_is)
    (case q3_5 => k_is)
    (case q3_6 => k_is)
    (case q3_7 => k_is)
    (case q4_0 => k_is)
    (case q4_1 => k_is)
    (case q4_2 => k_is)
    (case q4_3 => k_is)
    (case q4_4 => k_is)
    (case q4_5 => k_is)
    (case q4_6 => k_is)
    (case q4_7 => k_is)
    (case q5_0 => k_is)
    (case q5_1 => k_is)
    (case q5_2 => k_is)
    (case q5_3 => k_is)
    (case q5_4 => k_is)
    (case q5_5 => k_is)
    (case q5_6 => k_is)
    (case q5_7 => k_is)
    (case q6_0 => k_is)
    (case q6_1 => k_is)
    (case q6_2 => k_is)
    (case q6_3 => k_is)
    (case q6_4 => k_is)
    (case q6_5 => k_is)
    (case q6_6 => k_is)
    (case q6_7 => k_is)
    (case q7_0 => k_is)
    (case q7_1 => k_is)
    (case q7_2 => k_is)
    (case q7_3 => k_is)
    (case q7_4 => k_is)
    (case q7_5 => k_is)
    (case q7_6 => k_is)
    (case q7_7 => k_is)
    (case m0 => k_is)
    (case m1 => k_is)
    (case z_all => k_is)
    (case z_dict => k_is)
    (case z_enumerate => k_is)
    (case z_int => k_is)
    (case z_isinstance => k_is)
    (case z_len => k_is)
    (case z_list => k_is)
    (case z_range => k_is)
    (case z_repr => k_is)
    (case z_sorted => k_is)
    (case z_sum => k_is)
    (case z_tuple => k_is)
    (case z_zip => k_is)
