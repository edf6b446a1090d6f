import PyProof.Rows.All
import Wide.All
import OpenK.AllK
import Wide.FinOn
import HandS.ForMost
import HandS.IsInst
import HandS.Wide
import HandS.Zip
import HandS.TupAny
import HandS.TupMul
import HandS.Deep
import HandS.SortInts
import HandS.Style
import HandS.Conv
import HandS.Flow
import KE.KStar
import KE.KIndexOf
import KE.GoesEnum
import KE.GoesMore
import KE.GoesZip
import PyProof.AutoSeq1
import Lean
import KE.KStateDown
import HandS.More
import HandS.Ends
import HandS.Words
import HandS.WordsExc
import HandS.Defaults
import HandS.Head0
import HandS.Head1
import HandS.Head2
import HandS.HeadEnd
import HandS.HeadHook1
import HandS.HeadHook2
import PySem.Challenge.RW_newsbehind_k52_stopped_runs
set_option Elab.async false
set_option linter.all false
set_option maxRecDepth 100000
/-! NB1: a small language of pure values, its evaluator. Lists are values; a name may own a list (append and stores then turn the name's value); the draw's deal is a handle. -/
namespace L2.NB
open PySem

abbrev D := PyData

/-- a deal: the great cells (the last one first to go), the blend -/
structure Deal where
  cells : List Int
  blend : Int
abbrev S := List Deal

inductive Res (α : Type) where
  | ok (a : α) (s : S)
  | bad

def M (α : Type) := S → Res α
def M.pure {α : Type} (a : α) : M α := fun s => .ok a s
def M.bind {α β : Type} (m : M α) (f : α → M β) : M β := fun s => match m s with
  | .ok a s' => f a s'
  | .bad => .bad
instance : Monad M where
  pure := M.pure
  bind := M.bind
def M.bad {α : Type} : M α := fun _ => .bad
def liftO {α : Type} : Option α → M α
  | some a => M.pure a
  | none => M.bad

inductive Slot where
  | non
  | val (d : D)
  | own (xs : List D)
  | hnd (n : Nat)
  | scr (ns : List Int)
abbrev Env := List Slot
/-- an argument -/
inductive AV where
  | d (x : D)
  | h (n : Nat)
  | s (ns : List Int)
def AV.slot : AV → Slot
  | .d x => .val x
  | .h n => .hnd n
  | .s ns => .scr ns

inductive Bop where
  | add | sub | mul | fdiv | mod | pow
  deriving DecidableEq
inductive Cop where
  | lt | le | gt | ge | eq | ne | is | isnot | mem | notmem
  deriving DecidableEq
/-- built-ins by name -/
inductive Bi where
  | len | tup | lst | min | max | min2 | max2 | sum | abs | int | all | any | sorted | repr | str
  | tupRg | lstRg | index
  deriving DecidableEq
inductive Ty where
  | int | bool | str | tuple | list
  deriving DecidableEq
/-- a target -/
inductive Tg where
  | nm (i : Nat)
  | tp (is : List Nat)
  deriving DecidableEq

inductive E where
  | cst (d : D)
  | no
  | var (i : Nat) | varT (i : Nat) | hnd (i : Nat) | scr (i n : Nat)
  | bin (o : Bop) (a b : E) | neg (a : E)
  | cmp (o : Cop) (a b : E) | chain (o o' : Cop) (a b c : E)
  | and (a b : E) | or (a b : E) | not (a : E)
  | ite (c a b : E)
  | tup (es : List E) | lst (es : List E) | star (a : E)
  | idx (a b : E) | sl (a lo hi : E) | rev (a : E)
  | call (f : Str) (es : List E) | callK (f : Str) (es : List E) (perm : List Nat) | callB (f : Str) (es : List E)
  | bi (b : Bi) (es : List E)
  | isi (a : E) (ts : List Ty)
  | rng1 (a : E) | rng2 (a b : E) | rng3 (a b c : E) | enum (a : E) | zip (a b : E)
  | lc (elt : E) (g : Tg) (it : E) | lcIf (elt : E) (g : Tg) (it c : E)

inductive C where
  | set (i : Nat) (e : E)
  | setF (i : Nat) (e : E)
  | tgt (is : List Nat) (e : E)
  | parF (ps : List (Nat × Bool)) (es : List E)
  | popTo (i j : Nat) | appPop (i j : Nat) (e : E)
  | app (i : Nat) (e : E) | ext (i : Nat) (e : E)
  | setI (i : Nat) (k e : E)
  | exp (e : E)
  | ifs (c : E) (a b : List C) | while (c : E) (b : List C) | for (g : Tg) (it : E) (b : List C)
  | ret (e : E) | retN | brk | cont | pass | frz (i : Nat) | never

/-! ### values -/
def truthD : D → Option Bool
  | .none => some false
  | .bool b => some b
  | .int i => some (i != 0)
  | .str z => if z.length ≤ sizeLine then some ((z.length : Int) != 0) else none
  | .list xs => some (!xs.isEmpty)
  | .tuple xs => some (!xs.isEmpty)
  | .dict _ => none
def isInt : D → Option Int
  | .int i => some i
  | _ => none
def isBool : D → Option Bool
  | .bool i => some i
  | _ => none
def intsOf : List D → Option (List Int)
  | [] => some []
  | .int i :: r => (intsOf r).map (i :: ·)
  | _ :: _ => none
def boolsOf : List D → Option (List Bool)
  | [] => some []
  | .bool i :: r => (boolsOf r).map (i :: ·)
  | _ :: _ => none
def itemsOf : D → Option (List D)
  | .list xs => some xs
  | .tuple xs => some xs
  | _ => none

def mulOk (i j : Int) : Bool := decide (i.natAbs.log2 + j.natAbs.log2 < 1000000)
def divOk (j : Int) : Bool := decide (j ≠ 0) && decide (j.natAbs.log2 < 9000)
def powOk (i j : Int) : Bool := decide (0 ≤ j) && decide (j ≤ 1000000) && decide (i.natAbs < 2 ^ 64)
def binD : Bop → D → D → Option D
  | .add, .int i, .int j => some (.int (i + j))
  | .add, .str x, .str y => if x.length + y.length ≤ sizeLine then some (.str (x ++ y)) else none
  | .add, .list x, .list y => if x.length + y.length ≤ sizeLine then some (.list (x ++ y)) else none
  | .add, .tuple x, .tuple y => if x.length + y.length ≤ sizeLine then some (.tuple (x ++ y)) else none
  | .sub, .int i, .int j => some (.int (i - j))
  | .mul, .int i, .int j => if mulOk i j = true then some (.int (i * j)) else none
  | .mul, .list x, .int k => if 0 ≤ k ∧ k < 2 ^ 63 ∧ x.length * k.toNat ≤ sizeLine then some (.list (List.replicate k.toNat x).flatten) else none
  | .mul, .tuple x, .int k => if -1000 ≤ k ∧ k ≤ 1000 ∧ x.length ≤ 1000 then some (.tuple (List.replicate k.toNat x).flatten) else none
  | .fdiv, .int i, .int j => if divOk j = true then some (.int (i.fdiv j)) else none
  | .mod, .int i, .int j => if j ≠ 0 then some (.int (i.fmod j)) else none
  | .pow, .int i, .int j => if powOk i j = true then some (.int (i ^ j.toNat)) else none
  | _, _, _ => none
def negD : D → Option D
  | .int i => some (.int (-i))
  | _ => none
def ltL : List Int → List Int → Bool
  | [], [] => false
  | [], _ :: _ => true
  | _ :: _, [] => false
  | x :: xs, y :: ys => if x = y then ltL xs ys else decide (x < y)
def flatD : D → Bool
  | .none | .bool _ | .int _ | .str _ => true
  | _ => false
def okEq (d : D) : Bool := SeqAt.shaped d
def eqOk : D → D → Bool
  | .str _, .str _ => true
  | x, y => okEq x && okEq y
def strIn (x y : Str) : Bool := !(Builtin.Str.occurrences y x 0 y.length 1).isEmpty
def memD : D → D → Option Bool
  | .str x, .str y => some (strIn x y)
  | x, .list ys => if okEq x = true ∧ okEq (.list ys) = true then some (ys.any fun y => PyData.eqv y x) else none
  | x, .tuple ys => if flatD x = true ∧ ys.all flatD = true then some (ys.any fun y => PyData.eqv y x) else none
  | _, _ => none
def cmpD : Cop → D → D → Option Bool
  | .lt, .int i, .int j => some (decide (i < j))
  | .le, .int i, .int j => some (decide (i ≤ j))
  | .gt, .int i, .int j => some (decide (j < i))
  | .ge, .int i, .int j => some (decide (j ≤ i))
  | .lt, .tuple xs, .tuple ys => (intsOf xs).bind fun a => (intsOf ys).map fun b => ltL a b
  | .eq, x, y => if eqOk x y = true then some (PyData.eqv x y) else none
  | .ne, x, y => if eqOk x y = true then some (!PyData.eqv x y) else none
  | .is, x, .none => some (match x with | .none => true | _ => false)
  | .isnot, x, .none => some (match x with | .none => false | _ => true)
  | .is, .bool a, .bool b => some (decide (a = b))
  | .is, .none, .bool _ => some false
  | .isnot, .bool a, .bool b => some (!decide (a = b))
  | .isnot, .none, .bool _ => some true
  | .mem, x, y => memD x y
  | .notmem, x, y => (memD x y).map fun b => !b
  | _, _, _ => none

def ixD (n : Nat) (i : Int) : Option Nat := if 0 ≤ i then (if i < n then some i.toNat else none) else if -(n : Int) ≤ i then some (i + n).toNat else none
def atD {α : Type} (xs : List α) (i : Int) : Option α := (ixD xs.length i).bind fun j => xs[j]?
def idxD : D → D → Option D
  | .list xs, .int i => atD xs i
  | .tuple xs, .int i => atD xs i
  | .str z, .int i => if z.length ≤ sizeLine then (atD z.cps.toList i).map fun c => .str ⟨#[c]⟩ else none
  | _, _ => none
/-- a slice's end by its place -/
def sIx (n d : Nat) : Option Int → Nat
  | none => d
  | some i => if i < 0 then (i + n).toNat else min i.toNat n
def cutD {α : Type} (xs : List α) (lo hi : Option Int) : List α := (xs.drop (sIx xs.length 0 lo)).take (sIx xs.length xs.length hi - sIx xs.length 0 lo)
def cutS (z : Str) (lo hi : Option Int) : Str := ⟨(cutD z.cps.toList lo hi).toArray⟩
def sliceD : D → Option Int → Option Int → Option D
  | .list xs, lo, hi => some (.list (cutD xs lo hi))
  | .tuple xs, lo, hi => some (.tuple (cutD xs lo hi))
  | .str z, lo, hi => if z.length ≤ sizeLine then some (.str (cutS z lo hi)) else none
  | _, _, _ => none
def revD : D → Option D
  | .list xs => some (.list xs.reverse)
  | .tuple xs => some (.tuple xs.reverse)
  | _ => none

def insD (x : Int) : List Int → List Int
  | [] => [x]
  | y :: r => if x ≤ y then x :: y :: r else y :: insD x r
def sortI : List Int → List Int
  | [] => []
  | x :: r => insD x (sortI r)
def minI : List Int → Option Int
  | [] => none
  | x :: r => some (r.foldl (fun m y => if y < m then y else m) x)
def maxI : List Int → Option Int
  | [] => none
  | x :: r => some (r.foldl (fun m y => if m < y then y else m) x)
def reprOk (d : D) : Bool := d.showable && !d.hasDict && decide (d.depth ≤ 60) && decide (d.shown.length ≤ sizeLine)
def biD : Bi → List D → Option D
  | .len, [.list xs] => some (.int xs.length)
  | .len, [.tuple xs] => some (.int xs.length)
  | .len, [.str z] => if z.length ≤ sizeLine then some (.int z.length) else none
  | .tup, [.list xs] => some (.tuple xs)
  | .tup, [.tuple xs] => some (.tuple xs)
  | .lst, [.list xs] => some (.list xs)
  | .lst, [.tuple xs] => some (.list xs)
  | .tupRg, [.list xs] => if xs.length ≤ sizeLine then some (.tuple xs) else none
  | .lstRg, [.list xs] => if xs.length ≤ sizeLine then some (.list xs) else none
  | .min, [.list xs] => ((intsOf xs).bind minI).map .int
  | .min, [.tuple xs] => ((intsOf xs).bind minI).map .int
  | .max, [.list xs] => ((intsOf xs).bind maxI).map .int
  | .max, [.tuple xs] => ((intsOf xs).bind maxI).map .int
  | .min2, [.int i, .int j] => some (.int (if j < i then j else i))
  | .max2, [.int i, .int j] => some (.int (if j > i then j else i))
  | .sum, [.list xs] => (intsOf xs).map fun ns => .int ns.sum
  | .sum, [.tuple xs] => (intsOf xs).map fun ns => .int ns.sum
  | .abs, [.int i] => some (.int (if i < 0 then -i else i))
  | .int, [.int i] => some (.int i)
  | .all, [.list xs] => (boolsOf xs).map fun bs => .bool (bs.all id)
  | .all, [.tuple xs] => (boolsOf xs).map fun bs => .bool (bs.all id)
  | .any, [.list xs] => (boolsOf xs).map fun bs => .bool (bs.any id)
  | .any, [.tuple xs] => (boolsOf xs).map fun bs => .bool (bs.any id)
  | .sorted, [.list xs] => (intsOf xs).map fun ns => .list ((sortI ns).map .int)
  | .repr, [d] => if reprOk d = true then some (.str d.shown) else none
  | .str, [.int i] => if i.natAbs.log2 < 1920 then some (.str (toString i)) else none
  | .index, [.list xs, .int k] => (intsOf xs).bind fun ns => if k ∈ ns then some (.int (ns.idxOf k : Nat)) else none
  | _, _ => none
def tyD : Ty → D → Bool
  | .int, .int _ => true
  | .int, .bool _ => true
  | .bool, .bool _ => true
  | .str, .str _ => true
  | .tuple, .tuple _ => true
  | .list, .list _ => true
  | _, _ => false
def noDict : D → Bool
  | .dict _ => false
  | _ => true
def isiD (ts : List Ty) (d : D) : Option Bool := if noDict d = true then some (ts.any fun t => tyD t d) else none
def rngOk (i : Int) : Bool := decide (-(2 ^ 62) ≤ i) && decide (i < 2 ^ 62)
def rngL (lo : Int) (n : Nat) : List D := (List.range n).map fun i => .int (lo + (i : Nat))
def rng1D : D → Option D
  | .int j => if rngOk j = true then some (.list (rngL 0 j.toNat)) else none
  | _ => none
def rng2D : D → D → Option D
  | .int i, .int j => if rngOk i = true ∧ rngOk j = true then some (.list (rngL i (j - i).toNat)) else none
  | _, _ => none
def enumL (xs : List D) : List D := (List.range xs.length).zipWith (fun i x => .tuple [.int (i : Nat), x]) xs
def enumD : D → Option D
  | .list xs => some (.list (enumL xs))
  | .tuple xs => some (.list (enumL xs))
  | _ => none
def zipL (xs ys : List D) : List D := xs.zipWith (fun x y => .tuple [x, y]) ys
def zipD (a b : D) : Option D := (itemsOf a).bind fun xs => (itemsOf b).map fun ys => .list (zipL xs ys)

/-! ### slots -/
def getV (i : Nat) (v : Env) : Option D := match v[i]? with
  | some (.val d) => some d
  | _ => none
def getT (i : Nat) (v : Env) : Option D := match v[i]? with
  | some (.val d) => some d
  | some (.own xs) => some (.list xs)
  | _ => none
def getO (i : Nat) (v : Env) : Option (List D) := match v[i]? with
  | some (.own xs) => some xs
  | _ => none
def getH (i : Nat) (v : Env) : Option AV := match v[i]? with
  | some (.hnd n) => some (.h n)
  | some (.scr ns) => some (.s ns)
  | _ => none
def getS (i n : Nat) (v : Env) : Option D := match v[i]? with
  | some (.scr ns) => some (.list ((ns.take n).map .int))
  | _ => none
def put (i : Nat) (x : Slot) (v : Env) : Option Env := if i < v.length then some (v.set i x) else none
def putAll : List Nat → List D → Env → Option Env
  | [], [], v => some v
  | i :: r, d :: ds, v => (put i (.val d) v).bind (putAll r ds)
  | _, _, _ => none
/-- several names at once; a name may come to own a list -/
def putP : List (Nat × Bool) → List D → Env → Option Env
  | [], [], v => some v
  | (i, false) :: r, d :: ds, v => (put i (.val d) v).bind (putP r ds)
  | (i, true) :: r, .list xs :: ds, v => (put i (.own xs) v).bind (putP r ds)
  | _, _, _ => none
def putTg : Tg → D → Env → Option Env
  | .nm i, d, v => put i (.val d) v
  | .tp is, .tuple ds, v => putAll is ds v
  | .tp _, _, _ => none
def frzS (i : Nat) (v : Env) : Env := match v[i]? with
  | some (.own xs) => v.set i (.val (.list xs))
  | _ => v

abbrev CallT := Str → List AV → M D

/-! ### the evaluator -/
/-- no heap in it -/
def atomD : D → Bool
  | .none => true
  | .bool _ => true
  | .int _ => true
  | .str _ => true
  | _ => false
def tupOk (xs : List D) : M D := if xs.length ≤ sizeLine then M.pure (.tuple xs) else M.bad
def lstOk (xs : List D) : M D := if xs.length ≤ sizeLine then M.pure (.list xs) else M.bad
/-- a comprehension's turns -/
def lcM (g : Tg) (f : Env → M D) (v : Env) : List D → List D → M (List D)
  | [], acc => M.pure acc
  | x :: r, acc => do
    let v' ← liftO (putTg g x v)
    let y ← f v'
    if acc.length < sizeLine then lcM g f v r (acc ++ [y]) else M.bad
def lcIfM (g : Tg) (f : Env → M D) (c : Env → M Bool) (v : Env) : List D → List D → M (List D)
  | [], acc => M.pure acc
  | x :: r, acc => do
    let v' ← liftO (putTg g x v)
    let b ← c v'
    if b = true then do
      let y ← f v'
      if acc.length < sizeLine then lcIfM g f c v r (acc ++ [y]) else M.bad
    else lcIfM g f c v r acc
def E.isNo : E → Bool
  | .no => true
  | _ => false
/-- a slice's part -/
def partM (b : Bool) (m : M D) : M (Option Int) := if b = true then M.pure none else do let y ← m; let i ← liftO (isInt y); M.pure (some i)
mutual
def ev (k : CallT) : E → Env → M D
  | .cst d, _ => M.pure d
  | .no, _ => M.pure .none
  | .var i, v => liftO (getV i v)
  | .varT i, v => liftO (getT i v)
  | .hnd _, _ => M.bad
  | .scr i n, v => liftO (getS i n v)
  | .bin o a b, v => do let x ← ev k a v; let y ← ev k b v; liftO (binD o x y)
  | .neg a, v => do let x ← ev k a v; liftO (negD x)
  | .cmp o a b, v => do let x ← ev k a v; let y ← ev k b v; let c ← liftO (cmpD o x y); M.pure (.bool c)
  | .chain o o' a b c, v => do
    let x ← ev k a v; let y ← ev k b v; let t ← liftO (cmpD o x y)
    if t = true then do let z ← ev k c v; let u ← liftO (cmpD o' y z); M.pure (.bool u) else M.pure (.bool false)
  | .and a b, v => do let x ← ev k a v; let t ← liftO (truthD x); if t = true then ev k b v else M.pure x
  | .or a b, v => do let x ← ev k a v; let t ← liftO (truthD x); if t = true then M.pure x else ev k b v
  | .not a, v => do let x ← ev k a v; let t ← liftO (truthD x); M.pure (.bool (!t))
  | .ite c a b, v => do let x ← ev k c v; let t ← liftO (truthD x); if t = true then ev k a v else ev k b v
  | .tup es, v => do let xs ← evL k es v; tupOk xs
  | .lst es, v => do let xs ← evL k es v; lstOk xs
  | .star _, _ => M.bad
  | .idx a b, v => do let x ← ev k a v; let y ← ev k b v; liftO (idxD x y)
  | .sl a lo hi, v => do let x ← ev k a v; let l ← partM lo.isNo (ev k lo v); let h ← partM hi.isNo (ev k hi v); liftO (sliceD x l h)
  | .rev a, v => do let x ← ev k a v; liftO (revD x)
  | .call f es, v => do let xs ← evA k es v; k f xs
  | .callK f es perm, v => do let xs ← evA k es v; k f (perm.filterMap fun i => xs[i]?)
  | .callB f es, v => do let xs ← evA k es v; let x ← k f xs; if atomD x = true then M.pure x else M.bad
  | .bi b es, v => do let xs ← evL k es v; liftO (biD b xs)
  | .isi a ts, v => do let x ← ev k a v; let t ← liftO (isiD ts x); M.pure (.bool t)
  | .rng1 a, v => do let x ← ev k a v; liftO (rng1D x)
  | .rng2 a b, v => do let x ← ev k a v; let y ← ev k b v; liftO (rng2D x y)
  | .rng3 _ _ _, _ => M.bad
  | .enum a, v => do let x ← ev k a v; liftO (enumD x)
  | .zip a b, v => do let x ← ev k a v; let y ← ev k b v; liftO (zipD x y)
  | .lc e g it, v => do let x ← ev k it v; let xs ← liftO (itemsOf x); let r ← lcM g (ev k e) v xs []; M.pure (.list r)
  | .lcIf e g it c, v => do
    let x ← ev k it v; let xs ← liftO (itemsOf x)
    let r ← lcIfM g (ev k e) (fun u => do let y ← ev k c u; liftO (truthD y)) v xs []; M.pure (.list r)
def evL (k : CallT) : List E → Env → M (List D)
  | [], _ => M.pure []
  | .star a :: es, v => do let x ← ev k a v; let xs ← liftO (itemsOf x); let ys ← evL k es v; M.pure (xs ++ ys)
  | e :: es, v => do let x ← ev k e v; let ys ← evL k es v; M.pure (x :: ys)
def evA (k : CallT) : List E → Env → M (List AV)
  | [], _ => M.pure []
  | .hnd i :: es, v => do let n ← liftO (getH i v); let ys ← evA k es v; M.pure (n :: ys)
  | e :: es, v => do let x ← ev k e v; let ys ← evA k es v; M.pure (.d x :: ys)
end
def tst (k : CallT) (e : E) (v : Env) : M Bool := do let x ← ev k e v; liftO (truthD x)

/-- how a statement ends -/
inductive Out where
  | nx | rt (d : D) | bk | ct

def FUEL : Nat := 1099511627776
def whileM (c : Env → M Bool) (b : Env → M (Out × Env)) : Nat → Env → M (Out × Env)
  | 0, _ => M.bad
  | n + 1, v => do
    let t ← c v
    if t = true then do
      let r ← b v
      match r with
      | (.nx, v') => whileM c b n v'
      | (.ct, v') => whileM c b n v'
      | (.bk, v') => M.pure (.nx, v')
      | (.rt d, v') => M.pure (.rt d, v')
    else M.pure (.nx, v)
def forM' (g : Tg) (b : Env → M (Out × Env)) : List D → Env → M (Out × Env)
  | [], v => M.pure (.nx, v)
  | x :: xs, v => do
    let v1 ← liftO (putTg g x v)
    let r ← b v1
    match r with
    | (.nx, v') => forM' g b xs v'
    | (.ct, v') => forM' g b xs v'
    | (.bk, v') => M.pure (.nx, v')
    | (.rt d, v') => M.pure (.rt d, v')
def nx (v : Env) : M (Out × Env) := M.pure (.nx, v)
mutual
def ex (k : CallT) : C → Env → M (Out × Env)
  | .set i e, v => do let x ← ev k e v; let v' ← liftO (put i (.val x) v); nx v'
  | .setF i e, v => do let x ← ev k e v; match x with
    | .list xs => do let v' ← liftO (put i (.own xs) v); nx v'
    | _ => M.bad
  | .tgt is e, v => do let x ← ev k e v; let v' ← liftO (putTg (.tp is) x v); nx v'
  | .parF ps es, v => do let xs ← evL k es v; let v' ← liftO (putP ps xs v); nx v'
  | .popTo i j, v => do
    let xs ← liftO (getO j v); let x ← liftO xs.getLast?; let v1 ← liftO (put j (.own xs.dropLast) v); let v' ← liftO (put i (.val x) v1); nx v'
  | .appPop i j e, v => do
    let y ← ev k e v; let n ← liftO (isInt y); let xs ← liftO (getO j v); let m ← liftO (if xs.length ≤ sizeLine then ixD xs.length n else none); let x ← liftO xs[m]?
    let v1 ← liftO (put j (.own (xs.eraseIdx m)) v); let ys ← liftO (getO i v1)
    if ys.length < sizeLine then do let v' ← liftO (put i (.own (ys ++ [x])) v1); nx v' else M.bad
  | .app i e, v => do
    let x ← ev k e v; let xs ← liftO (getO i v)
    if xs.length < sizeLine then do let v' ← liftO (put i (.own (xs ++ [x])) v); nx v' else M.bad
  | .ext i e, v => do
    let x ← ev k e v; let xs ← liftO (getO i v); let ys ← liftO (itemsOf x)
    if xs.length + ys.length ≤ sizeLine then do let v' ← liftO (put i (.own (xs ++ ys)) v); nx v' else M.bad
  | .setI i a e, v => do
    let x ← ev k e v; let y ← ev k a v; let xs ← liftO (getO i v); let n ← liftO (isInt y); let j ← liftO (ixD xs.length n)
    let v' ← liftO (put i (.own (xs.set j x)) v); nx v'
  | .exp e, v => do let _ ← ev k e v; nx v
  | .ifs c a b, v => do let t ← tst k c v; if t = true then exs k a v else exs k b v
  | .while c b, v => whileM (tst k c) (exs k b) FUEL v
  | .for g it b, v => do let x ← ev k it v; let xs ← liftO (itemsOf x); forM' g (exs k b) xs v
  | .ret e, v => do let x ← ev k e v; M.pure (.rt x, v)
  | .retN, v => M.pure (.rt .none, v)
  | .brk, v => M.pure (.bk, v)
  | .cont, v => M.pure (.ct, v)
  | .pass, v => nx v
  | .frz i, v => nx (frzS i v)
  | .never, _ => M.bad
def exs (k : CallT) : List C → Env → M (Out × Env)
  | [], v => nx v
  | c :: cs, v => do
    let r ← ex k c v
    match r with
    | (.nx, v') => exs k cs v'
    | (o, v') => M.pure (o, v')
end

/-- a def: how many parameters, how many slots, its body; or a semantic function -/
inductive Fn where
  | code (np ns : Nat) (b : List C)
  | prim (np : Nat) (f : List AV → M D)
abbrev Prog := List (Str × Fn)
def Prog.fn (P : Prog) (f : Str) : Option Fn := List.lookup f P
def start (ns : Nat) (xs : List AV) : Env := xs.map AV.slot ++ List.replicate (ns - xs.length) .non
def runB (k : CallT) (np ns : Nat) (b : List C) (xs : List AV) : M D :=
  if xs.length = np then do
    let r ← exs k b (start ns xs)
    match r with
    | (.nx, _) => M.pure .none
    | (.rt d, _) => M.pure d
    | _ => M.bad
  else M.bad
/-- a call with room for n calls, one in another -/
def callN (P : Prog) : Nat → CallT
  | 0 => fun _ _ => M.bad
  | n + 1 => fun f xs => match P.fn f with
    | some (.code np ns b) => runB (callN P n) np ns b xs
    | some (.prim np g) => if xs.length = np then g xs else M.bad
    | none => M.bad
end L2.NB
set_option Elab.async false
set_option linter.all false
set_option maxRecDepth 100000
/-! NB2: how values of the model stand for the evaluator's values. -/
namespace L2.NB
open PySem PySem.Spec PyProof.Rows

/-! ### the monad -/
theorem pure_run {α : Type} (a : α) (s : S) : (M.pure a) s = .ok a s := rfl
theorem pureI_run {α : Type} (a : α) (s : S) : (Pure.pure a : M α) s = .ok a s := rfl
theorem bad_run {α : Type} (s : S) : (M.bad : M α) s = .bad := rfl
theorem bind_ok {α β : Type} {m : M α} {f : α → M β} {s s' : S} {b : β} (h : (m >>= f) s = .ok b s') : ∃ a s1, m s = .ok a s1 ∧ f a s1 = .ok b s' := by
  change M.bind m f s = .ok b s' at h
  unfold M.bind at h
  cases e : m s with
  | ok a s1 => rw [e] at h; exact ⟨a, s1, rfl, h⟩
  | bad => rw [e] at h; cases h
theorem lift_ok {α : Type} {o : Option α} {s s' : S} {a : α} (h : liftO o s = .ok a s') : o = some a ∧ s' = s := by
  cases o with
  | none => cases h
  | some b => cases h; exact ⟨rfl, rfl⟩
theorem pure_ok {α : Type} {a b : α} {s s' : S} (h : (M.pure a) s = .ok b s') : b = a ∧ s' = s := by cases h; exact ⟨rfl, rfl⟩
theorem if_ok {α : Type} {c : Prop} [Decidable c] {m : M α} {s s' : S} {a : α} (h : (if c then m else M.bad) s = .ok a s') : c ∧ m s = .ok a s' := by
  by_cases hc : c
  · rw [if_pos hc] at h; exact ⟨hc, h⟩
  · rw [if_neg hc] at h; cases h

/-! ### handles -/
abbrev HA := List (Addr × Addr)
def inH (A : HA) (a : Addr) : Prop := ∃ p ∈ A, a = p.1 ∨ a = p.2
structure DealAt (H : Hp) (p : Addr × Addr) (d : Deal) : Prop where
  out : H p.1 = some (.lst [.ref p.2, .int d.blend])
  inn : H p.2 = some (.lst (d.cells.map .int))
  len : d.cells.length ≤ 64
  sm : 0 ≤ d.blend ∧ d.blend < 1099511627776
structure HRel (A : HA) (s : S) (H : Hp) : Prop where
  len : A.length = s.length
  at_ : ∀ (n : Nat) (p : Addr × Addr) (d : Deal), A[n]? = some p → s[n]? = some d → DealAt H p d
  nd : (A.flatMap fun p => [p.1, p.2]).Nodup
/-- what may be turned: the handles' lists alone -/
def Step (A : HA) (H H' : Hp) : Prop := ∀ a o, H a = some o → ¬ inH A a → H' a = some o
theorem Step.refl {A : HA} {H : Hp} : Step A H H := fun _ _ e _ => e
theorem Step.trans {A : HA} {H H1 H2 : Hp} (a : Step A H H1) (b : Step A H1 H2) : Step A H H2 := fun c o e n => b c o (a c o e n) n
theorem Step.of_same {A : HA} {H H' : Hp} (h : Same H H') : Step A H H' := fun c o e _ => h c o e
theorem HRel.isl {A : HA} {s : S} {H : Hp} (h : HRel A s H) {a : Addr} (ha : inH A a) : ∃ xs, H a = some (.lst xs) := by
  obtain ⟨p, hp, e⟩ := ha
  obtain ⟨n, hn⟩ := List.getElem?_of_mem hp
  have hl : n < s.length := by
    rw [← h.len]
    exact (List.getElem?_eq_some_iff.mp hn).1
  have hd := h.at_ n p s[n] hn (List.getElem?_eq_getElem hl)
  rcases e with e | e
  · exact ⟨_, e ▸ hd.out⟩
  · exact ⟨_, e ▸ hd.inn⟩
theorem HRel.upd {A : HA} {s : S} {H : Hp} (h : HRel A s H) {a : Addr} {o : HO} (ha : ¬ inH A a) : HRel A s (upd H a o) := by
  refine ⟨h.len, fun n p d hp hd => ?_, h.nd⟩
  have q := h.at_ n p d hp hd
  have m : p ∈ A := List.mem_of_getElem? hp
  have n1 : p.1 ≠ a := fun e => ha ⟨p, m, .inl e.symm⟩
  have n2 : p.2 ≠ a := fun e => ha ⟨p, m, .inr e.symm⟩
  exact ⟨by rw [upd_ne n1]; exact q.out, by rw [upd_ne n2]; exact q.inn, q.len, q.sm⟩
theorem HRel.fresh {A : HA} {s : S} {H : Hp} (h : HRel A s H) {p : Addr} (e : H p = none) : ¬ inH A p := fun z => by
  obtain ⟨xs, q⟩ := h.isl z
  rw [e] at q
  cases q
theorem Step.upd {A : HA} {H : Hp} {p : Addr} {o : HO} (e : H p = none) : Step A H (upd H p o) := fun a u h _ => by
  rw [upd_ne (ne_of_none h e)]
  exact h

/-! ### values -/
def TupAt (K : PySem.W.Frag) (B : Addr → Prop) (H : Hp) (a : Addr) (xs : List V) : Prop :=
  (H a = some (.tup xs) ∧ ¬ B a) ∨
    ∃ (o : Obj) (its : Array Value) (n : Nat), K.lookup a = some o ∧ o.cls = .type "tuple" ∧ o.data = .seq its n ∧ its.size ≤ sizeLine ∧ Vals xs its.toList
theorem TupAt.sq {K : PySem.W.Frag} {B : Addr → Prop} {H : Hp} {a : Addr} {xs : List V} (h : TupAt K B H a xs) : SqT K H a xs := by
  rcases h with ⟨h, _⟩ | h
  · exact .inl (.inl h)
  · exact .inr h
mutual
/-- v stands for d; its lists and tuples lie outside B -/
inductive Rep (K : PySem.W.Frag) (B : Addr → Prop) (H : Hp) : V → D → Prop
  | non : Rep K B H .non .none
  | bl (b : Bool) : Rep K B H (.bl b) (.bool b)
  | int (i : Int) : Rep K B H (.int i) (.int i)
  | str (x : Str) : Rep K B H (.str x) (.str x)
  | lst {a : Addr} {xs : List V} {ds : List D} : H a = some (.lst xs) → ¬ B a → RepL K B H xs ds → Rep K B H (.ref a) (.list ds)
  | tup {a : Addr} {xs : List V} {ds : List D} : TupAt K B H a xs → RepL K B H xs ds → Rep K B H (.ref a) (.tuple ds)
inductive RepL (K : PySem.W.Frag) (B : Addr → Prop) (H : Hp) : List V → List D → Prop
  | nil : RepL K B H [] []
  | cons {v : V} {vs : List V} {d : D} {ds : List D} : Rep K B H v d → RepL K B H vs ds → RepL K B H (v :: vs) (d :: ds)
end
section
variable {K : PySem.W.Frag} {B B' : Addr → Prop} {H H' : Hp}
/-! what stands for a value goes on standing for it -/
mutual
theorem Rep.mono (hB : ∀ a, B' a → B a ∨ H a = none) (hH : ∀ a o, H a = some o → ¬ B a → H' a = some o) : ∀ {v : V} {d : D}, Rep K B H v d → Rep K B' H' v d
  | _, _, .non => .non
  | _, _, .bl b => .bl b
  | _, _, .int i => .int i
  | _, _, .str x => .str x
  | _, _, .lst e n r => .lst (hH _ _ e n) (fun z => (hB _ z).elim n fun q => by rw [e] at q; cases q) (RepL.mono hB hH r)
  | _, _, .tup h r => by
    refine .tup ?_ (RepL.mono hB hH r)
    rcases h with ⟨e, n⟩ | h
    · exact .inl ⟨hH _ _ e n, fun z => (hB _ z).elim n fun q => by rw [e] at q; cases q⟩
    · exact .inr h
theorem RepL.mono (hB : ∀ a, B' a → B a ∨ H a = none) (hH : ∀ a o, H a = some o → ¬ B a → H' a = some o) : ∀ {vs : List V} {ds : List D}, RepL K B H vs ds → RepL K B' H' vs ds
  | _, _, .nil => .nil
  | _, _, .cons a r => .cons (Rep.mono hB hH a) (RepL.mono hB hH r)
end
theorem RepL.length : ∀ {vs : List V} {ds : List D}, RepL K B H vs ds → vs.length = ds.length
  | _, _, .nil => rfl
  | _, _, .cons _ r => congrArg Nat.succ (RepL.length r)
theorem RepL.get : ∀ {vs : List V} {ds : List D} {i : Nat} {d : D}, RepL K B H vs ds → ds[i]? = some d → ∃ v, vs[i]? = some v ∧ Rep K B H v d
  | _, _, _, _, .nil, e => by simp at e
  | _, _, 0, _, .cons a _, e => by simp at e; subst e; exact ⟨_, rfl, a⟩
  | _, _, i + 1, _, .cons _ r, e => by
    obtain ⟨v, h1, h2⟩ := RepL.get (i := i) r (by simpa using e)
    exact ⟨v, by simpa using h1, h2⟩
theorem RepL.append : ∀ {vs ws : List V} {ds es : List D}, RepL K B H vs ds → RepL K B H ws es → RepL K B H (vs ++ ws) (ds ++ es)
  | _, _, _, _, .nil, s => s
  | _, _, _, _, .cons a r, s => .cons a (RepL.append r s)
theorem RepL.one {v : V} {d : D} (h : Rep K B H v d) : RepL K B H [v] [d] := .cons h .nil
theorem RepL.take : ∀ {vs : List V} {ds : List D} (n : Nat), RepL K B H vs ds → RepL K B H (vs.take n) (ds.take n)
  | _, _, 0, _ => .nil
  | _, _, _ + 1, .nil => .nil
  | _, _, n + 1, .cons a r => .cons a (RepL.take n r)
theorem RepL.drop : ∀ {vs : List V} {ds : List D} (n : Nat), RepL K B H vs ds → RepL K B H (vs.drop n) (ds.drop n)
  | _, _, 0, r => r
  | _, _, _ + 1, .nil => .nil
  | _, _, n + 1, .cons _ r => RepL.drop n r
theorem RepL.set {v : V} {d : D} (h : Rep K B H v d) : ∀ {vs : List V} {ds : List D} (n : Nat), RepL K B H vs ds → RepL K B H (vs.set n v) (ds.set n d)
  | _, _, _, .nil => .nil
  | _, _, 0, .cons _ r => .cons h r
  | _, _, n + 1, .cons a r => .cons a (RepL.set h n r)
theorem RepL.reverse {vs : List V} {ds : List D} (h : RepL K B H vs ds) : RepL K B H vs.reverse ds.reverse := by
  induction vs generalizing ds with
  | nil => cases h; exact .nil
  | cons v vs ih =>
    cases h with
    | cons a r =>
      rw [List.reverse_cons, List.reverse_cons]
      exact (ih r).append (.one a)
theorem RepL.rep {vs : List V} {ds : List D} (h : RepL K B H vs ds) : ∀ k : Nat, RepL K B H (List.replicate k vs).flatten (List.replicate k ds).flatten
  | 0 => .nil
  | k + 1 => by
    rw [List.replicate_succ, List.replicate_succ, List.flatten_cons, List.flatten_cons]
    exact h.append (RepL.rep h k)
theorem RepL.of_map {α : Type} {f : α → V} {g : α → D} (h : ∀ a, Rep K B H (f a) (g a)) : ∀ l : List α, RepL K B H (l.map f) (l.map g)
  | [] => .nil
  | a :: r => .cons (h a) (RepL.of_map h r)
/-! what is inside, by the value's form -/
theorem Rep.int_inv {v : V} {i : Int} (h : Rep K B H v (.int i)) : v = .int i := by cases h; rfl
theorem Rep.bl_inv {v : V} {i : Bool} (h : Rep K B H v (.bool i)) : v = .bl i := by cases h; rfl
theorem Rep.str_inv {v : V} {i : Str} (h : Rep K B H v (.str i)) : v = .str i := by cases h; rfl
theorem Rep.non_inv {v : V} (h : Rep K B H v .none) : v = .non := by cases h; rfl
theorem Rep.tup_inv {v : V} {ds : List D} (h : Rep K B H v (.tuple ds)) : ∃ a xs, v = .ref a ∧ TupAt K B H a xs ∧ RepL K B H xs ds := by
  cases h with
  | tup a b => exact ⟨_, _, rfl, a, b⟩
theorem Rep.lst_inv {v : V} {ds : List D} (h : Rep K B H v (.list ds)) : ∃ a xs, v = .ref a ∧ H a = some (.lst xs) ∧ ¬ B a ∧ RepL K B H xs ds := by
  cases h with
  | lst a b c => exact ⟨_, _, rfl, a, b, c⟩
theorem RepL.ints : ∀ {vs : List V} {ds : List D} {ns : List Int}, RepL K B H vs ds → intsOf ds = some ns → vs = ns.map .int
  | _, _, _, .nil, e => by cases e; rfl
  | _, _, ns, .cons a r, e => by
    cases a with
    | int i =>
      simp only [intsOf, Option.map_eq_some_iff] at e
      obtain ⟨m, e1, rfl⟩ := e
      rw [RepL.ints r e1]
      rfl
    | _ => cases e
theorem RepL.bools : ∀ {vs : List V} {ds : List D} {ns : List Bool}, RepL K B H vs ds → boolsOf ds = some ns → vs = ns.map .bl
  | _, _, _, .nil, e => by cases e; rfl
  | _, _, ns, .cons a r, e => by
    cases a with
    | bl i =>
      simp only [boolsOf, Option.map_eq_some_iff] at e
      obtain ⟨m, e1, rfl⟩ := e
      rw [RepL.bools r e1]
      rfl
    | _ => cases e
theorem RepL.of_ints (ns : List Int) : RepL K B H (ns.map .int) (ns.map .int) := RepL.of_map (fun i => .int i) ns
end

/-! ### a frame, for an expression -/
/-- what values avoid: the handles' lists, the owned ones -/
def Bo (A : HA) (O : Addr → Prop) (a : Addr) : Prop := inH A a ∨ O a
def ScrAt (K : PySem.W.Frag) (B : Addr → Prop) (H : Hp) (a : Addr) (ns : List Int) : Prop :=
  (∃ o, H a = some (.frz o (.lst (ns.map .int))) ∧ ¬ B a) ∨
    ∃ (o : Obj) (its : Array Value) (n : Nat), K.lookup a = some o ∧ o.cls = .type "list" ∧ o.dict = none ∧ o.data = .seq its n ∧ its.size ≤ sizeLine ∧ Vals (ns.map V.int) its.toList
theorem ScrAt.sq {K : PySem.W.Frag} {B : Addr → Prop} {H : Hp} {a : Addr} {xs : List Int} (h : ScrAt K B H a xs) : SqL K H a (xs.map .int) := by
  rcases h with ⟨o, h, _⟩ | h
  · exact .inl (.inr ⟨o, h⟩)
  · exact .inr h
def SlotR (K : PySem.W.Frag) (A : HA) (O : Addr → Prop) (H : Hp) (sl : Slot) (v : Option (Option V)) : Prop :=
  match sl with
  | .non => True
  | .val d => ∃ x, v = some (some x) ∧ Rep K (Bo A O) H x d
  | .own xs => ∃ a vs, v = some (some (.ref a)) ∧ H a = some (.lst vs) ∧ O a ∧ RepL K (Bo A O) H vs xs
  | .hnd n => ∃ p : Addr × Addr, A[n]? = some p ∧ v = some (some (.ref p.1))
  | .scr ns => ∃ a, v = some (some (.ref a)) ∧ ScrAt K (Bo A O) H a ns
/-- the handles, the owned lists -/
structure FH (A : HA) (O : Addr → Prop) (s : S) (H : Hp) : Prop where
  hr : HRel A s H
  on : ∀ a, O a → ¬ inH A a ∧ ∃ o, H a = some o
theorem FH.step {A : HA} {O : Addr → Prop} {s s' : S} {H H' : Hp} (F : FH A O s H) (h : HRel A s' H') (st : Step A H H') : FH A O s' H' :=
  ⟨h, fun a ha => ⟨(F.on a ha).1, let ⟨o, e⟩ := (F.on a ha).2; ⟨o, st a o e (F.on a ha).1⟩⟩⟩
theorem FH.fresh {A : HA} {O : Addr → Prop} {s : S} {H : Hp} (F : FH A O s H) {p : Addr} (e : H p = none) : ¬ Bo A O p := fun z => by
  rcases z with z | z
  · exact F.hr.fresh e z
  · obtain ⟨_, o, q⟩ := F.on p z
    rw [e] at q
    cases q
theorem FH.upd {A : HA} {O : Addr → Prop} {s : S} {H : Hp} (F : FH A O s H) {p : Addr} {o : HO} (e : H p = none) : FH A O s (upd H p o) :=
  F.step (F.hr.upd (F.hr.fresh e)) (Step.upd e)
structure FE (K : PySem.W.Frag) (A : HA) (O : Addr → Prop) (env : Env) (s : S) (σ : St) (H : Hp) : Prop extends FH A O s H where
  sl : ∀ (i : Nat) (x : Slot), env[i]? = some x → SlotR K A O H x σ[i]?
  ln : σ.length = env.length
theorem SlotR.mono {K : PySem.W.Frag} {A : HA} {O O' : Addr → Prop} {H H' : Hp} {sl : Slot} {v : Option (Option V)} (h : SlotR K A O H sl v) (hB : ∀ a, Bo A O' a → Bo A O a ∨ H a = none) (hH : ∀ a o, H a = some o → ¬ Bo A O a → H' a = some o)
    (hO : ∀ xs a, sl = .own xs → v = some (some (.ref a)) → O a → O' a ∧ H' a = H a) : SlotR K A O' H' sl v := by
  cases sl with
  | non => trivial
  | val d => obtain ⟨x, e, r⟩ := h; exact ⟨x, e, r.mono hB hH⟩
  | own xs =>
    obtain ⟨a, vs, e, q, o, r⟩ := h
    obtain ⟨o', q'⟩ := hO xs a rfl e o
    exact ⟨a, vs, e, q'.trans q, o', r.mono hB hH⟩
  | hnd n => exact h
  | scr ns =>
    obtain ⟨a, e, h⟩ := h
    refine ⟨a, e, ?_⟩
    rcases h with ⟨o, q, n⟩ | h
    · exact .inl ⟨o, hH _ _ q n, fun z => (hB _ z).elim n fun q' => by rw [q] at q'; cases q'⟩
    · exact .inr h
theorem FE.step {K : PySem.W.Frag} {A : HA} {O : Addr → Prop} {env : Env} {s s' : S} {σ : St} {H H' : Hp} (F : FE K A O env s σ H) (h : HRel A s' H') (st : Step A H H') : FE K A O env s' σ H' := by
  refine ⟨F.toFH.step h st, fun i x e => (F.sl i x e).mono (fun _ z => .inl z) (fun a o q n => st a o q fun z => n (.inl z)) fun xs a ex ev ho => ⟨ho, ?_⟩, F.ln⟩
  have q := F.sl i x e
  rw [ex] at q
  obtain ⟨a', vs, e1, q1, _, _⟩ := q
  rw [ev] at e1
  cases e1
  rw [q1]
  exact st _ _ q1 (F.on _ ho).1
theorem Rep.step {K : PySem.W.Frag} {A : HA} {O : Addr → Prop} {H H' : Hp} {v : V} {d : D} (r : Rep K (Bo A O) H v d) (st : Step A H H') : Rep K (Bo A O) H' v d := r.mono (fun _ z => .inl z) fun a o q n => st a o q fun z => n (.inl z)
theorem RepL.step {K : PySem.W.Frag} {A : HA} {O : Addr → Prop} {H H' : Hp} {v : List V} {d : List D} (r : RepL K (Bo A O) H v d) (st : Step A H H') : RepL K (Bo A O) H' v d := r.mono (fun _ z => .inl z) fun a o q n => st a o q fun z => n (.inl z)
/-- the same, or an owned list -/
def Rep1 (K : PySem.W.Frag) (A : HA) (O : Addr → Prop) (H : Hp) (v : V) (d : D) : Prop :=
  Rep K (Bo A O) H v d ∨ ∃ a vs ds, v = .ref a ∧ d = .list ds ∧ H a = some (.lst vs) ∧ O a ∧ RepL K (Bo A O) H vs ds
theorem Rep1.step {K : PySem.W.Frag} {A : HA} {O : Addr → Prop} {s : S} {H H' : Hp} {v : V} {d : D} (F : FH A O s H) (r : Rep1 K A O H v d) (st : Step A H H') : Rep1 K A O H' v d := by
  rcases r with r | ⟨a, vs, ds, e1, e2, e3, e4, e5⟩
  · exact .inl (r.step st)
  · exact .inr ⟨a, vs, ds, e1, e2, st _ _ e3 (F.on _ e4).1, e4, e5.step st⟩
section
variable {K : PySem.W.Frag} {A : HA} {O : Addr → Prop} {H : Hp} {v : V}
theorem Rep1.int_inv {i : Int} (h : Rep1 K A O H v (.int i)) : v = .int i := by rcases h with h | ⟨_, _, _, _, e, _⟩; exact h.int_inv; cases e
theorem Rep1.bl_inv {i : Bool} (h : Rep1 K A O H v (.bool i)) : v = .bl i := by rcases h with h | ⟨_, _, _, _, e, _⟩; exact h.bl_inv; cases e
theorem Rep1.str_inv {i : Str} (h : Rep1 K A O H v (.str i)) : v = .str i := by rcases h with h | ⟨_, _, _, _, e, _⟩; exact h.str_inv; cases e
theorem Rep1.non_inv (h : Rep1 K A O H v .none) : v = .non := by rcases h with h | ⟨_, _, _, _, e, _⟩; exact h.non_inv; cases e
theorem Rep1.tup_inv {ds : List D} (h : Rep1 K A O H v (.tuple ds)) : ∃ a xs, v = .ref a ∧ TupAt K (Bo A O) H a xs ∧ RepL K (Bo A O) H xs ds := by rcases h with h | ⟨_, _, _, _, e, _⟩; exact h.tup_inv; cases e
theorem Rep1.lst_inv {ds : List D} (h : Rep1 K A O H v (.list ds)) : ∃ a xs, v = .ref a ∧ H a = some (.lst xs) ∧ RepL K (Bo A O) H xs ds := by
  rcases h with h | ⟨a, vs, ds', e1, e2, e3, _, e5⟩
  · obtain ⟨a, xs, e1, e2, _, e3⟩ := h.lst_inv
    exact ⟨a, xs, e1, e2, e3⟩
  · cases e2
    exact ⟨a, vs, e1, e3, e5⟩
theorem Rep1.items {d : D} {ds : List D} (h : Rep1 K A O H v d) (e : itemsOf d = some ds) : ∃ a xs, v = .ref a ∧ (SqL K H a xs ∨ SqT K H a xs) ∧ RepL K (Bo A O) H xs ds := by
  cases d with
  | list xs => cases e; obtain ⟨a, xs, e1, e2, e3⟩ := h.lst_inv; exact ⟨a, xs, e1, .inl (.of e2), e3⟩
  | tuple xs => cases e; obtain ⟨a, xs, e1, e2, e3⟩ := h.tup_inv; exact ⟨a, xs, e1, .inr e2.sq, e3⟩
  | _ => cases e
end
mutual
theorem Rep.dp {K : PySem.W.Frag} {B : Addr → Prop} {H : Hp} : ∀ {v : V} {d : D}, Rep K B H v d → Dp K H v d
  | _, _, .non => .non
  | _, _, .bl b => .bl b
  | _, _, .int i => .int i
  | _, _, .str x => .str x
  | _, _, .lst e _ r => .lst (.of e) (RepL.dp r)
  | _, _, .tup h r => .tup h.sq (RepL.dp r)
theorem RepL.dp {K : PySem.W.Frag} {B : Addr → Prop} {H : Hp} : ∀ {vs : List V} {ds : List D}, RepL K B H vs ds → DpAll K H vs ds
  | _, _, .nil => .nil
  | _, _, .cons a r => .cons (Rep.dp a) (RepL.dp r)
end
theorem Rep1.dp {K : PySem.W.Frag} {A : HA} {O : Addr → Prop} {H : Hp} {v : V} {d : D} (h : Rep1 K A O H v d) : Dp K H v d := by
  rcases h with h | ⟨a, vs, ds, rfl, rfl, e3, _, e5⟩
  · exact h.dp
  · exact .lst (.of e3) e5.dp
end L2.NB
set_option Elab.async false
set_option linter.all false
set_option maxRecDepth 100000
set_option maxHeartbeats 4000000
/-! NB2M: tuple * int, any number of times. -/
namespace L2.NB
open PySem PySem.Spec PyProof.Rows
theorem tuple_mul1 (l : Addr) (items : Array Value) (n : Nat) (dd : Option Addr) (sl : Array (Option Value)) (x : Int) (u : Tok) (c0 : (decide (x < -(2 ^ 63)) || decide (x ≥ 2 ^ 63)) = false) (c1 : (items.isEmpty || x == 1) = true) :
    Meets (Builtin.«tuple.__mul__» ⟨[.ref l, .int x u], []⟩) (fun _ R s => s.heap.get? l = some { cls := .type "tuple", dict := dd, data := .seq items n, slots := sl } ∧
      R (.ok (.ret (Value.ref l))) s) :=
  .of_wp fun prog w A R s h => by
    obtain ⟨hp, g, d, tk, os⟩ := s
    obtain ⟨hl, h⟩ := h
    have f1 := AutoSeq1.idx_int
    wp_walk using wpAny_loadPart' hl
    repeat (first
      | (refine wpAny_ite_false (decide_eq_false (by rw [c0]; exact Bool.false_ne_true)) ?_; wp_walk using wpAny_loadPart' hl)
      | (refine wpAny_ite_true (decide_eq_true c1) ?_; wp_walk using wpAny_loadPart' hl))
    exact ⟨_, rfl, h⟩
theorem tuple_mul0 (l : Addr) (items : Array Value) (n : Nat) (dd : Option Addr) (sl : Array (Option Value)) (x : Int) (u : Tok) (c0 : (decide (x < -(2 ^ 63)) || decide (x ≥ 2 ^ 63)) = false) (c1 : (items.isEmpty || x == 1) = false) (c2 : (decide (x ≤ 0) || items.isEmpty) = true) :
    Meets (Builtin.«tuple.__mul__» ⟨[.ref l, .int x u], []⟩) (fun _ R s => s.heap.get? l = some { cls := .type "tuple", dict := dd, data := .seq items n, slots := sl } ∧
      R (.ok (.ret (Value.ref s.heap.objs.size))) { s with heap := s.heap.push { cls := Value.type "tuple", data := Data.seq #[] }, toks := s.toks }) :=
  .of_wp fun prog w A R s h => by
    obtain ⟨hp, g, d, tk, os⟩ := s
    obtain ⟨hl, h⟩ := h
    have f1 := AutoSeq1.idx_int
    wp_walk using wpAny_loadPart' hl
    repeat (first
      | (refine wpAny_ite_false (decide_eq_false (by rw [c0]; exact Bool.false_ne_true)) ?_; wp_walk using wpAny_loadPart' hl)
      | (refine wpAny_ite_false (decide_eq_false (by rw [c1]; exact Bool.false_ne_true)) ?_; wp_walk using wpAny_loadPart' hl)
      | (refine wpAny_ite_true (decide_eq_true c2) ?_; wp_walk using wpAny_loadPart' hl))
    exact ⟨_, rfl, h⟩
def rRepU (K : PySem.W.Frag) : R2 := fun x y H Q => ∃ l k xs, x = .ref l ∧ y = .int k ∧ SqT K H l xs ∧ -1000 ≤ k ∧ k ≤ 1000 ∧ xs.length ≤ 1000 ∧
  ((xs = [] ∨ k = 1) → Q (.ref l) H) ∧ (xs ≠ [] → k ≠ 1 → ∀ p, H p = none → Q (.ref p) (upd H p (.tup (List.replicate k.toNat xs).flatten)))
theorem op_repU {X : Cx} : OpR X (binaryOp .Mult) (rRepU X.K) := by
  intro pins s σ H x y v u Q I rx ry h
  obtain ⟨l, k, xs, rfl, rfl, hT, h1, h2, hz, q1, q2⟩ := h
  have hT0 := hT
  have rx0 := rx
  have ry0 := ry
  cases rx
  obtain ⟨t, rfl⟩ := ry
  obtain ⟨its, r, ⟨⟨cls, dd, data, sl⟩, ho, hc, n, hd⟩, hs⟩ := I.tuple hT
  simp only at hc hd
  subst hc hd
  have hle : its.length = xs.length := r.length.symm
  have c0 : (decide (k < -(2 ^ 63)) || decide (k ≥ 2 ^ 63)) = false := by
    rw [decide_eq_false (by omega), decide_eq_false (by omega)] <;> rfl
  by_cases hc : (its.toArray.isEmpty || k == 1) = true
  · have hxs : xs = [] ∨ k = 1 := by
      rw [Bool.or_eq_true] at hc
      rcases hc with hc | hc
      · left
        cases its with
        | nil => exact List.eq_nil_of_length_eq_zero hle.symm
        | cons a b => cases hc
      · exact .inr (eq_of_beq hc)
    refine wpAny_binaryOp_repeat_ref (T := "tuple") (U := "int") (by decide) ⟨_, ho, rfl⟩ (fun s' => typeIs_int s' k t) noFill_tuple_mul PySem.F.fills_int_mul PySem.F.slot_int_rmul repeat_tuple PySem.F.slot_int_index.lookup
      (call_meets PySem.F.slot_int_rmul (typeIs_int s k t) PySem.F.entry_int_rmul (PySem.F.args_int_rmul_2 _ _) (int_rmul_tuple k t l its.toArray n dd sl)
        ⟨ho, rfl, ⟨_, ho, rfl⟩, call_meets PySem.F.slot_tuple_mul ⟨_, ho, rfl⟩ PySem.F.entry_tuple_mul (PySem.F.args_tuple_mul_2 _ _) (tuple_mul1 l its.toArray n dd sl k t c0 hc) ⟨ho, ?_⟩⟩)
    exact ⟨.ref l, H, I, rfl, q1 hxs⟩
  · have hc : (its.toArray.isEmpty || k == 1) = false := by rwa [Bool.not_eq_true] at hc
    have hxs : xs ≠ [] := fun z => by
      subst z
      have := List.eq_nil_of_length_eq_zero hle
      subst this
      cases hc
    have hk : k ≠ 1 := fun z => by
      subst z
      rw [Bool.or_eq_false_iff] at hc
      exact absurd hc.2 (by decide)
    by_cases h0 : 2 ≤ k
    · exact op_repT (X := X) pins s σ H _ _ _ _ Q I rx0 ry0 ⟨l, k, xs, rfl, rfl, hT0, hxs, h0, h2, hz, q2 hxs hk⟩
    · have h00 : k ≤ 0 := by omega
      have hn : k.toNat = 0 := by omega
      have q2 := q2 hxs hk
      rw [hn] at q2
      refine wpAny_binaryOp_repeat_ref (T := "tuple") (U := "int") (by decide) ⟨_, ho, rfl⟩ (fun s' => typeIs_int s' k t) noFill_tuple_mul PySem.F.fills_int_mul PySem.F.slot_int_rmul repeat_tuple PySem.F.slot_int_index.lookup
        (call_meets PySem.F.slot_int_rmul (typeIs_int s k t) PySem.F.entry_int_rmul (PySem.F.args_int_rmul_2 _ _) (int_rmul_tuple k t l its.toArray n dd sl)
          ⟨ho, rfl, ⟨_, ho, rfl⟩, call_meets PySem.F.slot_tuple_mul ⟨_, ho, rfl⟩ PySem.F.entry_tuple_mul (PySem.F.args_tuple_mul_2 _ _) (tuple_mul0 l its.toArray n dd sl k t c0 hc (by rw [decide_eq_true h00]; rfl)) ⟨ho, ?_⟩⟩)
      refine ⟨.ref s.heap.objs.size, _, I.laid (t' := s.toks) (o := .tup []) (fun b ob q => Heap.get?_push_of_some _ q) (Nat.le_refl _) ?_, rfl, q2 _ (I.hok.fresh (Nat.le_refl _))⟩
      exact ⟨by decide, _, r.rep 0, IsTup.new _ _⟩
end L2.NB
set_option Elab.async false
set_option linter.all false
set_option maxRecDepth 100000
/-! NB3: what each form of an expression evaluates to. -/
namespace L2.NB
open PySem PySem.Spec PyProof.Rows

/-- where a piece of the text stands: the program, the world, the written part, the module's names, the base, the names by slot, the scope, the room -/
structure Ctx where
  pw : Program
  w : World
  K : PySem.W.Frag
  mg : Str → Option Value
  base : Heap
  N : List Str
  sc : Scope
  n : Nat
  fn : Str → Bool
structure Ctx.Has (Γ : Ctx) (X : Cx) : Prop where
  prog : X.prog = Γ.pw
  w : X.w = Γ.w
  K : X.K = Γ.K
  mg : X.mg = Γ.mg
  base : X.base = Γ.base
  N : X.N = Γ.N
  nd : Γ.N.Nodup
  sc : X.env.scope = Γ.sc
  kind : Γ.sc.kind = .function
  calm : X.calm = true
  room : Room Γ.n X.A
  gd : X.A.guards = some []
  xe : X.xe = fun _ _ => False
  fn : X.fn = Γ.fn
theorem Ctx.Has.gl {Γ : Ctx} {X : Cx} (h : Γ.Has X) {x : Str} (e : Γ.sc.names.lookup x = some .globalImplicit) : Gl X x := by
  unfold Gl Env.kindOf
  rw [h.sc]
  exact e
theorem Ctx.Has.mgn {Γ : Ctx} {X : Cx} (h : Γ.Has X) {x : Str} {o : Option Value} (e : Γ.mg x = o) : X.mg x = o := by
  rw [h.mg]
  exact e
theorem Ctx.Has.hu {Γ : Ctx} {X : Cx} (h : Γ.Has X) : X.A.units + 65 < cLine := by
  have := h.room.un
  omega
theorem Ctx.Has.op_catA {Γ : Ctx} {X : Cx} (h : Γ.Has X) : OpR X (binaryOp .Add) (rCatA Γ.K) := by have hK := h.K; rw [← hK]; exact L2.op_catA
theorem Ctx.Has.op_repU {Γ : Ctx} {X : Cx} (h : Γ.Has X) : OpR X (binaryOp .Mult) (rRepU Γ.K) := by have hK := h.K; rw [← hK]; exact NB.op_repU
/-- a built-in's name -/
def Blt (Γ : Ctx) (x : Str) : Prop := Γ.sc.names.lookup x = some .globalImplicit ∧ Γ.mg x = none
section
variable {Γ : Ctx} {k : CallT}
/-- an expression goes as the evaluator says; R: how its value stands for the evaluator's -/
def G (R : HA → (Addr → Prop) → Hp → V → D → Prop) (Γ : Ctx) (k : CallT) (e : Expr) (c : E) : Prop :=
  ∃ t, (∀ X, Γ.Has X → PE X e t) ∧ ∀ (A : HA) (O : Addr → Prop) (v : Env) (s : S) (σ : St) (H : Hp) (Q : VK) (d : D) (s' : S), FE Γ.K A O v s σ H → ev k c v s = .ok d s' →
    (∀ x H', HRel A s' H' → Step A H H' → R A O H' x d → Q x H') → t σ H Q
abbrev GE (Γ : Ctx) : CallT → Expr → E → Prop := G (fun A O H v d => Rep Γ.K (Bo A O) H v d) Γ
abbrev GT (Γ : Ctx) : CallT → Expr → E → Prop := G (fun A O H v d => Rep1 Γ.K A O H v d) Γ
theorem GE.t {e : Expr} {c : E} (h : GE Γ k e c) : GT Γ k e c := by
  obtain ⟨t, p, g⟩ := h
  exact ⟨t, p, fun A O v s σ H Q d s' F e q => g A O v s σ H Q d s' F e fun x H' a b r => q x H' a b (.inl r)⟩
/-- a list of expressions; of arguments -/
def GL (Γ : Ctx) (k : CallT) (es : List Expr) (cs : List E) : Prop :=
  ∃ t, (∀ X, Γ.Has X → PA X es t) ∧ ∀ (A : HA) (O : Addr → Prop) (v : Env) (s : S) (σ : St) (H : Hp) (Q : List V → Hp → Prop) (ds : List D) (s' : S), FE Γ.K A O v s σ H → evL k cs v s = .ok ds s' →
    (∀ xs H', HRel A s' H' → Step A H H' → RepL Γ.K (Bo A O) H' xs ds → Q xs H') → t σ H Q
def AVR (K : PySem.W.Frag) (A : HA) (O : Addr → Prop) (H : Hp) (v : V) (x : AV) : Prop := match x with
  | .d d => Rep K (Bo A O) H v d
  | .h n => ∃ p : Addr × Addr, A[n]? = some p ∧ v = .ref p.1
  | .s ns => ∃ a, v = .ref a ∧ ScrAt K (Bo A O) H a ns
def ArgsR (K : PySem.W.Frag) (A : HA) (O : Addr → Prop) (H : Hp) : List V → List AV → Prop
  | [], [] => True
  | v :: vs, x :: xs => AVR K A O H v x ∧ ArgsR K A O H vs xs
  | _, _ => False
theorem ArgsR.length {K : PySem.W.Frag} {A : HA} {O : Addr → Prop} {H : Hp} : ∀ {vs : List V} {xs : List AV}, ArgsR K A O H vs xs → vs.length = xs.length
  | [], [], _ => rfl
  | _ :: _, _ :: _, h => congrArg Nat.succ (ArgsR.length h.2)
theorem AVR.step {K : PySem.W.Frag} {A : HA} {O : Addr → Prop} {H H' : Hp} {v : V} {x : AV} (h : AVR K A O H v x) (st : Step A H H') : AVR K A O H' v x := by
  cases x with
  | d d => exact Rep.step h st
  | h n => exact h
  | s ns =>
    obtain ⟨a, e, q⟩ := h
    refine ⟨a, e, ?_⟩
    rcases q with ⟨o, q, n⟩ | q
    · exact .inl ⟨o, st a _ q fun z => n (.inl z), n⟩
    · exact .inr q
def GA (Γ : Ctx) (k : CallT) (es : List Expr) (cs : List E) : Prop :=
  ∃ t, (∀ X, Γ.Has X → PA X es t) ∧ ∀ (A : HA) (O : Addr → Prop) (v : Env) (s : S) (σ : St) (H : Hp) (Q : List V → Hp → Prop) (ds : List AV) (s' : S), FE Γ.K A O v s σ H → evA k cs v s = .ok ds s' →
    (∀ xs H', HRel A s' H' → Step A H H' → ArgsR Γ.K A O H' xs ds → Q xs H') → t σ H Q
/-- a test -/
def GB (Γ : Ctx) (k : CallT) (e : Expr) (c : E) : Prop :=
  ∃ t, (∀ X, Γ.Has X → PT X e t) ∧ ∀ (A : HA) (O : Addr → Prop) (v : Env) (s : S) (σ : St) (H : Hp) (Q : Bool → Hp → Prop) (b : Bool) (s' : S), FE Γ.K A O v s σ H → tst k c v s = .ok b s' →
    (∀ H', HRel A s' H' → Step A H H' → Q b H') → t σ H Q

/-! ### names, constants -/
theorem g_int {i : Int} {j : Nat} {pos : Pos} : GE Γ k (.Constant (.int i) j pos) (.cst (.int i)) :=
  ⟨_, fun X hX => pe_int, fun A O v s σ H Q d s' F e q => by cases e; exact q _ H F.hr .refl (.int i)⟩
theorem g_bool {b : Bool} {j : Nat} {pos : Pos} : GE Γ k (.Constant (.bool b) j pos) (.cst (.bool b)) :=
  ⟨_, fun X hX => pe_bl, fun A O v s σ H Q d s' F e q => by cases e; exact q _ H F.hr .refl (.bl b)⟩
theorem g_none {j : Nat} {pos : Pos} : GE Γ k (.Constant .none j pos) (.cst .none) :=
  ⟨_, fun X hX => pe_non, fun A O v s σ H Q d s' F e q => by cases e; exact q _ H F.hr .refl .non⟩
theorem g_str {x : Str} {j : Nat} {pos : Pos} : GE Γ k (.Constant (.str x) j pos) (.cst (.str x)) :=
  ⟨_, fun X hX => pe_str, fun A O v s σ H Q d s' F e q => by cases e; exact q _ H F.hr .refl (.str x)⟩
theorem g_var {i : Nat} {x : Str} {pos : Pos} (hN : Γ.N[i]? = some x) (hv : Vis Γ.sc x) (hd : (x == ("__debug__" : Str)) = false) (hcd : (x == ("__classdict__" : Str)) = false) : GE Γ k (.Name x pos) (.var i) := by
  refine ⟨tVar i, fun X hX => pe_var (by rw [hX.N]; exact hN) (by rw [hX.sc]; exact hv) hd hcd, fun A O v s σ H Q d s' F e q => ?_⟩
  unfold ev at e
  obtain ⟨e1, rfl⟩ := lift_ok e
  unfold getV at e1
  split at e1
  · rename_i d' hd'
    cases e1
    obtain ⟨x, hx, r⟩ := F.sl i _ hd'
    exact ⟨x, hx, q x H F.hr .refl r⟩
  · cases e1
theorem g_varT {i : Nat} {x : Str} {pos : Pos} (hN : Γ.N[i]? = some x) (hv : Vis Γ.sc x) (hd : (x == ("__debug__" : Str)) = false) (hcd : (x == ("__classdict__" : Str)) = false) : GT Γ k (.Name x pos) (.varT i) := by
  refine ⟨tVar i, fun X hX => pe_var (by rw [hX.N]; exact hN) (by rw [hX.sc]; exact hv) hd hcd, fun A O v s σ H Q d s' F e q => ?_⟩
  unfold ev at e
  obtain ⟨e1, rfl⟩ := lift_ok e
  unfold getT at e1
  split at e1
  · rename_i d' hd'
    cases e1
    obtain ⟨x, hx, r⟩ := F.sl i _ hd'
    exact ⟨x, hx, q x H F.hr .refl (.inl r)⟩
  · rename_i xs hd'
    cases e1
    obtain ⟨a, vs, hx, r1, r2, r3⟩ := F.sl i _ hd'
    exact ⟨_, hx, q _ H F.hr .refl (.inr ⟨a, vs, xs, rfl, rfl, r1, r2, r3⟩)⟩
  · cases e1
/-- a constant of the module -/
def ConstOk (K : PySem.W.Frag) (mg : Str → Option Value) (x : Str) (d : D) : Prop := ∃ (v : V) (u : Value), mg x = some u ∧ RelV v u ∧ ∀ B H, Rep K B H v d
theorem g_glo {x : Str} {d : D} {pos : Pos} (hg : Γ.sc.names.lookup x = some .globalImplicit) (hc : ConstOk Γ.K Γ.mg x d) (hd : (x == ("__debug__" : Str)) = false) : GE Γ k (.Name x pos) (.cst d) := by
  obtain ⟨v, u, h1, h2, h3⟩ := hc
  exact ⟨tC v, fun X hX => pe_glob (hX.gl hg) (hX.mgn h1) h2 hd, fun A O v' s σ H Q d' s' F e q => by cases e; exact q v H F.hr .refl (h3 _ H)⟩

/-! ### operators -/
/-- a reading of two values serves a function of values -/
def Op2 (K : PySem.W.Frag) (r : R2) (f : D → D → Option D) : Prop := ∀ (A : HA) (O : Addr → Prop) (H : Hp) (s : S) (x y : V) (a b d : D) (Q : VK), FH A O s H → Rep1 K A O H x a → Rep1 K A O H y b → f a b = some d →
  (∀ v H', HRel A s H' → Step A H H' → Rep K (Bo A O) H' v d → Q v H') → r x y H Q
theorem ev2_ok {k : CallT} {a b : E} {f : D → D → Option D} {v : Env} {s s' : S} {d : D} (h : (do let x ← ev k a v; let y ← ev k b v; liftO (f x y)) s = .ok d s') :
    ∃ x y s1, ev k a v s = .ok x s1 ∧ ev k b v s1 = .ok y s' ∧ f x y = some d := by
  obtain ⟨x, s1, h1, h⟩ := bind_ok h
  obtain ⟨y, s2, h2, h⟩ := bind_ok h
  obtain ⟨h3, rfl⟩ := lift_ok h
  exact ⟨x, y, s1, h1, h2, h3⟩
theorem g_two {a b : Expr} {ca cb : E} {r : R2} {f : D → D → Option D} {e : Expr} {c : E} (ha : GT Γ k a ca) (hb : GT Γ k b cb) (op : Op2 Γ.K r f) (hp : ∀ X, Γ.Has X → ∀ ta tb, PE X a ta → PE X b tb → PE X e (tOp r ta tb))
    (hc : ∀ v, ev k c v = (do let x ← ev k ca v; let y ← ev k cb v; liftO (f x y))) : GE Γ k e c := by
  obtain ⟨ta, pa, ga⟩ := ha
  obtain ⟨tb, pb, gb⟩ := hb
  refine ⟨_, fun X hX => hp X hX ta tb (pa X hX) (pb X hX), fun A O v s σ H Q d s' F e q => ?_⟩
  rw [hc] at e
  obtain ⟨x, y, s1, e1, e2, e3⟩ := ev2_ok e
  refine ga A O v s σ H _ x s1 F e1 fun x' H1 h1 t1 r1 => ?_
  have F1 := F.step h1 t1
  refine gb A O v s1 σ H1 _ y s' F1 e2 fun y' H2 h2 t2 r2 => ?_
  have F2 := F1.step h2 t2
  exact op A O H2 s' x' y' x y d Q F2.toFH (r1.step F1.toFH t2) r2 e3 fun v' H' h' t' r' => q v' H' h' ((t1.trans t2).trans t') r'
theorem Op2.or {K : PySem.W.Frag} {r r' : R2} {f f' : D → D → Option D} {g : D → D → Option D} (h : Op2 K r f) (h' : Op2 K r' f') (e : ∀ x y d, g x y = some d → f x y = some d ∨ f' x y = some d) :
    Op2 K (fun x y H Q => r x y H Q ∨ r' x y H Q) g := fun A O H s x y a b d Q F r1 r2 ed q => (e a b d ed).elim (fun z => .inl (h A O H s x y a b d Q F r1 r2 z q)) fun z => .inr (h' A O H s x y a b d Q F r1 r2 z q)
/-- two ints -/
def fII (C : Int → Int → Bool) (g : Int → Int → Int) : D → D → Option D
  | .int i, .int j => if C i j = true then some (.int (g i j)) else none
  | _, _ => none
theorem op2_int {K : PySem.W.Frag} {C : Int → Int → Prop} {Cb : Int → Int → Bool} {g : Int → Int → Int} (hC : ∀ i j, Cb i j = true → C i j) : Op2 K (rI C fun i j => .int (g i j)) (fII Cb g) := by
  intro A O H s x y a b d Q F r1 r2 e q
  unfold fII at e
  split at e
  · rename_i i j
    split at e
    · rename_i hc
      cases e
      exact ⟨i, j, r1.int_inv, r2.int_inv, hC i j hc, q _ H F.hr .refl (.int _)⟩
    · cases e
  · cases e
theorem op2_int0 {K : PySem.W.Frag} {g : Int → Int → Int} : Op2 K (rI0 fun i j => .int (g i j)) (fII (fun _ _ => true) g) := by
  intro A O H s x y a b d Q F r1 r2 e q
  unfold fII at e
  split at e
  · rename_i i j
    cases e
    exact ⟨i, j, r1.int_inv, r2.int_inv, q _ H F.hr .refl (.int _)⟩
  · cases e
def fSS : D → D → Option D
  | .str x, .str y => if x.length + y.length ≤ sizeLine then some (.str (x ++ y)) else none
  | _, _ => none
abbrev rSS : R2 := fun x y H Q => ∃ i j, x = .str i ∧ y = .str j ∧ i.length + j.length ≤ sizeLine ∧ Q (.str (i ++ j)) H
theorem op2_str {K : PySem.W.Frag} : Op2 K rSS fSS := by
  intro A O H s x y a b d Q F r1 r2 e q
  unfold fSS at e
  split at e
  · rename_i i j
    split at e
    · rename_i hc
      cases e
      exact ⟨i, j, r1.str_inv, r2.str_inv, hc, q _ H F.hr .refl (.str _)⟩
    · cases e
  · cases e
def fLL : D → D → Option D
  | .list x, .list y => if x.length + y.length ≤ sizeLine then some (.list (x ++ y)) else none
  | _, _ => none
theorem op2_lst {K : PySem.W.Frag} : Op2 K rCat fLL := by
  intro A O H s x y a b d Q F r1 r2 e q
  unfold fLL at e
  split at e
  · rename_i i j
    split at e
    · rename_i hc
      cases e
      obtain ⟨l, xs, rfl, h1, l1⟩ := r1.lst_inv
      obtain ⟨l', ys, rfl, h2, l2⟩ := r2.lst_inv
      refine ⟨l, l', xs, ys, rfl, rfl, h1, h2, by rw [l1.length, l2.length]; exact hc, fun p hp => ?_⟩
      have st : Step A H (upd H p (.lst (xs ++ ys))) := Step.upd hp
      exact q _ _ (F.upd hp).hr st (.lst upd_same (F.fresh hp) ((l1.step st).append (l2.step st)))
    · cases e
  · cases e
def fTT : D → D → Option D
  | .tuple x, .tuple y => if x.length + y.length ≤ sizeLine then some (.tuple (x ++ y)) else none
  | _, _ => none
theorem op2_tup {K : PySem.W.Frag} : Op2 K (rCatA K) fTT := by
  intro A O H s x y a b d Q F r1 r2 e q
  unfold fTT at e
  split at e
  · rename_i i j
    split at e
    · rename_i hc
      cases e
      obtain ⟨l, xs, rfl, h1, l1⟩ := r1.tup_inv
      obtain ⟨l', ys, rfl, h2, l2⟩ := r2.tup_inv
      refine ⟨l, l', xs, ys, rfl, rfl, h1.sq, h2.sq, by rw [l1.length, l2.length]; exact hc, fun z => ?_, fun _ z => ?_, fun _ _ p hp => ?_⟩
      · subst z
        cases l1
        exact q _ H F.hr .refl (.tup h2 l2)
      · subst z
        cases l2
        rw [List.append_nil] at q
        exact q _ H F.hr .refl (.tup h1 l1)
      · have st : Step A H (upd H p (.tup (xs ++ ys))) := Step.upd hp
        exact q _ _ (F.upd hp).hr st (.tup (.inl ⟨upd_same, F.fresh hp⟩) ((l1.step st).append (l2.step st)))
    · cases e
  · cases e
def fLI : D → D → Option D
  | .list x, .int k => if 0 ≤ k ∧ k < 2 ^ 63 ∧ x.length * k.toNat ≤ sizeLine then some (.list (List.replicate k.toNat x).flatten) else none
  | _, _ => none
theorem op2_rep {K : PySem.W.Frag} : Op2 K rRep fLI := by
  intro A O H s x y a b d Q F r1 r2 e q
  unfold fLI at e
  split at e
  · rename_i i j
    split at e
    · rename_i hc
      cases e
      obtain ⟨c1, c2, c3⟩ := hc
      obtain ⟨l, xs, rfl, h1, l1⟩ := r1.lst_inv
      refine ⟨l, j, xs, rfl, r2.int_inv, h1, by omega, c2, by rw [l1.length]; exact c3, fun p hp => ?_⟩
      have st : Step A H (upd H p (.lst (List.replicate j.toNat xs).flatten)) := Step.upd hp
      exact q _ _ (F.upd hp).hr st (.lst upd_same (F.fresh hp) ((l1.step st).rep _))
    · cases e
  · cases e
def fTI : D → D → Option D
  | .tuple x, .int k => if -1000 ≤ k ∧ k ≤ 1000 ∧ x.length ≤ 1000 then some (.tuple (List.replicate k.toNat x).flatten) else none
  | _, _ => none
theorem op2_repU {K : PySem.W.Frag} : Op2 K (rRepU K) fTI := by
  intro A O H s x y a b d Q F r1 r2 e q
  unfold fTI at e
  split at e
  · rename_i i j
    split at e
    · rename_i hc
      cases e
      obtain ⟨c1, c2, c3⟩ := hc
      have r10 := r1
      obtain ⟨l, xs, rfl, h1, l1⟩ := r1.tup_inv
      refine ⟨l, j, xs, rfl, r2.int_inv, h1.sq, c1, c2, by rw [l1.length]; exact c3, fun hz => ?_, fun hne hj p hp => ?_⟩
      · have ed : (List.replicate j.toNat i).flatten = i := by
          rcases hz with rfl | rfl
          · cases l1
            induction j.toNat with
            | zero => rfl
            | succ n ih => rw [List.replicate_succ, List.flatten_cons, ih]; rfl
          · simp
        rw [ed] at q
        exact q _ _ F.hr (fun _ _ h _ => h) (.tup h1 l1)
      · have st : Step A H (upd H p (.tup (List.replicate j.toNat xs).flatten)) := Step.upd hp
        exact q _ _ (F.upd hp).hr st (.tup (.inl ⟨upd_same, F.fresh hp⟩) ((l1.step st).rep _))
    · cases e
  · cases e
/-- // by any divisor but 0, below 2 ^ 9000 -/
theorem op_fdivA {X : Cx} : OpR X (binaryOp .FloorDiv) (rI (fun _ j => divOk j = true) fun i j => .int (i.fdiv j)) := opI fun i j _ _ _ _ _ hc q => by
  unfold divOk at hc
  simp only [Bool.and_eq_true, decide_eq_true_eq] at hc
  exact floordiv_int hc.1 q (.inl (PyProof.noPylong_of_log2 hc.2))
def opOf : Bop → Operator
  | .add => .Add | .sub => .Sub | .mul => .Mult | .fdiv => .FloorDiv | .mod => .Mod | .pow => .Pow
theorem g_bin {o : Bop} {a b : Expr} {ca cb : E} {pos : Pos} (ha : GT Γ k a ca) (hb : GT Γ k b cb) : GE Γ k (.BinOp a (opOf o) b pos) (.bin o ca cb) := by
  cases o with
  | add =>
    refine g_two (r := fun x y H Q => rI0 (fun i j => V.int (i + j)) x y H Q ∨ (rSS x y H Q ∨ (rCat x y H Q ∨ rCatA Γ.K x y H Q))) (f := binD .add) ha hb
      (Op2.or (op2_int0 (g := fun i j => i + j)) (Op2.or op2_str (Op2.or op2_lst op2_tup (g := fun x y => (fLL x y).or (fTT x y)) fun x y d h => by cases e : fLL x y <;> simp_all)
        (g := fun x y => (fSS x y).or ((fLL x y).or (fTT x y))) fun x y d h => by cases e : fSS x y <;> simp_all) fun x y d h => ?_) (fun X hX ta tb pa pb => pe_op (op_add.or (op_add_str.or (op_cat.or hX.op_catA))) pa pb) (fun v => by rw [ev])
    unfold binD at h
    split at h <;> first | (cases h; done) | (left; exact h) | (right; simp [fSS, fLL, fTT, h]; done) | skip
    all_goals first | (right; rename_i x y; first | (simp only [fSS] at *; simp_all; done) | (simp only [fLL, fTT, fSS] at *; simp_all; done)) | (rename_i hne; cases hne)
  | sub =>
    refine g_two (r := rI0 fun i j => V.int (i - j)) (f := binD .sub) ha hb (fun A O H s x y a b d Q F r1 r2 e q => op2_int0 (g := fun i j => i - j) A O H s x y a b d Q F r1 r2 ?_ q) (fun X hX ta tb pa pb => pe_op op_sub pa pb) (fun v => by rw [ev])
    unfold binD at e
    split at e <;> first | (cases e; done) | (rename_i hne; cases hne; done) | exact e
  | mul =>
    refine g_two (r := fun x y H Q => rI CMulW (fun i j => V.int (i * j)) x y H Q ∨ (rRep x y H Q ∨ rRepU Γ.K x y H Q)) (f := binD .mul) ha hb
      (Op2.or (op2_int (Cb := mulOk) (g := fun i j => i * j) fun i j h => by unfold CMulW; exact of_decide_eq_true (p := i.natAbs.log2 + j.natAbs.log2 < 1000000) h) (Op2.or op2_rep op2_repU (g := fun x y => (fLI x y).or (fTI x y)) fun x y d h => by cases e : fLI x y <;> simp_all) fun x y d h => ?_) (fun X hX ta tb pa pb => pe_op (op_mulW.or (op_rep.or hX.op_repU)) pa pb) (fun v => by rw [ev])
    unfold binD at h
    split at h <;> first | (cases h; done) | (left; exact h) | skip
    all_goals first | (right; simp only [fLI, fTI]; simp_all; done) | (rename_i hne; cases hne)
  | fdiv =>
    refine g_two (r := rI (fun _ j => divOk j = true) fun i j => V.int (i.fdiv j)) (f := binD .fdiv) ha hb (fun A O H s x y a b d Q F r1 r2 e q => op2_int (Cb := fun _ j => divOk j) (g := fun i j => i.fdiv j) (fun _ _ h => h) A O H s x y a b d Q F r1 r2 ?_ q)
      (fun X hX ta tb pa pb => pe_op op_fdivA pa pb) (fun v => by rw [ev])
    unfold binD at e
    split at e <;> first | (cases e; done) | (rename_i hne; cases hne; done) | exact e
  | mod =>
    refine g_two (r := rI (fun _ j => j ≠ 0) fun i j => V.int (i.fmod j)) (f := binD .mod) ha hb (fun A O H s x y a b d Q F r1 r2 e q => op2_int (Cb := fun _ j => decide (j ≠ 0)) (g := fun i j => i.fmod j) (fun _ _ h => of_decide_eq_true h) A O H s x y a b d Q F r1 r2 ?_ q)
      (fun X hX ta tb pa pb => pe_op op_modN pa pb) (fun v => by rw [ev])
    unfold binD at e
    split at e <;> first | (cases e; done) | (rename_i hne; cases hne; done) | (simp only [fII, decide_eq_true_eq]; exact e)
  | pow =>
    refine g_two (r := rI CPow fun i j => V.int (i ^ j.toNat)) (f := binD .pow) ha hb (fun A O H s x y a b d Q F r1 r2 e q => op2_int (Cb := powOk) (g := fun i j => i ^ j.toNat) (fun i j h => ?_) A O H s x y a b d Q F r1 r2 ?_ q)
      (fun X hX ta tb pa pb => pe_op op_pow pa pb) (fun v => by rw [ev])
    · unfold powOk at h
      simp only [Bool.and_eq_true, decide_eq_true_eq] at h
      exact ⟨h.1.1, h.1.2, h.2⟩
    · unfold binD at e
      split at e <;> first | (cases e; done) | (rename_i hne; cases hne; done) | exact e
theorem g_neg {a : Expr} {ca : E} {pos : Pos} (ha : GT Γ k a ca) : GE Γ k (.UnaryOp .USub a pos) (.neg ca) := by
  obtain ⟨ta, pa, ga⟩ := ha
  refine ⟨_, fun X hX => pe_un un_neg (pa X hX), fun A O v s σ H Q d s' F e q => ?_⟩
  unfold ev at e
  obtain ⟨x, s1, e1, e⟩ := bind_ok e
  obtain ⟨e2, rfl⟩ := lift_ok e
  refine ga A O v s σ H _ x _ F e1 fun x' H1 h1 t1 r1 => ?_
  unfold negD at e2
  split at e2
  · cases e2
    exact ⟨_, r1.int_inv, q _ H1 h1 t1 (.int _)⟩
  · cases e2
end
end L2.NB
set_option Elab.async false
set_option linter.all false
set_option maxRecDepth 100000
/-! NB4: comparisons, tests, displays, subscripts, built-ins. -/
namespace L2.NB
open PySem PySem.Spec PyProof.Rows

section
variable {Γ : Ctx} {k : CallT}
/-! ### comparisons -/
def fB (f : D → D → Option Bool) : D → D → Option D := fun x y => (f x y).map .bool
theorem lift_bool {o : Option Bool} : (do let c ← liftO o; M.pure (PyData.bool c)) = liftO (o.map PyData.bool) := by
  cases o <;> rfl
def fLt : D → D → Option Bool
  | .tuple xs, .tuple ys => (intsOf xs).bind fun a => (intsOf ys).map fun b => ltL a b
  | _, _ => none
theorem ltL_eq : ∀ a b : List Int, ltL a b = HT.lexLt a b
  | [], [] => rfl
  | [], _ :: _ => rfl
  | _ :: _, [] => rfl
  | x :: xs, y :: ys => by
    rw [HT.lexLt_cons]
    unfold ltL
    rw [ltL_eq xs ys]
theorem op2_ltT {K : PySem.W.Frag} : Op2 K (rLtT K) (fB fLt) := by
  intro A O H s x y a b d Q F r1 r2 e q
  simp only [fB, fLt] at e
  split at e
  · rename_i xs ys
    simp only [Option.map_eq_some_iff, Option.bind_eq_some_iff] at e
    obtain ⟨c, ⟨ns, e1, ms, e2, rfl⟩, rfl⟩ := e
    obtain ⟨l, us, rfl, h1, l1⟩ := r1.tup_inv
    obtain ⟨l', ws, rfl, h2, l2⟩ := r2.tup_inv
    have z1 := l1.ints e1
    have z2 := l2.ints e2
    subst z1 z2
    refine ⟨l, l', ns, ms, rfl, rfl, h1.sq, h2.sq, ?_⟩
    rw [← ltL_eq]
    exact q _ H F.hr .refl (.bl _)
  · cases e
def fIB (g : Int → Int → Bool) : D → D → Option D
  | .int i, .int j => some (.bool (g i j))
  | _, _ => none
theorem op2_intB {K : PySem.W.Frag} {g : Int → Int → Bool} : Op2 K (rI0 fun i j => .bl (g i j)) (fIB g) := by
  intro A O H s x y a b d Q F r1 r2 e q
  unfold fIB at e
  split at e
  · rename_i i j
    cases e
    exact ⟨i, j, r1.int_inv, r2.int_inv, q _ H F.hr .refl (.bl _)⟩
  · cases e
def fEqv (n : Bool) : D → D → Option D := fun x y => if okEq x = true ∧ okEq y = true then some (.bool (if n then !PyData.eqv x y else PyData.eqv x y)) else none
theorem op2_eq {K : PySem.W.Frag} : Op2 K (rEqD K) (fEqv false) := by
  intro A O H s x y a b d Q F r1 r2 e q
  unfold fEqv at e
  split at e
  · rename_i hc
    cases e
    exact ⟨a, b, r1.dp, r2.dp, hc.1, hc.2, q _ H F.hr .refl (.bl _)⟩
  · cases e
theorem op2_ne {K : PySem.W.Frag} : Op2 K (rNeD K) (fEqv true) := by
  intro A O H s x y a b d Q F r1 r2 e q
  unfold fEqv at e
  split at e
  · rename_i hc
    cases e
    exact ⟨a, b, r1.dp, r2.dp, hc.1, hc.2, q _ H F.hr .refl (.bl _)⟩
  · cases e
abbrev rIsN : R2 := fun x y H Q => y = .non ∧ Q (.bl (decide (x = .non))) H
abbrev rNoN : R2 := fun x y H Q => y = .non ∧ Q (.bl (!decide (x = .non))) H
def isN : D → Bool
  | .none => true
  | _ => false
theorem isN_rep {K : PySem.W.Frag} {A : HA} {O : Addr → Prop} {H : Hp} {v : V} {d : D} (h : Rep1 K A O H v d) : decide (v = .non) = isN d := by
  rcases h with h | ⟨_, _, _, rfl, rfl, _⟩
  · cases h <;> rfl
  · rfl
def fIsN : D → D → Option D
  | x, .none => some (.bool (isN x))
  | _, _ => none
def fNoN : D → D → Option D
  | x, .none => some (.bool (!isN x))
  | _, _ => none
theorem op2_isN {K : PySem.W.Frag} : Op2 K rIsN fIsN := by
  intro A O H s x y a b d Q F r1 r2 e q
  unfold fIsN at e
  split at e
  · cases e
    refine ⟨r2.non_inv, ?_⟩
    rw [isN_rep r1]
    exact q _ H F.hr .refl (.bl _)
  · cases e
theorem op2_noN {K : PySem.W.Frag} : Op2 K rNoN fNoN := by
  intro A O H s x y a b d Q F r1 r2 e q
  unfold fNoN at e
  split at e
  · cases e
    refine ⟨r2.non_inv, ?_⟩
    rw [isN_rep r1]
    exact q _ H F.hr .refl (.bl _)
  · cases e
def fBB (n : Bool) : D → D → Option D
  | .bool a, .bool b => some (.bool (if n then !decide (a = b) else decide (a = b)))
  | _, _ => none
theorem op2_isB {K : PySem.W.Frag} : Op2 K rIsB (fBB false) := by
  intro A O H s x y a b d Q F r1 r2 e q
  unfold fBB at e
  split at e
  · cases e
    exact ⟨_, _, r1.bl_inv, r2.bl_inv, q _ H F.hr .refl (.bl _)⟩
  · cases e
theorem op2_noB {K : PySem.W.Frag} : Op2 K rNotB (fBB true) := by
  intro A O H s x y a b d Q F r1 r2 e q
  unfold fBB at e
  split at e
  · cases e
    exact ⟨_, _, r1.bl_inv, r2.bl_inv, q _ H F.hr .refl (.bl _)⟩
  · cases e
/-- none beside a bool -/
def rIsNB (n : Bool) : R2 := fun x y H Q => x = .non ∧ (∃ b, y = .bl b) ∧ Q (.bl n) H
theorem op_isNB {X : Cx} : OpR X (compareOp .Is) (rIsNB false) := by
  intro pins s σ H x y v u Q I rx ry h
  obtain ⟨rfl, ⟨b, rfl⟩, q⟩ := h
  cases (show v = Value.none from rx)
  cases (show u = Value.bool b from ry)
  exact wpAny_is_other rfl (fun z => nomatch z) ⟨.bl false, H, I, rfl, q⟩
theorem op_notNB {X : Cx} : OpR X (compareOp .IsNot) (rIsNB true) := by
  intro pins s σ H x y v u Q I rx ry h
  obtain ⟨rfl, ⟨b, rfl⟩, q⟩ := h
  cases (show v = Value.none from rx)
  cases (show u = Value.bool b from ry)
  exact wpAny_isNot_other rfl (fun z => nomatch z) ⟨.bl true, H, I, rfl, q⟩
def fNB (n : Bool) : D → D → Option D
  | .none, .bool _ => some (.bool n)
  | _, _ => none
theorem op2_NB {K : PySem.W.Frag} {n : Bool} : Op2 K (rIsNB n) (fNB n) := by
  intro A O H s x y a b d Q F r1 r2 e q
  unfold fNB at e
  split at e
  · cases e
    exact ⟨r1.non_inv, ⟨_, r2.bl_inv⟩, q _ H F.hr .refl (.bl _)⟩
  · cases e
/-! ### in -/
abbrev rInS : R2 := fun x y H Q => ∃ i j, x = .str i ∧ y = .str j ∧ Q (.bl (!(Builtin.Str.occurrences j i 0 j.length 1).isEmpty)) H
abbrev rNoS : R2 := fun x y H Q => ∃ i j, x = .str i ∧ y = .str j ∧ Q (.bl (!(!(Builtin.Str.occurrences j i 0 j.length 1).isEmpty))) H
def neg (n b : Bool) : Bool := if n then !b else b
def fInS (n : Bool) : D → D → Option D
  | .str x, .str y => some (.bool (neg n (strIn x y)))
  | _, _ => none
theorem op2_inS {K : PySem.W.Frag} : Op2 K rInS (fInS false) := by
  intro A O H s x y a b d Q F r1 r2 e q
  unfold fInS at e
  split at e
  · cases e
    exact ⟨_, _, r1.str_inv, r2.str_inv, q _ H F.hr .refl (.bl _)⟩
  · cases e
theorem op2_noS {K : PySem.W.Frag} : Op2 K rNoS (fInS true) := by
  intro A O H s x y a b d Q F r1 r2 e q
  unfold fInS at e
  split at e
  · cases e
    exact ⟨_, _, r1.str_inv, r2.str_inv, q _ H F.hr .refl (.bl _)⟩
  · cases e
def fInD (n : Bool) : D → D → Option D
  | x, .list ys => if okEq x = true ∧ okEq (.list ys) = true then some (.bool (neg n (ys.any fun y => PyData.eqv y x))) else none
  | _, _ => none
theorem op2_inD {K : PySem.W.Frag} : Op2 K (rInD K) (fInD false) := by
  intro A O H s x y a b d Q F r1 r2 e q
  unfold fInD at e
  split at e
  · split at e
    · rename_i hc
      cases e
      exact ⟨_, _, r1.dp, r2.dp, hc.1, hc.2, q _ H F.hr .refl (.bl _)⟩
    · cases e
  · cases e
theorem op2_noD {K : PySem.W.Frag} : Op2 K (rNotInD K) (fInD true) := by
  intro A O H s x y a b d Q F r1 r2 e q
  unfold fInD at e
  split at e
  · split at e
    · rename_i hc
      cases e
      exact ⟨_, _, r1.dp, r2.dp, hc.1, hc.2, q _ H F.hr .refl (.bl _)⟩
    · cases e
  · cases e
theorem flat_rep {K : PySem.W.Frag} {B : Addr → Prop} {H : Hp} {v : V} {d : D} (h : Rep K B H v d) (f : flatD d = true) : flatV v = true := by
  cases h <;> first | rfl | cases f
theorem eqv_rep {K : PySem.W.Frag} {B : Addr → Prop} {H : Hp} {v w : V} {d e : D} (h : Rep K B H v d) (h' : Rep K B H w e) (f : flatD d = true) (f' : flatD e = true) : eqV v w = PyData.eqv d e := by
  cases h <;> cases h' <;> first | rfl | cases f | cases f' | (simp [eqV, PyData.eqv])
theorem flat_repL {K : PySem.W.Frag} {B : Addr → Prop} {H : Hp} : ∀ {vs : List V} {ds : List D}, RepL K B H vs ds → ds.all flatD = true → vs.all flatV = true
  | _, _, .nil, _ => rfl
  | _, _, .cons a r, f => by
    rw [List.all_cons, Bool.and_eq_true] at f ⊢
    exact ⟨flat_rep a f.1, flat_repL r f.2⟩
theorem any_repL {K : PySem.W.Frag} {B : Addr → Prop} {H : Hp} {x : V} {dx : D} (hx : Rep K B H x dx) (fx : flatD dx = true) : ∀ {vs : List V} {ds : List D}, RepL K B H vs ds → ds.all flatD = true → inV x vs = ds.any fun y => PyData.eqv y dx
  | _, _, .nil, _ => rfl
  | _, _, .cons a r, f => by
    rw [List.all_cons, Bool.and_eq_true] at f
    unfold inV
    rw [List.any_cons, List.any_cons, eqv_rep a hx f.1 fx]
    congr 1
    exact any_repL hx fx r f.2
def fInT (n : Bool) : D → D → Option D
  | x, .tuple ys => if flatD x = true ∧ ys.all flatD = true then some (.bool (neg n (ys.any fun y => PyData.eqv y x))) else none
  | _, _ => none
theorem rep_of_flat {K : PySem.W.Frag} {A : HA} {O : Addr → Prop} {H : Hp} {v : V} {d : D} (h : Rep1 K A O H v d) (f : flatD d = true) : Rep K (Bo A O) H v d := by
  rcases h with h | ⟨_, _, _, rfl, rfl, _⟩
  · exact h
  · cases f
theorem op2_inT {K : PySem.W.Frag} {n : Bool} : Op2 K (rIn K n) (fInT n) := by
  intro A O H s x y a b d Q F r1 r2 e q
  unfold fInT at e
  split at e
  · rename_i ys
    split at e
    · rename_i hc
      cases e
      obtain ⟨p, us, rfl, h2, l2⟩ := r2.tup_inv
      have r1' := rep_of_flat r1 hc.1
      refine ⟨p, us, rfl, .inr h2.sq, flat_rep r1' hc.1, flat_repL l2 hc.2, ?_⟩
      rw [any_repL r1' hc.1 l2 hc.2]
      exact q _ H F.hr .refl (by cases n <;> exact .bl _)
    · cases e
  · cases e
theorem fInD_list (n : Bool) (x : D) (z : List D) : fInD n x (.list z) = if okEq x = true ∧ okEq (.list z) = true then some (.bool (neg n (z.any fun y => PyData.eqv y x))) else none := by cases x <;> rfl
theorem fInT_tuple (n : Bool) (x : D) (z : List D) : fInT n x (.tuple z) = if flatD x = true ∧ z.all flatD = true then some (.bool (neg n (z.any fun y => PyData.eqv y x))) else none := by cases x <;> rfl
def opC : Cop → CmpOp
  | .lt => .Lt | .le => .LtE | .gt => .Gt | .ge => .GtE | .eq => .Eq | .ne => .NotEq | .is => .Is | .isnot => .IsNot | .mem => .In | .notmem => .NotIn
theorem eqOk_of {a b : D} (h : eqOk a b = true) : (∃ u w, a = .str u ∧ b = .str w) ∨ (okEq a = true ∧ okEq b = true) := by
  unfold eqOk at h
  split at h
  · exact .inl ⟨_, _, rfl, rfl⟩
  · exact .inr (by simpa using h)
/-- a comparison's rule serves cmpD -/
theorem Ctx.Has.op_ltT {X : Cx} (h : Γ.Has X) : OpR X (compareOp .Lt) (rLtT Γ.K) := by have hK := h.K; rw [← hK]; exact L2.op_ltT (by have := h.hu; omega)
theorem Ctx.Has.op_eqD {X : Cx} (h : Γ.Has X) : OpR X (compareOp .Eq) (rEqD Γ.K) := by have hK := h.K; rw [← hK]; exact L2.op_eqD (by have := h.hu; omega)
theorem Ctx.Has.op_neD {X : Cx} (h : Γ.Has X) : OpR X (compareOp .NotEq) (rNeD Γ.K) := by have hK := h.K; rw [← hK]; exact L2.op_neD (by have := h.hu; omega)
theorem Ctx.Has.op_inD {X : Cx} (h : Γ.Has X) : OpR X (compareOp .In) (rInD Γ.K) := by have hK := h.K; rw [← hK]; exact L2.op_inD h.hu
theorem Ctx.Has.op_notInD {X : Cx} (h : Γ.Has X) : OpR X (compareOp .NotIn) (rNotInD Γ.K) := by have hK := h.K; rw [← hK]; exact L2.op_notInD h.hu
theorem Ctx.Has.op_in_seq {X : Cx} (h : Γ.Has X) : OpR X (compareOp .In) (rIn Γ.K false) := by have hK := h.K; rw [← hK]; exact L2.op_in_seq
theorem Ctx.Has.op_notIn_seq {X : Cx} (h : Γ.Has X) : OpR X (compareOp .NotIn) (rIn Γ.K true) := by have hK := h.K; rw [← hK]; exact L2.op_notIn_seq
theorem cmp_rule (Γ : Ctx) (o : Cop) : ∃ r, (∀ X, Γ.Has X → OpR X (compareOp (opC o)) r) ∧ Op2 Γ.K r (fB (cmpD o)) := by
  cases o with
  | lt =>
    refine ⟨fun x y H Q => rI0 (fun i j => V.bl (decide (i < j))) x y H Q ∨ rLtT Γ.K x y H Q, fun X hX => op_lt.or hX.op_ltT, Op2.or op2_intB op2_ltT fun x y d h => ?_⟩
    unfold fB cmpD at h
    split at h <;> first | (cases h; done) | (left; exact h) | skip
    all_goals first | (right; exact h) | (rename_i hne; cases hne; done) | (simp at h; done) | (rename_i hne _; cases hne; done)
  | le =>
    refine ⟨rI0 fun i j => V.bl (decide (i ≤ j)), fun X hX => op_le, fun A O H s x y a b d Q F r1 r2 e q => op2_intB A O H s x y a b d Q F r1 r2 (g := fun i j => decide (i ≤ j)) ?_ q⟩
    unfold fB cmpD at e
    split at e <;> first | (cases e; done) | exact e | (rename_i hne; cases hne; done)
  | gt =>
    refine ⟨rI0 fun i j => V.bl (decide (j < i)), fun X hX => op_gt, fun A O H s x y a b d Q F r1 r2 e q => op2_intB A O H s x y a b d Q F r1 r2 (g := fun i j => decide (j < i)) ?_ q⟩
    unfold fB cmpD at e
    split at e <;> first | (cases e; done) | exact e | (rename_i hne; cases hne; done)
  | ge =>
    refine ⟨rI0 fun i j => V.bl (decide (j ≤ i)), fun X hX => op_ge, fun A O H s x y a b d Q F r1 r2 e q => op2_intB A O H s x y a b d Q F r1 r2 (g := fun i j => decide (j ≤ i)) ?_ q⟩
    unfold fB cmpD at e
    split at e <;> first | (cases e; done) | exact e | (rename_i hne; cases hne; done)
  | eq =>
    refine ⟨fun x y H Q => rEqD Γ.K x y H Q ∨ rEq x y H Q, fun X hX => hX.op_eqD.or op_eq, fun A O H s x y a b d Q F r1 r2 e q => ?_⟩
    have e0 : cmpD .eq a b = if eqOk a b = true then some (PyData.eqv a b) else none := rfl
    unfold fB at e
    rw [e0] at e
    split at e
    · rename_i hc
      rcases eqOk_of hc with ⟨u, w, rfl, rfl⟩ | hc
      · cases e
        cases r1.str_inv
        cases r2.str_inv
        refine .inr ⟨rfl, ?_⟩
        rw [dec_str]
        exact q _ H F.hr .refl (.bl _)
      · refine .inl (op2_eq A O H s x y a b d Q F r1 r2 ?_ q)
        unfold fEqv
        rw [if_pos hc]; exact e
    · cases e
  | ne =>
    refine ⟨fun x y H Q => rNeD Γ.K x y H Q ∨ rNe x y H Q, fun X hX => hX.op_neD.or op_ne, fun A O H s x y a b d Q F r1 r2 e q => ?_⟩
    have e0 : cmpD .ne a b = if eqOk a b = true then some (!PyData.eqv a b) else none := rfl
    unfold fB at e
    rw [e0] at e
    split at e
    · rename_i hc
      rcases eqOk_of hc with ⟨u, w, rfl, rfl⟩ | hc
      · cases e
        cases r1.str_inv
        cases r2.str_inv
        refine .inr ⟨rfl, ?_⟩
        rw [dec_str]
        exact q _ H F.hr .refl (.bl _)
      · refine .inl (op2_ne A O H s x y a b d Q F r1 r2 ?_ q)
        unfold fEqv
        rw [if_pos hc]; exact e
    · cases e
  | is =>
    refine ⟨fun x y H Q => rIsN x y H Q ∨ (rIsB x y H Q ∨ rIsNB false x y H Q), fun X hX => op_isN.or (op_isBl.or op_isNB), Op2.or op2_isN (Op2.or op2_isB op2_NB (g := fun x y => (fBB false x y).or (fNB false x y)) fun x y d h => by cases e : fBB false x y <;> simp_all) fun x y d h => ?_⟩
    cases y with
    | none => left; cases x <;> exact h
    | bool b => right; cases x <;> first | exact h | cases h
    | _ => cases x <;> cases h
  | isnot =>
    refine ⟨fun x y H Q => rNoN x y H Q ∨ (rNotB x y H Q ∨ rIsNB true x y H Q), fun X hX => op_notN.or (op_notBl.or op_notNB), Op2.or op2_noN (Op2.or op2_noB op2_NB (g := fun x y => (fBB true x y).or (fNB true x y)) fun x y d h => by cases e : fBB true x y <;> simp_all) fun x y d h => ?_⟩
    cases y with
    | none => left; cases x <;> exact h
    | bool b => right; cases x <;> first | exact h | cases h
    | _ => cases x <;> cases h
  | mem =>
    refine ⟨fun x y H Q => rInS x y H Q ∨ (rInD Γ.K x y H Q ∨ rIn Γ.K false x y H Q), fun X hX => op_in_str.or (hX.op_inD.or hX.op_in_seq), Op2.or op2_inS (Op2.or op2_inD (op2_inT (n := false)) (g := fun x y => (fInD false x y).or (fInT false x y)) fun x y d h => by cases e : fInD false x y <;> simp_all) fun x y d h => ?_⟩
    cases y with
    | str z => left; cases x <;> first | exact h | cases h
    | list z =>
      right
      have h' : (memD x (.list z)).map PyData.bool = some d := h
      have e : memD x (.list z) = if okEq x = true ∧ okEq (.list z) = true then some (z.any fun y => PyData.eqv y x) else none := by cases x <;> rfl
      rw [e] at h'
      show (fInD false x (.list z)).or none = some d
      rw [fInD_list]
      split at h'
      · rename_i hc; rw [if_pos hc]; cases h'; rfl
      · cases h'
    | tuple z =>
      right
      have h' : (memD x (.tuple z)).map PyData.bool = some d := h
      have e : memD x (.tuple z) = if flatD x = true ∧ z.all flatD = true then some (z.any fun y => PyData.eqv y x) else none := by cases x <;> rfl
      rw [e] at h'
      show (none : Option D).or (fInT false x (.tuple z)) = some d
      rw [fInT_tuple]
      split at h'
      · rename_i hc; rw [if_pos hc]; cases h'; rfl
      · cases h'
    | _ => cases x <;> cases h
  | notmem =>
    refine ⟨fun x y H Q => rNoS x y H Q ∨ (rNotInD Γ.K x y H Q ∨ rIn Γ.K true x y H Q), fun X hX => op_notIn_str.or (hX.op_notInD.or hX.op_notIn_seq), Op2.or op2_noS (Op2.or op2_noD (op2_inT (n := true)) (g := fun x y => (fInD true x y).or (fInT true x y)) fun x y d h => by cases e : fInD true x y <;> simp_all) fun x y d h => ?_⟩
    cases y with
    | str z => left; cases x <;> first | exact h | cases h
    | list z =>
      right
      have h' : ((memD x (.list z)).map fun b => !b).map PyData.bool = some d := h
      have e : memD x (.list z) = if okEq x = true ∧ okEq (.list z) = true then some (z.any fun y => PyData.eqv y x) else none := by cases x <;> rfl
      rw [e] at h'
      show (fInD true x (.list z)).or none = some d
      rw [fInD_list]
      split at h'
      · rename_i hc; rw [if_pos hc]; cases h'; rfl
      · cases h'
    | tuple z =>
      right
      have h' : ((memD x (.tuple z)).map fun b => !b).map PyData.bool = some d := h
      have e : memD x (.tuple z) = if flatD x = true ∧ z.all flatD = true then some (z.any fun y => PyData.eqv y x) else none := by cases x <;> rfl
      rw [e] at h'
      show (none : Option D).or (fInT true x (.tuple z)) = some d
      rw [fInT_tuple]
      split at h'
      · rename_i hc; rw [if_pos hc]; cases h'; rfl
      · cases h'
    | _ => cases x <;> cases h
theorem g_cmp {o : Cop} {a b : Expr} {ca cb : E} {pos : Pos} (ha : GT Γ k a ca) (hb : GT Γ k b cb) (hm : behindInMarks (opC o) b = false) : GE Γ k (.Compare a [opC o] [b] pos) (.cmp o ca cb) := by
  obtain ⟨r, h1, h2⟩ := cmp_rule Γ o
  exact g_two (f := fB (cmpD o)) ha hb h2 (fun X hX ta tb pa pb => pe_cmpR (h1 X hX) pa pb hm) fun v => by rw [ev]; simp only [lift_bool]; rfl
theorem b_cmp {o : Cop} {a b : Expr} {ca cb : E} {pos : Pos} (ha : GT Γ k a ca) (hb : GT Γ k b cb) (hm : behindInMarks (opC o) b = false) : GB Γ k (.Compare a [opC o] [b] pos) (.cmp o ca cb) := by
  obtain ⟨r, h1, h2⟩ := cmp_rule Γ o
  obtain ⟨ta, pa, ga⟩ := ha
  obtain ⟨tb, pb, gb⟩ := hb
  refine ⟨_, fun X hX => pt_cmpR (h1 X hX) (pa X hX) (pb X hX) hm, fun A O v s σ H Q c s' F e q => ?_⟩
  unfold tst at e
  obtain ⟨d, s0, e, e0⟩ := bind_ok e
  rw [ev] at e
  simp only [lift_bool] at e
  obtain ⟨x, y, s1, e1, e2, e3⟩ := ev2_ok (f := fB (cmpD o)) e
  obtain ⟨e4, rfl⟩ := lift_ok e0
  refine ga A O v s σ H _ x s1 F e1 fun x' H1 h1' t1 r1 => ?_
  have F1 := F.step h1' t1
  refine gb A O v s1 σ H1 _ y _ F1 e2 fun y' H2 h2' t2 r2 => ?_
  have F2 := F1.step h2' t2
  refine h2 A O H2 _ x' y' x y d _ F2.toFH (r1.step F1.toFH t2) r2 e3 fun v' H' h' t' r' => ?_
  unfold fB at e3
  obtain ⟨c', _, rfl⟩ := Option.map_eq_some_iff.mp e3
  cases e4
  exact ⟨_, r'.bl_inv, q H' h' ((t1.trans t2).trans t')⟩
theorem g_chain {o o' : Cop} {a b c : Expr} {ca cb cc : E} {pos : Pos} (ha : GT Γ k a ca) (hb : GT Γ k b cb) (hc : GT Γ k c cc) (hm : lastMarks [opC o, opC o'] [b, c] = false) :
    GE Γ k (.Compare a [opC o, opC o'] [b, c] pos) (.chain o o' ca cb cc) := by
  obtain ⟨r, h1, h2⟩ := cmp_rule Γ o
  obtain ⟨r', h1', h2'⟩ := cmp_rule Γ o'
  obtain ⟨ta, pa, ga⟩ := ha
  obtain ⟨tb, pb, gb⟩ := hb
  obtain ⟨tc, pc, gc⟩ := hc
  refine ⟨_, fun X hX => pe_chain (h1 X hX) (h1' X hX) (pa X hX) (pb X hX) (pc X hX) hm, fun A O v s σ H Q d s' F e q => ?_⟩
  rw [ev] at e
  obtain ⟨x, s1, e1, e⟩ := bind_ok e
  obtain ⟨y, s2, e2, e⟩ := bind_ok e
  obtain ⟨t, s3, e3, e⟩ := bind_ok e
  obtain ⟨e33, rfl⟩ := lift_ok e3
  refine ga A O v s σ H _ x s1 F e1 fun x' H1 h1' t1 r1 => ?_
  have F1 := F.step h1' t1
  refine gb A O v s1 σ H1 _ y _ F1 e2 fun y' H2 h2'' t2 r2 => ?_
  have F2 := F1.step h2'' t2
  refine h2 A O H2 _ x' y' x y (.bool t) _ F2.toFH (r1.step F1.toFH t2) r2 (by unfold fB; rw [e33]; rfl) fun v' H3 h' t' r' => ?_
  have F3 := F2.step h' t'
  refine ⟨t, r'.bl_inv, ?_⟩
  cases t with
  | false =>
    obtain ⟨rfl, rfl⟩ := pure_ok e
    exact q _ H3 h' ((t1.trans t2).trans t') (.bl false)
  | true =>
    obtain ⟨z, s4, e4, e⟩ := bind_ok e
    simp only [lift_bool] at e
    obtain ⟨e5, rfl⟩ := lift_ok e
    refine gc A O v s3 σ H3 _ z _ F3 e4 fun z' H4 h4 t4 r4 => ?_
    have F4 := F3.step h4 t4
    exact h2' A O H4 _ y' z' y z d _ F4.toFH ((r2.step F2.toFH t').step F3.toFH t4) r4 e5 fun v' H5 h5 t5 r5 => q v' H5 h5 ((((t1.trans t2).trans t').trans t4).trans t5) r5
theorem b_chain {o o' : Cop} {a b c : Expr} {ca cb cc : E} {pos : Pos} (ha : GT Γ k a ca) (hb : GT Γ k b cb) (hc : GT Γ k c cc) (hm : lastMarks [opC o, opC o'] [b, c] = false) :
    GB Γ k (.Compare a [opC o, opC o'] [b, c] pos) (.chain o o' ca cb cc) := by
  obtain ⟨r, h1, h2⟩ := cmp_rule Γ o
  obtain ⟨r', h1', h2'⟩ := cmp_rule Γ o'
  obtain ⟨ta, pa, ga⟩ := ha
  obtain ⟨tb, pb, gb⟩ := hb
  obtain ⟨tc, pc, gc⟩ := hc
  refine ⟨_, fun X hX => pt_chain (h1 X hX) (h1' X hX) (pa X hX) (pb X hX) (pc X hX) hm, fun A O v s σ H Q d s' F e q => ?_⟩
  unfold tst at e
  obtain ⟨d', s0, e, e0⟩ := bind_ok e
  obtain ⟨e00, rfl⟩ := lift_ok e0
  rw [ev] at e
  obtain ⟨x, s1, e1, e⟩ := bind_ok e
  obtain ⟨y, s2, e2, e⟩ := bind_ok e
  obtain ⟨t, s3, e3, e⟩ := bind_ok e
  obtain ⟨e33, rfl⟩ := lift_ok e3
  refine ga A O v s σ H _ x s1 F e1 fun x' H1 h1' t1 r1 => ?_
  have F1 := F.step h1' t1
  refine gb A O v s1 σ H1 _ y _ F1 e2 fun y' H2 h2'' t2 r2 => ?_
  have F2 := F1.step h2'' t2
  refine h2 A O H2 _ x' y' x y (.bool t) _ F2.toFH (r1.step F1.toFH t2) r2 (by unfold fB; rw [e33]; rfl) fun v' H3 h' t' r' => ?_
  have F3 := F2.step h' t'
  refine ⟨t, r'.bl_inv, ?_⟩
  cases t with
  | false =>
    obtain ⟨rfl, rfl⟩ := pure_ok e
    cases e00
    exact ⟨_, rfl, q H3 h' ((t1.trans t2).trans t')⟩
  | true =>
    obtain ⟨z, s4, e4, e⟩ := bind_ok e
    simp only [lift_bool] at e
    obtain ⟨e5, rfl⟩ := lift_ok e
    refine gc A O v s3 σ H3 _ z _ F3 e4 fun z' H4 h4 t4 r4 => ?_
    have F4 := F3.step h4 t4
    refine h2' A O H4 _ y' z' y z d' _ F4.toFH ((r2.step F2.toFH t').step F3.toFH t4) r4 e5 fun v' H5 h5 t5 r5 => ?_
    obtain ⟨c', _, rfl⟩ := Option.map_eq_some_iff.mp e5
    cases e00
    exact ⟨_, r5.bl_inv, q H5 h5 ((((t1.trans t2).trans t').trans t4).trans t5)⟩
end
end L2.NB
set_option Elab.async false
set_option linter.all false
set_option maxRecDepth 100000
/-! NB4R: a tuple turned round by a slice; list.index. -/
namespace L2.NB
open PySem PySem.Spec PyProof.Rows
theorem adj_rev (n : Nat) : Builtin.Slice.sliceAdjust none none (-1) (n : Int) = ((n : Int) - 1, -1) := by
  unfold Builtin.Slice.sliceAdjust
  simp
theorem places_rev (n : Nat) : Builtin.Slice.slicePlaces ((n : Int) - 1) (-1) (-1) = n := by
  unfold Builtin.Slice.slicePlaces
  rw [if_neg (by omega)]
  split
  · rw [show -(-1 : Int) = 1 by decide, Int.ediv_one]
    omega
  · omega
theorem map_all {α : Type} : ∀ l : List α, (List.range l.length).filterMap (fun m => l[m]?) = l
  | [] => rfl
  | x :: l => by
    rw [List.length_cons, List.range_succ_eq_map, List.filterMap_cons]
    simp only [List.getElem?_cons_zero, List.filterMap_map]
    have := map_all l
    congr 1
theorem fm_congr {α β : Type} {f g : α → Option β} : ∀ {l : List α}, (∀ x ∈ l, f x = g x) → l.filterMap f = l.filterMap g
  | [], _ => rfl
  | x :: l, h => by
    rw [List.filterMap_cons, List.filterMap_cons, h x (by simp), fm_congr fun y hy => h y (by simp [hy])]
theorem pick_rev (xs : Array Value) : ((List.range xs.size).filterMap fun (m : Nat) => xs[(((xs.size : Int) - 1) + (m : Int) * (-1)).toNat]?).toArray = xs.toList.reverse.toArray := by
  have h := map_all xs.toList.reverse
  rw [List.length_reverse, Array.length_toList] at h
  rw [← h]
  congr 1
  apply fm_congr
  intro m hm
  rw [List.mem_range] at hm
  rw [List.getElem?_reverse (by simpa using hm), Array.length_toList, Array.getElem?_toList]
  congr 1
  omega
section
variable {prog : Program} {w : World} {A : Around} {E : Value → Shared → Prop} {s : Shared}
theorem applied_rev {sl : Addr} {t : Tok} {n : Nat} {Q : Int × Int × Nat → Shared → Prop} (hs : s.heap.IsSliceOf sl .none .none (.int (-1) t)) (h : Q ((n : Int) - 1, -1, n) s) : wpAny (model prog w) A (Builtin.Slice.sliceApplied (.ref sl) (pure (n : Int))) Q E s := by
  obtain ⟨ob, g, _, d⟩ := id hs
  unfold Builtin.Slice.sliceApplied Builtin.Slice.sliceFields
  refine wpAny_bind (wpAny_bind (wpAny_field g d (x := .none) rfl (wpAny_bind (wpAny_field g d (x := .none) rfl (wpAny_bind (wpAny_field g d (x := .int (-1) t) rfl (wpAny_pure ?_)))))))
  refine wpAny_bind (HT.slicePart_ (.int (-1) t) ?_)
  show wpAny _ _ (if ((-1 : Int) == 0) = true then _ else _) _ _ s
  rw [if_neg (by decide)]
  refine wpAny_bind (HT.slicePart_ .none (wpAny_bind (HT.slicePart_ .none (wpAny_bind (wpAny_pure ?_)))))
  show wpAny _ _ (match Builtin.Slice.sliceAdjust none none (-1) (n : Int) with | (lo, hi) => pure (lo, (-1 : Int), Builtin.Slice.slicePlaces lo hi (-1))) _ _ s
  rw [adj_rev n]
  show wpAny _ _ (pure ((n : Int) - 1, (-1 : Int), Builtin.Slice.slicePlaces ((n : Int) - 1) (-1) (-1))) _ _ s
  rw [places_rev]
  exact wpAny_pure h
theorem getItem_rev {t sl : Addr} {its : Array Value} {u : Tok} {Q : Value → Shared → Prop} (ht : IsTup s.heap t its) (hs : s.heap.IsSliceOf sl .none .none (.int (-1) u))
    (h : Q (.ref s.heap.objs.size) { s with heap := s.heap.push { cls := .type "tuple", data := .seq its.toList.reverse.toArray } }) (hz : its.size ≤ sizeLine) : wpAny (model prog w) A (getItem (.ref t) (.ref sl)) Q E s := by
  have room : sizeOk (.seq its.toList.reverse.toArray) := by
    show its.toList.reverse.toArray.size ≤ sizeLine
    rw [List.size_toArray, List.length_reverse, Array.length_toList]
    exact hz
  obtain ⟨ob, g, c, d⟩ := id hs
  have isSl : s.TypeIs (.ref sl) "slice" := ⟨ob, g, c⟩
  unfold getItem
  try with_reducible refine wpAny_holding ?_
  first | refine wpAny_bind (wpAny_pure ?_) | skip
  refine wpAny_bind (wpAny_sequenceKey ht.typeIs (by decide) ?_)
  refine wpAny_bind (wpAny_callSpecial?_slot (name := Str.ofString "__getitem__") ht.typeIs PyProof.Rows.slot_tuple_getitem (wpAny_call_entry PyProof.Rows.slot_tuple_getitem ht.typeIs entry_tuple_getitem ?_ (args_tuple_getitem _ _)))
  show wpAny _ _ (Builtin.Tuple.tupleItemsOf (.ref t) >>= _) _ _ s
  refine wpAny_bind (tupleItemsOf_ ht (wpAny_bind (wpAny_typeOf isSl ?_)))
  rw [if_pos (by decide)]
  refine wpAny_bind (applied_rev hs ?_)
  have no : ¬ ((((its.size : Int) - 1) == 0 && (-1 : Int) == 1 && its.size == its.size) = true) := by
    intro z
    rw [Bool.and_eq_true, Bool.and_eq_true] at z
    exact absurd z.1.2 (by decide)
  show wpAny _ _ (if (((its.size : Int) - 1) == 0 && (-1 : Int) == 1 && its.size == its.size) = true then _ else _) _ _ s
  rw [if_neg no, pick_rev]
  first
    | exact wpAny_bind (m := Builtin.Tuple.tupleExact _) (wpAny_newObj_type (wpAny_pure ⟨_, rfl, wpAny_pure h⟩) room)
    | exact wpAny_bind (m := Builtin.Tuple.tupleExact _) (wpAny_newObj_type (wpAny_bind (wpAny_pure (wpAny_pure ⟨_, rfl, wpAny_pure h⟩))) room)
    | exact wpAny_bind (wpAny_bind (m := Builtin.Tuple.tupleExact _) (wpAny_newObj_type (wpAny_pure (wpAny_pure ⟨_, rfl, wpAny_pure h⟩)) room))
    | exact wpAny_bind (wpAny_bind (m := Builtin.Tuple.tupleExact _) (wpAny_newObj_type (wpAny_pure ⟨_, rfl, wpAny_pure h⟩) room))
end
section
variable {X : Cx}
theorem PE.or {e : Expr} {t1 t2 : TE} (h1 : PE X e t1) (h2 : PE X e t2) : PE X e (fun σ H Q => t1 σ H Q ∨ t2 σ H Q) := ⟨fun pins s σ H Q I h => h.elim (h1.run pins s σ H Q I) (h2.run pins s σ H Q I)⟩
def tRevT (K : PySem.W.Frag) (te : TE) : TE := fun σ H Q => te σ H fun x G => ∃ a xs, x = .ref a ∧ SqT K G a xs ∧ ∀ p, G p = none → Q (.ref p) (upd G p (.tup xs.reverse))
theorem pe_revT {e : Expr} {te : TE} {k : Nat} {p1 p2 p3 pos : Pos} (he : PE X e te) : PE X (.Subscript e (.Slice none none (some (.UnaryOp .USub (.Constant (.int 1) k p1) p2)) p3) pos) (tRevT X.K te) := by
  refine ⟨fun pins s σ H Q I0 h => ?_⟩
  refine Subscript_ (thn (he.run pins s σ H _ I0 h) fun v u1 ⟨x, G, J1, r1, a, xs, ex, hx, q⟩ => ?_)
  subst ex
  cases r1
  have neg1 : PO X (some (.UnaryOp .USub (.Constant (.int 1) k p1) p2)) (tPart (tUn (rU fun i => .int (-i)) (tC (.int 1)))) := po_some (pe_un un_neg pe_int)
  refine wpAny_Slice (thn (po_none.run pins u1 σ G (fun o G2 => o = none ∧ G2 = G) J1 ⟨rfl, rfl⟩) fun vl u2 ⟨l, G2, J2, pl, el, e2⟩ => ?_)
  subst el e2
  refine thn (po_none.run pins u2 σ G2 (fun o G3 => o = none ∧ G3 = G2) J2 ⟨rfl, rfl⟩) fun vu u3 ⟨m, G3, J3, pu, em, e3⟩ => ?_
  subst em e3
  refine thn (neg1.run pins u3 σ G3 (fun o G4 => o = some (-1) ∧ G4 = G3) J3 ⟨1, rfl, -1, rfl, rfl, rfl⟩) fun vs u4 ⟨o, G4, J4, ps, eo, e4⟩ => ?_
  subst eo e4
  cases pl
  cases pu
  cases ps with
  | int _ t =>
  have J5 : Inv X pins σ G4 { u4 with heap := u4.heap.push { cls := .type "slice", data := .fields #[.none, .none, .int (-1) t] } } := J4.kept (t' := u4.toks) fun b ob z => Heap.get?_push_of_some _ z
  obtain ⟨its, r, ht, hz⟩ := J5.tuple hx
  have hl := r.length
  show wpAny (model X.prog X.w) X.A (subscriptTail e (.Slice none none (some (.UnaryOp .USub (.Constant (.int 1) k p1) p2)) p3) (.ref a) (.ref u4.heap.objs.size)) (EP X pins σ Q) X.xe { u4 with heap := u4.heap.push { cls := .type "slice", data := .fields #[.none, .none, .int (-1) t] } }
  refine tail_any (ops := [.ref a, .ref u4.heap.objs.size]) ht.typeIs PyProof.Rows.slot_tuple_getitem.lookup ?_ (by with_unfolding_all rfl)
  refine getItem_rev ht (Heap.IsSliceOf.new _ .none .none (.int (-1) t)) ?_ (by rw [List.size_toArray]; omega)
  refine ⟨.ref _, _, J5.laid (t' := u4.toks) (o := .tup xs.reverse) (fun b ob z => Heap.get?_push_of_some _ z) (Nat.le_refl _) ?_, rfl, q _ (J5.hok.fresh (Nat.le_refl _))⟩
  exact ⟨by rw [List.length_reverse]; exact hz, _, r.reverse, IsTup.new _ _⟩
/-- xs.index(k) -/
def rIndexI (K : PySem.W.Frag) : V → List V → Hp → VK → Prop := fun x vs H Q => ∃ (a : Addr) (ns : List Int) (k : Int), x = .ref a ∧ vs = [.int k] ∧ SqL K H a (ns.map V.int) ∧ k ∈ ns ∧ Q (.int (ns.idxOf k : Nat)) H
theorem mt_indexI : MtR X "list.index" (rIndexI X.K) := by
  intro pins s σ H x vs v us Q I rx rv h
  obtain ⟨a, ns, k, rfl, rfl, hs, hk, q⟩ := h
  cases rx
  obtain ⟨u, rfl, t, rfl⟩ := vals1 rv
  obtain ⟨its, r, p, hz⟩ := I.list hs
  exact SeqAt.list_index_ints p.isList r.ints (by simpa using hz) hk ⟨.int _, H, I.tok _, ⟨_, rfl⟩, q⟩
end
end L2.NB
set_option Elab.async false
set_option linter.all false
set_option maxRecDepth 100000
/-! NB5: tests, displays, subscripts, built-ins by name. -/
namespace L2.NB
open PySem PySem.Spec PyProof.Rows

section
variable {Γ : Ctx} {k : CallT}
/-! ### truth -/
theorem tru_rep {K : PySem.W.Frag} {A : HA} {O : Addr → Prop} {H : Hp} {x : V} {d : D} {t : Bool} (h : Rep1 K A O H x d) (e : truthD d = some t) : TruV K x H t := by
  cases d with
  | none => cases e; cases h.non_inv; rfl
  | bool b => cases e; cases h.bl_inv; rfl
  | int i => cases e; cases h.int_inv; rfl
  | str z =>
    cases h.str_inv
    simp only [truthD] at e
    split at e
    · rename_i hz; cases e; exact ⟨hz, rfl⟩
    · cases e
  | list xs =>
    cases e
    obtain ⟨a, vs, rfl, h1, l⟩ := h.lst_inv
    refine .inl ⟨vs, .of h1, ?_⟩
    cases l <;> rfl
  | tuple xs =>
    cases e
    obtain ⟨a, vs, rfl, h1, l⟩ := h.tup_inv
    refine .inr (.inl ⟨vs, h1.sq, ?_⟩)
    cases l <;> rfl
  | dict _ => cases e
/-- an expression that is no and, or, not, comparison, conditional, as a test -/
theorem b_truth {e : Expr} {c : E} (h : GT Γ k e c) (he : ∀ env whole, isTrue e env whole = (do let v ← whole; standAt e.pos; holding [v] (truthy v))) : GB Γ k e c := by
  obtain ⟨t, p, g⟩ := h
  refine ⟨fun σ H Q => t σ H fun x H' => ∃ k, TruV Γ.K x H' k ∧ Q k H', fun X hX => by have hK := hX.K; rw [← hK]; exact pt_truth (p X hX) (he _), fun A O v s σ H Q b s' F e q => ?_⟩
  unfold tst at e
  obtain ⟨x, s1, e1, e2⟩ := bind_ok e
  obtain ⟨e3, rfl⟩ := lift_ok e2
  exact g A O v s σ H _ x _ F e1 fun x' H' h' t' r' => ⟨b, tru_rep r' e3, q H' h' t'⟩
theorem tst_ok {c : E} {v : Env} {s s' : S} {b : Bool} (h : tst k c v s = .ok b s') : ∃ x, ev k c v s = .ok x s' ∧ truthD x = some b := by
  unfold tst at h
  obtain ⟨x, s1, e1, e2⟩ := bind_ok h
  obtain ⟨e3, rfl⟩ := lift_ok e2
  exact ⟨x, e1, e3⟩
theorem ok_tst {c : E} {v : Env} {s s' : S} {x : D} {b : Bool} (h : ev k c v s = .ok x s') (e : truthD x = some b) : tst k c v s = .ok b s' := by
  show M.bind (ev k c v) _ s = _
  unfold M.bind
  rw [h]
  show liftO (truthD x) s' = _
  rw [e]
  rfl
theorem tst_and {a b : E} {v : Env} {s s' : S} {t : Bool} (h : tst k (.and a b) v s = .ok t s') : (∃ s1, tst k a v s = .ok true s1 ∧ tst k b v s1 = .ok t s') ∨ (tst k a v s = .ok false s' ∧ t = false) := by
  obtain ⟨x, e1, e2⟩ := tst_ok h
  rw [ev] at e1
  obtain ⟨y, s1, e3, e4⟩ := bind_ok e1
  obtain ⟨u, s2, e5, e6⟩ := bind_ok e4
  obtain ⟨e7, rfl⟩ := lift_ok e5
  cases u with
  | true => exact .inl ⟨s2, ok_tst e3 e7, ok_tst e6 e2⟩
  | false =>
    obtain ⟨rfl, rfl⟩ := pure_ok e6
    rw [e7] at e2
    cases e2
    exact .inr ⟨ok_tst e3 e7, rfl⟩
theorem tst_or {a b : E} {v : Env} {s s' : S} {t : Bool} (h : tst k (.or a b) v s = .ok t s') : (∃ s1, tst k a v s = .ok false s1 ∧ tst k b v s1 = .ok t s') ∨ (tst k a v s = .ok true s' ∧ t = true) := by
  obtain ⟨x, e1, e2⟩ := tst_ok h
  rw [ev] at e1
  obtain ⟨y, s1, e3, e4⟩ := bind_ok e1
  obtain ⟨u, s2, e5, e6⟩ := bind_ok e4
  obtain ⟨e7, rfl⟩ := lift_ok e5
  cases u with
  | false => exact .inl ⟨s2, ok_tst e3 e7, ok_tst e6 e2⟩
  | true =>
    obtain ⟨rfl, rfl⟩ := pure_ok e6
    rw [e7] at e2
    cases e2
    exact .inr ⟨ok_tst e3 e7, rfl⟩
theorem tst_not {a : E} {v : Env} {s s' : S} {t : Bool} (h : tst k (.not a) v s = .ok t s') : tst k a v s = .ok (!t) s' := by
  obtain ⟨x, e1, e2⟩ := tst_ok h
  rw [ev] at e1
  obtain ⟨y, s1, e3, e4⟩ := bind_ok e1
  obtain ⟨u, s2, e5, e6⟩ := bind_ok e4
  obtain ⟨e7, rfl⟩ := lift_ok e5
  obtain ⟨rfl, rfl⟩ := pure_ok e6
  cases e2
  rw [Bool.not_not]
  exact ok_tst e3 e7
/-- a test whatever its whole is -/
def GW (Γ : Ctx) (k : CallT) (e : Expr) (c : E) : Prop :=
  ∃ t, (∀ X, Γ.Has X → PW X e t) ∧ ∀ (A : HA) (O : Addr → Prop) (v : Env) (s : S) (σ : St) (H : Hp) (Q : Bool → Hp → Prop) (b : Bool) (s' : S), FE Γ.K A O v s σ H → tst k c v s = .ok b s' →
    (∀ H', HRel A s' H' → Step A H H' → Q b H') → t σ H Q
theorem GW.b {e : Expr} {c : E} (h : GW Γ k e c) : GB Γ k e c := by
  obtain ⟨t, p, g⟩ := h
  exact ⟨t, fun X hX => (p X hX).pt, g⟩
theorem w_and1 {a : Expr} {ca : E} {pos : Pos} (ha : GB Γ k a ca) : GW Γ k (.BoolOp .And [a] pos) ca := by
  obtain ⟨t, p, g⟩ := ha
  exact ⟨t, fun X hX => pw_and1 (p X hX), g⟩
theorem w_or1 {a : Expr} {ca : E} {pos : Pos} (ha : GB Γ k a ca) : GW Γ k (.BoolOp .Or [a] pos) ca := by
  obtain ⟨t, p, g⟩ := ha
  exact ⟨t, fun X hX => pw_or1 (p X hX), g⟩
theorem w_and {a b : Expr} {r : List Expr} {ca cb : E} {pos : Pos} (ha : GB Γ k a ca) (hb : GW Γ k (.BoolOp .And (b :: r) pos) cb) : GW Γ k (.BoolOp .And (a :: b :: r) pos) (.and ca cb) := by
  obtain ⟨ta, pa, ga⟩ := ha
  obtain ⟨tb, pb, gb⟩ := hb
  refine ⟨_, fun X hX => pw_and (pa X hX) (pb X hX), fun A O v s σ H Q b s' F e q => ?_⟩
  rcases tst_and e with ⟨s1, e1, e2⟩ | ⟨e1, rfl⟩
  · refine ga A O v s σ H _ true s1 F e1 fun H1 h1 t1 => ?_
    rw [if_pos rfl]
    exact gb A O v s1 σ H1 Q b s' (F.step h1 t1) e2 fun H2 h2 t2 => q H2 h2 (t1.trans t2)
  · refine ga A O v s σ H _ false s' F e1 fun H1 h1 t1 => ?_
    rw [if_neg Bool.false_ne_true]
    exact q H1 h1 t1
theorem w_or {a b : Expr} {r : List Expr} {ca cb : E} {pos : Pos} (ha : GB Γ k a ca) (hb : GW Γ k (.BoolOp .Or (b :: r) pos) cb) : GW Γ k (.BoolOp .Or (a :: b :: r) pos) (.or ca cb) := by
  obtain ⟨ta, pa, ga⟩ := ha
  obtain ⟨tb, pb, gb⟩ := hb
  refine ⟨_, fun X hX => pw_or (pa X hX) (pb X hX), fun A O v s σ H Q b s' F e q => ?_⟩
  rcases tst_or e with ⟨s1, e1, e2⟩ | ⟨e1, rfl⟩
  · refine ga A O v s σ H _ false s1 F e1 fun H1 h1 t1 => ?_
    rw [if_neg Bool.false_ne_true]
    exact gb A O v s1 σ H1 Q b s' (F.step h1 t1) e2 fun H2 h2 t2 => q H2 h2 (t1.trans t2)
  · refine ga A O v s σ H _ true s' F e1 fun H1 h1 t1 => ?_
    rw [if_pos rfl]
    exact q H1 h1 t1
theorem b_not {a : Expr} {ca : E} {pos : Pos} (ha : GB Γ k a ca) : GB Γ k (.UnaryOp .Not a pos) (.not ca) := by
  obtain ⟨ta, pa, ga⟩ := ha
  refine ⟨_, fun X hX => pt_not (pa X hX), fun A O v s σ H Q b s' F e q => ?_⟩
  refine ga A O v s σ H _ (!b) s' F (tst_not e) fun H1 h1 t1 => ?_
  rw [Bool.not_not]
  exact q H1 h1 t1
theorem b_ite {c a b : Expr} {cc ca cb : E} {pos : Pos} (hc : GB Γ k c cc) (ha : GB Γ k a ca) (hb : GB Γ k b cb) : GB Γ k (.IfExp c a b pos) (.ite cc ca cb) := by
  obtain ⟨tc, pc, gc⟩ := hc
  obtain ⟨ta, pa, ga⟩ := ha
  obtain ⟨tb, pb, gb⟩ := hb
  refine ⟨fun σ H Q => tc σ H fun c H1 => if c = true then ta σ H1 Q else tb σ H1 Q, fun X hX => ⟨fun pins s σ H Q I h => isTrue_IfExp (thn ((pc X hX).run pins s σ H _ I h) fun c s1 ⟨H1, I1, q1⟩ => ?_)⟩, fun A O v s σ H Q b s' F e q => ?_⟩
  · cases c with
    | true => exact (pa X hX).run pins s1 σ H1 Q I1 q1
    | false => exact (pb X hX).run pins s1 σ H1 Q I1 q1
  · obtain ⟨x, e1, e2⟩ := tst_ok e
    rw [ev] at e1
    obtain ⟨y, s1, e3, e4⟩ := bind_ok e1
    obtain ⟨u, s2, e5, e6⟩ := bind_ok e4
    obtain ⟨e7, rfl⟩ := lift_ok e5
    refine gc A O v s σ H _ u _ F (ok_tst e3 e7) fun H1 h1 t1 => ?_
    cases u with
    | true =>
      rw [if_pos rfl] at e6 ⊢
      exact ga A O v _ σ H1 Q b s' (F.step h1 t1) (ok_tst e6 e2) fun H2 h2 t2 => q H2 h2 (t1.trans t2)
    | false =>
      rw [if_neg Bool.false_ne_true] at e6 ⊢
      exact gb A O v _ σ H1 Q b s' (F.step h1 t1) (ok_tst e6 e2) fun H2 h2 t2 => q H2 h2 (t1.trans t2)
/-! as values -/
theorem g_ite {c a b : Expr} {cc ca cb : E} {pos : Pos} (hc : GB Γ k c cc) (ha : GE Γ k a ca) (hb : GE Γ k b cb) : GE Γ k (.IfExp c a b pos) (.ite cc ca cb) := by
  obtain ⟨tc, pc, gc⟩ := hc
  obtain ⟨ta, pa, ga⟩ := ha
  obtain ⟨tb, pb, gb⟩ := hb
  refine ⟨_, fun X hX => pe_ifExp (pc X hX) (pa X hX) (pb X hX), fun A O v s σ H Q d s' F e q => ?_⟩
  rw [ev] at e
  obtain ⟨y, s1, e3, e4⟩ := bind_ok e
  obtain ⟨u, s2, e5, e6⟩ := bind_ok e4
  obtain ⟨e7, rfl⟩ := lift_ok e5
  refine gc A O v s σ H _ u _ F (ok_tst e3 e7) fun H1 h1 t1 => ?_
  cases u with
  | true =>
    rw [if_pos rfl] at e6 ⊢
    exact ga A O v _ σ H1 Q d s' (F.step h1 t1) e6 fun x H2 h2 t2 r2 => q x H2 h2 (t1.trans t2) r2
  | false =>
    rw [if_neg Bool.false_ne_true] at e6 ⊢
    exact gb A O v _ σ H1 Q d s' (F.step h1 t1) e6 fun x H2 h2 t2 r2 => q x H2 h2 (t1.trans t2) r2
theorem g_one {o : BoolOp} {a : Expr} {ca : E} {pos : Pos} (ha : GE Γ k a ca) : GE Γ k (.BoolOp o [a] pos) ca := by
  obtain ⟨t, p, g⟩ := ha
  exact ⟨t, fun X hX => pe_one (p X hX), g⟩
theorem g_and {a b : Expr} {r : List Expr} {ca cb : E} {pos : Pos} (ha : GE Γ k a ca) (hb : GE Γ k (.BoolOp .And (b :: r) pos) cb) : GE Γ k (.BoolOp .And (a :: b :: r) pos) (.and ca cb) := by
  obtain ⟨ta, pa, ga⟩ := ha
  obtain ⟨tb, pb, gb⟩ := hb
  refine ⟨tAndT Γ.K ta tb, fun X hX => by have hK := hX.K; rw [← hK]; exact pe_andT (pa X hX) (pb X hX), fun A O v s σ H Q d s' F e q => ?_⟩
  rw [ev] at e
  obtain ⟨y, s1, e3, e4⟩ := bind_ok e
  obtain ⟨u, s2, e5, e6⟩ := bind_ok e4
  obtain ⟨e7, rfl⟩ := lift_ok e5
  refine ga A O v s σ H _ y _ F e3 fun x H1 h1 t1 r1 => ⟨u, tru_rep (.inl r1) e7, ?_⟩
  cases u with
  | true =>
    rw [if_pos rfl] at e6 ⊢
    exact gb A O v _ σ H1 Q d s' (F.step h1 t1) e6 fun x H2 h2 t2 r2 => q x H2 h2 (t1.trans t2) r2
  | false =>
    rw [if_neg Bool.false_ne_true] at e6 ⊢
    obtain ⟨rfl, rfl⟩ := pure_ok e6
    exact q x H1 h1 t1 r1
theorem g_or {a b : Expr} {r : List Expr} {ca cb : E} {pos : Pos} (ha : GE Γ k a ca) (hb : GE Γ k (.BoolOp .Or (b :: r) pos) cb) : GE Γ k (.BoolOp .Or (a :: b :: r) pos) (.or ca cb) := by
  obtain ⟨ta, pa, ga⟩ := ha
  obtain ⟨tb, pb, gb⟩ := hb
  refine ⟨tOrT Γ.K ta tb, fun X hX => by have hK := hX.K; rw [← hK]; exact pe_orT (pa X hX) (pb X hX), fun A O v s σ H Q d s' F e q => ?_⟩
  rw [ev] at e
  obtain ⟨y, s1, e3, e4⟩ := bind_ok e
  obtain ⟨u, s2, e5, e6⟩ := bind_ok e4
  obtain ⟨e7, rfl⟩ := lift_ok e5
  refine ga A O v s σ H _ y _ F e3 fun x H1 h1 t1 r1 => ⟨u, tru_rep (.inl r1) e7, ?_⟩
  cases u with
  | true =>
    rw [if_pos rfl] at e6 ⊢
    obtain ⟨rfl, rfl⟩ := pure_ok e6
    exact q x H1 h1 t1 r1
  | false =>
    rw [if_neg Bool.false_ne_true] at e6 ⊢
    exact gb A O v _ σ H1 Q d s' (F.step h1 t1) e6 fun x H2 h2 t2 r2 => q x H2 h2 (t1.trans t2) r2
theorem g_not {a : Expr} {ca : E} {pos : Pos} (ha : GT Γ k a ca) : GE Γ k (.UnaryOp .Not a pos) (.not ca) := by
  obtain ⟨ta, pa, ga⟩ := ha
  refine ⟨tNotT Γ.K ta, fun X hX => by have hK := hX.K; rw [← hK]; exact pe_notT (pa X hX), fun A O v s σ H Q d s' F e q => ?_⟩
  rw [ev] at e
  obtain ⟨y, s1, e3, e4⟩ := bind_ok e
  obtain ⟨u, s2, e5, e6⟩ := bind_ok e4
  obtain ⟨e7, rfl⟩ := lift_ok e5
  obtain ⟨rfl, rfl⟩ := pure_ok e6
  exact ga A O v s σ H _ y _ F e3 fun x H1 h1 t1 r1 => ⟨u, tru_rep r1 e7, q _ H1 h1 t1 (.bl _)⟩

/-! ### lists of expressions, displays -/
def noStar : Expr → Bool
  | .Starred .. => false
  | _ => true
theorem starEach_cons {e : Expr} {es : List Expr} {env : PySem.Env} (h : noStar e = true) : starEach (e :: es) env = (false, eval e env) :: starEach es env := by
  cases e <;> first | rfl | cases h
theorem any_backTo {pos : Pos} {env : PySem.Env} : ∀ {es : List Expr}, es.all noStar = true → (backTo pos (starEach es env)).any (·.1) = false
  | [], _ => rfl
  | e :: es, h => by
    rw [List.all_cons, Bool.and_eq_true] at h
    rw [starEach_cons h.1]
    have ih := any_backTo (pos := pos) (env := env) h.2
    unfold backTo at ih ⊢
    rw [List.map_cons, List.any_cons]
    exact ih
def isStarC : E → Bool
  | .star _ => true
  | _ => false
theorem evL_cons {c : E} {cs : List E} {v : Env} (h : isStarC c = false) : evL k (c :: cs) v = (do let x ← ev k c v; let ys ← evL k cs v; M.pure (x :: ys)) := by
  cases c <;> first | rfl | (simp only [evL]; done) | (cases h; done)
theorem l_nil : GL Γ k [] [] := ⟨_, fun X hX => pa_nil, fun A O v s σ H Q ds s' F e q => by
  rw [evL] at e
  obtain ⟨rfl, rfl⟩ := pure_ok e
  exact q [] H F.hr .refl .nil⟩
theorem l_cons {e : Expr} {es : List Expr} {c : E} {cs : List E} (h : GE Γ k e c) (hs : GL Γ k es cs) (hn : noStar e = true) (hc : isStarC c = false) : GL Γ k (e :: es) (c :: cs) := by
  obtain ⟨ta, pa, ga⟩ := h
  obtain ⟨tb, pb, gb⟩ := hs
  refine ⟨_, fun X hX => pa_cons (pa X hX) (pb X hX) (starEach_cons hn), fun A O v s σ H Q ds s' F e q => ?_⟩
  rw [evL_cons hc] at e
  obtain ⟨x, s1, e1, e⟩ := bind_ok e
  obtain ⟨ys, s2, e2, e⟩ := bind_ok e
  obtain ⟨rfl, rfl⟩ := pure_ok e
  refine ga A O v s σ H _ x s1 F e1 fun x' H1 h1 t1 r1 => ?_
  exact gb A O v s1 σ H1 _ ys _ (F.step h1 t1) e2 fun ys' H2 h2 t2 r2 => q _ H2 h2 (t1.trans t2) (.cons (r1.step t2) r2)
/-- *e among the items -/
theorem star_collect {A : Around} {E : Value → Shared → Prop} {prog : Program} {w : World} {s : Shared} {a : Addr} {items : Array Value} {Q : List Value → Shared → Prop}
    (h : (∃ o n, s.heap.get? a = some o ∧ o.cls = .type "list" ∧ o.data = .seq items n) ∨ ∃ o n, s.heap.get? a = some o ∧ o.cls = .type "tuple" ∧ o.data = .seq items n) (hz : items.size ≤ sizeLine)
    (hQ : ∀ h', (∀ b o', s.heap.get? b = some o' → h'.get? b = some o') → Q items.toList { s with heap := h' }) : PySem.W.StarOf (model prog w) A E (.ref a) Q s := by
  unfold PySem.W.StarOf notIterableAtAll
  rcases h with ⟨o, n, ho, hc, hd⟩ | ⟨o, n, ho, hc, hd⟩
  · exact wpAny_bind (wpAny_specialOf (T := "list") ⟨o, ho, hc⟩ PySem.F.slot_list_iter.lookup (wpAny_pure ⟨rfl, wpAny_collect_seq a (.inl rfl) ho hc hd hQ hz⟩))
  · exact wpAny_bind (wpAny_specialOf (T := "tuple") ⟨o, ho, hc⟩ PySem.F.slot_tuple_iter.lookup (wpAny_pure ⟨rfl, wpAny_collect_seq a (.inr rfl) ho hc hd hQ hz⟩))
def tStar (K : PySem.W.Frag) (ta : TE) (tr : TA) : TA := fun σ H Q => ta σ H fun x H1 => ∃ a ys, x = .ref a ∧ (SqL K H1 a ys ∨ SqT K H1 a ys) ∧ tr σ H1 fun xs H2 => Q (ys ++ xs) H2
theorem pa_star {X : Cx} {e : Expr} {es : List Expr} {p : Pos} {ta : TE} {tr : TA} (pa : PE X e ta) (pr : PA X es tr) : PA X (.Starred e p :: es) (tStar X.K ta tr) := by
  refine ⟨fun pos pins s σ H Q I h => ?_⟩
  refine PySem.W.items_star (thn (pa.run pins s σ H _ I h) fun u s1 ⟨x, H1, I1, r1, a, ys, ex, hs, q1⟩ => ?_)
  subst ex
  cases (show u = Value.ref a from r1)
  have fin : ∀ (its : List Value), Vals ys its → ∀ h', (∀ b o', s1.heap.get? b = some o' → h'.get? b = some o') → wpAny (model X.prog X.w) X.A (spliced (backTo pos (starEach es X.env))) (fun vs s3 => AP X pins σ Q (its ++ vs) s3) X.xe { s1 with heap := h' } := fun its rv h' hk =>
    thn (pr.run pos pins _ σ H1 _ (I1.kept (t' := s1.toks) hk) q1) fun us s3 ⟨xs, H2, I2, r2, q2⟩ => ⟨_, H2, I2, rv.append r2, q2⟩
  rcases hs with hs | hs
  · obtain ⟨its, rv, ⟨o, n, ho, hc, _, hd⟩, hz⟩ := I1.list hs
    exact star_collect (items := its.toArray) (.inl ⟨o, n, ho, hc, hd⟩) (by rw [List.size_toArray, ← rv.length]; exact hz) fun h' hk => by simpa using fin its rv h' hk
  · obtain ⟨its, rv, ⟨o, ho, hc, n, hd⟩, hz⟩ := I1.tuple hs
    exact star_collect (items := its.toArray) (.inr ⟨o, n, ho, hc, hd⟩) (by rw [List.size_toArray, ← rv.length]; exact hz) fun h' hk => by simpa using fin its rv h' hk
theorem l_star {e : Expr} {es : List Expr} {c : E} {cs : List E} {p : Pos} (h : GT Γ k e c) (hs : GL Γ k es cs) : GL Γ k (.Starred e p :: es) (.star c :: cs) := by
  obtain ⟨ta, pa, ga⟩ := h
  obtain ⟨tb, pb, gb⟩ := hs
  refine ⟨tStar Γ.K ta tb, fun X hX => by have hK := hX.K; rw [← hK]; exact pa_star (pa X hX) (pb X hX), fun A O v s σ H Q ds s' F e q => ?_⟩
  rw [evL] at e
  obtain ⟨x, s1, e1, f1⟩ := bind_ok e
  obtain ⟨xs, s2, e2, f2⟩ := bind_ok f1
  obtain ⟨ys, s3, e3, f3⟩ := bind_ok f2
  obtain ⟨e22, rfl⟩ := lift_ok e2
  obtain ⟨rfl, rfl⟩ := pure_ok f3
  refine ga A O v s σ H _ x _ F e1 fun x' H1 h1 t1 r1 => ?_
  obtain ⟨a, us, rfl, hs, l1⟩ := r1.items e22
  exact ⟨a, us, rfl, hs, gb A O v _ σ H1 _ ys _ (F.step h1 t1) e3 fun ys' H2 h2 t2 r2 => q _ H2 h2 (t1.trans t2) ((l1.step t2).append r2)⟩
theorem g_tup {es : List Expr} {cs : List E} {x1 : Nat} {pos : Pos} (h : GL Γ k es cs) : GE Γ k (.Tuple es x1 pos) (.tup cs) := by
  obtain ⟨t, p, g⟩ := h
  refine ⟨_, fun X hX => pe_tup (p X hX), fun A O v s σ H Q d s' F e q => ?_⟩
  rw [ev] at e
  obtain ⟨xs, s1, e1, e⟩ := bind_ok e
  unfold tupOk at e
  obtain ⟨hz, e⟩ := if_ok e
  obtain ⟨rfl, rfl⟩ := pure_ok e
  refine g A O v s σ H _ xs _ F e1 fun us H1 h1 t1 r1 => ⟨by rw [r1.length]; exact hz, fun p hp => ?_⟩
  have F1 := F.step h1 t1
  have st : Step A H1 (upd H1 p (.tup us)) := Step.upd hp
  exact q _ _ (F1.toFH.upd hp).hr (t1.trans st) (.tup (.inl ⟨upd_same, F1.toFH.fresh hp⟩) (r1.step st))
theorem g_lst {es : List Expr} {cs : List E} {pos : Pos} (h : GL Γ k es cs) : GE Γ k (.List es pos) (.lst cs) := by
  obtain ⟨t, p, g⟩ := h
  refine ⟨_, fun X hX => pe_lst (p X hX), fun A O v s σ H Q d s' F e q => ?_⟩
  rw [ev] at e
  obtain ⟨xs, s1, e1, e⟩ := bind_ok e
  unfold lstOk at e
  obtain ⟨hz, e⟩ := if_ok e
  obtain ⟨rfl, rfl⟩ := pure_ok e
  refine g A O v s σ H _ xs _ F e1 fun us H1 h1 t1 r1 => ⟨by rw [r1.length]; exact hz, fun p hp => ?_⟩
  have F1 := F.step h1 t1
  have st : Step A H1 (upd H1 p (.lst us)) := Step.upd hp
  exact q _ _ (F1.toFH.upd hp).hr (t1.trans st) (.lst upd_same (F1.toFH.fresh hp) (r1.step st))
/-! ### subscripts -/
theorem ixD_eq (n : Nat) (i : Int) : ixD n i = ixN n i := rfl
theorem atD_rep {K : PySem.W.Frag} {B : Addr → Prop} {H : Hp} {vs : List V} {ds : List D} {i : Int} {d : D} (h : RepL K B H vs ds) (e : atD ds i = some d) : ∃ v, atI vs i = some v ∧ Rep K B H v d := by
  unfold atD at e
  obtain ⟨j, e1, e2⟩ := Option.bind_eq_some_iff.mp e
  obtain ⟨v, h1, h2⟩ := h.get e2
  refine ⟨v, ?_, h2⟩
  unfold atI
  rw [h.length, ← ixD_eq, e1]
  exact h1
theorem op2_idx {K : PySem.W.Frag} : Op2 K (rIx K) idxD := by
  intro A O H s x y a b d Q F r1 r2 e q
  unfold idxD at e
  split at e
  · rename_i xs i
    obtain ⟨l, us, rfl, h1, l1⟩ := r1.lst_inv
    obtain ⟨v, e1, r⟩ := atD_rep l1 e
    exact .inl ⟨l, us, i, v, rfl, r2.int_inv, .of h1, e1, q v H F.hr .refl r⟩
  · rename_i xs i
    obtain ⟨l, us, rfl, h1, l1⟩ := r1.tup_inv
    obtain ⟨v, e1, r⟩ := atD_rep l1 e
    exact .inr (.inl ⟨l, us, i, v, rfl, r2.int_inv, h1.sq, e1, q v H F.hr .refl r⟩)
  · rename_i z i
    split at e
    · rename_i hz
      obtain ⟨c, e1, rfl⟩ := Option.map_eq_some_iff.mp e
      exact .inr (.inr ⟨z, i, c, r1.str_inv, r2.int_inv, hz, e1, q _ H F.hr .refl (.str _)⟩)
    · cases e
  · cases e
def noSlice : Expr → Bool
  | .Slice .. => false
  | _ => true
theorem plainIx_of {b : Expr} (h : noSlice b = true) : PlainIx b := fun o i => by
  cases b <;> first | rfl | cases h
theorem g_idx {a b : Expr} {ca cb : E} {pos : Pos} (ha : GT Γ k a ca) (hb : GT Γ k b cb) (hs : noSlice b = true) : GE Γ k (.Subscript a b pos) (.idx ca cb) :=
  g_two ha hb op2_idx (fun X hX ta tb pa pb => by have hK := hX.K; rw [← hK]; exact pe_ix ix_seq pa pb (plainIx_of hs)) fun v => by rw [ev]
/-- a slice's part -/
def GO (Γ : Ctx) (k : CallT) (e : Option Expr) (c : E) : Prop :=
  ∃ t, (∀ X, Γ.Has X → PO X e t) ∧ ∀ (A : HA) (O : Addr → Prop) (v : Env) (s : S) (σ : St) (H : Hp) (Q : Option Int → Hp → Prop) (o : Option Int) (s' : S), FE Γ.K A O v s σ H → partM c.isNo (ev k c v) s = .ok o s' →
    (∀ H', HRel A s' H' → Step A H H' → Q o H') → t σ H Q
theorem o_none : GO Γ k none .no := ⟨_, fun X hX => po_none, fun A O v s σ H Q o s' F e q => by
  obtain ⟨rfl, rfl⟩ := pure_ok (show M.pure (none : Option Int) s = .ok o s' from e)
  exact q H F.hr .refl⟩
theorem o_some {e : Expr} {c : E} (h : GT Γ k e c) (hn : c.isNo = false) : GO Γ k (some e) c := by
  obtain ⟨t, p, g⟩ := h
  refine ⟨_, fun X hX => po_some (p X hX), fun A O v s σ H Q o s' F e q => ?_⟩
  unfold partM at e
  rw [hn, if_neg Bool.false_ne_true] at e
  obtain ⟨y, s1, e1, e2⟩ := bind_ok e
  obtain ⟨i, s2, e3, e4⟩ := bind_ok e2
  obtain ⟨e5, rfl⟩ := lift_ok e3
  obtain ⟨rfl, rfl⟩ := pure_ok e4
  refine g A O v s σ H _ y _ F e1 fun x' H1 h1 t1 r1 => ?_
  unfold isInt at e5
  split at e5
  · cases e5
    exact ⟨i, r1.int_inv, q H1 h1 t1⟩
  · cases e5
theorem cutD_rep {K : PySem.W.Frag} {B : Addr → Prop} {H : Hp} {vs : List V} {ds : List D} {lo hi : Option Int} (h : RepL K B H vs ds) : RepL K B H (cutV vs lo hi) (cutD ds lo hi) := by
  unfold cutV cutD
  rw [h.length]
  exact (h.drop _).take _
theorem sIx_eq (n d : Nat) (o : Option Int) : sIx n d o = HT.sIx n d o := by cases o <;> rfl
abbrev rSlAll (K : PySem.W.Frag) : V → Option Int → Option Int → Hp → VK → Prop := fun x lo hi H Q => rSlL K x lo hi H Q ∨ (rSlA K x lo hi H Q ∨ rSlS x lo hi H Q)
theorem cut_whole {α : Type} {ds : List α} {lo hi : Option Int} (h1 : HT.sIx ds.length 0 lo = 0) (h2 : HT.sIx ds.length ds.length hi = ds.length) : cutD ds lo hi = ds := by
  unfold cutD
  rw [sIx_eq, sIx_eq, h1, h2]
  simp
theorem sl_ok {K : PySem.W.Frag} {A : HA} {O : Addr → Prop} {H : Hp} {s : S} {x : V} {a d : D} {lo hi : Option Int} {Q : VK} (F : FH A O s H) (r1 : Rep1 K A O H x a) (e : sliceD a lo hi = some d)
    (q : ∀ v H', HRel A s H' → Step A H H' → Rep K (Bo A O) H' v d → Q v H') : rSlAll K x lo hi H Q := by
  unfold sliceD at e
  split at e
  · cases e
    obtain ⟨l, us, rfl, h1, l1⟩ := r1.lst_inv
    refine .inl ⟨l, us, rfl, .of h1, fun p hp => ?_⟩
    exact q _ _ (F.upd hp).hr (Step.upd hp) (.lst upd_same (F.fresh hp) (cutD_rep (l1.step (Step.upd hp))))
  · cases e
    rename_i xs
    obtain ⟨l, us, rfl, h1, l1⟩ := r1.tup_inv
    refine .inr (.inl ⟨l, us, rfl, h1.sq, fun z => ?_, fun z p hp => ?_⟩)
    · rw [l1.length] at z
      rw [cut_whole z.1 z.2] at q
      exact q _ H F.hr .refl (.tup h1 l1)
    · exact q _ _ (F.upd hp).hr (Step.upd hp) (.tup (.inl ⟨upd_same, F.fresh hp⟩) (cutD_rep (l1.step (Step.upd hp))))
  · split at e
    · rename_i z hz
      cases e
      exact .inr (.inr ⟨z, r1.str_inv, hz, q _ H F.hr .refl (.str _)⟩)
    · cases e
  · cases e
theorem g_sl {a : Expr} {lo hi : Option Expr} {ca cl ch : E} {pos p2 : Pos} (ha : GT Γ k a ca) (hl : GO Γ k lo cl) (hh : GO Γ k hi ch) : GE Γ k (.Subscript a (.Slice lo hi none p2) pos) (.sl ca cl ch) := by
  obtain ⟨ta, pa, ga⟩ := ha
  obtain ⟨tl, pl, gl⟩ := hl
  obtain ⟨th, ph, gh⟩ := hh
  refine ⟨tSl (rSlAll Γ.K) ta tl th, fun X hX => by have hK := hX.K; rw [← hK]; exact pe_slice (sl_list.or (sl_tupA.or sl_str)) (pa X hX) (pl X hX) (ph X hX), fun A O v s σ H Q d s' F e q => ?_⟩
  rw [ev] at e
  obtain ⟨x, s1, e1, e⟩ := bind_ok e
  obtain ⟨l, s2, e2, e⟩ := bind_ok e
  obtain ⟨h, s3, e3, e⟩ := bind_ok e
  obtain ⟨e4, rfl⟩ := lift_ok e
  refine ga A O v s σ H _ x _ F e1 fun x' H1 h1 t1 r1 => ?_
  have F1 := F.step h1 t1
  refine gl A O v _ σ H1 _ l _ F1 e2 fun H2 h2 t2 => ?_
  have F2 := F1.step h2 t2
  refine gh A O v _ σ H2 _ h _ F2 e3 fun H3 h3 t3 => ?_
  have F3 := F2.step h3 t3
  exact sl_ok F3.toFH ((r1.step F1.toFH t2).step F2.toFH t3) e4 fun v' H4 h4 t4 r4 => q v' H4 h4 (((t1.trans t2).trans t3).trans t4) r4
theorem g_rev {a : Expr} {ca : E} {pos p1 p2 p3 : Pos} {j : Nat} (ha : GT Γ k a ca) : GE Γ k (.Subscript a (.Slice none none (some (.UnaryOp .USub (.Constant (.int 1) j p1) p2)) p3) pos) (.rev ca) := by
  obtain ⟨ta, pa, ga⟩ := ha
  refine ⟨fun σ H Q => tRevL Γ.K ta σ H Q ∨ tRevT Γ.K ta σ H Q, fun X hX => by have hK := hX.K; rw [← hK]; exact PE.or (pe_revL (pa X hX)) (pe_revT (pa X hX)), fun A O v s σ H Q d s' F e q => ?_⟩
  rw [ev] at e
  obtain ⟨x, s1, e1, e⟩ := bind_ok e
  obtain ⟨e2, rfl⟩ := lift_ok e
  unfold revD at e2
  split at e2
  · cases e2
    refine .inl (ga A O v s σ H _ _ _ F e1 fun x' H1 h1 t1 r1 => ?_)
    have F1 := F.step h1 t1
    obtain ⟨l, us, rfl, z1, l1⟩ := r1.lst_inv
    exact ⟨l, us, rfl, .of z1, fun p hp => q _ _ (F1.toFH.upd hp).hr (t1.trans (Step.upd hp)) (.lst upd_same (F1.toFH.fresh hp) (l1.step (Step.upd hp)).reverse)⟩
  · cases e2
    refine .inr (ga A O v s σ H _ _ _ F e1 fun x' H1 h1 t1 r1 => ?_)
    have F1 := F.step h1 t1
    obtain ⟨l, us, rfl, z1, l1⟩ := r1.tup_inv
    exact ⟨l, us, rfl, z1.sq, fun p hp => q _ _ (F1.toFH.upd hp).hr (t1.trans (Step.upd hp)) (.tup (.inl ⟨upd_same, F1.toFH.fresh hp⟩) (l1.step (Step.upd hp)).reverse)⟩
  · cases e2
/-- the script's first numbers -/
theorem g_scr {x : Str} {i n j : Nat} {pos p p1 p2 : Pos} (hN : Γ.N[i]? = some x) (hv : Vis Γ.sc x) (hd : (x == ("__debug__" : Str)) = false) (hcd : (x == ("__classdict__" : Str)) = false) :
    GE Γ k (.Subscript (.Name x p) (.Slice none (some (.Constant (.int n) j p1)) none p2) pos) (.scr i n) := by
  refine ⟨tSl (rSlAll Γ.K) (tVar i) _ _, fun X hX => by have hK := hX.K; rw [← hK]; exact pe_slice (sl_list.or (sl_tupA.or sl_str)) (pe_var (by rw [hX.N]; exact hN) (by rw [hX.sc]; exact hv) hd hcd) po_none (po_some pe_int), fun A O v s σ H Q d s' F e q => ?_⟩
  rw [ev] at e
  obtain ⟨e1, rfl⟩ := lift_ok e
  unfold getS at e1
  split at e1
  · rename_i ns hns
    cases e1
    obtain ⟨a, hx, h⟩ := F.sl i _ hns
    refine ⟨_, hx, _, rfl, .inl ⟨a, ns.map .int, rfl, h.sq, fun p hp => ?_⟩⟩
    have hc : cutV (ns.map V.int) none (some ((n : Nat) : Int)) = (ns.take n).map .int := by
      unfold cutV
      have h1 : HT.sIx (ns.map V.int).length 0 none = 0 := rfl
      have h2 : HT.sIx (ns.map V.int).length (ns.map V.int).length (some ((n : Nat) : Int)) = min n ns.length := by
        rw [HT.sIx_nat, List.length_map]
      rw [h1, h2, List.drop_zero, Nat.sub_zero, ← List.map_take]
      congr 1
      rw [List.take_eq_take_iff]
      omega
    rw [hc]
    exact q _ _ (F.toFH.upd hp).hr (Step.upd hp) (.lst upd_same (F.toFH.fresh hp) (RepL.of_ints _))
  · cases e1
end
end L2.NB
set_option Elab.async false
set_option linter.all false
set_option maxRecDepth 100000
/-! NB5T: min, max, sum, any, all of a tuple. -/
namespace L2.NB
open PySem PySem.Spec PyProof.Rows
/-- the iterator of a tuple, as it lies behind the push -/
abbrev tIt (l : Addr) : Obj := { cls := .type "tuple_iterator", data := .fields #[.ref l, .int 0 0] }
/-- what stands at a place of ints -/
theorem ints_nth {its : List Value} {ns : List Int} (h : IntsAre its ns) : ∀ (i : Nat) (v : Value), its.toArray[i]? = some v → ∃ t, v = .int (ns.getD i 0) t := by
  induction h with
  | nil => intro i v e; simp at e
  | cons n t r ih =>
    intro i v e
    cases i with
    | zero => simp at e; exact ⟨t, e.symm⟩
    | succ i => exact ih i v (by simpa using e)
theorem ints_size {its : List Value} {ns : List Int} (h : IntsAre its ns) : its.toArray.size = ns.length := by
  induction h with
  | nil => rfl
  | cons n t r ih => simpa using ih
theorem pre_app (x : Int) (l : List Int) : ∀ k, preSum (fun i => (x :: l).getD i 0) (k + 1) = x + preSum (fun i => l.getD i 0) k
  | 0 => by simp [preSum]
  | k + 1 => by
    have ih := pre_app x l k
    unfold preSum at ih ⊢
    rw [show preSum (fun i => (x :: l).getD i 0) (k + 1) = x + preSum (fun i => l.getD i 0) k from pre_app x l k]
    show _ + l.getD k 0 = x + preSum (fun i => l.getD i 0) (k + 1)
    rw [show preSum (fun i => l.getD i 0) (k + 1) = preSum (fun i => l.getD i 0) k + l.getD k 0 from rfl]
    omega
theorem pre_all : ∀ l : List Int, preSum (fun i => l.getD i 0) l.length = l.sum
  | [] => rfl
  | x :: l => by rw [List.length_cons, pre_app, pre_all l, List.sum_cons]
section
variable {prog : Program} {w : World} {A : Around} {E : Value → Shared → Prop} {s : Shared} {l : Addr}
/-- what a tuple's iterator offers -/
theorem tup_set {items : Array Value} (hh : A.handled = none) (hl : s.heap.IsTuple l items) : ∃ St, Walks prog w A s.heap.objs.size [s.heap.objs.size, l] [s.heap.objs.size] items.size (fun i v => items[i]? = some v) St ∧ St 0 (s.heap.push (tIt l)) ∧
    (∀ b ∈ [s.heap.objs.size, l], b < (s.heap.push (tIt l)).objs.size) ∧ (∀ h' : Heap, (∀ b o, b ∉ [s.heap.objs.size] → (s.heap.push (tIt l)).get? b = some o → h'.get? b = some o) → ∀ b o, s.heap.get? b = some o → h'.get? b = some o) := by
  have lt : l < s.heap.objs.size := hl.elim fun _ z => Heap.lt_size z.1
  refine ⟨_, Walks.tuple hh _ l (Nat.ne_of_lt lt) items, ⟨⟨_, Heap.get?_push_size _ rfl, rfl, rfl⟩, hl.push _⟩, ?_, ?_⟩
  · intro b m
    simp only [List.mem_cons, List.not_mem_nil, or_false] at m
    rw [Heap.size_push]
    exact m.elim (fun z => z ▸ Nat.lt_succ_self _) (fun z => z ▸ Nat.lt_succ_of_lt lt)
  · intro h' k b o e
    have ne : b ≠ s.heap.objs.size := Nat.ne_of_lt (Heap.lt_size e)
    exact k b o (by simpa using ne) (Heap.get?_push_of_some _ e)
end
section
variable {X : Cx}
/-- vs is one tuple of what f lays -/
def OneT {α : Type} (K : PySem.W.Frag) (f : α → V) (vs : List V) (H : Hp) (z : List α → Prop) : Prop := ∃ (a : Addr) (ns : List α), vs = [V.ref a] ∧ SqT K H a (ns.map f) ∧ z ns
def rSumT (K : PySem.W.Frag) : List V → Hp → VK → Prop := fun vs H Q => OneT K V.int vs H fun ns => Q (.int ns.sum) H
def rMaxT (K : PySem.W.Frag) : List V → Hp → VK → Prop := fun vs H Q => OneT K V.int vs H fun ns => ns ≠ [] ∧ ∀ m ∈ ns, (∀ y ∈ ns, y ≤ m) → Q (.int m) H
def rMinT (K : PySem.W.Frag) : List V → Hp → VK → Prop := fun vs H Q => OneT K V.int vs H fun ns => ns ≠ [] ∧ ∀ m ∈ ns, (∀ y ∈ ns, m ≤ y) → Q (.int m) H
def rAnyT (K : PySem.W.Frag) : List V → Hp → VK → Prop := fun vs H Q => OneT K V.bl vs H fun bs => Q (.bl (bs.any id)) H
def rAllT (K : PySem.W.Frag) : List V → Hp → VK → Prop := fun vs H Q => OneT K V.bl vs H fun bs => Q (.bl (bs.all id)) H
theorem isTupH {s : Shared} {a : Addr} {its : Array Value} (h : IsTup s.heap a its) : s.heap.IsTuple a its := h.elim fun o z => ⟨o, z.1, z.2.1, z.2.2⟩
theorem cr_sumT (hc : X.calm = true) : CallR X (.builtin "sum") (rSumT X.K) := by
  intro pins s σ H vs us Q I r ⟨a, ns, e, hs, q⟩
  subst e
  obtain ⟨its, rv, hl, _⟩ := I.tuple hs
  rw [Vals.ref1 r]
  obtain ⟨St, W, st, fp, kp⟩ := tup_set (prog := X.prog) (w := X.w) (A := X.A.in1) (I.ok.hd hc) (isTupH hl)
  refine PySem.call_sum_walkG (wpAny_pyIter_tuple (isTupH hl) ⟨_, _, _, _, _, St, fun i => ns.getD i 0, rfl, W, st, fp, ints_nth rv.ints, fun h' tk t' hk => ?_⟩)
  rw [ints_size rv.ints, pre_all]
  exact ⟨.int _, H, I.kept (kp h' hk), ⟨_, rfl⟩, q⟩
theorem cr_maxT (hc : X.calm = true) : CallR X (.builtin "max") (rMaxT X.K) := by
  intro pins s σ H vs us Q I r ⟨a, ns, e, hs, hne, q⟩
  subst e
  obtain ⟨its, rv, hl, _⟩ := I.tuple hs
  rw [Vals.ref1 r]
  have pos := List.length_pos_iff.mpr hne
  have sz := ints_size rv.ints
  obtain ⟨St, W, st, fp, kp⟩ := tup_set (prog := X.prog) (w := X.w) (A := X.A.in1) (I.ok.hd hc) (isTupH hl)
  refine PySem.call_max_walk (wpAny_pyIter_tuple (isTupH hl) ⟨_, _, _, _, _, St, _, rfl, W, st, fp, by rw [sz]; exact pos, CmpOf.ints_gt (fun i => ns.getD i 0) (ints_nth rv.ints), fun v h' tk hP hk => ?_⟩)
  obtain ⟨t, rfl⟩ := ints_nth rv.ints _ _ hP
  rw [sz]
  obtain ⟨b1, b2⟩ := argBest_gt (fun i => ns.getD i 0) (ns.length - 1)
  generalize argBest (fun i j => decide (ns.getD i 0 > ns.getD j 0)) (ns.length - 1) = b at b1 b2
  have hb : ns.getD b 0 ∈ ns := by
    rw [List.getD_eq_getElem?_getD, List.getElem?_eq_getElem (show b < ns.length by omega)]
    exact List.getElem_mem _
  refine ⟨.int _, H, I.kept (kp h' hk), ⟨_, rfl⟩, q _ hb fun y hy => ?_⟩
  obtain ⟨i, hi, rfl⟩ := List.mem_iff_getElem.mp hy
  have e : ns.getD i 0 = ns[i] := by rw [List.getD_eq_getElem?_getD, List.getElem?_eq_getElem hi]; rfl
  exact e ▸ b2 i (by omega)
theorem cr_minT (hc : X.calm = true) : CallR X (.builtin "min") (rMinT X.K) := by
  intro pins s σ H vs us Q I r ⟨a, ns, e, hs, hne, q⟩
  subst e
  obtain ⟨its, rv, hl, _⟩ := I.tuple hs
  rw [Vals.ref1 r]
  have pos := List.length_pos_iff.mpr hne
  have sz := ints_size rv.ints
  obtain ⟨St, W, st, fp, kp⟩ := tup_set (prog := X.prog) (w := X.w) (A := X.A.in1) (I.ok.hd hc) (isTupH hl)
  refine PySem.call_min_walk (wpAny_pyIter_tuple (isTupH hl) ⟨_, _, _, _, _, St, _, rfl, W, st, fp, by rw [sz]; exact pos, CmpOf.ints_lt (fun i => ns.getD i 0) (ints_nth rv.ints), fun v h' tk hP hk => ?_⟩)
  obtain ⟨t, rfl⟩ := ints_nth rv.ints _ _ hP
  rw [sz]
  obtain ⟨b1, b2⟩ := argBest_lt (fun i => ns.getD i 0) (ns.length - 1)
  generalize argBest (fun i j => decide (ns.getD i 0 < ns.getD j 0)) (ns.length - 1) = b at b1 b2
  have hb : ns.getD b 0 ∈ ns := by
    rw [List.getD_eq_getElem?_getD, List.getElem?_eq_getElem (show b < ns.length by omega)]
    exact List.getElem_mem _
  refine ⟨.int _, H, I.kept (kp h' hk), ⟨_, rfl⟩, q _ hb fun y hy => ?_⟩
  obtain ⟨i, hi, rfl⟩ := List.mem_iff_getElem.mp hy
  have e : ns.getD i 0 = ns[i] := by rw [List.getD_eq_getElem?_getD, List.getElem?_eq_getElem hi]; rfl
  exact e ▸ b2 i (by omega)
theorem cr_anyT (hc : X.calm = true) : CallR X (.builtin "any") (rAnyT X.K) := by
  intro pins s σ H vs us Q I r ⟨a, bs, e, hs, q⟩
  subst e
  obtain ⟨its, rv, hl, _⟩ := I.tuple hs
  rw [Vals.ref1 r]
  have eb := rv.bls
  obtain ⟨St, W, st, fp, kp⟩ := tup_set (prog := X.prog) (w := X.w) (A := X.A.in1) (I.ok.hd hc) (isTupH hl)
  refine call_any_walk (wpAny_pyIter_tuple (isTupH hl) ⟨_, _, _, _, _, St, _, rfl, W, st, truth_bools eb, fun h' tk hk => ⟨.bl _, H, I.kept (kp h' hk), ?_, q⟩⟩)
  have : its.toArray.size = bs.length := by rw [eb]; simp
  rw [this, any_range]
  rfl
theorem cr_allT (hc : X.calm = true) : CallR X (.builtin "all") (rAllT X.K) := by
  intro pins s σ H vs us Q I r ⟨a, bs, e, hs, q⟩
  subst e
  obtain ⟨its, rv, hl, _⟩ := I.tuple hs
  rw [Vals.ref1 r]
  have eb := rv.bls
  obtain ⟨St, W, st, fp, kp⟩ := tup_set (prog := X.prog) (w := X.w) (A := X.A.in1) (I.ok.hd hc) (isTupH hl)
  refine call_all_walk (wpAny_pyIter_tuple (isTupH hl) ⟨_, _, _, _, _, St, _, rfl, W, st, truth_bools eb, fun h' tk hk => ⟨.bl _, H, I.kept (kp h' hk), ?_, q⟩⟩)
  have : its.toArray.size = bs.length := by rw [eb]; simp
  rw [this, all_range]
  rfl
theorem CallR.or {f : Value} {r r' : List V → Hp → VK → Prop} (h : CallR X f r) (h' : CallR X f r') : CallR X f (fun vs H Q => r vs H Q ∨ r' vs H Q) := fun pins s σ H vs us Q I x z => z.elim (h pins s σ H vs us Q I x) (h' pins s σ H vs us Q I x)
def rMinA (K : PySem.W.Frag) : List V → Hp → VK → Prop := fun vs H Q => rMin K vs H Q ∨ rMinT K vs H Q
def rMaxA (K : PySem.W.Frag) : List V → Hp → VK → Prop := fun vs H Q => rMax K vs H Q ∨ rMaxT K vs H Q
def rSumA (K : PySem.W.Frag) : List V → Hp → VK → Prop := fun vs H Q => rSum K vs H Q ∨ rSumT K vs H Q
def rAnyA (K : PySem.W.Frag) : List V → Hp → VK → Prop := fun vs H Q => rAny K vs H Q ∨ rAnyT K vs H Q
def rAllA (K : PySem.W.Frag) : List V → Hp → VK → Prop := fun vs H Q => rAll K vs H Q ∨ rAllT K vs H Q
theorem cr_minA (hc : X.calm = true) : CallR X (.builtin "min") (rMinA X.K) := .or (cr_min hc) (cr_minT hc)
theorem cr_maxA (hc : X.calm = true) : CallR X (.builtin "max") (rMaxA X.K) := .or (cr_max hc) (cr_maxT hc)
theorem cr_sumA (hc : X.calm = true) : CallR X (.builtin "sum") (rSumA X.K) := .or (cr_sum hc) (cr_sumT hc)
theorem cr_anyA (hc : X.calm = true) : CallR X (.builtin "any") (rAnyA X.K) := .or (cr_any hc) (cr_anyT hc)
theorem cr_allA (hc : X.calm = true) : CallR X (.builtin "all") (rAllA X.K) := .or (cr_all hc) (cr_allT hc)
end
end L2.NB
set_option Elab.async false
set_option linter.all false
set_option maxRecDepth 100000
/-! NB6: built-ins called by name, isinstance, repr, calls of the text's own defs. -/
namespace L2.NB
open PySem PySem.Spec PyProof.Rows

section
variable {Γ : Ctx} {k : CallT}
/-! ### built-ins -/
inductive Rep1L (K : PySem.W.Frag) (A : HA) (O : Addr → Prop) (H : Hp) : List V → List D → Prop
  | nil : Rep1L K A O H [] []
  | cons {v : V} {vs : List V} {d : D} {ds : List D} : Rep1 K A O H v d → Rep1L K A O H vs ds → Rep1L K A O H (v :: vs) (d :: ds)
/-- a reading of arguments serves a function of values -/
def OpN (K : PySem.W.Frag) (r : List V → Hp → VK → Prop) (f : List D → Option D) : Prop := ∀ (A : HA) (O : Addr → Prop) (H : Hp) (s : S) (xs : List V) (ds : List D) (d : D) (Q : VK), FH A O s H → Rep1L K A O H xs ds → f ds = some d →
  (∀ v H', HRel A s H' → Step A H H' → Rep K (Bo A O) H' v d → Q v H') → r xs H Q
theorem evL1 {c : E} {v : Env} {s s' : S} {d : D} {f : List D → Option D} (h : isStarC c = false) (e : (do let xs ← evL k [c] v; liftO (f xs)) s = .ok d s') : ∃ x, ev k c v s = .ok x s' ∧ f [x] = some d := by
  obtain ⟨xs, s1, e1, e2⟩ := bind_ok e
  rw [evL_cons h] at e1
  obtain ⟨x, s2, e3, e4⟩ := bind_ok e1
  obtain ⟨ys, s3, e5, e6⟩ := bind_ok e4
  rw [evL] at e5
  obtain ⟨rfl, rfl⟩ := pure_ok e5
  obtain ⟨rfl, rfl⟩ := pure_ok e6
  obtain ⟨e7, rfl⟩ := lift_ok e2
  exact ⟨x, e3, e7⟩
theorem evL2 {c c' : E} {v : Env} {s s' : S} {d : D} {f : List D → Option D} (h : isStarC c = false) (h' : isStarC c' = false) (e : (do let xs ← evL k [c, c'] v; liftO (f xs)) s = .ok d s') :
    ∃ x y s1, ev k c v s = .ok x s1 ∧ ev k c' v s1 = .ok y s' ∧ f [x, y] = some d := by
  obtain ⟨xs, s1, e1, e2⟩ := bind_ok e
  rw [evL_cons h] at e1
  obtain ⟨x, s2, e3, e4⟩ := bind_ok e1
  obtain ⟨ys, s3, e5, e6⟩ := bind_ok e4
  rw [evL_cons h'] at e5
  obtain ⟨y, s4, e7, e8⟩ := bind_ok e5
  obtain ⟨zs, s5, e9, e10⟩ := bind_ok e8
  rw [evL] at e9
  obtain ⟨rfl, rfl⟩ := pure_ok e9
  obtain ⟨rfl, rfl⟩ := pure_ok e10
  obtain ⟨rfl, rfl⟩ := pure_ok e6
  obtain ⟨e7', rfl⟩ := lift_ok e2
  exact ⟨x, y, s2, e3, e7, e7'⟩
theorem g_b1 {b : Bi} {a e : Expr} {ca : E} {r : List V → Hp → VK → Prop} (ha : GT Γ k a ca) (op : OpN Γ.K r (biD b)) (hp : ∀ X, Γ.Has X → ∀ ta, PE X a ta → PE X e (tCB r (tCons ta tNil))) (hs : isStarC ca = false) : GE Γ k e (.bi b [ca]) := by
  obtain ⟨ta, pa, ga⟩ := ha
  refine ⟨_, fun X hX => hp X hX ta (pa X hX), fun A O v s σ H Q d s' F e q => ?_⟩
  rw [ev] at e
  obtain ⟨x, e1, e2⟩ := evL1 hs e
  exact ga A O v s σ H _ x s' F e1 fun x' H1 h1 t1 r1 => op A O H1 s' [x'] [x] d Q (F.step h1 t1).toFH (.cons r1 .nil) e2 fun v' H' h' t' r' => q v' H' h' (t1.trans t') r'
theorem g_b2 {b : Bi} {a a' e : Expr} {ca ca' : E} {r : List V → Hp → VK → Prop} (ha : GT Γ k a ca) (ha' : GT Γ k a' ca') (op : OpN Γ.K r (biD b)) (hp : ∀ X, Γ.Has X → ∀ ta tb, PE X a ta → PE X a' tb → PE X e (tCB r (tCons ta (tCons tb tNil))))
    (hs : isStarC ca = false) (hs' : isStarC ca' = false) : GE Γ k e (.bi b [ca, ca']) := by
  obtain ⟨ta, pa, ga⟩ := ha
  obtain ⟨tb, pb, gb⟩ := ha'
  refine ⟨_, fun X hX => hp X hX ta tb (pa X hX) (pb X hX), fun A O v s σ H Q d s' F e q => ?_⟩
  rw [ev] at e
  obtain ⟨x, y, s1, e1, e2, e3⟩ := evL2 hs hs' e
  refine ga A O v s σ H _ x s1 F e1 fun x' H1 h1 t1 r1 => ?_
  have F1 := F.step h1 t1
  exact gb A O v s1 σ H1 _ y s' F1 e2 fun y' H2 h2 t2 r2 => op A O H2 s' [x', y'] [x, y] d Q (F1.step h2 t2).toFH (.cons (r1.step F1.toFH t2) (.cons r2 .nil)) e3 fun v' H' h' t' r' => q v' H' h' ((t1.trans t2).trans t') r'
theorem opN_len {K : PySem.W.Frag} : OpN K (fun xs H Q => ∃ x n, xs = [x] ∧ LenV K x H n ∧ Q (.int n) H) (biD .len) := by
  intro A O H s xs ds d Q F r e q
  unfold biD at e
  split at e <;> first | (rename_i hne; cases hne; done) | (cases e; done) | skip
  · rename_i ys _ 
    cases e
    cases r with | cons r1 r2 =>
    cases r2
    obtain ⟨a, vs, rfl, h1, l⟩ := r1.lst_inv
    exact ⟨_, ys.length, rfl, .inl ⟨vs, .of h1, l.length.symm⟩, q _ H F.hr .refl (.int _)⟩
  · rename_i ys _ 
    cases e
    cases r with | cons r1 r2 =>
    cases r2
    obtain ⟨a, vs, rfl, h1, l⟩ := r1.tup_inv
    exact ⟨_, ys.length, rfl, .inr ⟨vs, h1.sq, l.length.symm⟩, q _ H F.hr .refl (.int _)⟩
  · rename_i z _ 
    split at e
    · rename_i hz
      cases e
      cases r with | cons r1 r2 =>
      cases r2
      exact ⟨_, z.length, rfl, by rw [r1.str_inv]; exact ⟨hz, rfl⟩, q _ H F.hr .refl (.int _)⟩
    · cases e
theorem opN_tup {K : PySem.W.Frag} : OpN K (fun xs H Q => ∃ p ys, xs = [.ref p] ∧ ((SqL K H p ys ∧ ∀ l, H l = none → Q (.ref l) (upd H l (.tup ys))) ∨ (SqT K H p ys ∧ Q (.ref p) H))) (biD .tup) := by
  intro A O H s xs ds d Q F r e q
  unfold biD at e
  split at e <;> first | (rename_i hne; cases hne; done) | (cases e; done) | skip
  · cases e
    cases r with | cons r1 r2 =>
    cases r2
    obtain ⟨a, vs, rfl, h1, l⟩ := r1.lst_inv
    exact ⟨_, vs, rfl, .inl ⟨.of h1, fun p hp => q _ _ (F.upd hp).hr (Step.upd hp) (.tup (.inl ⟨upd_same, F.fresh hp⟩) (l.step (Step.upd hp)))⟩⟩
  · cases e
    cases r with | cons r1 r2 =>
    cases r2
    obtain ⟨a, vs, rfl, h1, l⟩ := r1.tup_inv
    exact ⟨_, vs, rfl, .inr ⟨h1.sq, q _ H F.hr .refl (.tup h1 l)⟩⟩
theorem opN_lst {K : PySem.W.Frag} : OpN K (fun xs H Q => ∃ p ys, xs = [.ref p] ∧ (SqL K H p ys ∨ SqT K H p ys) ∧ ∀ l, H l = none → Q (.ref l) (upd H l (.lst ys))) (biD .lst) := by
  intro A O H s xs ds d Q F r e q
  unfold biD at e
  split at e <;> first | (rename_i hne; cases hne; done) | (cases e; done) | skip
  · cases e
    cases r with | cons r1 r2 =>
    cases r2
    obtain ⟨a, vs, rfl, h1, l⟩ := r1.lst_inv
    exact ⟨_, vs, rfl, .inl (.of h1), fun p hp => q _ _ (F.upd hp).hr (Step.upd hp) (.lst upd_same (F.fresh hp) (l.step (Step.upd hp)))⟩
  · cases e
    cases r with | cons r1 r2 =>
    cases r2
    obtain ⟨a, vs, rfl, h1, l⟩ := r1.tup_inv
    exact ⟨_, vs, rfl, .inr h1.sq, fun p hp => q _ _ (F.upd hp).hr (Step.upd hp) (.lst upd_same (F.fresh hp) (l.step (Step.upd hp)))⟩
theorem fold_max : ∀ (r : List Int) (x m : Int), r.foldl (fun m y => if m < y then y else m) x = m → (m = x ∨ m ∈ r) ∧ x ≤ m ∧ ∀ y ∈ r, y ≤ m
  | [], x, m, h => by cases h; exact ⟨.inl rfl, Int.le_refl _, fun y hy => nomatch hy⟩
  | z :: r, x, m, h => by
    rw [List.foldl_cons] at h
    obtain ⟨h1, h2, h3⟩ := fold_max r _ m h
    by_cases hz : x < z
    · rw [if_pos hz] at h1 h2
      refine ⟨.inr ?_, by omega, fun y hy => ?_⟩
      · rcases h1 with e | e
        · rw [e]; exact List.mem_cons_self
        · exact List.mem_cons_of_mem _ e
      · rcases List.mem_cons.mp hy with e | e
        · rw [e]; exact h2
        · exact h3 y e
    · rw [if_neg hz] at h1 h2
      refine ⟨?_, h2, fun y hy => ?_⟩
      · rcases h1 with e | e
        · exact .inl e
        · exact .inr (List.mem_cons_of_mem _ e)
      · rcases List.mem_cons.mp hy with e | e
        · rw [e]; omega
        · exact h3 y e
theorem fold_min : ∀ (r : List Int) (x m : Int), r.foldl (fun m y => if y < m then y else m) x = m → (m = x ∨ m ∈ r) ∧ m ≤ x ∧ ∀ y ∈ r, m ≤ y
  | [], x, m, h => by cases h; exact ⟨.inl rfl, Int.le_refl _, fun y hy => nomatch hy⟩
  | z :: r, x, m, h => by
    rw [List.foldl_cons] at h
    obtain ⟨h1, h2, h3⟩ := fold_min r _ m h
    by_cases hz : z < x
    · rw [if_pos hz] at h1 h2
      refine ⟨.inr ?_, by omega, fun y hy => ?_⟩
      · rcases h1 with e | e
        · rw [e]; exact List.mem_cons_self
        · exact List.mem_cons_of_mem _ e
      · rcases List.mem_cons.mp hy with e | e
        · rw [e]; exact h2
        · exact h3 y e
    · rw [if_neg hz] at h1 h2
      refine ⟨?_, h2, fun y hy => ?_⟩
      · rcases h1 with e | e
        · exact .inl e
        · exact .inr (List.mem_cons_of_mem _ e)
      · rcases List.mem_cons.mp hy with e | e
        · rw [e]; omega
        · exact h3 y e
theorem maxI_spec {ns : List Int} {m : Int} (h : maxI ns = some m) : m ∈ ns ∧ ∀ y ∈ ns, y ≤ m := by
  cases ns with
  | nil => cases h
  | cons x r =>
    obtain ⟨h1, h2, h3⟩ := fold_max r x m (Option.some.inj h)
    refine ⟨?_, fun y hy => ?_⟩
    · rcases h1 with e | e
      · rw [e]; exact List.mem_cons_self
      · exact List.mem_cons_of_mem _ e
    · rcases List.mem_cons.mp hy with e | e
      · rw [e]; exact h2
      · exact h3 y e
theorem minI_spec {ns : List Int} {m : Int} (h : minI ns = some m) : m ∈ ns ∧ ∀ y ∈ ns, m ≤ y := by
  cases ns with
  | nil => cases h
  | cons x r =>
    obtain ⟨h1, h2, h3⟩ := fold_min r x m (Option.some.inj h)
    refine ⟨?_, fun y hy => ?_⟩
    · rcases h1 with e | e
      · rw [e]; exact List.mem_cons_self
      · exact List.mem_cons_of_mem _ e
    · rcases List.mem_cons.mp hy with e | e
      · rw [e]; exact h2
      · exact h3 y e
theorem opN_max {K : PySem.W.Frag} : OpN K (rMaxA K) (biD .max) := by
  intro A O H s xs ds d Q F r e q
  unfold biD at e
  split at e <;> first | (rename_i hne; cases hne; done) | (cases e; done) | skip
  · obtain ⟨m, e1, rfl⟩ := Option.map_eq_some_iff.mp e
    obtain ⟨ns, e2, e3⟩ := Option.bind_eq_some_iff.mp e1
    cases r with | cons r1 r2 =>
    cases r2
    obtain ⟨a, vs, rfl, h1, l⟩ := r1.lst_inv
    cases l.ints e2
    obtain ⟨z1, z2⟩ := maxI_spec e3
    refine .inl ⟨a, ns, rfl, .of h1, List.length_pos_of_mem z1, fun m' y1 y2 => ?_⟩
    have : m' = m := Int.le_antisymm (z2 m' y1) (y2 m z1)
    subst this
    exact q _ H F.hr .refl (.int _)
  · obtain ⟨m, e1, rfl⟩ := Option.map_eq_some_iff.mp e
    obtain ⟨ns, e2, e3⟩ := Option.bind_eq_some_iff.mp e1
    cases r with | cons r1 r2 =>
    cases r2
    obtain ⟨a, vs, rfl, h1, l⟩ := r1.tup_inv
    cases l.ints e2
    obtain ⟨z1, z2⟩ := maxI_spec e3
    refine .inr ⟨a, ns, rfl, h1.sq, List.ne_nil_of_mem z1, fun m' y1 y2 => ?_⟩
    have : m' = m := Int.le_antisymm (z2 m' y1) (y2 m z1)
    subst this
    exact q _ H F.hr .refl (.int _)
theorem opN_min {K : PySem.W.Frag} : OpN K (rMinA K) (biD .min) := by
  intro A O H s xs ds d Q F r e q
  unfold biD at e
  split at e <;> first | (rename_i hne; cases hne; done) | (cases e; done) | skip
  · obtain ⟨m, e1, rfl⟩ := Option.map_eq_some_iff.mp e
    obtain ⟨ns, e2, e3⟩ := Option.bind_eq_some_iff.mp e1
    cases r with | cons r1 r2 =>
    cases r2
    obtain ⟨a, vs, rfl, h1, l⟩ := r1.lst_inv
    cases l.ints e2
    obtain ⟨z1, z2⟩ := minI_spec e3
    refine .inl ⟨a, ns, rfl, .of h1, List.length_pos_of_mem z1, fun m' y1 y2 => ?_⟩
    have : m' = m := Int.le_antisymm (y2 m z1) (z2 m' y1)
    subst this
    exact q _ H F.hr .refl (.int _)
  · obtain ⟨m, e1, rfl⟩ := Option.map_eq_some_iff.mp e
    obtain ⟨ns, e2, e3⟩ := Option.bind_eq_some_iff.mp e1
    cases r with | cons r1 r2 =>
    cases r2
    obtain ⟨a, vs, rfl, h1, l⟩ := r1.tup_inv
    cases l.ints e2
    obtain ⟨z1, z2⟩ := minI_spec e3
    refine .inr ⟨a, ns, rfl, h1.sq, List.ne_nil_of_mem z1, fun m' y1 y2 => ?_⟩
    have : m' = m := Int.le_antisymm (y2 m z1) (z2 m' y1)
    subst this
    exact q _ H F.hr .refl (.int _)
theorem opN_sum {K : PySem.W.Frag} : OpN K (rSumA K) (biD .sum) := by
  intro A O H s xs ds d Q F r e q
  unfold biD at e
  split at e <;> first | (rename_i hne; cases hne; done) | (cases e; done) | skip
  · obtain ⟨ns, e2, rfl⟩ := Option.map_eq_some_iff.mp e
    cases r with | cons r1 r2 =>
    cases r2
    obtain ⟨a, vs, rfl, h1, l⟩ := r1.lst_inv
    cases l.ints e2
    exact .inl ⟨a, ns, rfl, .of h1, q _ H F.hr .refl (.int _)⟩
  · obtain ⟨ns, e2, rfl⟩ := Option.map_eq_some_iff.mp e
    cases r with | cons r1 r2 =>
    cases r2
    obtain ⟨a, vs, rfl, h1, l⟩ := r1.tup_inv
    cases l.ints e2
    exact .inr ⟨a, ns, rfl, h1.sq, q _ H F.hr .refl (.int _)⟩
theorem opN_all {K : PySem.W.Frag} : OpN K (rAllA K) (biD .all) := by
  intro A O H s xs ds d Q F r e q
  unfold biD at e
  split at e <;> first | (rename_i hne; cases hne; done) | (cases e; done) | skip
  · obtain ⟨ns, e2, rfl⟩ := Option.map_eq_some_iff.mp e
    cases r with | cons r1 r2 =>
    cases r2
    obtain ⟨a, vs, rfl, h1, l⟩ := r1.lst_inv
    cases l.bools e2
    exact .inl ⟨a, ns, rfl, .of h1, q _ H F.hr .refl (.bl _)⟩
  · obtain ⟨ns, e2, rfl⟩ := Option.map_eq_some_iff.mp e
    cases r with | cons r1 r2 =>
    cases r2
    obtain ⟨a, vs, rfl, h1, l⟩ := r1.tup_inv
    cases l.bools e2
    exact .inr ⟨a, ns, rfl, h1.sq, q _ H F.hr .refl (.bl _)⟩
theorem opN_any {K : PySem.W.Frag} : OpN K (rAnyA K) (biD .any) := by
  intro A O H s xs ds d Q F r e q
  unfold biD at e
  split at e <;> first | (rename_i hne; cases hne; done) | (cases e; done) | skip
  · obtain ⟨ns, e2, rfl⟩ := Option.map_eq_some_iff.mp e
    cases r with | cons r1 r2 =>
    cases r2
    obtain ⟨a, vs, rfl, h1, l⟩ := r1.lst_inv
    cases l.bools e2
    exact .inl ⟨a, ns, rfl, .of h1, q _ H F.hr .refl (.bl _)⟩
  · obtain ⟨ns, e2, rfl⟩ := Option.map_eq_some_iff.mp e
    cases r with | cons r1 r2 =>
    cases r2
    obtain ⟨a, vs, rfl, h1, l⟩ := r1.tup_inv
    cases l.bools e2
    exact .inr ⟨a, ns, rfl, h1.sq, q _ H F.hr .refl (.bl _)⟩
theorem insD_perm (x : Int) : ∀ l : List Int, (insD x l).Perm (x :: l)
  | [] => .refl _
  | y :: r => by
    unfold insD
    split
    · exact .refl _
    · exact (List.Perm.cons y (insD_perm x r)).trans (List.Perm.swap x y r)
theorem sortI_perm : ∀ l : List Int, (sortI l).Perm l
  | [] => .refl _
  | x :: r => (insD_perm x (sortI r)).trans (List.Perm.cons x (sortI_perm r))
theorem insD_sorted (x : Int) : ∀ l : List Int, l.Pairwise (· ≤ ·) → (insD x l).Pairwise (· ≤ ·)
  | [], _ => List.pairwise_singleton _ _
  | y :: r, h => by
    unfold insD
    split
    · rename_i hxy
      refine List.pairwise_cons.mpr ⟨fun z hz => ?_, h⟩
      rcases List.mem_cons.mp hz with e | e
      · rw [e]; exact hxy
      · exact Int.le_trans hxy ((List.pairwise_cons.mp h).1 z e)
    · rename_i hxy
      refine List.pairwise_cons.mpr ⟨fun z hz => ?_, insD_sorted x r (List.pairwise_cons.mp h).2⟩
      rcases List.mem_cons.mp ((insD_perm x r).mem_iff.mp hz) with e | e
      · rw [e]; omega
      · exact (List.pairwise_cons.mp h).1 z e
theorem sortI_sorted : ∀ l : List Int, (sortI l).Pairwise (· ≤ ·)
  | [] => .nil
  | x :: r => insD_sorted x _ (sortI_sorted r)
theorem sorted_unique {l l' : List Int} (p : l.Perm l') (h : l.Pairwise (· ≤ ·)) (h' : l'.Pairwise (· ≤ ·)) : l = l' :=
  p.eq_of_pairwise (fun a b _ _ h1 h2 => Int.le_antisymm h1 h2) h h'
theorem opN_sorted {K : PySem.W.Frag} : OpN K (rSortedI K) (biD .sorted) := by
  intro A O H s xs ds d Q F r e q
  unfold biD at e
  split at e <;> first | (rename_i hne; cases hne; done) | (cases e; done) | skip
  obtain ⟨ns, e2, rfl⟩ := Option.map_eq_some_iff.mp e
  cases r with | cons r1 r2 =>
  cases r2
  obtain ⟨a, vs, rfl, h1, l⟩ := r1.lst_inv
  cases l.ints e2
  refine ⟨a, ns, rfl, .of h1, fun ns' p hp hs hn => ?_⟩
  have : ns' = sortI ns := sorted_unique (hp.trans (sortI_perm ns).symm) hs (sortI_sorted ns)
  subst this
  exact q _ _ (F.upd hn).hr (Step.upd hn) (.lst upd_same (F.fresh hn) (RepL.of_ints _))
theorem opN_abs {K : PySem.W.Frag} : OpN K (fun xs H Q => ∃ i, xs = [.int i] ∧ Q (.int (if i < 0 then -i else i)) H) (biD .abs) := by
  intro A O H s xs ds d Q F r e q
  unfold biD at e
  split at e <;> first | (rename_i hne; cases hne; done) | (cases e; done) | skip
  cases e
  cases r with | cons r1 r2 =>
  cases r2
  cases r1.int_inv
  exact ⟨_, rfl, q _ H F.hr .refl (.int _)⟩
theorem opN_int {K : PySem.W.Frag} : OpN K (fun xs H Q => (∃ i, xs = [.int i] ∧ Q (.int i) H) ∨ ∃ k, xs = [.bl k] ∧ Q (.int (if k then 1 else 0)) H) (biD .int) := by
  intro A O H s xs ds d Q F r e q
  unfold biD at e
  split at e <;> first | (rename_i hne; cases hne; done) | (cases e; done) | skip
  cases e
  cases r with | cons r1 r2 =>
  cases r2
  cases r1.int_inv
  exact .inl ⟨_, rfl, q _ H F.hr .refl (.int _)⟩
theorem opN_str {K : PySem.W.Frag} : OpN K (fun xs H Q => ∃ i, xs = [.int i] ∧ i.natAbs.log2 < 1920 ∧ Q (.str (toString i)) H) (biD .str) := by
  intro A O H s xs ds d Q F r e q
  unfold biD at e
  split at e <;> first | (rename_i hne; cases hne; done) | (cases e; done) | skip
  split at e
  · rename_i hz
    cases e
    cases r with | cons r1 r2 =>
    cases r2
    cases r1.int_inv
    exact ⟨_, rfl, hz, q _ H F.hr .refl (.str _)⟩
  · cases e
theorem opN_min2 {K : PySem.W.Frag} : OpN K (fun xs H Q => ∃ i j, xs = [.int i, .int j] ∧ Q (.int (if j < i then j else i)) H) (biD .min2) := by
  intro A O H s xs ds d Q F r e q
  unfold biD at e
  split at e <;> first | (rename_i hne; cases hne; done) | (cases e; done) | skip
  cases e
  cases r with | cons r1 r2 =>
  cases r2 with | cons r2 r3 =>
  cases r3
  cases r1.int_inv
  cases r2.int_inv
  exact ⟨_, _, rfl, q _ H F.hr .refl (.int _)⟩
theorem opN_max2 {K : PySem.W.Frag} : OpN K (fun xs H Q => ∃ i j, xs = [.int i, .int j] ∧ Q (.int (if j > i then j else i)) H) (biD .max2) := by
  intro A O H s xs ds d Q F r e q
  unfold biD at e
  split at e <;> first | (rename_i hne; cases hne; done) | (cases e; done) | skip
  cases e
  cases r with | cons r1 r2 =>
  cases r2 with | cons r2 r3 =>
  cases r3
  cases r1.int_inv
  cases r2.int_inv
  exact ⟨_, _, rfl, q _ H F.hr .refl (.int _)⟩
/-! ### repr -/
abbrev rRepr (K : PySem.W.Frag) : List V → Hp → VK → Prop := fun xs H Q => ∃ x d, xs = [x] ∧ Dp K H x d ∧ reprOk d = true ∧ Q (.str d.shown) H
theorem call_repr {X : Cx} (hg : X.A.guards = some []) (hu : X.A.units + 64 < cLine) : CallR X (.builtin "repr") (rRepr X.K) := by
  intro pins s σ H xs us Q I r h
  obtain ⟨x, d, rfl, hd, ok, q⟩ := h
  obtain ⟨u, rfl, r1⟩ := vals1 r
  obtain ⟨as, rd⟩ := Dp.reads I d x u hd r1
  unfold reprOk at ok
  simp only [Bool.and_eq_true, decide_eq_true_eq, Bool.not_eq_true'] at ok
  obtain ⟨⟨⟨o1, o2⟩, o3⟩, o4⟩ := ok
  cases rd with
  | none => exact P.repr_of_none ⟨.str _, H, I.tok _, ⟨_, rfl⟩, q⟩
  | bool b => exact P.repr_of_bool ⟨.str _, H, I.tok _, ⟨_, rfl⟩, q⟩
  | int i t => exact P.repr_of_int (by simpa [PyData.showable] using o1) ⟨.str _, H, I.tok _, ⟨_, rfl⟩, q⟩
  | str z t => exact P.repr_of_str ⟨.str _, H, I.tok _, ⟨_, rfl⟩, q⟩ o4
  | list a1 a2 a3 a4 => exact repr_of_reads' (.list a1 a2 a3 a4) o1 (PyData.noDict_hsm o2) hg (by omega) (fun _ _ e => e) (fun h' w tk hk => ⟨.str _, H, I.kept (t' := tk) hk, ⟨_, rfl⟩, q⟩) o4
  | tuple a1 a2 a3 a4 => exact repr_of_reads' (.tuple a1 a2 a3 a4) o1 (PyData.noDict_hsm o2) hg (by omega) (fun _ _ e => e) (fun h' w tk hk => ⟨.str _, H, I.kept (t' := tk) hk, ⟨_, rfl⟩, q⟩) o4
  | dict => cases hd
theorem opN_repr {K : PySem.W.Frag} : OpN K (rRepr K) (biD .repr) := by
  intro A O H s xs ds d Q F r e q
  unfold biD at e
  split at e <;> first | (rename_i hne; cases hne; done) | (cases e; done) | skip
  split at e
  · rename_i hz
    cases e
    cases r with | cons r1 r2 =>
    cases r2
    exact ⟨_, _, rfl, r1.dp, hz, q _ H F.hr .refl (.str _)⟩
  · cases e
end
end L2.NB
set_option Elab.async false
set_option linter.all false
set_option maxRecDepth 100000
/-! NB7: isinstance, ranges as lists, calls of the text's own defs. -/
namespace L2.NB
open PySem PySem.Spec PyProof.Rows

section
variable {Γ : Ctx} {k : CallT}
/-! ### isinstance -/
def Ty.name : Ty → String
  | .int => "int" | .bool => "bool" | .str => "str" | .tuple => "tuple" | .list => "list"
def tyName : D → String
  | .none => "NoneType" | .bool _ => "bool" | .int _ => "int" | .str _ => "str" | .tuple _ => "tuple" | .list _ => "list" | .dict _ => "dict"
theorem kit_tab : ∀ u : Ty, kitB "NoneType" u.name = some (tyD u .none) ∧ kitB "bool" u.name = some (tyD u (.bool true)) ∧ kitB "int" u.name = some (tyD u (.int 0)) ∧ kitB "str" u.name = some (tyD u (.str "")) ∧
    kitB "tuple" u.name = some (tyD u (.tuple [])) ∧ kitB "list" u.name = some (tyD u (.list [])) := by
  intro u
  cases u <;> decide +kernel
theorem kit_d {K : PySem.W.Frag} (u : Ty) (d : D) (h : noDict d = true) : PySem.W.kitOne K (.type (tyName d)) (.type u.name) = some (tyD u d) := by
  obtain ⟨h1, h2, h3, h4, h5, h6⟩ := kit_tab u
  cases d with
  | none => exact kit_ty h1
  | bool b => exact kit_ty (h2.trans (by cases u <;> rfl))
  | int i => exact kit_ty (h3.trans (by cases u <;> rfl))
  | str z => exact kit_ty (h4.trans (by cases u <;> rfl))
  | tuple ds => exact kit_ty (h5.trans (by cases u <;> rfl))
  | list ds => exact kit_ty (h6.trans (by cases u <;> rfl))
  | dict _ => cases h
theorem kitAny_d {K : PySem.W.Frag} (d : D) (h : noDict d = true) : ∀ us : List Ty, PySem.W.kitAny K (.type (tyName d)) (us.map fun u => Value.type u.name) = some (us.any fun u => tyD u d)
  | [] => rfl
  | u :: us => by
    rw [List.map_cons, List.any_cons]
    refine kitAny_cons (kit_d u d h) (fun e => ?_) fun e => by rw [e]; rfl
    rw [e, Bool.false_or]
    exact kitAny_d d h us
theorem ty_rep {K : PySem.W.Frag} {A : HA} {O : Addr → Prop} {H : Hp} {v : V} {d : D} (h : Rep1 K A O H v d) : TyX K H v (.type (tyName d)) := by
  rcases h with h | ⟨a, vs, ds, rfl, rfl, e3, _, _⟩
  · cases h with
    | non => exact .base .non
    | bl b => exact .base (.bl b)
    | int i => exact .base (.int i)
    | str x => exact .base (.str x)
    | lst e _ _ => exact .base (.lst e)
    | tup h _ =>
      rcases h with ⟨e, _⟩ | ⟨o, its, n, e, c, _⟩
      · exact .base (.tup e)
      · exact .kTuple e c
  · exact .base (.lst e3)
/-- a type's name as a value -/
theorem pe_tyname {X : Cx} {u : Ty} {pos : Pos} (hg : Gl X (Str.ofString u.name)) (hm : X.mg (Str.ofString u.name) = none) : PE X (.Name (Str.ofString u.name) pos) (tC (.ty u.name)) := by
  cases u <;> exact pe_bltn hg hm (by decide +kernel) rfl
theorem g_isi {a : Expr} {ca : E} {u : Ty} {p p2 pos : Pos} (ha : GT Γ k a ca) (hn : noStar a = true) (hb : Blt Γ "isinstance") (hbu : Blt Γ (Str.ofString u.name)) :
    GE Γ k (.Call (.Name "isinstance" p) [a, .Name (Str.ofString u.name) p2] [] pos) (.isi ca [u]) := by
  obtain ⟨ta, pa, ga⟩ := ha
  refine ⟨tCB (rIsi Γ.K) (tCons ta (tCons (tC (.ty u.name)) tNil)), fun X hX => by have hK := hX.K; rw [← hK]; exact pe_callB call_isi (hX.gl hb.1) (hX.mgn hb.2) (by decide +kernel) (pa_cons (pa X hX) (pa_cons (pe_tyname (hX.gl hbu.1) (hX.mgn hbu.2)) pa_nil) (starEach_cons hn)) (he := starEach_cons hn), fun A O v s σ H Q d s' F e q => ?_⟩
  rw [ev] at e
  obtain ⟨x, s1, e1, f1⟩ := bind_ok e
  obtain ⟨t, s2, e2, f2⟩ := bind_ok f1
  obtain ⟨e3, rfl⟩ := lift_ok e2
  obtain ⟨rfl, rfl⟩ := pure_ok f2
  refine ga A O v s σ H _ x _ F e1 fun x' H1 h1 t1 r1 => ?_
  unfold isiD at e3
  split at e3
  · rename_i hd
    cases e3
    refine ⟨x', .ty u.name, .type (tyName x), .type u.name, _, rfl, .ty _, ty_rep r1, kit_d u x hd, ?_⟩
    have : ([u].any fun t => tyD t x) = tyD u x := by simp
    rw [← this]
    exact q _ H1 h1 t1 (.bl _)
  · cases e3
theorem pa_types {X : Cx} {env : PySem.Env} : ∀ {us : List Ty} {es : List Expr}, (∀ u ∈ us, Gl X (Str.ofString u.name) ∧ X.mg (Str.ofString u.name) = none) → (∃ ps : List Pos, es = (us.zip ps).map (fun q => Expr.Name (Str.ofString q.1.name) q.2) ∧ ps.length = us.length) →
    PA X es (fun _ H Q => Q (us.map fun u => V.ty u.name) H)
  | [], es, _, ⟨ps, e, _⟩ => by
    subst e
    exact pa_nil
  | u :: us, es, h, ⟨ps, e, l⟩ => by
    cases ps with
    | nil => cases l
    | cons p ps =>
      subst e
      have ih := pa_types (env := env) (us := us) (es := (us.zip ps).map (fun q => Expr.Name (Str.ofString q.1.name) q.2)) (fun u hu => h u (List.mem_cons_of_mem _ hu)) ⟨ps, rfl, by simpa using l⟩
      exact pa_cons (pe_tyname (h u List.mem_cons_self).1 (h u List.mem_cons_self).2) ih (starEach_cons rfl)
theorem clsAll : ∀ us : List Ty, Paired ClsV (us.map fun u => V.ty u.name) (us.map fun u => Value.type u.name)
  | [] => .nil
  | _ :: us => .cons (.ty _) (clsAll us)
theorem g_isiT {a : Expr} {ca : E} {us : List Ty} {es : List Expr} {p pos tpos : Pos} {x1 : Nat} (ha : GT Γ k a ca) (hn : noStar a = true) (hb : Blt Γ "isinstance") (hu : ∀ u ∈ us, Blt Γ (Str.ofString u.name))
    (he : ∃ ps : List Pos, es = (us.zip ps).map (fun q => Expr.Name (Str.ofString q.1.name) q.2) ∧ ps.length = us.length) (hz : us.length ≤ 10) :
    GE Γ k (.Call (.Name "isinstance" p) [a, .Tuple es x1 tpos] [] pos) (.isi ca us) := by
  obtain ⟨ta, pa, ga⟩ := ha
  refine ⟨tCB (rIsiT Γ.K) (tCons ta (tCons (tTup fun _ H Q => Q (us.map fun u => V.ty u.name) H) tNil)), fun X hX => by have hK := hX.K; rw [← hK]; exact pe_callB call_isiT (hX.gl hb.1) (hX.mgn hb.2) (by decide +kernel) (pa_cons (pa X hX) (pa_cons (pe_tup (pa_types (env := X.env) (fun u hu' => ⟨hX.gl (hu u hu').1, hX.mgn (hu u hu').2⟩) he)) pa_nil) (starEach_cons hn)) (he := starEach_cons hn), fun A O v s σ H Q d s' F e q => ?_⟩
  rw [ev] at e
  obtain ⟨x, s1, e1, f1⟩ := bind_ok e
  obtain ⟨t, s2, e2, f2⟩ := bind_ok f1
  obtain ⟨e3, rfl⟩ := lift_ok e2
  obtain ⟨rfl, rfl⟩ := pure_ok f2
  refine ga A O v s σ H _ x _ F e1 fun x' H1 h1 t1 r1 => ?_
  have F1 := F.step h1 t1
  unfold isiD at e3
  split at e3
  · rename_i hd
    cases e3
    refine ⟨by rw [List.length_map, sizeLine_eq]; omega, fun tp hp => ?_⟩
    exact ⟨x', tp, _, .type (tyName x), _, _, rfl, upd_same, clsAll us, ty_rep (r1.step F1.toFH (Step.upd hp)), kitAny_d x hd us, q _ _ (F1.toFH.upd hp).hr (t1.trans (Step.upd hp)) (.bl _)⟩
  · cases e3
/-! ### list(range(..)), tuple(range(..)) -/
theorem rngL_eq (a b : Int) : rngL a (b - a).toNat = (List.range (b - a).toNat).map fun i => PyData.int (a + (i : Nat)) := rfl
theorem rep_rg {K : PySem.W.Frag} {B : Addr → Prop} {H : Hp} (a b : Int) : RepL K B H (rgV a b) (rngL a (b - a).toNat) := RepL.of_map (fun i => .int _) _
theorem rngOk_of {i : Int} (h : rngOk i = true) : -(2 ^ 62) ≤ i ∧ i < 2 ^ 62 := by
  unfold rngOk at h
  rw [Bool.and_eq_true] at h
  exact ⟨of_decide_eq_true h.1, of_decide_eq_true h.2⟩
/-- a range's expression -/
def GR (Γ : Ctx) (k : CallT) (e : Expr) (c : E) : Prop :=
  ∃ t, (∀ X, Γ.Has X → PRg X e t) ∧ ∀ (A : HA) (O : Addr → Prop) (v : Env) (s : S) (σ : St) (H : Hp) (Q : Int → Int → Hp → Prop) (d : D) (s' : S), FE Γ.K A O v s σ H → ev k c v s = .ok d s' →
    (∀ a b H', HRel A s' H' → Step A H H' → rngOk a = true → rngOk b = true → d = .list (rngL a (b - a).toNat) → Q a b H') → t σ H Q
theorem r_1 {a : Expr} {ca : E} {p pos : Pos} (ha : GT Γ k a ca) (hn : noStar a = true) (hb : Blt Γ "range") : GR Γ k (.Call (.Name "range" p) [a] [] pos) (.rng1 ca) := by
  obtain ⟨ta, pa, ga⟩ := ha
  refine ⟨_, fun X hX => prg_1 (hX.gl hb.1) (hX.mgn hb.2) (pa X hX) (starEach_cons hn), fun A O v s σ H Q d s' F e q => ?_⟩
  rw [ev] at e
  obtain ⟨x, s1, e1, f1⟩ := bind_ok e
  obtain ⟨e2, rfl⟩ := lift_ok f1
  refine ga A O v s σ H _ x _ F e1 fun x' H1 h1 t1 r1 => ?_
  unfold rng1D at e2
  split at e2
  · rename_i j
    split at e2
    · rename_i hj
      cases e2
      exact ⟨j, r1.int_inv, q 0 j H1 h1 t1 (by decide) hj (by rw [Int.sub_zero])⟩
    · cases e2
  · cases e2
theorem r_2 {a b : Expr} {ca cb : E} {p pos : Pos} (ha : GT Γ k a ca) (hb' : GT Γ k b cb) (hn : noStar a = true) (hn' : noStar b = true) (hb : Blt Γ "range") : GR Γ k (.Call (.Name "range" p) [a, b] [] pos) (.rng2 ca cb) := by
  obtain ⟨ta, pa, ga⟩ := ha
  obtain ⟨tb, pb, gb⟩ := hb'
  refine ⟨_, fun X hX => prg_2 (hX.gl hb.1) (hX.mgn hb.2) (pa X hX) (pb X hX) (starEach_cons hn) (starEach_cons hn') (any_backTo (by simp [hn'])), fun A O v s σ H Q d s' F e q => ?_⟩
  rw [ev] at e
  obtain ⟨x, y, s1, e1, e2, e3⟩ := ev2_ok e
  refine ga A O v s σ H _ x s1 F e1 fun x' H1 h1 t1 r1 => ?_
  refine gb A O v s1 σ H1 _ y s' (F.step h1 t1) e2 fun y' H2 h2 t2 r2 => ?_
  unfold rng2D at e3
  split at e3
  · rename_i i j
    split at e3
    · rename_i hj
      cases e3
      exact ⟨i, j, r1.int_inv, r2.int_inv, q i j H2 h2 (t1.trans t2) hj.1 hj.2 rfl⟩
    · cases e3
  · cases e3
theorem rgok_of {a b : Int} (h1 : rngOk a = true) (h2 : rngOk b = true) (h : (rngL a (b - a).toNat).length ≤ sizeLine) : RgOk a b := by
  unfold rngL at h
  rw [List.length_map, List.length_range, sizeLine_eq] at h
  obtain ⟨x1, x2⟩ := rngOk_of h1
  obtain ⟨x3, x4⟩ := rngOk_of h2
  exact ⟨x1, x2, x3, x4, by omega⟩
theorem g_lstRg {e : Expr} {c : E} {p pos : Pos} (h : GR Γ k e c) (hn : noStar e = true) (hs : isStarC c = false) (hb : Blt Γ "list") : GE Γ k (.Call (.Name "list" p) [e] [] pos) (.bi .lstRg [c]) := by
  obtain ⟨t, pr, g⟩ := h
  refine ⟨_, fun X hX => pe_listRg hX.calm (hX.gl hb.1) (hX.mgn hb.2) (pr X hX) (starEach_cons hn), fun A O v s σ H Q d s' F e q => ?_⟩
  rw [ev] at e
  obtain ⟨x, e1, e2⟩ := evL1 hs e
  refine g A O v s σ H _ x s' F e1 fun a b H1 h1 t1 ha hb ex => ?_
  subst ex
  have F1 := F.step h1 t1
  simp only [biD] at e2
  split at e2
  · rename_i hz
    cases e2
    exact ⟨rgok_of ha hb hz, fun p hp => q _ _ (F1.toFH.upd hp).hr (t1.trans (Step.upd hp)) (.lst upd_same (F1.toFH.fresh hp) (rep_rg a b))⟩
  · cases e2
theorem g_tupRg {e : Expr} {c : E} {p pos : Pos} (h : GR Γ k e c) (hn : noStar e = true) (hs : isStarC c = false) (hb : Blt Γ "tuple") : GE Γ k (.Call (.Name "tuple" p) [e] [] pos) (.bi .tupRg [c]) := by
  obtain ⟨t, pr, g⟩ := h
  refine ⟨_, fun X hX => pe_tupRg hX.calm (hX.gl hb.1) (hX.mgn hb.2) (pr X hX) (starEach_cons hn), fun A O v s σ H Q d s' F e q => ?_⟩
  rw [ev] at e
  obtain ⟨x, e1, e2⟩ := evL1 hs e
  refine g A O v s σ H _ x s' F e1 fun a b H1 h1 t1 ha hb ex => ?_
  subst ex
  have F1 := F.step h1 t1
  simp only [biD] at e2
  split at e2
  · rename_i hz
    cases e2
    exact ⟨rgok_of ha hb hz, fun p hp => q _ _ (F1.toFH.upd hp).hr (t1.trans (Step.upd hp)) (.tup (.inl ⟨upd_same, F1.toFH.fresh hp⟩) (rep_rg a b))⟩
  · cases e2

/-! ### calls -/
/-- a def's promise where no guard runs around -/
structure FnG (P : Program) (w : World) (K : PySem.W.Frag) (mg : Str → Option Value) (base : Heap) (n : Nat) (f : Addr) (fd : FuncData) (ps : List Str) (sp : Sp) : Prop where
  len : ∀ vs H Q E, sp vs H Q E → vs.length = ps.length
  run : ∀ (A : Around) (outer : List PySem.Env) (s : Shared) (H : Hp) (args : Args) (us : List Value) (vs : List V) (Q : VK), Room n A → A.guards = some [] → Env0 P w K mg base A outer s H → BindsTo s fd args (ps.zip us) → Vals vs us → sp vs H Q E0 →
    codeAny (model P w) A (.call (.ref f) args) (CR CX0 outer P w H s Q E0) s
theorem run_fnG {X : Cx} {n : Nat} {f : Addr} {fd : FuncData} {ps : List Str} {sp : Sp} {pins : List (Addr × Obj)} {σ : St} {H : Hp} {s : Shared} {Q : VK} {us : List Value} {args : Args} {vs : List V} (F : FnG X.prog X.w X.K X.mg X.base n f fd ps sp) (hr : Room n X.A) (hg : X.A.guards = some [])
    (hb : BindsTo s fd args (ps.zip us)) (I : Inv X pins σ H s) (r : Vals vs us) (h : sp vs H Q E0) : codeAny (model X.prog X.w) X.A (.call (.ref f) args) (fun r s' => match r with | .ok (.ret u) => EP X pins σ Q u s' | _ => False) s := by
  refine codeAny_mono (F.run X.A X.stack s H args us vs Q hr hg I.env0 hb r h) fun r s' hq => ?_
  cases r with
  | error e => exact False.elim hq
  | ok fl =>
    cases fl with
    | ret u => exact I.after hq
    | next => exact False.elim hq
    | brk => exact False.elim hq
    | cont => exact False.elim hq
theorem call_fnG {X : Cx} {n : Nat} {f : Addr} {fd : FuncData} {ps : List Str} {sp : Sp} {pins : List (Addr × Obj)} {σ : St} {H : Hp} {s : Shared} {Q : VK} {us ws : List Value} {kw : List (Str × Value)} {vs : List V} (F : FnG X.prog X.w X.K X.mg X.base n f fd ps sp) (hr : Room n X.A) (hg : X.A.guards = some [])
    (hb : BindsTo s fd ⟨us, kw⟩ (ps.zip ws)) (I : Inv X pins σ H s) (r : Vals vs ws) (h : sp vs H Q E0) : wpAny (model X.prog X.w) X.A (call (.ref f) us kw) (EP X pins σ Q) X.xe s := by
  refine wpAny_call (codeAny_mono (run_fnG F hr hg hb I r h) fun r s' hq => ?_)
  cases r with
  | error e => exact False.elim hq
  | ok fl =>
    cases fl with
    | ret u => exact hq
    | next => exact False.elim hq
    | brk => exact False.elim hq
    | cont => exact False.elim hq
/-- what a def of the table promises, with room for n calls -/
def spN (P : Prog) (K : PySem.W.Frag) (n : Nat) (f : Str) : Sp := fun vs H Q _ => ∃ (A : HA) (O : Addr → Prop) (s s' : S) (xs : List AV) (d : D), FH A O s H ∧ ArgsR K A O H vs xs ∧ callN P n f xs s = .ok d s' ∧
  ∀ v H', HRel A s' H' → Step A H H' → Rep K (Bo A O) H' v d → Q v H'
def Fn.np : Fn → Nat
  | .code np _ _ => np
  | .prim np _ => np
/-- how a call by keywords alone goes: the names as written, their places -/
def KwOk (K : PySem.W.Frag) (fd : FuncData) (ps : List Str) (ks : List Str) (perm : List Nat) : Prop := ∀ (s : Shared) (ws : List Value), K.In s.heap → ws.length = ks.length → BindsTo s fd ⟨[], ks.zip ws⟩ (ps.zip (perm.filterMap fun i => ws[i]?))
structure FnAt (P : Prog) (pw : Program) (w : World) (K : PySem.W.Frag) (mg : Str → Option Value) (base : Heap) (n : Nat) (kws : List (Str × List Str × List Nat)) (f : Str) (F : Fn) (a : Addr) (fd : FuncData) (ps : List Str) : Prop where
  gl : mg f = some (.ref a)
  kp : PySem.W.keepIn K (.ref a) = true
  np : ps.length = F.np
  bd : Binds K fd ps []
  kw : ∀ ks perm, (f, ks, perm) ∈ kws → KwOk K fd ps ks perm
  ok : FnG pw w K mg base n a fd ps (spN P K n f)
/-- all defs of the table, with room for n calls -/
def Fns (P : Prog) (pw : Program) (w : World) (K : PySem.W.Frag) (mg : Str → Option Value) (base : Heap) (n : Nat) (kws : List (Str × List Str × List Nat)) : Prop :=
  ∀ f F, P.fn f = some F → ∃ a fd ps, FnAt P pw w K mg base n kws f F a fd ps
theorem a_nil : GA Γ k [] [] := ⟨_, fun X hX => pa_nil, fun A O v s σ H Q ds s' F e q => by
  rw [evA] at e
  obtain ⟨rfl, rfl⟩ := pure_ok e
  exact q [] H F.hr .refl trivial⟩
def isHndC : E → Bool
  | .hnd _ => true
  | _ => false
theorem evA_cons {c : E} {cs : List E} {v : Env} (h : isHndC c = false) : evA k (c :: cs) v = (do let x ← ev k c v; let ys ← evA k cs v; M.pure (.d x :: ys)) := by
  cases c <;> first | rfl | (cases h; done)
theorem ArgsR.step {K : PySem.W.Frag} {A : HA} {O : Addr → Prop} {H H' : Hp} (st : Step A H H') : ∀ {vs : List V} {xs : List AV}, ArgsR K A O H vs xs → ArgsR K A O H' vs xs
  | [], [], _ => trivial
  | _ :: _, _ :: _, h => ⟨h.1.step st, ArgsR.step st h.2⟩
theorem a_cons {e : Expr} {es : List Expr} {c : E} {cs : List E} (h : GE Γ k e c) (hs : GA Γ k es cs) (hn : noStar e = true) (hc : isHndC c = false) : GA Γ k (e :: es) (c :: cs) := by
  obtain ⟨ta, pa, ga⟩ := h
  obtain ⟨tb, pb, gb⟩ := hs
  refine ⟨_, fun X hX => pa_cons (pa X hX) (pb X hX) (starEach_cons hn), fun A O v s σ H Q ds s' F e q => ?_⟩
  rw [evA_cons hc] at e
  obtain ⟨x, s1, e1, f1⟩ := bind_ok e
  obtain ⟨ys, s2, e2, f2⟩ := bind_ok f1
  obtain ⟨rfl, rfl⟩ := pure_ok f2
  refine ga A O v s σ H _ x s1 F e1 fun x' H1 h1 t1 r1 => ?_
  exact gb A O v s1 σ H1 _ ys _ (F.step h1 t1) e2 fun ys' H2 h2 t2 r2 => q _ H2 h2 (t1.trans t2) ⟨Rep.step r1 t2, r2⟩
theorem a_hnd {i : Nat} {x : Str} {pos : Pos} {es : List Expr} {cs : List E} (hN : Γ.N[i]? = some x) (hv : Vis Γ.sc x) (hd : (x == ("__debug__" : Str)) = false) (hcd : (x == ("__classdict__" : Str)) = false) (hs : GA Γ k es cs) : GA Γ k (.Name x pos :: es) (.hnd i :: cs) := by
  obtain ⟨tb, pb, gb⟩ := hs
  refine ⟨tCons (tVar i) tb, fun X hX => pa_cons (pe_var (by rw [hX.N]; exact hN) (by rw [hX.sc]; exact hv) hd hcd) (pb X hX) (starEach_cons rfl), fun A O v s σ H Q ds s' F e q => ?_⟩
  rw [evA] at e
  obtain ⟨n, s1, e1, f1⟩ := bind_ok e
  obtain ⟨ys, s2, e2, f2⟩ := bind_ok f1
  obtain ⟨e3, rfl⟩ := lift_ok e1
  obtain ⟨rfl, rfl⟩ := pure_ok f2
  unfold getH at e3
  split at e3
  · rename_i m hm
    cases e3
    obtain ⟨p, hp, hx⟩ := F.sl i _ hm
    refine ⟨_, hx, ?_⟩
    exact gb A O v _ σ H _ ys _ F e2 fun ys' H2 h2 t2 r2 => q _ H2 h2 t2 ⟨⟨p, hp, rfl⟩, r2⟩
  · rename_i m hm
    cases e3
    obtain ⟨a, hx, hp⟩ := F.sl i _ hm
    refine ⟨_, hx, ?_⟩
    exact gb A O v _ σ H _ ys _ F e2 fun ys' H2 h2 t2 r2 => q _ H2 h2 t2 ⟨AVR.step (x := .s m) ⟨a, rfl, hp⟩ t2, r2⟩
  · cases e3
theorem Ctx.Has.fn_ {P : Prog} {kws : List (Str × List Str × List Nat)} {f : Str} {F : Fn} {a : Addr} {fd : FuncData} {ps : List Str} {X : Cx} (h : Γ.Has X) (x : FnAt P Γ.pw Γ.w Γ.K Γ.mg Γ.base Γ.n kws f F a fd ps) : FnAt P X.prog X.w X.K X.mg X.base Γ.n kws f F a fd ps := by
  have h1 := h.prog
  have h2 := h.w
  have h3 := h.K
  have h4 := h.mg
  have h5 := h.base
  rw [h1, h2, h3, h4, h5]
  exact x
variable {P : Prog} {n : Nat} {kws : List (Str × List Str × List Nat)}
def tCallG (sp : Sp) (t : TA) : TE := fun σ H Q => t σ H fun vs H1 => sp vs H1 Q E0
theorem pe_callG {X : Cx} {f : Str} {p pos : Pos} {a : Addr} {fd : FuncData} {ps : List Str} {Fd : Fn} {e : Expr} {es : List Expr} {t : TA} (F : FnAt P X.prog X.w X.K X.mg X.base n kws f Fd a fd ps) (hr : Room n X.A) (hg : X.A.guards = some []) (hgl : Gl X f) (ha : PA X (e :: es) t) (hdb : (f == ("__debug__" : Str)) = false)
    (hn : (e :: es).all noStar = true) : PE X (.Call (.Name f p) (e :: es) [] pos) (tCallG (spN P X.K n f) t) := by
  have hn2 := hn
  rw [List.all_cons, Bool.and_eq_true] at hn2
  refine ⟨fun pins s σ H Q I h => ?_⟩
  refine wpAny_Call_Name_kw (ld_glob I hgl F.gl ?_ hdb)
  refine PySem.W.callWith_K (h₀ := X.base) I.ok.mod.kin F.kp (thn (ha.run pos pins s σ H _ I h) fun us s1 ⟨vs, H1, I1, r, q⟩ => ⟨I1.kIn, ?_⟩) (starEach_cons hn2.1) (any_backTo hn2.2)
  have hl : (us ++ []).length = ps.length := by
    rw [List.append_nil, ← r.length]
    exact F.ok.len _ _ _ _ q
  have hb := F.bd s1 us I1.kIn hl
  rw [List.append_nil] at hb
  exact call_fnG F.ok hr hg hb I1 r q
theorem pe_callG0 {X : Cx} {f : Str} {p pos : Pos} {a : Addr} {fd : FuncData} {ps : List Str} {Fd : Fn} (F : FnAt P X.prog X.w X.K X.mg X.base n kws f Fd a fd ps) (hr : Room n X.A) (hg : X.A.guards = some []) (hgl : Gl X f) (hdb : (f == ("__debug__" : Str)) = false) :
    PE X (.Call (.Name f p) [] [] pos) (tCallG (spN P X.K n f) tNil) := by
  refine ⟨fun pins s σ H Q I h => ?_⟩
  refine wpAny_Call_Name_kw (ld_glob I hgl F.gl ?_ hdb)
  refine PySem.W.callWith_K0 I.kIn F.kp ?_
  have hb := F.bd s [] I.kIn (by rw [List.append_nil]; exact F.ok.len _ _ _ E0 h)
  exact call_fnG (us := []) F.ok hr hg hb I .nil h
theorem spN_of {A : HA} {O : Addr → Prop} {s s' : S} {H : Hp} {xs : List AV} {vs : List V} {f : Str} {d : D} {Q : VK} (F : FH A O s H) (r : ArgsR Γ.K A O H vs xs) (e : callN P Γ.n f xs s = .ok d s') (q : ∀ v H', HRel A s' H' → Step A H H' → Rep Γ.K (Bo A O) H' v d → Q v H') : spN P Γ.K Γ.n f vs H Q E0 :=
  ⟨A, O, s, s', xs, d, F, r, e, q⟩
theorem g_call {f : Str} {p pos : Pos} {e : Expr} {es : List Expr} {cs : List E} (Fs : Fns P Γ.pw Γ.w Γ.K Γ.mg Γ.base Γ.n kws) (hf : (P.fn f).isSome = true) (hgl : Γ.sc.names.lookup f = some .globalImplicit) (ha : GA Γ (callN P Γ.n) (e :: es) cs) (hdb : (f == ("__debug__" : Str)) = false)
    (hn : (e :: es).all noStar = true) : GE Γ (callN P Γ.n) (.Call (.Name f p) (e :: es) [] pos) (.call f cs) := by
  obtain ⟨Fd, hF⟩ := Option.isSome_iff_exists.mp hf
  obtain ⟨a, fd, ps, F⟩ := Fs f Fd hF
  obtain ⟨ta, pa, ga⟩ := ha
  refine ⟨tCallG (spN P Γ.K Γ.n f) ta, fun X hX => by have hK := hX.K; rw [← hK]; exact pe_callG (hX.fn_ F) hX.room hX.gd (hX.gl hgl) (pa X hX) hdb hn, fun A O v s σ H Q d s' Fe e q => ?_⟩
  rw [ev] at e
  obtain ⟨xs, s1, e1, e2⟩ := bind_ok e
  exact ga A O v s σ H _ xs s1 Fe e1 fun vs H1 h1 t1 r1 => spN_of (Fe.step h1 t1).toFH r1 e2 fun v' H' h' t' r' => q v' H' h' (t1.trans t') r'
theorem g_call0 {f : Str} {p pos : Pos} (Fs : Fns P Γ.pw Γ.w Γ.K Γ.mg Γ.base Γ.n kws) (hf : (P.fn f).isSome = true) (hgl : Γ.sc.names.lookup f = some .globalImplicit) (hdb : (f == ("__debug__" : Str)) = false) :
    GE Γ (callN P Γ.n) (.Call (.Name f p) [] [] pos) (.call f []) := by
  obtain ⟨Fd, hF⟩ := Option.isSome_iff_exists.mp hf
  obtain ⟨a, fd, ps, F⟩ := Fs f Fd hF
  refine ⟨tCallG (spN P Γ.K Γ.n f) tNil, fun X hX => by have hK := hX.K; rw [← hK]; exact pe_callG0 (hX.fn_ F) hX.room hX.gd (hX.gl hgl) hdb, fun A O v s σ H Q d s' Fe e q => ?_⟩
  rw [ev] at e
  obtain ⟨xs, s1, e1, e2⟩ := bind_ok e
  rw [evA] at e1
  obtain ⟨rfl, rfl⟩ := pure_ok e1
  exact spN_of (xs := []) (vs := []) Fe.toFH trivial e2 q
/-! owned lists lent for a call -/
theorem rep_atom {K : PySem.W.Frag} {B B' : Addr → Prop} {H : Hp} {v : V} {d : D} (ha : atomD d = true) (r : Rep K B H v d) : Rep K B' H v d := by
  cases r with
  | non => exact .non
  | bl b => exact .bl b
  | int i => exact .int i
  | str x => exact .str x
  | lst _ _ _ => cases ha
  | tup _ _ => cases ha
def GAB (Γ : Ctx) (k : CallT) (es : List Expr) (cs : List E) : Prop :=
  ∃ t, (∀ X, Γ.Has X → PA X es t) ∧ ∀ (A : HA) (O : Addr → Prop) (v : Env) (s : S) (σ : St) (H : Hp) (Q : List V → Hp → Prop) (ds : List AV) (s' : S), FE Γ.K A O v s σ H → evA k cs v s = .ok ds s' →
    (∀ xs H', HRel A s' H' → Step A H H' → ArgsR Γ.K A (fun _ => False) H' xs ds → Q xs H') → t σ H Q
theorem ab_nil : GAB Γ k [] [] := ⟨_, fun X hX => pa_nil, fun A O v s σ H Q ds s' F e q => by
  rw [evA] at e
  obtain ⟨rfl, rfl⟩ := pure_ok e
  exact q [] H F.hr .refl trivial⟩
theorem Rep1.lend {K : PySem.W.Frag} {A : HA} {O : Addr → Prop} {s : S} {H : Hp} {v : V} {d : D} (F : FH A O s H) (r : Rep1 K A O H v d) : Rep K (Bo A fun _ => False) H v d := by
  have sub : ∀ b, Bo A (fun _ => False) b → Bo A O b ∨ H b = none := fun b z => z.elim (fun z => .inl (.inl z)) False.elim
  rcases r with r | ⟨a, vs, ds, rfl, rfl, ha, ho, r⟩
  · exact r.mono sub fun _ _ q _ => q
  · exact .lst ha (fun z => z.elim (F.on a ho).1 id) (r.mono sub fun _ _ q _ => q)
theorem ab_cons {e : Expr} {es : List Expr} {c : E} {cs : List E} (h : GT Γ k e c) (hs : GAB Γ k es cs) (hn : noStar e = true) (hc : isHndC c = false) : GAB Γ k (e :: es) (c :: cs) := by
  obtain ⟨ta, pa, ga⟩ := h
  obtain ⟨tb, pb, gb⟩ := hs
  refine ⟨_, fun X hX => pa_cons (pa X hX) (pb X hX) (starEach_cons hn), fun A O v s σ H Q ds s' F e q => ?_⟩
  rw [evA_cons hc] at e
  obtain ⟨x, s1, e1, f1⟩ := bind_ok e
  obtain ⟨ys, s2, e2, f2⟩ := bind_ok f1
  obtain ⟨rfl, rfl⟩ := pure_ok f2
  refine ga A O v s σ H _ x s1 F e1 fun x' H1 h1 t1 r1 => ?_
  exact gb A O v s1 σ H1 _ ys _ (F.step h1 t1) e2 fun ys' H2 h2 t2 r2 => q _ H2 h2 (t1.trans t2) ⟨Rep.step (r1.lend (F.step h1 t1).toFH) t2, r2⟩
theorem g_callB {f : Str} {p pos : Pos} {e : Expr} {es : List Expr} {cs : List E} (Fs : Fns P Γ.pw Γ.w Γ.K Γ.mg Γ.base Γ.n kws) (hf : (P.fn f).isSome = true) (hgl : Γ.sc.names.lookup f = some .globalImplicit) (ha : GAB Γ (callN P Γ.n) (e :: es) cs) (hdb : (f == ("__debug__" : Str)) = false)
    (hn : (e :: es).all noStar = true) : GE Γ (callN P Γ.n) (.Call (.Name f p) (e :: es) [] pos) (.callB f cs) := by
  obtain ⟨Fd, hF⟩ := Option.isSome_iff_exists.mp hf
  obtain ⟨a, fd, ps, F⟩ := Fs f Fd hF
  obtain ⟨ta, pa, ga⟩ := ha
  refine ⟨tCallG (spN P Γ.K Γ.n f) ta, fun X hX => by have hK := hX.K; rw [← hK]; exact pe_callG (hX.fn_ F) hX.room hX.gd (hX.gl hgl) (pa X hX) hdb hn, fun A O v s σ H Q d s' Fe e q => ?_⟩
  rw [ev] at e
  obtain ⟨xs, s1, e1, e2⟩ := bind_ok e
  obtain ⟨x, s2, e3, e4⟩ := bind_ok e2
  obtain ⟨hx, e5⟩ := if_ok e4
  obtain ⟨rfl, rfl⟩ := pure_ok e5
  refine ga A O v s σ H _ xs s1 Fe e1 fun vs H1 h1 t1 r1 => ?_
  exact spN_of (O := fun _ => False) ⟨h1, fun _ z => z.elim⟩ r1 e3 fun v' H' h' t' r' => q v' H' h' (t1.trans t') (rep_atom hx r')
/-! by keywords alone -/
theorem pe_callGK {X : Cx} {f : Str} {p pos : Pos} {a : Addr} {fd : FuncData} {ps ks : List Str} {perm : List Nat} {Fd : Fn} {kw : List Keyword} {t : TA} (F : FnAt P X.prog X.w X.K X.mg X.base n kws f Fd a fd ps) (hk : (f, ks, perm) ∈ kws) (hr : Room n X.A) (hg : X.A.guards = some []) (hgl : Gl X f) (ha : PK X kw t)
    (hdb : (f == ("__debug__" : Str)) = false) (hall : (backToKw pos (keywordEach kw X.env)).all (·.1.isSome) = true) (hks : (backToKw pos (keywordEach kw X.env)).filterMap (·.1) = ks)
    (hpl : ((backTo pos (starEach [] X.env)).any (·.1) || (backToKw pos (keywordEach kw X.env)).any (·.1.isNone)) = false) :
    PE X (.Call (.Name f p) [] kw pos) (fun σ H Q => t σ H fun zs H1 => zs.length = ks.length ∧ spN P X.K n f (perm.filterMap fun i => zs[i]?) H1 Q E0) := by
  refine ⟨fun pins s σ H Q I h => ?_⟩
  refine wpAny_Call_Name_kw (ld_glob I hgl F.gl ?_ hdb)
  refine PySem.W.callWith_KW0 (h₀ := X.base) I.ok.mod.kin F.kp hall ?_ hpl
  refine thn (ha.run pos pins s σ H _ I h) fun ws s2 ⟨zs, H2, I2, rz, l2, q2⟩ => ⟨I2.kIn, ?_⟩
  rw [hks]
  have hb := F.kw ks perm hk s2 ws I2.kIn (by rw [← rz.length]; exact l2)
  have rr : ∀ l : List Nat, Vals (l.filterMap fun i => zs[i]?) (l.filterMap fun i => ws[i]?) := by
    intro l
    induction l with
    | nil => exact .nil
    | cons i r ih =>
      rw [List.filterMap_cons, List.filterMap_cons]
      cases e : zs[i]? with
      | none =>
        rw [rz.none_of e]
        exact ih
      | some z =>
        obtain ⟨u, e1, e2⟩ := rz.get e
        rw [e1]
        exact .cons e2 ih
  exact call_fnG (us := []) F.ok hr hg hb I2 (rr perm) q2
/-- the keywords' values -/
def GK (Γ : Ctx) (k : CallT) (kw : List Keyword) (cs : List E) : Prop :=
  ∃ t, (∀ X, Γ.Has X → PK X kw t) ∧ ∀ (A : HA) (O : Addr → Prop) (v : Env) (s : S) (σ : St) (H : Hp) (Q : List V → Hp → Prop) (ds : List AV) (s' : S), FE Γ.K A O v s σ H → evA k cs v s = .ok ds s' →
    (∀ xs H', HRel A s' H' → Step A H H' → ArgsR Γ.K A O H' xs ds → Q xs H') → t σ H Q
theorem k_nil : GK Γ k [] [] := ⟨_, fun X hX => pk_nil, fun A O v s σ H Q ds s' F e q => by
  rw [evA] at e
  obtain ⟨rfl, rfl⟩ := pure_ok e
  exact q [] H F.hr .refl trivial⟩
theorem k_cons {nm : Option Str} {kp : Pos} {e : Expr} {es : List Keyword} {c : E} {cs : List E} (h : GE Γ k e c) (hs : GK Γ k es cs) (hc : isHndC c = false) : GK Γ k (⟨nm, e, kp⟩ :: es) (c :: cs) := by
  obtain ⟨ta, pa, ga⟩ := h
  obtain ⟨tb, pb, gb⟩ := hs
  refine ⟨_, fun X hX => pk_cons (pa X hX) (pb X hX), fun A O v s σ H Q ds s' F e q => ?_⟩
  rw [evA_cons hc] at e
  obtain ⟨x, s1, e1, f1⟩ := bind_ok e
  obtain ⟨ys, s2, e2, f2⟩ := bind_ok f1
  obtain ⟨rfl, rfl⟩ := pure_ok f2
  refine ga A O v s σ H _ x s1 F e1 fun x' H1 h1 t1 r1 => ?_
  exact gb A O v s1 σ H1 _ ys _ (F.step h1 t1) e2 fun ys' H2 h2 t2 r2 => q _ H2 h2 (t1.trans t2) ⟨Rep.step r1 t2, r2⟩
theorem ArgsR.get {K : PySem.W.Frag} {A : HA} {O : Addr → Prop} {H : Hp} : ∀ {vs : List V} {xs : List AV} (i : Nat), ArgsR K A O H vs xs → (vs[i]? = none ∧ xs[i]? = none) ∨ ∃ v x, vs[i]? = some v ∧ xs[i]? = some x ∧ AVR K A O H v x
  | [], [], i, _ => .inl (by simp)
  | v :: vs, x :: xs, 0, h => .inr ⟨v, x, rfl, rfl, h.1⟩
  | _ :: vs, _ :: xs, i + 1, h => by simpa using ArgsR.get i h.2
theorem ArgsR.perm {K : PySem.W.Frag} {A : HA} {O : Addr → Prop} {H : Hp} {vs : List V} {xs : List AV} (h : ArgsR K A O H vs xs) : ∀ l : List Nat, ArgsR K A O H (l.filterMap fun i => vs[i]?) (l.filterMap fun i => xs[i]?)
  | [] => trivial
  | i :: r => by
    rw [List.filterMap_cons, List.filterMap_cons]
    rcases h.get i with ⟨e1, e2⟩ | ⟨v, x, e1, e2, e3⟩
    · rw [e1, e2]
      exact ArgsR.perm h r
    · rw [e1, e2]
      exact ⟨e3, ArgsR.perm h r⟩
theorem kw_facts {pos : Pos} {env : PySem.Env} : ∀ {kw : List Keyword} {ks : List Str}, kw.map (·.arg) = ks.map some →
    (backToKw pos (keywordEach kw env)).all (·.1.isSome) = true ∧ (backToKw pos (keywordEach kw env)).filterMap (·.1) = ks ∧ (backToKw pos (keywordEach kw env)).any (·.1.isNone) = false
  | [], [], _ => ⟨rfl, rfl, rfl⟩
  | ⟨nm, e, kp⟩ :: kw, k :: ks, h => by
    simp only [List.map_cons, List.cons.injEq] at h
    obtain ⟨h1, h2⟩ := h
    obtain ⟨i1, i2, i3⟩ := kw_facts (pos := pos) (env := env) h2
    subst h1
    refine ⟨?_, ?_, ?_⟩
    · show (true && (backToKw pos (keywordEach kw env)).all (·.1.isSome)) = true
      rw [i1]; rfl
    · show k :: (backToKw pos (keywordEach kw env)).filterMap (·.1) = k :: ks
      rw [i2]
    · show (false || (backToKw pos (keywordEach kw env)).any (·.1.isNone)) = false
      rw [i3]; rfl
  | [], _ :: _, h => by cases h
  | _ :: _, [], h => by cases h
theorem GK.len {kw : List Keyword} {cs : List E} {v : Env} {s s' : S} {ds : List AV} : ∀ {cs : List E} {v : Env} {s s' : S} {ds : List AV}, evA k cs v s = .ok ds s' → ds.length = cs.length
  | [], v, s, s', ds, e => by
    rw [evA] at e
    obtain ⟨rfl, rfl⟩ := pure_ok e
    rfl
  | c :: cs, v, s, s', ds, e => by
    cases hc : isHndC c with
    | false =>
      rw [evA_cons hc] at e
      obtain ⟨x, s1, e1, f1⟩ := bind_ok e
      obtain ⟨ys, s2, e2, f2⟩ := bind_ok f1
      obtain ⟨rfl, rfl⟩ := pure_ok f2
      rw [List.length_cons, List.length_cons, GK.len (kw := []) (cs := []) (v := []) (s := []) (s' := []) (ds := []) e2]
    | true =>
      cases c <;> first | (cases hc; done) | skip
      rw [evA] at e
      obtain ⟨x, s1, e1, f1⟩ := bind_ok e
      obtain ⟨ys, s2, e2, f2⟩ := bind_ok f1
      obtain ⟨rfl, rfl⟩ := pure_ok f2
      rw [List.length_cons, List.length_cons, GK.len (kw := []) (cs := []) (v := []) (s := []) (s' := []) (ds := []) e2]
theorem g_callK {f : Str} {p pos : Pos} {kw : List Keyword} {ks : List Str} {perm : List Nat} {cs : List E} (Fs : Fns P Γ.pw Γ.w Γ.K Γ.mg Γ.base Γ.n kws) (hf : (P.fn f).isSome = true) (hk : (f, ks, perm) ∈ kws) (hgl : Γ.sc.names.lookup f = some .globalImplicit) (ha : GK Γ (callN P Γ.n) kw cs)
    (hdb : (f == ("__debug__" : Str)) = false) (hkw : kw.map (·.arg) = ks.map some) (hl : cs.length = ks.length) : GE Γ (callN P Γ.n) (.Call (.Name f p) [] kw pos) (.callK f cs perm) := by
  obtain ⟨Fd, hF⟩ := Option.isSome_iff_exists.mp hf
  obtain ⟨a, fd, ps, F⟩ := Fs f Fd hF
  obtain ⟨ta, pa, ga⟩ := ha
  refine ⟨fun σ H Q => ta σ H fun zs H1 => zs.length = ks.length ∧ spN P Γ.K Γ.n f (perm.filterMap fun i => zs[i]?) H1 Q E0, fun X hX => ?_, fun A O v s σ H Q d s' Fe e q => ?_⟩
  · have hK := hX.K
    rw [← hK]
    obtain ⟨k1, k2, k3⟩ := kw_facts (pos := pos) (env := X.env) hkw
    exact pe_callGK (hX.fn_ F) hk hX.room hX.gd (hX.gl hgl) (pa X hX) hdb k1 k2 (by rw [k3]; rfl)
  rw [ev] at e
  obtain ⟨xs, s1, e1, e2⟩ := bind_ok e
  refine ga A O v s σ H _ xs s1 Fe e1 fun vs H1 h1 t1 r1 => ⟨?_, ?_⟩
  · rw [r1.length, GK.len (kw := []) (cs := []) (v := []) (s := []) (s' := []) (ds := []) e1, hl]
  · exact spN_of (Fe.step h1 t1).toFH (r1.perm perm) e2 fun v' H' h' t' r' => q v' H' h' (t1.trans t') r'
end
end L2.NB
set_option Elab.async false
set_option linter.all false
set_option maxRecDepth 100000
/-! NB8: what a loop or a comprehension walks; comprehensions. -/
namespace L2.NB
open PySem PySem.Spec PyProof.Rows

/-- what may be turned by statements: the handles' lists, the owned ones; what is owned then was owned or is new -/
def StepS (A : HA) (Ox O : Addr → Prop) (H : Hp) (O' : Addr → Prop) (H' : Hp) : Prop := (∀ a o, H a = some o → Ox a ∨ ¬ Bo A O a → H' a = some o) ∧ (∀ a, O' a → O a ∨ H a = none) ∧ ∀ a o, H a = some o → ∃ o', H' a = some o'
/-- later: an owned set and a heap -/
abbrev Lt := (Addr → Prop) → Hp → Prop
def LtE (A : HA) (O : Addr → Prop) (H : Hp) : Lt := fun O' H' => (∀ a, O' a → O a ∨ H a = none) ∧ Step A H H'
def LtS (A : HA) (Ox O : Addr → Prop) (H : Hp) : Lt := fun O' H' => StepS A Ox O H O' H'
/-- whatever stands for values outside what is owned stands on -/
def Lt.Ok (K : PySem.W.Frag) (A : HA) (O : Addr → Prop) (H : Hp) (L : Lt) : Prop := ∀ O' H', L O' H' → (∀ a o, H a = some o → ¬ Bo A O a → H' a = some o) ∧ ∀ a, Bo A O' a → Bo A O a ∨ H a = none
theorem LtE.ok {K : PySem.W.Frag} {A : HA} {O : Addr → Prop} {H : Hp} : Lt.Ok K A O H (LtE A O H) := fun O' H' ⟨h1, h2⟩ => ⟨fun a o e n => h2 a o e fun z => n (.inl z), fun a z => z.elim (fun z => .inl (.inl z)) fun z => (h1 a z).elim (fun z => .inl (.inr z)) .inr⟩
theorem LtS.ok {K : PySem.W.Frag} {A : HA} {Ox O : Addr → Prop} {H : Hp} : Lt.Ok K A O H (LtS A Ox O H) := fun O' H' ⟨h1, h2, _⟩ => ⟨fun a o e n => h1 a o e (.inr n), fun a z => z.elim (fun z => .inl (.inl z)) fun z => (h2 a z).elim (fun z => .inl (.inr z)) .inr⟩
/-- J gives the values ds, one behind another, as long as L -/
def Yl (K : PySem.W.Frag) (A : HA) (L : Lt) (J : It) (ds : List D) : Prop := ∀ (O2 : Addr → Prop) (H2 : Hp) (s2 : S), L O2 H2 → FH A O2 s2 H2 → ∀ i : Nat,
  (∀ d, ds[i]? = some d → J.go i H2 ∧ ∀ x H3, J.yld i H2 x H3 → HRel A s2 H3 ∧ Step A H2 H3 ∧ Rep K (Bo A O2) H3 x d) ∧ (ds.length ≤ i → J.stop i H2)
section
variable {Γ : Ctx} {k : CallT}
theorem PI.or {X : Cx} {tg e : Expr} {w1 w2 : TI} (h1 : PI X tg e w1) (h2 : PI X tg e w2) : PI X tg e (fun σ H R => w1 σ H R ∨ w2 σ H R) :=
  ⟨fun pins s σ H R I h => h.elim (h1.run pins s σ H R I) (h2.run pins s σ H R I)⟩
/-- something walked: in a comprehension; in a loop -/
def GI (Γ : Ctx) (k : CallT) (tg it : Expr) (c : E) : Prop :=
  ∃ wi, (∀ X, Γ.Has X → PI X tg it wi) ∧ ∀ (A : HA) (O : Addr → Prop) (v : Env) (s : S) (σ : St) (H : Hp) (R : It → Hp → Prop) (d : D) (ds : List D) (s' : S), FE Γ.K A O v s σ H → ev k c v s = .ok d s' → itemsOf d = some ds →
    (∀ J H1, HRel A s' H1 → Step A H H1 → Yl Γ.K A (LtE A O H1) J ds → R J H1) → wi σ H R
def GF (Γ : Ctx) (k : CallT) (tg it : Expr) (c : E) : Prop :=
  ∃ wi, (∀ X, Γ.Has X → PI X tg it wi) ∧ ∀ (A : HA) (O : Addr → Prop) (v : Env) (s : S) (σ : St) (H : Hp) (R : It → Hp → Prop) (d : D) (ds : List D) (s' : S), FE Γ.K A O v s σ H → ev k c v s = .ok d s' → itemsOf d = some ds →
    (∀ J H1, HRel A s' H1 → Step A H H1 → (∀ Ox, Yl Γ.K A (LtS A Ox O H1) J ds) → R J H1) → wi σ H R
theorem yl_list {K : PySem.W.Frag} {A : HA} {O : Addr → Prop} {H : Hp} {L : Lt} {a : Addr} {vs : List V} {ds : List D} (ok : Lt.Ok K A O H L) (st : ∀ O' H' s', L O' H' → FH A O' s' H' → SqL K H' a vs) (r : RepL K (Bo A O) H vs ds) : Yl K A L (Itl K a) ds := by
  intro O2 H2 s2 hl F i
  obtain ⟨h1, h2⟩ := ok O2 H2 hl
  have r2 : RepL K (Bo A O2) H2 vs ds := r.mono h2 h1
  have q := st O2 H2 s2 hl F
  refine ⟨fun d hd => ?_, fun hi => ⟨vs, q, by rw [r.length]; exact hi⟩⟩
  obtain ⟨v, e1, e2⟩ := r2.get hd
  refine ⟨⟨vs, v, q, e1⟩, fun x H3 y => ?_⟩
  obtain ⟨rfl, y⟩ := y
  have : x = v := Option.some.inj ((y vs q).symm.trans e1)
  subst this
  exact ⟨F.hr, .refl, e2⟩
theorem yl_tup {K : PySem.W.Frag} {A : HA} {O : Addr → Prop} {H : Hp} {L : Lt} {a : Addr} {vs : List V} {ds : List D} (ok : Lt.Ok K A O H L) (t : TupAt K (Bo A O) H a vs) (r : RepL K (Bo A O) H vs ds) : Yl K A L (Itt K a) ds := by
  intro O2 H2 s2 hl F i
  obtain ⟨h1, h2⟩ := ok O2 H2 hl
  have r2 : RepL K (Bo A O2) H2 vs ds := r.mono h2 h1
  have q : SqT K H2 a vs := by
    rcases t with ⟨e, n⟩ | t
    · exact .inl (.inl (h1 _ _ e n))
    · exact .inr t
  refine ⟨fun d hd => ?_, fun hi => ⟨vs, q, by rw [r.length]; exact hi⟩⟩
  obtain ⟨v, e1, e2⟩ := r2.get hd
  refine ⟨⟨vs, v, q, e1⟩, fun x H3 y => ?_⟩
  obtain ⟨rfl, y⟩ := y
  have : x = v := Option.some.inj ((y vs q).symm.trans e1)
  subst this
  exact ⟨F.hr, .refl, e2⟩
theorem rngL_get {lo : Int} {n i : Nat} {d : D} (h : (rngL lo n)[i]? = some d) : i < n ∧ d = .int (lo + i) := by
  unfold rngL at h
  rw [List.getElem?_map] at h
  obtain ⟨j, e1, rfl⟩ := Option.map_eq_some_iff.mp h
  obtain ⟨h1, h2⟩ := List.getElem?_eq_some_iff.mp e1
  rw [List.length_range] at h1
  rw [List.getElem_range] at h2
  subst h2
  exact ⟨h1, rfl⟩
theorem yl_rng {K : PySem.W.Frag} {A : HA} {L : Lt} {lo : Int} {n : Nat} : Yl K A L (Itr lo n) (rngL lo n) := by
  intro O2 H2 s2 hl F i
  refine ⟨fun d hd => ?_, fun hi => ?_⟩
  · obtain ⟨h1, rfl⟩ := rngL_get hd
    refine ⟨h1, fun x H3 y => ?_⟩
    obtain ⟨rfl, rfl⟩ := y
    exact ⟨F.hr, .refl, .int _⟩
  · unfold rngL at hi
    rw [List.length_map, List.length_range] at hi
    exact hi
theorem i_seq {tg e : Expr} {c : E} (h : GT Γ k e c) : GI Γ k tg e c := by
  obtain ⟨t, p, g⟩ := h
  refine ⟨fun σ H R => iList Γ.K t σ H R ∨ iTup Γ.K t σ H R, fun X hX => by have hK := hX.K; rw [← hK]; exact PI.or (pi_list (p X hX)) (pi_tup (p X hX)), fun A O v s σ H R d ds s' F e1 e2 q => ?_⟩
  cases d <;> first | (cases e2; done) | skip
  · cases e2
    refine .inl (g A O v s σ H _ _ s' F e1 fun x H1 h1 t1 r1 => ?_)
    have F1 := F.step h1 t1
    rcases r1 with r1 | ⟨a, vs, ds', rfl, ed, e3, e4, e5⟩
    · obtain ⟨a, vs, rfl, z1, z2, l1⟩ := r1.lst_inv
      exact ⟨a, rfl, ⟨vs, .of z1⟩, q _ H1 h1 t1 (yl_list LtE.ok (fun O' H' s' hl _ => .of (hl.2 _ _ z1 fun z => z2 (.inl z))) l1)⟩
    · cases ed
      exact ⟨a, rfl, ⟨vs, .of e3⟩, q _ H1 h1 t1 (yl_list LtE.ok (fun O' H' s' hl _ => .of (hl.2 _ _ e3 (F1.on _ e4).1)) e5)⟩
  · cases e2
    refine .inr (g A O v s σ H _ _ s' F e1 fun x H1 h1 t1 r1 => ?_)
    obtain ⟨a, vs, rfl, z1, l1⟩ := r1.tup_inv
    exact ⟨a, rfl, ⟨vs, z1.sq⟩, q _ H1 h1 t1 (yl_tup LtE.ok z1 l1)⟩
theorem f_seq {tg e : Expr} {c : E} (h : GE Γ k e c) : GF Γ k tg e c := by
  obtain ⟨t, p, g⟩ := h
  refine ⟨fun σ H R => iList Γ.K t σ H R ∨ iTup Γ.K t σ H R, fun X hX => by have hK := hX.K; rw [← hK]; exact PI.or (pi_list (p X hX)) (pi_tup (p X hX)), fun A O v s σ H R d ds s' F e1 e2 q => ?_⟩
  cases d <;> first | (cases e2; done) | skip
  · cases e2
    refine .inl (g A O v s σ H _ _ s' F e1 fun x H1 h1 t1 r1 => ?_)
    obtain ⟨a, vs, rfl, z1, z2, l1⟩ := r1.lst_inv
    exact ⟨a, rfl, ⟨vs, .of z1⟩, q _ H1 h1 t1 fun Ox => yl_list LtS.ok (fun O' H' s' hl _ => .of (hl.1 _ _ z1 (.inr z2))) l1⟩
  · cases e2
    refine .inr (g A O v s σ H _ _ s' F e1 fun x H1 h1 t1 r1 => ?_)
    obtain ⟨a, vs, rfl, z1, l1⟩ := r1.tup_inv
    exact ⟨a, rfl, ⟨vs, z1.sq⟩, q _ H1 h1 t1 fun Ox => yl_tup LtS.ok z1 l1⟩
/-- ranges, in both places -/
theorem wi_rng1 {tg a : Expr} {ca : E} {p pos : Pos} (ha : GT Γ k a ca) (hn : noStar a = true) (hb : Blt Γ "range") : ∃ wi, (∀ X, Γ.Has X → PI X tg (.Call (.Name "range" p) [a] [] pos) wi) ∧
    ∀ (A : HA) (O : Addr → Prop) (v : Env) (s : S) (σ : St) (H : Hp) (R : It → Hp → Prop) (d : D) (ds : List D) (s' : S), FE Γ.K A O v s σ H → ev k (.rng1 ca) v s = .ok d s' → itemsOf d = some ds →
    (∀ J H1, HRel A s' H1 → Step A H H1 → (∀ L, Yl Γ.K A L J ds) → R J H1) → wi σ H R := by
  obtain ⟨t, p, g⟩ := ha
  refine ⟨_, fun X hX => pi_range1 (hX.gl hb.1) (hX.mgn hb.2) (pa_cons (p X hX) pa_nil (starEach_cons hn)) (starEach_cons hn), fun A O v s σ H R d ds s' F e1 e2 q => ?_⟩
  rw [ev] at e1
  obtain ⟨x, s1, e3, f1⟩ := bind_ok e1
  obtain ⟨e4, rfl⟩ := lift_ok f1
  refine g A O v s σ H _ x _ F e3 fun x' H1 h1 t1 r1 => ?_
  unfold rng1D at e4
  split at e4
  · rename_i j
    split at e4
    · rename_i hj
      cases e4
      cases e2
      cases r1.int_inv
      obtain ⟨b1, b2⟩ := rngOk_of hj
      exact ⟨j, rfl, b1, b2, q _ H1 h1 t1 fun L => yl_rng⟩
    · cases e4
  · cases e4
theorem wi_rng2 {tg a b : Expr} {ca cb : E} {p pos : Pos} (ha : GT Γ k a ca) (hb' : GT Γ k b cb) (hn : noStar a = true) (hn' : noStar b = true) (hb : Blt Γ "range") : ∃ wi, (∀ X, Γ.Has X → PI X tg (.Call (.Name "range" p) [a, b] [] pos) wi) ∧
    ∀ (A : HA) (O : Addr → Prop) (v : Env) (s : S) (σ : St) (H : Hp) (R : It → Hp → Prop) (d : D) (ds : List D) (s' : S), FE Γ.K A O v s σ H → ev k (.rng2 ca cb) v s = .ok d s' → itemsOf d = some ds →
    (∀ J H1, HRel A s' H1 → Step A H H1 → (∀ L, Yl Γ.K A L J ds) → R J H1) → wi σ H R := by
  obtain ⟨t, p, g⟩ := ha
  obtain ⟨t', p', g'⟩ := hb'
  refine ⟨_, fun X hX => pi_range2 (hX.gl hb.1) (hX.mgn hb.2) (pa_cons (p X hX) (pa_cons (p' X hX) pa_nil (starEach_cons hn')) (starEach_cons hn)) (by rw [starEach_cons hn, starEach_cons hn']; rfl) (by rw [starEach_cons hn']; rfl), fun A O v s σ H R d ds s' F e1 e2 q => ?_⟩
  rw [ev] at e1
  obtain ⟨x, y, s1, e3, e4, e5⟩ := ev2_ok e1
  refine g A O v s σ H _ x s1 F e3 fun x' H1 h1 t1 r1 => ?_
  refine g' A O v s1 σ H1 _ y s' (F.step h1 t1) e4 fun y' H2 h2 t2 r2 => ?_
  unfold rng2D at e5
  split at e5
  · rename_i i j
    split at e5
    · rename_i hj
      cases e5
      cases e2
      cases r1.int_inv
      cases r2.int_inv
      obtain ⟨b1, b2⟩ := rngOk_of hj.1
      obtain ⟨b3, b4⟩ := rngOk_of hj.2
      exact ⟨i, j, rfl, ⟨b1, b2, b3, b4⟩, q _ H2 h2 (t1.trans t2) fun L => yl_rng⟩
    · cases e5
  · cases e5
theorem gi_of {tg it : Expr} {c : E} (h : ∃ wi, (∀ X, Γ.Has X → PI X tg it wi) ∧ ∀ (A : HA) (O : Addr → Prop) (v : Env) (s : S) (σ : St) (H : Hp) (R : It → Hp → Prop) (d : D) (ds : List D) (s' : S), FE Γ.K A O v s σ H → ev k c v s = .ok d s' → itemsOf d = some ds →
    (∀ J H1, HRel A s' H1 → Step A H H1 → (∀ L, Yl Γ.K A L J ds) → R J H1) → wi σ H R) : GI Γ k tg it c ∧ GF Γ k tg it c := by
  obtain ⟨wi, p, g⟩ := h
  exact ⟨⟨wi, p, fun A O v s σ H R d ds s' F e1 e2 q => g A O v s σ H R d ds s' F e1 e2 fun J H1 h1 t1 y => q J H1 h1 t1 (y _)⟩, ⟨wi, p, fun A O v s σ H R d ds s' F e1 e2 q => g A O v s σ H R d ds s' F e1 e2 fun J H1 h1 t1 y => q J H1 h1 t1 fun _ => y _⟩⟩
end
end L2.NB
set_option Elab.async false
set_option linter.all false
set_option maxRecDepth 100000
/-! NB8Z: zip of two, enumerate of one; each of them a list or a tuple. -/
namespace L2.NB
open PySem PySem.Spec PyProof.Rows
/-- a list or a tuple -/
inductive Kd where
  | l
  | t
def SqK (K : PySem.W.Frag) : Kd → Hp → Addr → List V → Prop
  | .l => SqL K
  | .t => SqT K
def ItK : Kd → Heap → Addr → Addr → Nat → Prop
  | .l => fun h i a k => h.IsListIter i a k
  | .t => fun h i a k => h.IsTupleIter i a k
def SeK : Kd → Heap → Addr → Array Value → Prop
  | .l => fun h a xs => h.IsList a xs
  | .t => fun h a xs => h.IsTuple a xs
def itO : Kd → Addr → Obj
  | .l => fun a => { cls := .type "list_iterator", data := .fields #[.ref a, .int 0 0] }
  | .t => fun a => { cls := .type "tuple_iterator", data := .fields #[.ref a, .int 0 0] }
theorem itK_at {kd : Kd} {h h' : Heap} {i a : Addr} {k : Nat} (x : ItK kd h i a k) (e : ∀ o, h.get? i = some o → h'.get? i = some o) : ItK kd h' i a k := by
  cases kd with
  | l => exact Heap.IsListIter.at x e
  | t => exact Heap.IsTupleIter.at x e
theorem itK_obj {kd : Kd} {h : Heap} {i a : Addr} {k : Nat} (x : ItK kd h i a k) : ∃ o, h.get? i = some o ∧ ∀ v, o.data ≠ .cell v := by
  cases kd with
  | l => obtain ⟨o, e, _, d⟩ := x; exact ⟨o, e, fun v z => by rw [d] at z; cases z⟩
  | t => obtain ⟨o, e, _, d⟩ := x; exact ⟨o, e, fun v z => by rw [d] at z; cases z⟩
theorem itK_new {kd : Kd} {h : Heap} {i a : Addr} (e : h.get? i = some (itO kd a)) : ItK kd h i a 0 := by
  cases kd with
  | l => exact ⟨_, e, rfl, rfl⟩
  | t => exact ⟨_, e, rfl, rfl⟩
theorem beginK (kd : Kd) (a : Addr) (its : Array Value) : Begins (.ref a) (itO kd a) fun h => SeK kd h a its := by
  cases kd with
  | l => exact begins_list a its
  | t => exact begins_tuple a its
theorem drawK {prog : Program} {w : World} {A : Around} (hh : A.handled = none) (kd : Kd) (it a : Addr) (ne : a ≠ it) (its : Array Value) :
    Draws prog w A it [it, a] its.size (fun i v => its[i]? = some v) (fun i h => ItK kd h it a i ∧ SeK kd h a its) := by
  cases kd with
  | l => exact Draws.list hh it a ne its
  | t => exact Draws.tuple hh it a ne its
section
variable {X : Cx} {pins : List (Addr × Obj)} {σ : St} {H : Hp} {s : Shared} {kd : Kd} {a : Addr} {xs : List V}
theorem seqs (I : Inv X pins σ H s) (h : SqK X.K kd H a xs) : ∃ its : List Value, Vals xs its ∧ SeK kd s.heap a its.toArray ∧ a < s.heap.objs.size := by
  cases kd with
  | l =>
    obtain ⟨its, rv, p, _⟩ := I.list h
    exact ⟨its, rv, p.isList, p.lt⟩
  | t =>
    obtain ⟨its, rv, p, _⟩ := I.tuple h
    obtain ⟨o, e, c, n, d⟩ := p
    exact ⟨its, rv, ⟨o, e, c, n, d⟩, Heap.lt_size e⟩
end
/-- pairs of what stands at a and b -/
def ItZ (K : PySem.W.Frag) (ka kb : Kd) (a b : Addr) (xs ys : List V) : It :=
  ⟨fun i H => SqK K ka H a xs ∧ SqK K kb H b ys ∧ i < xs.length ∧ i < ys.length,
   fun i H v H' => ∃ T x y, v = .ref T ∧ H T = none ∧ H' = upd H T (.tup [x, y]) ∧ xs[i]? = some x ∧ ys[i]? = some y,
   fun i H => SqK K ka H a xs ∧ SqK K kb H b ys ∧ (xs.length ≤ i ∨ ys.length ≤ i)⟩
theorem turn_zipK {P : Program} {w : World} {K : PySem.W.Frag} {elts : List Expr} {kk : Nat} {tpos : Pos} {ka kb : Kd} {a b z TI TO i1 i2 : Addr} {xs ys : List V} (D : ZipSep2 z TI TO i1 i2 [i1, a] [i2, b]) (na : a ≠ i1) (nb : b ≠ i2) :
    Turn P w K (.Tuple elts kk tpos) (ItZ K ka kb a b xs ys) [z, TI, TO, i1, i2] z (fun i h => IsZip h z TI TO .none ∧ IsTupOf2 h TI (.ref i1) (.ref i2) ∧ (∃ x y, IsTupOf2 h TO x y) ∧ ItK ka h i1 a i ∧ ItK kb h i2 b i ∧ i ≤ xs.length ∧ i ≤ ys.length) where
  mem := by simp
  obj := fun i h st c m => by
    obtain ⟨g1, g2, ⟨x, y, g3⟩, g4, g5, _⟩ := st
    simp only [List.mem_cons, List.not_mem_nil, or_false] at m
    rcases m with rfl | rfl | rfl | rfl | rfl
    · exact ⟨_, g1, fun v u => nomatch u⟩
    · exact ⟨_, g2, fun v u => nomatch u⟩
    · exact ⟨_, g3, fun v u => nomatch u⟩
    · exact itK_obj g4
    · exact itK_obj g5
  keep := fun i h h' st k => by
    obtain ⟨g1, g2, ⟨x, y, g3⟩, g4, g5, g6⟩ := st
    exact ⟨k _ (by simp) _ g1, k _ (by simp) _ g2, ⟨x, y, k _ (by simp) _ g3⟩, itK_at g4 (k i1 (by simp)), itK_at g5 (k i2 (by simp)), g6⟩
  item := by
    intro X eP ew eK hc i pins s σ H E I hf st go
    subst eP ew eK
    obtain ⟨g1, g2, ⟨x0, y0, g3⟩, g4, g5, _⟩ := st
    obtain ⟨q1, q2, l1, l2⟩ := go
    obtain ⟨its, rv, p, _⟩ := seqs I q1
    obtain ⟨jts, rw', p', _⟩ := seqs I q2
    have m1 : i < its.toArray.size := by have := rv.length; simp; omega
    have m2 : i < jts.toArray.size := by have := rw'.length; simp; omega
    have hh : X.A.in1.handled = none := I.ok.hd hc
    have zl : z < s.heap.objs.size := Heap.lt_size g1
    refine wpAny_pyNext_zipD2_item D (drawK hh ka i1 a na its.toArray) (drawK hh kb i2 b nb jts.toArray) g1 g2 g3 ⟨g4, p⟩ ⟨g5, p'⟩ m1 m2 fun u u' h' tk e e' z1 t1 s1 s2 tN hs kp => ?_
    refine ⟨_, rfl, wpAny_letOwnedTupleGo_zip (s := { s with heap := h', toks := tk }) z1 fun h2 z2 sb => ?_⟩
    have hx : xs[i]? = some xs[i] := List.getElem?_eq_getElem l1
    have hy : ys[i]? = some ys[i] := List.getElem?_eq_getElem l2
    obtain ⟨v1, ev1, ru⟩ := rv.get hx
    obtain ⟨v2, ev2, ru'⟩ := rw'.get hy
    have eu : u = v1 := Option.some.inj (e.symm.trans (by simpa using ev1))
    have eu' : u' = v2 := Option.some.inj (e'.symm.trans (by simpa using ev2))
    subst eu eu'
    have tN2 : h2.get? s.heap.objs.size = some { cls := .type "tuple", data := .seq #[u, u'] } := (sb.2 _ (Nat.ne_of_gt zl)).trans tN
    have ob : ObjOk X.prog X.w (upd H s.heap.objs.size (.tup [xs[i], ys[i]])) h2 s.heap.objs.size (.tup [xs[i], ys[i]]) :=
      ⟨by show 2 ≤ sizeLine; decide, [u, u'], .cons ru (.cons ru' .nil), ⟨_, tN2, rfl, _, rfl⟩⟩
    have I' : Inv X pins σ (upd H s.heap.objs.size (.tup [xs[i], ys[i]])) { s with heap := h2, toks := tk } :=
      I.turnedNew (ch := [z, TI, TO, i1, i2]) (fun c o n g => by
        simp only [List.mem_cons, List.not_mem_nil, or_false, not_or] at n
        exact (sb.2 c n.1).trans (kp c o n.1 n.2.2.1 n.2.2.2.1 n.2.2.2.2 g)) hf (Nat.le_refl _) ob
    refine ⟨.ref s.heap.objs.size, _, I', rfl, ⟨_, _, _, rfl, I.hok.fresh (Nat.le_refl _), rfl, hx, hy⟩, ⟨z2, ?_, ⟨u, u', ?_⟩, ?_, ?_, l1, l2⟩, fun c m => ?_⟩
    · exact (sb.2 _ D.TIz).trans (kp _ _ D.TIz D.TITO D.TIi1 D.TIi2 g2)
    · exact (sb.2 _ D.TOz).trans t1
    · exact itK_at s1.1 fun o g => (sb.2 _ D.zi1.symm).trans g
    · exact itK_at s2.1 fun o g => (sb.2 _ D.zi2.symm).trans g
    · have lt : c < s.heap.objs.size := by
        simp only [List.mem_cons, List.not_mem_nil, or_false] at m
        rcases m with rfl | rfl | rfl | rfl | rfl
        · exact zl
        · exact Heap.lt_size g2
        · exact Heap.lt_size g3
        · exact (itK_obj g4).elim fun _ u => Heap.lt_size u.1
        · exact (itK_obj g5).elim fun _ u => Heap.lt_size u.1
      rw [upd_ne (Nat.ne_of_lt lt)]
      exact (hf c m).1
  done := by
    intro X eP ew eK hc i pins s σ H E I hf st go
    subst eP ew eK
    obtain ⟨g1, g2, ⟨x0, y0, g3⟩, g4, g5, l1, l2⟩ := st
    obtain ⟨q1, q2, l3⟩ := go
    obtain ⟨its, rv, p, _⟩ := seqs I q1
    obtain ⟨jts, rw', p', _⟩ := seqs I q2
    have n1 := rv.length
    have n2 := rw'.length
    have hh : X.A.in1.handled = none := I.ok.hd hc
    exact wpAny_pyNext_zipD2_end D (drawK hh ka i1 a na its.toArray) (drawK hh kb i2 b nb jts.toArray) g1 g2 g3 ⟨g4, p⟩ ⟨g5, p'⟩ (by simp; omega) (by simp; omega) (by simp; omega) fun h' tk kp =>
      ⟨rfl, I.turnedL (ch := [z, TI, TO, i1, i2]) (fun c o n g => by
        simp only [List.mem_cons, List.not_mem_nil, or_false, not_or] at n
        exact kp c o n.1 n.2.2.1 n.2.2.2.1 n.2.2.2.2 g) hf⟩
  self := fun A i s Q E st h => wpAny_pyIter_zip st.1 h
def iZipK (K : PySem.W.Frag) (ta : TA) : TI := fun σ H R => ta σ H fun vs H1 => ∃ ka kb a b xs ys, vs = [.ref a, .ref b] ∧ SqK K ka H1 a xs ∧ SqK K kb H1 b ys ∧ R (ItZ K ka kb a b xs ys) H1
theorem pi_zipK {X : Cx} {e e2 : Expr} {ta : TA} {p pos tpos : Pos} {elts : List Expr} {kk : Nat} (hg : Gl X "zip") (hm : X.mg "zip" = none) (ha : PA X [e, e2] ta)
    (hs : starEach [e, e2] X.env = (false, eval e X.env) :: starEach [e2] X.env) (hpl : (backTo pos (starEach [e2] X.env)).any (·.1) = false) :
    PI X (.Tuple elts kk tpos) (.Call (.Name "zip" p) [e, e2] [] pos) (iZipK X.K ta) := by
  refine ⟨fun pins s σ H R I h => ?_⟩
  refine Call_ (ld_blt I hg hm PyProof.Rows.boot_zip (PyProof.Rows.callWith_type1 (thn (ha.run pos pins s σ H _ I h) fun us u1 ⟨zs, G1, J1, r1, w1⟩ => ?_) hs hpl))
  obtain ⟨ka, kb, a, b, xs, ys, rfl, q1, q2, q⟩ := w1
  cases r1 with
  | cons r r1 =>
  cases r1 with
  | cons r' r1 =>
  cases r1
  cases r
  cases r'
  obtain ⟨its, rv, p1, la⟩ := seqs J1 q1
  obtain ⟨jts, rw', p2, lb⟩ := seqs J1 q2
  refine zip_begins2 (beginK ka a its.toArray) (beginK kb b jts.toArray) p1 p2 fun h' g1 g2 g3 g4 g5 hsz hk => wpAny_pyIter_zip g1 ?_
  have I2 : Inv X pins σ G1 { u1 with heap := h' } := J1.kept (t' := u1.toks) hk
  refine ⟨u1.heap.objs.size + 4, [u1.heap.objs.size + 4, u1.heap.objs.size + 2, u1.heap.objs.size + 3, u1.heap.objs.size, u1.heap.objs.size + 1], _, _, G1, rfl, I2,
    turn_zipK (zip_sep2 (fp1 := [a]) (fp2 := [b]) (fun c m => by rw [List.mem_singleton.mp m]; exact la) (fun c m => by rw [List.mem_singleton.mp m]; exact lb)) (Nat.ne_of_lt la) (Nat.ne_of_lt (Nat.lt_succ_of_lt lb)),
    ⟨g1, g2, ⟨_, _, g3⟩, itK_new g4, itK_new g5, Nat.zero_le _, Nat.zero_le _⟩, fun c m => ?_, q⟩
  have le : u1.heap.objs.size ≤ c := by
    simp only [List.mem_cons, List.not_mem_nil, or_false] at m
    rcases m with rfl | rfl | rfl | rfl | rfl <;> first | exact Nat.le_refl _ | exact Nat.le_add_right _ _
  exact J1.fpOk le (J1.hok.fresh le)
/-! ### enumerate -/
/-- what stands at a, numbered -/
def ItN (K : PySem.W.Frag) (ka : Kd) (a : Addr) (xs : List V) : It :=
  ⟨fun i H => SqK K ka H a xs ∧ i < xs.length,
   fun i H v H' => ∃ T x, v = .ref T ∧ H T = none ∧ H' = upd H T (.tup [.int (i : Nat), x]) ∧ xs[i]? = some x,
   fun i H => SqK K ka H a xs ∧ xs.length ≤ i⟩
theorem turn_enumK {P : Program} {w : World} {K : PySem.W.Frag} {elts : List Expr} {kk : Nat} {tpos : Pos} {ka : Kd} {a e it : Addr} {xs : List V} (na : a ≠ it) (ne : e ≠ it) (nea : e ≠ a) :
    Turn P w K (.Tuple elts kk tpos) (ItN K ka a xs) [e, it] e (fun i h => (∃ old, IsEnum h e it ((i : Nat) : Int) old) ∧ ItK ka h it a i ∧ i ≤ xs.length) where
  mem := by simp
  obj := fun i h st c m => by
    obtain ⟨⟨old, g1⟩, g2, _⟩ := st
    simp only [List.mem_cons, List.not_mem_nil, or_false] at m
    rcases m with rfl | rfl
    · exact ⟨_, g1, fun v u => nomatch u⟩
    · exact itK_obj g2
  keep := fun i h h' st k => by
    obtain ⟨⟨old, g1⟩, g2, g3⟩ := st
    exact ⟨⟨old, k _ (by simp) _ g1⟩, itK_at g2 (k it (by simp)), g3⟩
  item := by
    intro X eP ew eK hc i pins s σ H E I hf st go
    subst eP ew eK
    obtain ⟨⟨old, g1⟩, g2, _⟩ := st
    obtain ⟨q1, l1⟩ := go
    obtain ⟨its, rv, p, _⟩ := seqs I q1
    have m1 : i < its.toArray.size := by have := rv.length; simp; omega
    have hh : X.A.in1.handled = none := I.ok.hd hc
    have zl : e < s.heap.objs.size := Heap.lt_size g1
    refine wpAny_pyNext_enum_itemD (drawK hh ka it a na its.toArray) g1 ⟨g2, p⟩ m1 ne (by simp [ne, nea]) fun u h' tk eu z1 s1 tN hs kp => ?_
    refine ⟨_, rfl, wpAny_letOwnedTupleGo_enum (s := { s with heap := h', toks := tk + 1 }) z1 fun h2 z2 sb => ?_⟩
    have hx : xs[i]? = some xs[i] := List.getElem?_eq_getElem l1
    obtain ⟨v1, ev1, ru⟩ := rv.get hx
    have eu' : u = v1 := Option.some.inj (eu.symm.trans (by simpa using ev1))
    subst eu'
    have tN2 : h2.get? s.heap.objs.size = some { cls := .type "tuple", data := .seq #[.int i tk, u] } := (sb.2 _ (Nat.ne_of_gt zl)).trans tN
    have ob : ObjOk X.prog X.w (upd H s.heap.objs.size (.tup [.int (i : Nat), xs[i]])) h2 s.heap.objs.size (.tup [.int (i : Nat), xs[i]]) :=
      ⟨by show 2 ≤ sizeLine; decide, [.int i tk, u], .cons ⟨_, rfl⟩ (.cons ru .nil), ⟨_, tN2, rfl, _, rfl⟩⟩
    have I' : Inv X pins σ (upd H s.heap.objs.size (.tup [.int (i : Nat), xs[i]])) { s with heap := h2, toks := tk + 1 } :=
      I.turnedNew (ch := [e, it]) (fun c o n g => by
        simp only [List.mem_cons, List.not_mem_nil, or_false, not_or] at n
        exact (sb.2 c n.1).trans (kp c o n.1 n.2 g)) hf (Nat.le_refl _) ob
    refine ⟨.ref s.heap.objs.size, _, I', rfl, ⟨_, _, rfl, I.hok.fresh (Nat.le_refl _), rfl, hx⟩, ⟨⟨u, ?_⟩, ?_, l1⟩, fun c m => ?_⟩
    · have e1 : ((i + 1 : Nat) : Int) = (i : Int) + 1 := Int.natCast_succ i
      rw [e1]
      exact z2
    · exact itK_at s1.1 fun o g => (sb.2 _ ne.symm).trans g
    · have lt : c < s.heap.objs.size := by
        simp only [List.mem_cons, List.not_mem_nil, or_false] at m
        rcases m with rfl | rfl
        · exact zl
        · exact (itK_obj g2).elim fun _ u => Heap.lt_size u.1
      rw [upd_ne (Nat.ne_of_lt lt)]
      exact (hf c m).1
  done := by
    intro X eP ew eK hc i pins s σ H E I hf st go
    subst eP ew eK
    obtain ⟨⟨old, g1⟩, g2, l1⟩ := st
    obtain ⟨q1, l3⟩ := go
    obtain ⟨its, rv, p, _⟩ := seqs I q1
    have n1 := rv.length
    have hh : X.A.in1.handled = none := I.ok.hd hc
    have en : i = its.toArray.size := by simp; omega
    refine wpAny_pyNext_enum_endD (drawK hh ka it a na its.toArray) g1 (by rw [← en]; exact ⟨g2, p⟩) fun h' kp =>
      ⟨rfl, I.turnedL (t' := s.toks) (ch := [e, it]) (fun c o n g => by
        simp only [List.mem_cons, List.not_mem_nil, or_false, not_or] at n
        exact kp c o n.2 g) hf⟩
  self := fun A i s Q E st h => st.1.elim fun _ g => wpAny_pyIter_enum g h
set_option maxHeartbeats 1000000 in
theorem meets_enum1 {v : Value} {o : Obj} {H : Heap → Prop} (B : Begins v o H) :
    Meets (Builtin.«enumerate.__new__» ⟨[.type "enumerate", v], []⟩) (fun _ R s => H s.heap ∧
      R (.ok (.ret (.ref (s.heap.push o).objs.size))) { s with heap := (s.heap.push o).push { cls := .type "enumerate", data := .fields #[.none, .bool false, .ref s.heap.objs.size, rawInt 0, .none, .none] } }) :=
  .of_wp fun prog w A R s h => by
    obtain ⟨hp, g, d, tk, os⟩ := s
    obtain ⟨b0, h⟩ := h
    have sub := sub_enumerate
    have be : ∀ {A' : Around} {E Q : Value → Shared → Prop}, Q (.ref hp.objs.size) ⟨hp.push o, g, d, tk, os⟩ → wpAny (model prog w) A' (pyIter v) Q E ⟨hp, g, d, tk, os⟩ :=
      fun q => B.iter prog w _ _ ⟨hp, g, d, tk, os⟩ _ b0 q
    wp_walk using be
    refine wpAny_stack_any fun st => wpAny_pure ?_
    split
    · rename_i c _ _ _ _ _
      cases (c == Value.type "enumerate") <;> (wp_walk using be; exact ⟨_, rfl, h⟩)
    · wp_walk using be
      exact ⟨_, rfl, h⟩
theorem enum1_begins {prog : Program} {w : World} {A : Around} {E : Value → Shared → Prop} {s : Shared} {v : Value} {o : Obj} {H : Heap → Prop} {Q : Value → Shared → Prop} (B : Begins v o H) (b0 : H s.heap)
    (h : ∀ h', IsEnum h' (s.heap.objs.size + 1) s.heap.objs.size 0 .none → h'.get? s.heap.objs.size = some o → (∀ b o, s.heap.get? b = some o → h'.get? b = some o) → Q (.ref (s.heap.objs.size + 1)) { s with heap := h' }) :
    wpAny (model prog w) A (call (.type "enumerate") [v]) Q E s := by
  refine callType_new F.called_enumerate (by decide) (F.typeCall_enumerate_1 _) (F.newCall_enumerate_1 _) (fun obj => F.args_object_init_2 obj _) F.entry_enumerate_new (meets_enum1 B) ⟨b0, ?_⟩
  have z1 : (s.heap.push o).objs.size = s.heap.objs.size + 1 := Heap.size_push ..
  have g1 := Heap.get?_push_size (s.heap.push o) (o := { cls := .type "enumerate", data := .fields #[.none, .bool false, .ref s.heap.objs.size, rawInt 0, .none, .none] }) rfl
  show _ ∧ _
  rw [z1] at g1 ⊢
  exact ⟨⟨_, g1, rfl⟩, h _ g1 (Heap.get?_push_of_some _ (Heap.get?_push_size _ B.free)) fun b o x => Heap.get?_push_of_some _ (Heap.get?_push_of_some _ x)⟩
def iEnumK (K : PySem.W.Frag) (ta : TA) : TI := fun σ H R => ta σ H fun vs H1 => ∃ ka a xs, vs = [.ref a] ∧ SqK K ka H1 a xs ∧ R (ItN K ka a xs) H1
theorem pi_enumK {X : Cx} {e : Expr} {ta : TA} {p pos tpos : Pos} {elts : List Expr} {kk : Nat} (hg : Gl X "enumerate") (hm : X.mg "enumerate" = none) (ha : PA X [e] ta) (hs : starEach [e] X.env = [(false, eval e X.env)]) :
    PI X (.Tuple elts kk tpos) (.Call (.Name "enumerate" p) [e] [] pos) (iEnumK X.K ta) := by
  refine ⟨fun pins s σ H R I h => ?_⟩
  refine Call_ (ld_blt I hg hm boot_enumerate (PyProof.Rows.callWith_type1 (thn (ha.run pos pins s σ H _ I h) fun us u1 ⟨zs, G1, J1, r1, w1⟩ => ?_) hs rfl))
  obtain ⟨ka, a, xs, rfl, q1, q⟩ := w1
  cases r1 with
  | cons r r1 =>
  cases r1
  cases r
  obtain ⟨its, rv, p1, la⟩ := seqs J1 q1
  refine enum1_begins (beginK ka a its.toArray) p1 fun h' g1 g2 hk => wpAny_pyIter_enum g1 ?_
  have I2 : Inv X pins σ G1 { u1 with heap := h' } := J1.kept (t' := u1.toks) hk
  refine ⟨u1.heap.objs.size + 1, [u1.heap.objs.size + 1, u1.heap.objs.size], _, _, G1, rfl, I2,
    turn_enumK (e := u1.heap.objs.size + 1) (it := u1.heap.objs.size) (Nat.ne_of_lt la) (Nat.succ_ne_self _) (Nat.ne_of_gt (Nat.lt_succ_of_lt la)),
    ⟨⟨.none, g1⟩, itK_new g2, Nat.zero_le _⟩, fun c m => ?_, q⟩
  have le : u1.heap.objs.size ≤ c := by
    simp only [List.mem_cons, List.not_mem_nil, or_false] at m
    rcases m with rfl | rfl <;> first | exact Nat.le_refl _ | exact Nat.le_add_right _ _
  exact J1.fpOk le (J1.hok.fresh le)
/-! ### what they give, by values -/
theorem zipL_get {xs ys : List D} {i : Nat} {d : D} (h : (zipL xs ys)[i]? = some d) : ∃ x y, xs[i]? = some x ∧ ys[i]? = some y ∧ d = .tuple [x, y] := by
  unfold zipL at h
  rw [List.getElem?_zipWith_eq_some] at h
  obtain ⟨x, y, h1, h2, h3⟩ := h
  exact ⟨x, y, h1, h2, h3.symm⟩
theorem enumL_get {xs : List D} {i : Nat} {d : D} (h : (enumL xs)[i]? = some d) : ∃ x, xs[i]? = some x ∧ d = .tuple [.int (i : Nat), x] := by
  unfold enumL at h
  rw [List.getElem?_zipWith_eq_some] at h
  obtain ⟨j, x, h1, h2, h3⟩ := h
  have hl := (List.getElem?_eq_some_iff.mp h1).1
  rw [List.getElem?_range (by simpa using hl)] at h1
  cases h1
  exact ⟨x, h2, h3.symm⟩
/-- a source: it stands now, and as long as L, for ds -/
def Src (K : PySem.W.Frag) (A : HA) (O : Addr → Prop) (H : Hp) (L : Lt) (kd : Kd) (a : Addr) (vs : List V) (ds : List D) : Prop :=
  SqK K kd H a vs ∧ (∀ O' H' s', L O' H' → FH A O' s' H' → SqK K kd H' a vs) ∧ RepL K (Bo A O) H vs ds
theorem pair_rep {K : PySem.W.Frag} {A : HA} {O : Addr → Prop} {s : S} {H : Hp} {T : Addr} {x y : V} {d d' : D} (F : FH A O s H) (hT : H T = none) (r : Rep K (Bo A O) H x d) (r' : Rep K (Bo A O) H y d') :
    HRel A s (upd H T (.tup [x, y])) ∧ Step A H (upd H T (.tup [x, y])) ∧ Rep K (Bo A O) (upd H T (.tup [x, y])) (.ref T) (.tuple [d, d']) :=
  ⟨(F.upd hT).hr, Step.upd hT, .tup (.inl ⟨upd_same, F.fresh hT⟩) (.cons (r.step (Step.upd hT)) (.cons (r'.step (Step.upd hT)) .nil))⟩
theorem yl_zip {K : PySem.W.Frag} {A : HA} {O : Addr → Prop} {H : Hp} {L : Lt} {ka kb : Kd} {a b : Addr} {vs ws : List V} {ds es : List D} (ok : Lt.Ok K A O H L) (s1 : Src K A O H L ka a vs ds) (s2 : Src K A O H L kb b ws es) : Yl K A L (ItZ K ka kb a b vs ws) (zipL ds es) := by
  intro O2 H2 s hl F i
  obtain ⟨h1, h2⟩ := ok O2 H2 hl
  obtain ⟨_, f1, r1⟩ := s1
  obtain ⟨_, f2, r2⟩ := s2
  have q1 := f1 O2 H2 s hl F
  have q2 := f2 O2 H2 s hl F
  have l1 := r1.length
  have l2 := r2.length
  refine ⟨fun d hd => ?_, fun hi => ⟨q1, q2, ?_⟩⟩
  · obtain ⟨x, y, e1, e2, rfl⟩ := zipL_get hd
    obtain ⟨v, g1, g2⟩ := (r1.mono h2 h1).get e1
    obtain ⟨w, g3, g4⟩ := (r2.mono h2 h1).get e2
    refine ⟨⟨q1, q2, (List.getElem?_eq_some_iff.mp g1).1, (List.getElem?_eq_some_iff.mp g3).1⟩, fun u H3 z => ?_⟩
    obtain ⟨T, x', y', rfl, hT, rfl, z1, z2⟩ := z
    rw [g1] at z1
    rw [g3] at z2
    cases z1
    cases z2
    exact pair_rep F hT g2 g4
  · have e : (zipL ds es).length = min ds.length es.length := by unfold zipL; rw [List.length_zipWith]
    omega
theorem yl_enum {K : PySem.W.Frag} {A : HA} {O : Addr → Prop} {H : Hp} {L : Lt} {ka : Kd} {a : Addr} {vs : List V} {ds : List D} (ok : Lt.Ok K A O H L) (s1 : Src K A O H L ka a vs ds) : Yl K A L (ItN K ka a vs) (enumL ds) := by
  intro O2 H2 s hl F i
  obtain ⟨h1, h2⟩ := ok O2 H2 hl
  obtain ⟨_, f1, r1⟩ := s1
  have q1 := f1 O2 H2 s hl F
  have l1 := r1.length
  refine ⟨fun d hd => ?_, fun hi => ⟨q1, ?_⟩⟩
  · obtain ⟨x, e1, rfl⟩ := enumL_get hd
    obtain ⟨v, g1, g2⟩ := (r1.mono h2 h1).get e1
    refine ⟨⟨q1, (List.getElem?_eq_some_iff.mp g1).1⟩, fun u H3 z => ?_⟩
    obtain ⟨T, x', rfl, hT, rfl, z1⟩ := z
    rw [g1] at z1
    cases z1
    exact pair_rep F hT (.int _) g2
  · have e : (enumL ds).length = ds.length := by unfold enumL; rw [List.length_zipWith, List.length_range]; omega
    omega
section
variable {K : PySem.W.Frag} {A : HA} {Ox O : Addr → Prop} {s : S} {H : Hp} {v : V} {d : D} {ds : List D}
theorem src_1 (F : FH A O s H) (r : Rep1 K A O H v d) (e : itemsOf d = some ds) : ∃ kd a vs, v = .ref a ∧ Src K A O H (LtE A O H) kd a vs ds := by
  cases d <;> first | (cases e; done) | skip
  · cases e
    rcases r with r | ⟨a, vs, ds', rfl, ed, e3, e4, e5⟩
    · obtain ⟨a, vs, rfl, z1, z2, l1⟩ := r.lst_inv
      exact ⟨.l, a, vs, rfl, .of z1, fun O' H' s' hl _ => .of (hl.2 _ _ z1 fun z => z2 (.inl z)), l1⟩
    · cases ed
      exact ⟨.l, a, vs, rfl, .of e3, fun O' H' s' hl _ => .of (hl.2 _ _ e3 (F.on _ e4).1), e5⟩
  · cases e
    obtain ⟨a, vs, rfl, z1, l1⟩ := r.tup_inv
    refine ⟨.t, a, vs, rfl, z1.sq, fun O' H' s' hl _ => ?_, l1⟩
    rcases z1 with ⟨z, n⟩ | z
    · exact .inl (.inl (hl.2 _ _ z fun u => n (.inl u)))
    · exact .inr z
theorem src_v (F : FH A O s H) (r : Rep K (Bo A O) H v d) (e : itemsOf d = some ds) : ∃ kd a vs, v = .ref a ∧ ∀ Ox, Src K A O H (LtS A Ox O H) kd a vs ds := by
  cases d <;> first | (cases e; done) | skip
  · cases e
    obtain ⟨a, vs, rfl, z1, z2, l1⟩ := r.lst_inv
    exact ⟨.l, a, vs, rfl, fun Ox => ⟨.of z1, fun O' H' s' hl _ => .of (hl.1 _ _ z1 (.inr z2)), l1⟩⟩
  · cases e
    obtain ⟨a, vs, rfl, z1, l1⟩ := r.tup_inv
    refine ⟨.t, a, vs, rfl, fun Ox => ⟨z1.sq, fun O' H' s' hl _ => ?_, l1⟩⟩
    rcases z1 with ⟨z, n⟩ | z
    · exact .inl (.inl (hl.1 _ _ z (.inr n)))
    · exact .inr z
end
theorem zipD_ok {a b d : D} {ds : List D} (h : zipD a b = some d) (e : itemsOf d = some ds) : ∃ xs ys, itemsOf a = some xs ∧ itemsOf b = some ys ∧ ds = zipL xs ys := by
  unfold zipD at h
  obtain ⟨xs, h1, h⟩ := Option.bind_eq_some_iff.mp h
  obtain ⟨ys, h2, rfl⟩ := Option.map_eq_some_iff.mp h
  cases e
  exact ⟨xs, ys, h1, h2, rfl⟩
theorem enumD_ok {a d : D} {ds : List D} (h : enumD a = some d) (e : itemsOf d = some ds) : ∃ xs, itemsOf a = some xs ∧ ds = enumL xs := by
  cases a <;> first | (cases h; done) | skip
  · cases h; cases e; exact ⟨_, rfl, rfl⟩
  · cases h; cases e; exact ⟨_, rfl, rfl⟩
section
variable {Γ : Ctx} {k : CallT}
theorem i_zip {a b : Expr} {ca cb : E} {p pos tpos : Pos} {elts : List Expr} {kk : Nat} (ha : GT Γ k a ca) (hb' : GT Γ k b cb) (hn : noStar a = true) (hn' : noStar b = true) (hb : Blt Γ "zip") : GI Γ k (.Tuple elts kk tpos) (.Call (.Name "zip" p) [a, b] [] pos) (.zip ca cb) := by
  obtain ⟨t, p, g⟩ := ha
  obtain ⟨t', p', g'⟩ := hb'
  refine ⟨iZipK Γ.K (tCons t (tCons t' tNil)), fun X hX => by have hK := hX.K; rw [← hK]; exact pi_zipK (hX.gl hb.1) (hX.mgn hb.2) (pa_cons (p X hX) (pa_cons (p' X hX) pa_nil (starEach_cons hn')) (starEach_cons hn)) (by rw [starEach_cons hn]) (by rw [starEach_cons hn']; rfl), fun A O v s σ H R d ds s' F e1 e2 q => ?_⟩
  rw [ev] at e1
  obtain ⟨x, y, s1, e3, e4, e5⟩ := ev2_ok e1
  obtain ⟨xs, ys, e6, e7, rfl⟩ := zipD_ok e5 e2
  refine g A O v s σ H _ x s1 F e3 fun x' H1 h1 t1 r1 => ?_
  refine g' A O v s1 σ H1 _ y s' (F.step h1 t1) e4 fun y' H2 h2 t2 r2 => ?_
  have F1 := F.step h1 t1
  have F2 := F1.step h2 t2
  obtain ⟨ka, a', vs, rfl, c1⟩ := src_1 F2.toFH (r1.step F1.toFH t2) e6
  obtain ⟨kb, b', ws, rfl, c2⟩ := src_1 F2.toFH r2 e7
  exact ⟨ka, kb, a', b', vs, ws, rfl, c1.1, c2.1, q _ H2 h2 (t1.trans t2) (yl_zip LtE.ok c1 c2)⟩
theorem f_zip {a b : Expr} {ca cb : E} {p pos tpos : Pos} {elts : List Expr} {kk : Nat} (ha : GE Γ k a ca) (hb' : GE Γ k b cb) (hn : noStar a = true) (hn' : noStar b = true) (hb : Blt Γ "zip") : GF Γ k (.Tuple elts kk tpos) (.Call (.Name "zip" p) [a, b] [] pos) (.zip ca cb) := by
  obtain ⟨t, p, g⟩ := ha
  obtain ⟨t', p', g'⟩ := hb'
  refine ⟨iZipK Γ.K (tCons t (tCons t' tNil)), fun X hX => by have hK := hX.K; rw [← hK]; exact pi_zipK (hX.gl hb.1) (hX.mgn hb.2) (pa_cons (p X hX) (pa_cons (p' X hX) pa_nil (starEach_cons hn')) (starEach_cons hn)) (by rw [starEach_cons hn]) (by rw [starEach_cons hn']; rfl), fun A O v s σ H R d ds s' F e1 e2 q => ?_⟩
  rw [ev] at e1
  obtain ⟨x, y, s1, e3, e4, e5⟩ := ev2_ok e1
  obtain ⟨xs, ys, e6, e7, rfl⟩ := zipD_ok e5 e2
  refine g A O v s σ H _ x s1 F e3 fun x' H1 h1 t1 r1 => ?_
  refine g' A O v s1 σ H1 _ y s' (F.step h1 t1) e4 fun y' H2 h2 t2 r2 => ?_
  have F2 := (F.step h1 t1).step h2 t2
  obtain ⟨ka, a', vs, rfl, c1⟩ := src_v F2.toFH (r1.step t2) e6
  obtain ⟨kb, b', ws, rfl, c2⟩ := src_v F2.toFH r2 e7
  exact ⟨ka, kb, a', b', vs, ws, rfl, (c1 fun _ => False).1, (c2 fun _ => False).1, q _ H2 h2 (t1.trans t2) fun Ox => yl_zip LtS.ok (c1 Ox) (c2 Ox)⟩
theorem i_enum {a : Expr} {ca : E} {p pos tpos : Pos} {elts : List Expr} {kk : Nat} (ha : GT Γ k a ca) (hn : noStar a = true) (hb : Blt Γ "enumerate") : GI Γ k (.Tuple elts kk tpos) (.Call (.Name "enumerate" p) [a] [] pos) (.enum ca) := by
  obtain ⟨t, p, g⟩ := ha
  refine ⟨iEnumK Γ.K (tCons t tNil), fun X hX => by have hK := hX.K; rw [← hK]; exact pi_enumK (hX.gl hb.1) (hX.mgn hb.2) (pa_cons (p X hX) pa_nil (starEach_cons hn)) (starEach_cons hn), fun A O v s σ H R d ds s' F e1 e2 q => ?_⟩
  rw [ev] at e1
  obtain ⟨x, s1, e3, f1⟩ := bind_ok e1
  obtain ⟨e4, rfl⟩ := lift_ok f1
  obtain ⟨xs, e6, rfl⟩ := enumD_ok e4 e2
  refine g A O v s σ H _ x _ F e3 fun x' H1 h1 t1 r1 => ?_
  obtain ⟨ka, a', vs, rfl, c1⟩ := src_1 (F.step h1 t1).toFH r1 e6
  exact ⟨ka, a', vs, rfl, c1.1, q _ H1 h1 t1 (yl_enum LtE.ok c1)⟩
theorem f_enum {a : Expr} {ca : E} {p pos tpos : Pos} {elts : List Expr} {kk : Nat} (ha : GE Γ k a ca) (hn : noStar a = true) (hb : Blt Γ "enumerate") : GF Γ k (.Tuple elts kk tpos) (.Call (.Name "enumerate" p) [a] [] pos) (.enum ca) := by
  obtain ⟨t, p, g⟩ := ha
  refine ⟨iEnumK Γ.K (tCons t tNil), fun X hX => by have hK := hX.K; rw [← hK]; exact pi_enumK (hX.gl hb.1) (hX.mgn hb.2) (pa_cons (p X hX) pa_nil (starEach_cons hn)) (starEach_cons hn), fun A O v s σ H R d ds s' F e1 e2 q => ?_⟩
  rw [ev] at e1
  obtain ⟨x, s1, e3, f1⟩ := bind_ok e1
  obtain ⟨e4, rfl⟩ := lift_ok f1
  obtain ⟨xs, e6, rfl⟩ := enumD_ok e4 e2
  refine g A O v s σ H _ x _ F e3 fun x' H1 h1 t1 r1 => ?_
  obtain ⟨ka, a', vs, rfl, c1⟩ := src_v (F.step h1 t1).toFH r1 e6
  exact ⟨ka, a', vs, rfl, (c1 fun _ => False).1, q _ H1 h1 t1 fun Ox => yl_enum LtS.ok (c1 Ox)⟩
end
end L2.NB
set_option Elab.async false
set_option linter.all false
set_option maxRecDepth 100000
/-! NB9: targets; list comprehensions. -/
namespace L2.NB
open PySem PySem.Spec PyProof.Rows

/-! ### targets -/
def gSlots : List Nat → TGs
  | [] => gNil
  | i :: r => gCons (gName i) (gSlots r)
def gTg (K : PySem.W.Frag) : Tg → TG
  | .nm i => gName i
  | .tp is => gTup K is.length (gSlots is)
def Tg.slots : Tg → List Nat
  | .nm i => [i]
  | .tp is => is
/-- the slots within I as they stand -/
def SlotsOn (K : PySem.W.Frag) (A : HA) (O : Addr → Prop) (H : Hp) (I : Nat → Prop) (v : Env) (σ : St) : Prop := σ.length = v.length ∧ ∀ (i : Nat) (x : Slot), v[i]? = some x → I i → SlotR K A O H x σ[i]?
section
variable {K : PySem.W.Frag} {A : HA} {O : Addr → Prop} {H : Hp}
theorem SlotsOn.put {I : Nat → Prop} {v v' : Env} {σ : St} {i : Nat} {x : Slot} {y : V} (h : SlotsOn K A O H I v σ) (e : put i x v = some v') (r : i < σ.length → SlotR K A O H x (some (some y))) : SlotsOn K A O H (fun j => I j ∨ j = i) v' (σ.set i (some y)) := by
  unfold NB.put at e
  split at e
  · rename_i hi
    cases e
    refine ⟨by rw [List.length_set, List.length_set]; exact h.1, fun j z ej hj => ?_⟩
    by_cases hij : i = j
    · subst hij
      rw [List.getElem?_set_self hi] at ej
      cases ej
      have hs : i < σ.length := by rw [h.1]; exact hi
      rw [List.getElem?_set_self hs]
      exact r hs
    · rw [List.getElem?_set_ne hij] at ej ⊢
      exact h.2 j z ej (hj.resolve_right fun z => hij z.symm)
  · cases e
theorem SlotsOn.imp {I J : Nat → Prop} {v : Env} {σ : St} (h : SlotsOn K A O H I v σ) (hj : ∀ i, J i → I i) : SlotsOn K A O H J v σ := ⟨h.1, fun i x e j => h.2 i x e (hj i j)⟩
theorem putAll_run {Q : St → Hp → Prop} : ∀ {is : List Nat} {ds : List D} {xs : List V} {v v' : Env} {σ : St} {I : Nat → Prop}, RepL K (Bo A O) H xs ds → putAll is ds v = some v' → SlotsOn K A O H I v σ →
    (∀ σ', SlotsOn K A O H (fun j => I j ∨ j ∈ is) v' σ' → (∀ vs : List Nat, (∀ i ∈ is, i ∈ vs) → wipe σ' vs = wipe σ vs) → Q σ' H) → gSlots is xs σ H Q
  | [], [], xs, v, v', σ, I, r, e, h, q => by
    cases r
    cases e
    exact ⟨rfl, q σ (h.imp fun i z => z.elim id fun z => by cases z) fun _ _ => rfl⟩
  | i :: is, d :: ds, xs, v, v', σ, I, r, e, h, q => by
    cases r with
    | cons r rr =>
      rename_i x xs
      obtain ⟨v1, e1, e2⟩ := Option.bind_eq_some_iff.mp e
      refine ⟨x, xs, rfl, ?_⟩
      refine putAll_run (I := fun j => I j ∨ j = i) rr e2 (h.put e1 fun _ => ⟨x, rfl, r⟩) fun σ' h' w' => q σ' (h'.imp fun j z => ?_) fun vs hv => ?_
      · rcases z with z | z
        · exact .inl (.inl z)
        · rcases List.mem_cons.mp z with z | z
          · exact .inl (.inr z)
          · exact .inr z
      · rw [w' vs fun j z => hv j (List.mem_cons_of_mem _ z)]
        have hi := hv i List.mem_cons_self
        refine List.ext_getElem? fun j => ?_
        clear w' hv q h h' e e1 e2 r rr
        induction vs with
        | nil => cases hi
        | cons a vs ih =>
          unfold wipe
          by_cases ha : a = j
          · subst ha
            have hl : (wipe (σ.set i (some x)) vs).length = (wipe σ vs).length := by rw [wipe_length, wipe_length, List.length_set]
            by_cases hj : a < (wipe σ vs).length
            · rw [List.getElem?_set_self hj, List.getElem?_set_self (by rw [hl]; exact hj)]
            · rw [List.getElem?_eq_none (by rw [List.length_set, hl]; omega), List.getElem?_eq_none (by rw [List.length_set]; omega)]
          · rw [List.getElem?_set_ne ha, List.getElem?_set_ne ha]
            by_cases hi' : i ∈ vs
            · exact ih hi'
            · have : i = a := (List.mem_cons.mp hi).resolve_right hi'
              subst this
              clear ih hi hi'
              induction vs with
              | nil => unfold wipe; rw [List.getElem?_set_ne ha]
              | cons b vs ih =>
                unfold wipe
                by_cases hb : b = j
                · subst hb
                  have hl : (wipe (σ.set i (some x)) vs).length = (wipe σ vs).length := by rw [wipe_length, wipe_length, List.length_set]
                  by_cases hj : b < (wipe σ vs).length
                  · rw [List.getElem?_set_self hj, List.getElem?_set_self (by rw [hl]; exact hj)]
                  · rw [List.getElem?_eq_none (by rw [List.length_set, hl]; omega), List.getElem?_eq_none (by rw [List.length_set]; omega)]
                · rw [List.getElem?_set_ne hb, List.getElem?_set_ne hb]
                  exact ih
  | [], _ :: _, _, _, _, _, _, _, e, _, _ => by cases e
  | _ :: _, [], _, _, _, _, _, _, e, _, _ => by cases e
theorem putTg_run {Q : St → Hp → Prop} {g : Tg} {d : D} {x : V} {v v' : Env} {σ : St} {I : Nat → Prop} (r : Rep K (Bo A O) H x d) (e : putTg g d v = some v') (h : SlotsOn K A O H I v σ)
    (q : ∀ σ', SlotsOn K A O H (fun j => I j ∨ j ∈ g.slots) v' σ' → (∀ vs : List Nat, (∀ i ∈ g.slots, i ∈ vs) → wipe σ' vs = wipe σ vs) → Q σ' H) : gTg K g x σ H Q := by
  cases g with
  | nm i =>
    have e : put i (.val d) v = some v' := e
    have e2 : putAll [i] [d] v = some v' := by unfold putAll; rw [e]; rfl
    have z := putAll_run (Q := Q) (.one r) e2 h q
    obtain ⟨y, ys, ey, z1, z2⟩ := z
    cases ey
    exact z2
  | tp is =>
    unfold putTg at e
    cases d <;> first | (cases e; done) | skip
    rename_i ds
    obtain ⟨a, xs, rfl, ht, rl⟩ := r.tup_inv
    have hl : ∀ (is : List Nat) (ds : List D) (v : Env), putAll is ds v = some v' → ds.length = is.length := by
      intro is
      induction is with
      | nil => intro ds v e; cases ds <;> first | rfl | (cases e; done)
      | cons i is ih =>
        intro ds v e
        cases ds with
        | nil => cases e
        | cons d ds =>
          obtain ⟨v1, e1, e2⟩ := Option.bind_eq_some_iff.mp e
          exact congrArg Nat.succ (ih ds v1 e2)
    exact ⟨a, xs, rfl, ht.sq, by rw [rl.length]; exact hl _ _ _ e, putAll_run rl e h q⟩
end
theorem FE.slots {K : PySem.W.Frag} {A : HA} {O : Addr → Prop} {v : Env} {s : S} {σ : St} {H : Hp} (F : FE K A O v s σ H) (I : Nat → Prop) : SlotsOn K A O H I v σ := ⟨F.ln, fun i x e _ => F.sl i x e⟩
theorem SlotsOn.fe {K : PySem.W.Frag} {A : HA} {O : Addr → Prop} {v : Env} {s : S} {σ : St} {H : Hp} {I : Nat → Prop} (h : SlotsOn K A O H I v σ) (F : FH A O s H) (hi : ∀ i, I i) : FE K A O v s σ H := ⟨F, fun i x e => h.2 i x e (hi i), h.1⟩

section
variable {Γ : Ctx} {k : CallT}
/-- a name that may be stored -/
structure Sto (Γ : Ctx) (i : Nat) (x : Str) : Prop where
  ix : Γ.N[i]? = some x
  loc : Loc Γ.sc x
  fn : Γ.fn x = true ∨ Γ.sc.names.lookup x = some .local
theorem Sto.pg {i : Nat} {x : Str} {pos : Pos} (h : Sto Γ i x) {X : Cx} (hX : Γ.Has X) : PG X (.Name x pos) (gName i) :=
  pg_name (by rw [hX.N]; exact hX.nd) (by rw [hX.N]; exact h.ix) (by rw [hX.sc]; exact h.loc) (by rw [hX.fn, hX.sc]; exact h.fn)
/-- names as targets -/
def StoL (Γ : Ctx) : List Expr → List Nat → Prop
  | [], [] => True
  | .Name x _ :: es, i :: is => Sto Γ i x ∧ StoL Γ es is
  | _, _ => False
theorem StoL.pgs {X : Cx} (hX : Γ.Has X) : ∀ {es : List Expr} {is : List Nat}, StoL Γ es is → PGs X es (gSlots is) ∧ (assignEach es X.env).length = is.length ∧ (assignEach es X.env).findIdx? (·.1) = none
  | [], [], _ => ⟨pgs_nil, rfl, rfl⟩
  | .Name x pos :: es, i :: is, h => by
    obtain ⟨h1, h2⟩ := h
    obtain ⟨p, l, f⟩ := StoL.pgs hX h2
    refine ⟨pgs_cons (h1.pg hX) p rfl, congrArg Nat.succ l, ?_⟩
    show List.findIdx? (·.1) ((false, _) :: assignEach es X.env) = none
    rw [List.findIdx?_cons]
    simp [f]
/-- a target goes as g says -/
def TG_ (Γ : Ctx) (e : Expr) (g : Tg) : Prop := ∀ X, Γ.Has X → PG X e (gTg Γ.K g)
theorem tg_nm {i : Nat} {x : Str} {pos : Pos} (h : Sto Γ i x) : TG_ Γ (.Name x pos) (.nm i) := fun X hX => h.pg hX
theorem tg_tp {es : List Expr} {is : List Nat} {n : Nat} {pos : Pos} (h : StoL Γ es is) : TG_ Γ (.Tuple es n pos) (.tp is) := fun X hX => by
  obtain ⟨p, l, f⟩ := h.pgs hX
  have hK := hX.K
  rw [← hK]
  exact pg_tup hX.calm p l f

theorem Step.none {A : HA} {s : S} {H H' : Hp} (st : Step A H H') (hr : HRel A s H) {s' : S} (hr' : HRel A s' H') {a : Addr} (ha : H' a = none) : H a = none := by
  cases e : H a with
  | none => rfl
  | some o =>
    have n : ¬ inH A a := hr'.fresh ha
    rw [st a o e n] at ha
    cases ha
/-! ### comprehensions -/
abbrev Ctx.blk (Γ : Ctx) (scope : Scope) : Ctx := { Γ with sc := relS scope Γ.sc, fn := fun x => scope.names.lookup x == some .cell }
theorem Ctx.Has.blk {X : Cx} (hX : Γ.Has X) {scope : Scope} (hk : scope.kind = .function) (s : Shared) (H : Hp) (C : Addr) (cl : List (Str × Addr)) (fp : List Addr) : (Γ.blk scope).Has (X.blk s H scope (compEnvC scope cl C X.env) fp) :=
  ⟨hX.prog, hX.w, hX.K, hX.mg, hX.base, hX.N, hX.nd, by show relS scope X.env.scope = _; rw [hX.sc], hk, hX.calm, hX.room, hX.gd, rfl, rfl⟩
/-- a clause's test -/
def GC (Γ : Ctx) (ifs : List Expr) (C : Env → M Bool) : Prop :=
  ∃ t, (∀ X, Γ.Has X → PTs X ifs t) ∧ ∀ (A : HA) (O : Addr → Prop) (v : Env) (s : S) (σ : St) (H : Hp) (Q : Bool → Hp → Prop) (b : Bool) (s' : S), FE Γ.K A O v s σ H → C v s = .ok b s' →
    (∀ H', HRel A s' H' → Step A H H' → Q b H') → t σ H Q
theorem gc_nil : GC Γ [] (fun _ => M.pure true) := ⟨tYes, fun X hX => pts_nil, fun A O v s σ H Q b s' F e q => by cases e; exact q H F.hr .refl⟩
theorem gc_one {c : Expr} {cc : E} (h : GB Γ k c cc) : GC Γ [c] (tst k cc) := by
  obtain ⟨t, p, g⟩ := h
  exact ⟨t, fun X hX => pts_one (p X hX), g⟩
theorem lcM_if {g : Tg} {f : Env → M D} {v : Env} : ∀ {xs acc : List D}, lcM g f v xs acc = lcIfM g f (fun _ => M.pure true) v xs acc
  | [], acc => rfl
  | x :: r, acc => by
    unfold lcM lcIfM
    congr 1
    funext v'
    show _ = M.bind (M.pure true) _
    unfold M.bind M.pure
    funext s
    show (_ : Res _) = _
    simp only [if_true]
    show M.bind _ _ _ = M.bind _ _ _
    congr 1
    funext y
    split
    · exact lcM_if
    · rfl
/-- what the block's own names ask -/
structure LcOk (Γ : Ctx) (scope : Scope) (own : List (Str × Nat)) (g : Tg) : Prop where
  ok : BlkOk Γ.N Γ.sc scope own
  sub : ∀ i ∈ g.slots, i ∈ own.map (·.2)
  sup : ∀ i ∈ own.map (·.2), i ∈ g.slots
def oD (O : Addr → Prop) (D : Addr) : Addr → Prop := fun a => O a ∨ a = D
theorem getElem_drop_cons {α : Type} {l r : List α} {x : α} {i : Nat} (h : l.drop i = x :: r) : l[i]? = some x ∧ l.drop (i + 1) = r ∧ i < l.length := by
  have h1 : l[i]? = some x := by
    have : (l.drop i)[0]? = some x := by rw [h]; rfl
    rwa [List.getElem?_drop, Nat.add_zero] at this
  refine ⟨h1, ?_, (List.getElem?_eq_some_iff.mp h1).1⟩
  have : (l.drop i).drop 1 = r := by rw [h]; rfl
  rw [List.drop_drop] at this
  exact this
theorem wipe_get {σ : St} {i : Nat} : ∀ {vs : List Nat}, i ∉ vs → (wipe σ vs)[i]? = σ[i]?
  | [], _ => rfl
  | v :: vs, h => by
    unfold wipe
    rw [List.getElem?_set_ne fun (e : v = i) => h (by rw [e]; exact List.mem_cons_self)]
    exact wipe_get fun z => h (List.mem_cons_of_mem _ z)
theorem wipe_in {σ : St} {i : Nat} : ∀ {vs : List Nat}, i ∈ vs → i < σ.length → (wipe σ vs)[i]? = some none
  | v :: vs, h, hl => by
    show (List.set (wipe σ vs) v none)[i]? = some none
    by_cases e : v = i
    · subst e
      rw [List.getElem?_set_self (by rw [wipe_length]; exact hl)]
    · rw [List.getElem?_set_ne e]
      exact wipe_in ((List.mem_cons.mp h).resolve_left fun z => e z.symm) hl
theorem wipe_wipe {σ : St} {ws : List Nat} : ∀ {vs : List Nat}, (∀ i ∈ vs, i ∈ ws) → wipe (wipe σ ws) vs = wipe σ ws
  | [], _ => rfl
  | a :: vs, h => by
    show List.set (wipe (wipe σ ws) vs) a none = wipe σ ws
    rw [wipe_wipe fun i z => h i (List.mem_cons_of_mem _ z)]
    refine List.ext_getElem? fun j => ?_
    by_cases e : a = j
    · subst e
      by_cases hl : a < σ.length
      · rw [List.getElem?_set_self (by rw [wipe_length]; exact hl), wipe_in (h a List.mem_cons_self) hl]
      · rw [List.getElem?_eq_none (by rw [List.length_set, wipe_length]; omega), List.getElem?_eq_none (by rw [wipe_length]; omega)]
    · rw [List.getElem?_set_ne e]
/-- fresh: the list at a is new -/
def GoodF (Γ : Ctx) (k : CallT) (c : E) (t : TE) : Prop := ∀ (A : HA) (O : Addr → Prop) (v : Env) (s : S) (σ : St) (H : Hp) (Q : VK) (ds : List PyData) (s' : S), FE Γ.K A O v s σ H → ev k c v s = .ok (.list ds) s' →
  (∀ (a : Addr) (vs : List V) (H' : Hp), HRel A s' H' → Step A H H' → H a = none → H' a = some (.lst vs) → RepL Γ.K (Bo A (oD O a)) H' vs ds → Q (.ref a) H') → t σ H Q
/-- an expression stored in a name -/
def Stb (Γ : Ctx) (e : Expr) (t : TE) : Prop := ∀ X, Γ.Has X → ∀ (i : Nat) (y : Str) (py spos : Pos), Sto Γ i y → PS X (.Assign [.Name y py] e spos) (tAsg t (gName i))
def notComp : Expr → Bool
  | .ListComp _ _ _ _ => false
  | .SetComp _ _ _ _ => false
  | .DictComp _ _ _ _ _ => false
  | _ => true
theorem sw_false {e : Expr} (h : notComp e = true) (tg : Option Expr) (l : Nat) (env : PySem.Env) : swapsWith e tg l env = pure false := by
  cases e <;> first | rfl | (cases h; done)
theorem stb_of {e : Expr} {t : TE} (h : notComp e = true) (p : ∀ X, Γ.Has X → PE X e t) : Stb Γ e t := fun X hX i y py spos S =>
  ps_set (by rw [hX.N]; exact hX.nd) (by rw [hX.N]; exact S.ix) (by rw [hX.sc]; exact S.loc) (p X hX) (sw_false h _ _ _) (by rw [hX.fn, hX.sc]; exact S.fn)
def GFr (Γ : Ctx) (k : CallT) (e : Expr) (c : E) : Prop := ∃ t, (∀ X, Γ.Has X → PE X e t) ∧ Stb Γ e t ∧ GoodF Γ k c t
/-- it gives lists alone -/
def Lists (k : CallT) (c : E) : Prop := ∀ (v : Env) (s s' : S) (d : PyData), ev k c v s = .ok d s' → ∃ ds, d = .list ds
theorem GoodF.ge {c : E} {t : TE} (h : GoodF Γ k c t) (hl : Lists k c) : ∀ (A : HA) (O : Addr → Prop) (v : Env) (s : S) (σ : St) (H : Hp) (Q : VK) (d : PyData) (s' : S), FE Γ.K A O v s σ H → ev k c v s = .ok d s' →
    (∀ x H', HRel A s' H' → Step A H H' → Rep Γ.K (Bo A O) H' x d → Q x H') → t σ H Q := fun A O v s σ H Q d s' F e q => by
  obtain ⟨ds, rfl⟩ := hl v s s' d e
  exact h A O v s σ H Q ds s' F e fun a vs H' h' t' ha hl r => q _ H' h' t' (.lst hl (F.toFH.fresh ha) (r.mono (fun a z => .inl (z.elim .inl fun z => .inr (.inl z))) fun a o e _ => e))
theorem GFr.ge {e : Expr} {c : E} (h : GFr Γ k e c) (hl : Lists k c) : GE Γ k e c := by
  obtain ⟨t, p, _, g⟩ := h
  exact ⟨t, p, g.ge hl⟩
theorem lc_lists {e it : E} {g : Tg} : Lists k (.lc e g it) := fun v s s' d h => by
  rw [ev] at h
  obtain ⟨x, s1, e1, f1⟩ := bind_ok h
  obtain ⟨xs, s2, e2, f2⟩ := bind_ok f1
  obtain ⟨r, s3, e3, f3⟩ := bind_ok f2
  obtain ⟨rfl, _⟩ := pure_ok f3
  exact ⟨r, rfl⟩
theorem lcIf_lists {e it c : E} {g : Tg} : Lists k (.lcIf e g it c) := fun v s s' d h => by
  rw [ev] at h
  obtain ⟨x, s1, e1, f1⟩ := bind_ok h
  obtain ⟨xs, s2, e2, f2⟩ := bind_ok f1
  obtain ⟨r, s3, e3, f3⟩ := bind_ok f2
  obtain ⟨rfl, _⟩ := pure_ok f3
  exact ⟨r, rfl⟩
theorem lc_go {elt tg iter : Expr} {ifs : List Expr} {scope : Scope} {own : List (Str × Nat)} {pos : Pos} {ce ci c : E} {C : Env → M Bool} {g : Tg} (hi : GI Γ k tg iter ci) (L : LcOk Γ scope own g) (hg : TG_ (Γ.blk scope) tg g) (ht : GC (Γ.blk scope) ifs C) (he : GE (Γ.blk scope) k elt ce)
    (hf : ∀ (env : PySem.Env) x, foldedSetIterable iter env x = pure x)
    (hc : ∀ v, ev k c v = (do let x ← ev k ci v; let xs ← liftO (itemsOf x); let r ← lcIfM g (ev k ce) C v xs []; M.pure (.list r))) : GFr Γ k (.ListComp elt [⟨tg, iter, ifs, 0⟩] scope pos) c := by
  obtain ⟨wi, pi, gi⟩ := hi
  obtain ⟨tt, pt, gt⟩ := ht
  obtain ⟨te, pe, ge⟩ := he
  refine ⟨tLc wi (gTg Γ.K g) tt te (own.map (·.2)), fun X hX => pe_lc hX.calm (by rw [hX.N]; exact hX.nd) (pi X hX) (by rw [hX.N, hX.sc]; exact L.ok) (fun s H C cl fp => hg _ (hX.blk L.ok.kind s H C cl fp)) (fun s H C cl fp => pt _ (hX.blk L.ok.kind s H C cl fp)) (fun s H C cl fp => pe _ (hX.blk L.ok.kind s H C cl fp)) (hf X.env), fun X hX i y py spos S => ?_, fun A O v s σ H Q d s' F e q => ?_⟩
  · obtain ⟨b, hb⟩ : ∃ b, swapsWith (.ListComp elt [⟨tg, iter, ifs, 0⟩] scope pos) (some (.Name y py)) spos.line X.env = pure b ∧ (b = true → X.env.kindOf y = some .local) := ⟨_, rfl, fun h => by
      simp only [Bool.and_eq_true, beq_iff_eq] at h
      exact h.1.1.2⟩
    cases b with
    | false => exact ps_set (by rw [hX.N]; exact hX.nd) (by rw [hX.N]; exact S.ix) (by rw [hX.sc]; exact S.loc) (pe_lc hX.calm (by rw [hX.N]; exact hX.nd) (pi X hX) (by rw [hX.N, hX.sc]; exact L.ok) (fun s H C cl fp => hg _ (hX.blk L.ok.kind s H C cl fp)) (fun s H C cl fp => pt _ (hX.blk L.ok.kind s H C cl fp)) (fun s H C cl fp => pe _ (hX.blk L.ok.kind s H C cl fp)) (hf X.env)) hb.1 (by rw [hX.fn, hX.sc]; exact S.fn)
    | true => exact ps_setLc hX.calm (by rw [hX.N]; exact hX.nd) (by rw [hX.N]; exact S.ix) (hb.2 rfl) hb.1 (pi X hX) (by rw [hX.N, hX.sc]; exact L.ok) (fun s H C cl fp => hg _ (hX.blk L.ok.kind s H C cl fp)) (fun s H C cl fp => pt _ (hX.blk L.ok.kind s H C cl fp)) (fun s H C cl fp => pe _ (hX.blk L.ok.kind s H C cl fp)) (hf X.env)
  rw [hc] at e
  obtain ⟨x, s1, e1, f1⟩ := bind_ok e
  obtain ⟨xs, s2, e2, f2⟩ := bind_ok f1
  obtain ⟨e2', rfl⟩ := lift_ok e2
  obtain ⟨r, s3, e3, f3⟩ := bind_ok f2
  obtain ⟨hdr, hs3⟩ := pure_ok f3
  cases hdr
  subst hs3
  refine gi A O v s σ H _ x xs _ F e1 e2' fun J H1 h1 t1 y D hD => ?_
  have F1 := F.step h1 t1
  have hDA : ¬ inH A D := F1.hr.fresh hD
  have hD0 : ∀ a, H1 a = none → H a = none := fun a ha => t1.none F.hr h1 ha
  have hDO : ¬ O D := fun z => (F1.toFH.fresh hD) (.inr z)
  refine ⟨fun i m H2 => m = xs.length - i ∧ i ≤ xs.length ∧ ∃ (s4 : S) (acc : List PyData) (av : List V), HRel A s4 H2 ∧ Step A H1 H2 ∧ (∀ a, O a → H2 a = H1 a) ∧ H2 D = some (.lst av) ∧ RepL Γ.K (Bo A (oD O D)) H2 av acc ∧ lcIfM g (ev k ce) C v (xs.drop i) acc s4 = .ok d s',
    ⟨_, rfl, Nat.zero_le _, _, [], [], h1.upd hDA, Step.upd hD, fun a ha => upd_ne fun (z : a = D) => hDO (by rw [← z]; exact ha), upd_same, .nil, e3⟩, ?_⟩
  rintro i m H2 ⟨rfl, hi, s4, acc, av, h2, t2, ho, hd, rl, el⟩
  have FH2 : FH A (oD O D) s4 H2 := by
    refine ⟨h2, fun a ha => ?_⟩
    rcases ha with ha | rfl
    · obtain ⟨n1, o, q1⟩ := F1.on a ha
      exact ⟨n1, o, by rw [ho a ha]; exact q1⟩
    · exact ⟨hDA, _, hd⟩
  have yy := y (oD O D) H2 s4 ⟨fun a z => z.elim .inl fun z => .inr (z ▸ hD), t2⟩ FH2 i
  cases hx : xs.drop i with
  | nil =>
    have hil : xs.length ≤ i := List.drop_eq_nil_iff.mp hx
    rw [hx] at el
    unfold lcIfM at el
    obtain ⟨rfl, rfl⟩ := pure_ok el
    exact .inl ⟨yy.2 hil, q D av H2 h2 (t1.trans t2) (hD0 D hD) hd rl⟩
  | cons d0 r0 =>
    obtain ⟨hg0, hd0, hlt⟩ := getElem_drop_cons hx
    rw [hx] at el
    unfold lcIfM at el
    obtain ⟨v', s5, e5, el⟩ := bind_ok el
    obtain ⟨e5', hs5⟩ := lift_ok e5
    have hs5' := hs5.symm
    subst hs5'
    obtain ⟨b, s6, e6, el⟩ := bind_ok el
    obtain ⟨yg, yy⟩ := yy.1 d0 hg0
    refine .inr ⟨yg, fun H3 => ∃ m', m' < xs.length - i ∧ (m' = xs.length - (i + 1) ∧ i + 1 ≤ xs.length ∧ ∃ (s4 : S) (acc : List PyData) (av : List V), HRel A s4 H3 ∧ Step A H1 H3 ∧ (∀ a, O a → H3 a = H1 a) ∧ H3 D = some (.lst av) ∧ RepL Γ.K (Bo A (oD O D)) H3 av acc ∧ lcIfM g (ev k ce) C v (xs.drop (i + 1)) acc s4 = .ok d s'), fun H' z => z, fun x H3 yx => ?_⟩
    obtain ⟨h3, t3, rx⟩ := yy x H3 yx
    have fresh1 : ∀ {Ha Hb : Hp}, Step A Ha Hb → Step A H1 Ha → Step A H1 Hb := fun a b => b.trans a
    have F3 : FH A (oD O D) s4 H3 := FH2.step h3 t3
    have own3 : ∀ a, O a → H3 a = H1 a := fun a ha => by
      obtain ⟨n1, o, q1⟩ := F1.on a ha
      rw [t3 a o (by rw [ho a ha]; exact q1) n1, q1]
    have S3 : SlotsOn Γ.K A (oD O D) H3 (fun j => j ∉ own.map (·.2)) v (wipe σ (own.map (·.2))) := by
      refine ⟨by rw [wipe_length]; exact F.ln, fun j sl ej hj => ?_⟩
      rw [wipe_get hj]
      refine (F1.sl j sl ej).mono (fun a z => ?_) (fun a o q1 n1 => (t2.trans t3) a o q1 fun z => n1 (.inl z)) fun ys a _ _ oa => ⟨.inl oa, own3 a oa⟩
      rcases z with z | z | rfl
      · exact .inl (.inl z)
      · exact .inl (.inr z)
      · exact .inr hD
    refine putTg_run rx e5' S3 fun σ4 S4 w4 => ⟨w4 _ L.sub ▸ ?_, ?_⟩
    · exact wipe_wipe fun _ z => z
    · have F4 : FE Γ.K A (oD O D) v' s4 σ4 H3 := S4.fe F3 fun j => by
        by_cases hj : j ∈ own.map (·.2)
        · exact .inr (L.sup j hj)
        · exact .inl hj
      refine gt A (oD O D) v' s4 σ4 H3 _ b s6 F4 e6 fun H4 h4 t4 => ?_
      have F5 := F4.step h4 t4
      have own4 : ∀ {Ha : Hp}, Step A H3 Ha → ∀ a, O a → Ha a = H1 a := fun {Ha} st a ha => by
        obtain ⟨n1, o, q1⟩ := F1.on a ha
        rw [st a o (by rw [own3 a ha]; exact q1) n1, q1]
      have hd3 : H3 D = some (.lst av) := t3 D _ hd hDA
      have rl3 := rl.step t3
      cases b with
      | false =>
        rw [if_neg Bool.false_ne_true] at el ⊢
        refine ⟨xs.length - (i + 1), by omega, rfl, hlt, s6, acc, av, h4, (t2.trans t3).trans t4, own4 t4, t4 D _ hd3 hDA, rl3.step t4, ?_⟩
        rw [hd0]
        exact el
      | true =>
        rw [if_pos rfl] at el ⊢
        obtain ⟨y0, s7, e7, el⟩ := bind_ok el
        obtain ⟨hz, el⟩ := if_ok el
        refine ge A (oD O D) v' s6 σ4 H4 _ y0 s7 F5 e7 fun yv H5 h5 t5 ry => ?_
        have hd5 : H5 D = some (.lst av) := t5 D _ (t4 D _ hd3 hDA) hDA
        have rl5 := (rl3.step t4).step t5
        refine ⟨av, hd5, by rw [rl5.length]; exact hz, xs.length - (i + 1), by omega, rfl, hlt, s7, acc ++ [y0], av ++ [yv], h5.upd hDA, fun a o ea na => ?_, fun a ha => ?_, upd_same, ?_, ?_⟩
        · rw [upd_ne (ne_of_none ea hD)]
          exact (((t2.trans t3).trans t4).trans t5) a o ea na
        · rw [upd_ne fun (z : a = D) => hDO (by rw [← z]; exact ha)]
          exact own4 (t4.trans t5) a ha
        · refine (rl5.append (.one ry)).mono (fun _ z => .inl z) fun a o ea na => ?_
          rw [upd_ne fun z => na (.inr (.inr z))]
          exact ea
        · rw [hd0]
          exact el
theorem g_lc {elt tg iter : Expr} {scope : Scope} {own : List (Str × Nat)} {pos : Pos} {ce ci : E} {g : Tg} (hi : GI Γ k tg iter ci) (L : LcOk Γ scope own g) (hg : TG_ (Γ.blk scope) tg g) (he : GE (Γ.blk scope) k elt ce) (hf : ∀ (env : PySem.Env) x, foldedSetIterable iter env x = pure x) :
    GFr Γ k (.ListComp elt [⟨tg, iter, [], 0⟩] scope pos) (.lc ce g ci) := lc_go hi L hg gc_nil he hf fun v => by
  rw [ev]
  simp only [lcM_if]
theorem g_lcIf {elt tg iter c : Expr} {scope : Scope} {own : List (Str × Nat)} {pos : Pos} {ce ci cc : E} {g : Tg} (hi : GI Γ k tg iter ci) (L : LcOk Γ scope own g) (hg : TG_ (Γ.blk scope) tg g) (hc : GB (Γ.blk scope) k c cc) (he : GE (Γ.blk scope) k elt ce) (hf : ∀ (env : PySem.Env) x, foldedSetIterable iter env x = pure x) :
    GFr Γ k (.ListComp elt [⟨tg, iter, [c], 0⟩] scope pos) (.lcIf ce g ci cc) := lc_go hi L hg (gc_one hc) he hf fun v => by
  rw [ev]
  rfl
end
end L2.NB
set_option Elab.async false
set_option linter.all false
set_option maxRecDepth 100000
/-! NB10: statements. -/
namespace L2.NB
open PySem PySem.Spec PyProof.Rows

/-- a frame, for statements: O holds the outer owned Ox and the lists that names own -/
structure FS (K : PySem.W.Frag) (A : HA) (Ox O : Addr → Prop) (env : Env) (s : S) (σ : St) (H : Hp) : Prop extends FE K A O env s σ H where
  sub : ∀ a, Ox a → O a
  ox : ∀ (i : Nat) (xs : List PyData) (a : Addr), env[i]? = some (.own xs) → σ[i]? = some (some (.ref a)) → ¬ Ox a
  inj : ∀ (i j : Nat) (xs ys : List PyData) (a : Addr), env[i]? = some (.own xs) → env[j]? = some (.own ys) → σ[i]? = some (some (.ref a)) → σ[j]? = some (some (.ref a)) → i = j
theorem put_some {i : Nat} {x : Slot} {v v' : Env} (h : put i x v = some v') : i < v.length ∧ v' = v.set i x := by
  unfold put at h
  split at h
  · cases h; exact ⟨by assumption, rfl⟩
  · cases h
section
variable {K : PySem.W.Frag} {A : HA} {Ox O : Addr → Prop} {env env' : Env} {s s' : S} {σ : St} {H H' : Hp}
theorem FS.step (F : FS K A Ox O env s σ H) (h : HRel A s' H') (st : Step A H H') : FS K A Ox O env s' σ H' := ⟨F.toFE.step h st, F.sub, F.ox, F.inj⟩
theorem FS.stepS (F : FS K A Ox O env s σ H) (h : HRel A s' H') (st : Step A H H') : StepS A Ox O H O H' := ⟨fun a o e n => st a o e fun z => n.elim (fun n => (F.on a (F.sub a n)).1 z) fun n => n (.inl z), fun a z => .inl z, fun a o e => by
  by_cases z : inH A a
  · obtain ⟨xs, q⟩ := h.isl z; exact ⟨_, q⟩
  · exact ⟨o, st a o e z⟩⟩
theorem StepS.refl : StepS A Ox O H O H := ⟨fun _ _ e _ => e, fun _ z => .inl z, fun _ o e => ⟨o, e⟩⟩
theorem StepS.trans {O1 O2 : Addr → Prop} {H1 H2 : Hp} (a : StepS A Ox O H O1 H1) (b : StepS A Ox O1 H1 O2 H2) : StepS A Ox O H O2 H2 := by
  refine ⟨fun x o e n => b.1 x o (a.1 x o e n) ?_, fun x z => ?_, fun x o e => ?_⟩
  · rcases n with n | n
    · exact .inl n
    · refine .inr fun z => ?_
      rcases z with z | z
      · exact n (.inl z)
      · rcases a.2.1 x z with z | z
        · exact n (.inr z)
        · rw [e] at z; cases z
  · rcases b.2.1 x z with z | z
    · exact a.2.1 x z
    · cases e : H x with
      | none => exact .inr rfl
      | some o =>
        obtain ⟨o', e'⟩ := a.2.2 x o e
        rw [e'] at z; cases z
  · obtain ⟨o', e'⟩ := a.2.2 x o e
    exact b.2.2 x o' e'
/-- a value goes into a name -/
theorem FS.put {i : Nat} {d : PyData} {x : V} (F : FS K A Ox O env s σ H) (e : put i (.val d) env = some env') (r : Rep K (Bo A O) H x d) : FS K A Ox O env' s (σ.set i (some x)) H := by
  have S := (F.toFE.slots (fun _ => True)).put (y := x) e fun _ => ⟨x, rfl, r⟩
  obtain ⟨hi, rfl⟩ := put_some e
  have hi' : i < σ.length := by rw [F.ln]; exact hi
  have old : ∀ (j : Nat) (xs : List PyData) (a : Addr), (env.set i (.val d))[j]? = some (.own xs) → (σ.set i (some x))[j]? = some (some (.ref a)) → j ≠ i ∧ env[j]? = some (.own xs) ∧ σ[j]? = some (some (.ref a)) := fun j xs a h1 h2 => by
    by_cases hj : i = j
    · subst hj
      rw [List.getElem?_set_self hi] at h1
      cases h1
    · rw [List.getElem?_set_ne hj] at h1 h2
      exact ⟨fun z => hj z.symm, h1, h2⟩
  refine ⟨S.fe F.toFH fun _ => .inl trivial, F.sub, fun j xs a h1 h2 => ?_, fun j l xs ys a h1 h2 h3 h4 => ?_⟩
  · obtain ⟨_, q1, q2⟩ := old j xs a h1 h2
    exact F.ox j xs a q1 q2
  · obtain ⟨_, q1, q2⟩ := old j xs a h1 h3
    obtain ⟨_, q3, q4⟩ := old l ys a h2 h4
    exact F.inj j l xs ys a q1 q3 q2 q4
/-- a list of its own goes into a name: one that no other name owns -/
theorem FS.putOwn {i : Nat} {xs : List PyData} {a : Addr} {vs : List V} (F : FS K A Ox O env s σ H) (e : NB.put i (.own xs) env = some env') (ha : H a = some (.lst vs)) (ho : O a) (hx : ¬ Ox a)
    (hn : ∀ (j : Nat) (ys : List PyData), j ≠ i → env[j]? = some (.own ys) → σ[j]? = some (some (.ref a)) → False) (r : RepL K (Bo A O) H vs xs) : FS K A Ox O env' s (σ.set i (some (.ref a))) H := by
  have S := (F.toFE.slots (fun _ => True)).put (y := .ref a) e fun _ => ⟨a, vs, rfl, ha, ho, r⟩
  obtain ⟨hi, rfl⟩ := put_some e
  have hi' : i < σ.length := by rw [F.ln]; exact hi
  have old : ∀ (j : Nat) (ys : List PyData) (b : Addr), (env.set i (.own xs))[j]? = some (.own ys) → (σ.set i (some (.ref a)))[j]? = some (some (.ref b)) → (j = i ∧ b = a) ∨ (j ≠ i ∧ env[j]? = some (.own ys) ∧ σ[j]? = some (some (.ref b))) := fun j ys b h1 h2 => by
    by_cases hj : i = j
    · subst hj
      rw [List.getElem?_set_self hi'] at h2
      cases h2
      exact .inl ⟨rfl, rfl⟩
    · rw [List.getElem?_set_ne hj] at h1 h2
      exact .inr ⟨fun z => hj z.symm, h1, h2⟩
  refine ⟨S.fe F.toFH fun _ => .inl trivial, F.sub, fun j ys b h1 h2 => ?_, fun j l ys zs b h1 h2 h3 h4 => ?_⟩
  · rcases old j ys b h1 h2 with ⟨_, rfl⟩ | ⟨_, q1, q2⟩
    · exact hx
    · exact F.ox j ys b q1 q2
  · rcases old j ys b h1 h3 with ⟨e1, e2⟩ | ⟨n1, q1, q2⟩
    · rcases old l zs b h2 h4 with ⟨e3, _⟩ | ⟨n2, q3, q4⟩
      · rw [e1, e3]
      · subst e2
        exact (hn l zs n2 q3 q4).elim
    · rcases old l zs b h2 h4 with ⟨e3, e4⟩ | ⟨n2, q3, q4⟩
      · subst e4
        exact (hn j ys n1 q1 q2).elim
      · exact F.inj j l ys zs b q1 q3 q2 q4
/-- more is owned: a new list -/
theorem FS.more {a : Addr} {vs : List V} (F : FS K A Ox O env s σ H) (h : HRel A s' H') (st : Step A H H') (hn : H a = none) (ha : H' a = some (.lst vs)) : FS K A Ox (oD O a) env s' σ H' ∧ StepS A Ox O H (oD O a) H' := by
  have nA : ¬ inH A a := F.hr.fresh hn
  have F1 := F.step h st
  refine ⟨⟨⟨⟨h, fun b hb => ?_⟩, fun i x e => ?_, F.ln⟩, fun b hb => .inl (F.sub b hb), F.ox, F.inj⟩, ?_⟩
  · rcases hb with hb | rfl
    · exact F1.on b hb
    · exact ⟨nA, _, ha⟩
  · refine (F.sl i x e).mono (fun b z => ?_) (fun b o q n => st b o q fun z => n (.inl z)) fun xs b _ ev ob => ⟨.inl ob, ?_⟩
    · rcases z with z | z | rfl
      · exact .inl (.inl z)
      · exact .inl (.inr z)
      · exact .inr hn
    · obtain ⟨n1, o, q1⟩ := F.on b ob
      rw [st b o q1 n1, q1]
  · obtain ⟨h1, h2, h3⟩ := F.stepS h st
    exact ⟨h1, fun b z => z.elim .inl fun z => .inr (by rw [z]; exact hn), h3⟩
/-- an owned list is written -/
theorem FS.write {i : Nat} {xs ys : List PyData} {vs ws : List V} {a : Addr} (F : FS K A Ox O env s σ H) (ei : env[i]? = some (.own xs)) (es : σ[i]? = some (some (.ref a))) (e : NB.put i (.own ys) env = some env') (ha : H a = some (.lst vs)) (r : RepL K (Bo A O) H ws ys) :
    FS K A Ox O env' s σ (upd H a (.lst ws)) ∧ StepS A Ox O H O (upd H a (.lst ws)) ∧ O a := by
  have hs := F.sl i _ ei
  obtain ⟨a', vs', e1, e2, ho, r'⟩ := hs
  rw [es] at e1
  cases e1
  have nA : ¬ inH A a := (F.on a ho).1
  obtain ⟨hi, rfl⟩ := put_some e
  have keep : ∀ (b : Addr) (o : HO), H b = some o → ¬ Bo A O b → upd H a (.lst ws) b = some o := fun b o q n => by
    rw [upd_ne fun z => n (.inr (by rw [z]; exact ho))]; exact q
  refine ⟨⟨⟨⟨F.hr.upd nA, fun b hb => ⟨(F.on b hb).1, ?_⟩⟩, fun j x ej => ?_, by rw [List.length_set]; exact F.ln⟩, F.sub, fun j zs b h1 h2 => ?_, fun j l zs us b h1 h2 h3 h4 => ?_⟩, ⟨fun b o q n => ?_, fun b z => .inl z, fun b o q => ?_⟩, ho⟩
  · by_cases hb' : b = a
    · subst hb'; exact ⟨_, upd_same⟩
    · obtain ⟨o, q⟩ := (F.on b hb).2
      exact ⟨o, by rw [upd_ne hb']; exact q⟩
  · by_cases hj : i = j
    · subst hj
      rw [List.getElem?_set_self hi] at ej
      cases ej
      exact ⟨a, ws, es, upd_same, ho, r.mono (fun _ z => .inl z) keep⟩
    · rw [List.getElem?_set_ne hj] at ej
      refine (F.sl j x ej).mono (fun _ z => .inl z) keep fun zs b ex ev' ob => ⟨ob, upd_ne fun z => hj ?_⟩
      subst z
      rw [ex] at ej
      exact F.inj i j xs zs b ei ej es ev'
  · by_cases hj : i = j
    · subst hj
      rw [es] at h2
      cases h2
      exact F.ox i xs a ei es
    · rw [List.getElem?_set_ne hj] at h1
      exact F.ox j zs b h1 h2
  · have old : ∀ (j : Nat) (zs : List PyData), (env.set i (.own ys))[j]? = some (.own zs) → ∃ zs', env[j]? = some (.own zs') := fun j zs h => by
      by_cases hj : i = j
      · subst hj; exact ⟨xs, ei⟩
      · rw [List.getElem?_set_ne hj] at h; exact ⟨zs, h⟩
    obtain ⟨_, q1⟩ := old j zs h1
    obtain ⟨_, q2⟩ := old l us h2
    exact F.inj j l _ _ b q1 q2 h3 h4
  · refine (upd_ne fun z => ?_).trans q
    subst z
    rcases n with n | n
    · exact F.ox i xs b ei es n
    · exact n (.inr ho)
  · by_cases hb : b = a
    · subst hb; exact ⟨_, upd_same⟩
    · exact ⟨o, by rw [upd_ne hb]; exact q⟩
/-- an owned list becomes a value -/
theorem FS.frz {i : Nat} (F : FS K A Ox O env s σ H) : ∃ O', FS K A Ox O' (frzS i env) s σ H ∧ StepS A Ox O H O' H := by
  unfold frzS
  split
  · rename_i xs ei
    obtain ⟨a, vs, es, ha, ho, r⟩ := F.sl i _ ei
    have hl : i < env.length := (List.getElem?_eq_some_iff.mp ei).1
    have sub : ∀ b, Bo A (fun b => O b ∧ b ≠ a) b → Bo A O b ∨ H b = none := fun b z => z.elim (fun z => .inl (.inl z)) fun z => .inl (.inr z.1)
    have old : ∀ (j : Nat) (ys : List PyData), (env.set i (.val (.list xs)))[j]? = some (.own ys) → j ≠ i ∧ env[j]? = some (.own ys) := fun j ys h => by
      by_cases hj : i = j
      · subst hj
        rw [List.getElem?_set_self hl] at h
        cases h
      · rw [List.getElem?_set_ne hj] at h
        exact ⟨fun z => hj z.symm, h⟩
    refine ⟨fun b => O b ∧ b ≠ a, ⟨⟨⟨F.hr, fun b hb => F.on b hb.1⟩, fun j x ej => ?_, by rw [List.length_set]; exact F.ln⟩, fun b hb => ⟨F.sub b hb, fun z => F.ox i xs a ei es (z ▸ hb)⟩, fun j ys b h1 h2 => F.ox j ys b (old j ys h1).2 h2, fun j l ys zs b h1 h2 h3 h4 => F.inj j l ys zs b (old j ys h1).2 (old l zs h2).2 h3 h4⟩, fun b o q _ => q, fun b z => .inl z.1, fun b o q => ⟨o, q⟩⟩
    by_cases hj : i = j
    · subst hj
      rw [List.getElem?_set_self hl] at ej
      cases ej
      exact ⟨.ref a, es, .lst ha (fun z => z.elim (fun z => (F.on a ho).1 z) fun z => z.2 rfl) (r.mono sub fun _ _ q _ => q)⟩
    · rw [List.getElem?_set_ne hj] at ej
      refine (F.sl j x ej).mono sub (fun _ _ q _ => q) fun ys b ex ev' ob => ⟨⟨ob, fun z => hj ?_⟩, rfl⟩
      subst z
      rw [ex] at ej
      exact F.inj i j xs ys b ei ej es ev'
  · exact ⟨O, F, .refl⟩
/-- a target -/
theorem FS.putAll {Q : St → Hp → Prop} : ∀ {is : List Nat} {ds : List PyData} {xs : List V} {env env' : Env} {σ : St}, FS K A Ox O env s σ H → RepL K (Bo A O) H xs ds → putAll is ds env = some env' → (∀ σ', FS K A Ox O env' s σ' H → Q σ' H) → gSlots is xs σ H Q
  | [], [], xs, env, env', σ, F, r, e, q => by cases r; cases e; exact ⟨rfl, q σ F⟩
  | i :: is, d :: ds, xs, env, env', σ, F, r, e, q => by
    cases r with | cons r rr =>
    obtain ⟨v1, e1, e2⟩ := Option.bind_eq_some_iff.mp e
    exact ⟨_, _, rfl, FS.putAll (F.put e1 r) rr e2 q⟩
  | [], _ :: _, _, _, _, _, _, _, e, _ => by cases e
  | _ :: _, [], _, _, _, _, _, _, e, _ => by cases e
theorem putAll_len : ∀ {is : List Nat} {ds : List PyData} {v v' : Env}, NB.putAll is ds v = some v' → ds.length = is.length
  | [], [], _, _, _ => rfl
  | i :: is, d :: ds, v, v', e => by
    obtain ⟨v1, e1, e2⟩ := Option.bind_eq_some_iff.mp e
    exact congrArg Nat.succ (putAll_len e2)
  | [], _ :: _, _, _, e => by cases e
  | _ :: _, [], _, _, e => by cases e
theorem FS.tg {Q : St → Hp → Prop} {g : Tg} {d : PyData} {x : V} (F : FS K A Ox O env s σ H) (r : Rep K (Bo A O) H x d) (e : putTg g d env = some env') (q : ∀ σ', FS K A Ox O env' s σ' H → Q σ' H) : gTg K g x σ H Q := by
  cases g with
  | nm i => exact q _ (F.put e r)
  | tp is =>
    unfold putTg at e
    cases d <;> first | (cases e; done) | skip
    obtain ⟨a, xs, rfl, ht, rl⟩ := r.tup_inv
    exact ⟨a, xs, rfl, ht.sq, by rw [rl.length]; exact putAll_len e, F.putAll rl e q⟩
end

/-! ### the judgements -/
/-- what is to hold behind a statement -/
def Post (K : PySem.W.Frag) (A : HA) (Ox O : Addr → Prop) (H : Hp) (D : Ends) : Out → Env → S → Prop
  | .nx, v', s' => ∀ O' σ' H', FS K A Ox O' v' s' σ' H' → StepS A Ox O H O' H' → D.nx σ' H'
  | .bk, v', s' => ∀ O' σ' H', FS K A Ox O' v' s' σ' H' → StepS A Ox O H O' H' → D.bk σ' H'
  | .ct, v', s' => ∀ O' σ' H', FS K A Ox O' v' s' σ' H' → StepS A Ox O H O' H' → D.ct σ' H'
  | .rt d, _, s' => ∀ O' x H', HRel A s' H' → Rep K (Bo A Ox) H' x d → StepS A Ox O H O' H' → D.rt x H'
theorem Post.from {K : PySem.W.Frag} {A : HA} {Ox O O1 : Addr → Prop} {H H1 : Hp} {D : Ends} {r : Out} {v' : Env} {s' : S} (h : Post K A Ox O H D r v' s') (st : StepS A Ox O H O1 H1) : Post K A Ox O1 H1 D r v' s' := by
  cases r with
  | nx => exact fun O' σ' H' F t => h O' σ' H' F (st.trans t)
  | bk => exact fun O' σ' H' F t => h O' σ' H' F (st.trans t)
  | ct => exact fun O' σ' H' F t => h O' σ' H' F (st.trans t)
  | rt d => exact fun O' x H' F r t => h O' x H' F r (st.trans t)
section
variable {Γ : Ctx} {k : CallT}
def GoodS (Γ : Ctx) (f : Env → M (Out × Env)) (t : TS) : Prop := ∀ (A : HA) (Ox O : Addr → Prop) (v : Env) (s : S) (σ : St) (H : Hp) (D : Ends) (r : Out) (v' : Env) (s' : S), FS Γ.K A Ox O v s σ H → f v s = .ok (r, v') s' → Post Γ.K A Ox O H D r v' s' → t D σ H
def GS (Γ : Ctx) (k : CallT) (st : Stmt) (c : C) : Prop := ∃ t, (∀ X, Γ.Has X → PS X st t) ∧ GoodS Γ (ex k c) t
def GSs (Γ : Ctx) (k : CallT) (sts : List Stmt) (cs : List C) : Prop := ∃ t, (∀ X, Γ.Has X → PSs X sts t) ∧ GoodS Γ (exs k cs) t
theorem gss_nil : GSs Γ k [] [] := ⟨tNext, fun X hX => pss_nil, fun A Ox O v s σ H D r v' s' F e q => by
  rw [exs] at e
  cases e
  exact q O σ H F .refl⟩
theorem gss_cons {st : Stmt} {sts : List Stmt} {c : C} {cs : List C} (h : GS Γ k st c) (hs : GSs Γ k sts cs) : GSs Γ k (st :: sts) (c :: cs) := by
  obtain ⟨t, p, g⟩ := h
  obtain ⟨u, p', g'⟩ := hs
  refine ⟨_, fun X hX => pss_cons (p X hX) (p' X hX), fun A Ox O v s σ H D r v' s' F e q => ?_⟩
  rw [exs] at e
  obtain ⟨⟨o, v1⟩, s1, e1, e2⟩ := bind_ok e
  cases o with
  | nx => exact g A Ox O v s σ H { D with nx := u D } .nx v1 s1 F e1 fun O' σ' H' F' t' => g' A Ox O' v1 s1 σ' H' D r v' s' F' e2 (q.from t')
  | rt d => cases e2; exact g A Ox O v s σ H { D with nx := u D } (.rt d) _ _ F e1 q
  | bk => cases e2; exact g A Ox O v s σ H { D with nx := u D } .bk _ _ F e1 q
  | ct => cases e2; exact g A Ox O v s σ H { D with nx := u D } .ct _ _ F e1 q
theorem gss_frz {sts : List Stmt} {cs : List C} {i : Nat} (hs : GSs Γ k sts cs) : GSs Γ k sts (.frz i :: cs) := by
  obtain ⟨u, p', g'⟩ := hs
  refine ⟨u, p', fun A Ox O v s σ H D r v' s' F e q => ?_⟩
  rw [exs] at e
  obtain ⟨⟨o, v1⟩, s1, e1, e2⟩ := bind_ok e
  rw [ex] at e1
  cases e1
  obtain ⟨O', F', t'⟩ := F.frz (i := i)
  exact g' A Ox O' _ _ σ H D r v' s' F' e2 (q.from t')
theorem gs_never {st : Stmt} : GS Γ k st .never := ⟨tNever, fun X hX => ps_never, fun A Ox O v s σ H D r v' s' F e q => by rw [ex] at e; cases e⟩
theorem gs_pass {pos : Pos} : GS Γ k (.Pass pos) .pass := ⟨tNext, fun X hX => ps_pass, fun A Ox O v s σ H D r v' s' F e q => by rw [ex] at e; cases e; exact q O σ H F .refl⟩
theorem gs_doc {x : Str} {j : Nat} {pos pos' : Pos} : GS Γ k (.Expr (.Constant (.str x) j pos) pos') .pass := ⟨tNext, fun X hX => ps_doc, fun A Ox O v s σ H D r v' s' F e q => by rw [ex] at e; cases e; exact q O σ H F .refl⟩
theorem gs_brk {pos : Pos} : GS Γ k (.Break pos) .brk := ⟨tBreak, fun X hX => ps_break, fun A Ox O v s σ H D r v' s' F e q => by rw [ex] at e; cases e; exact q O σ H F .refl⟩
theorem gs_cont {pos : Pos} : GS Γ k (.Continue pos) .cont := ⟨tCont, fun X hX => ps_continue, fun A Ox O v s σ H D r v' s' F e q => by rw [ex] at e; cases e; exact q O σ H F .refl⟩
theorem gs_retN {pos : Pos} : GS Γ k (.Return none pos) .retN := ⟨tRetN, fun X hX => ps_retN, fun A Ox O v s σ H D r v' s' F e q => by rw [ex] at e; cases e; exact q O .non H F.hr .non .refl⟩
theorem gs_ret {e : Expr} {c : E} {pos : Pos} (h : GE Γ k e c) : GS Γ k (.Return (some e) pos) (.ret c) := by
  obtain ⟨t, p, g⟩ := h
  refine ⟨_, fun X hX => ps_ret (p X hX), fun A Ox O v s σ H D r v' s' F e q => ?_⟩
  rw [ex] at e
  obtain ⟨x, s1, e1, e2⟩ := bind_ok e
  cases e2
  exact g A O v s σ H _ x _ F.toFE e1 fun x' H' h' t' r' => q O x' H' h' (r'.mono (fun a z => .inl (z.elim .inl fun z => .inr (F.sub a z))) fun _ _ q _ => q) (F.stepS h' t')
theorem gs_exp {e : Expr} {c : E} {pos : Pos} (h : GT Γ k e c) (hn : notComp e = true) : GS Γ k (.Expr e pos) (.exp c) := by
  obtain ⟨t, p, g⟩ := h
  refine ⟨_, fun X hX => ps_expr (p X hX) (sw_false hn _ _ _), fun A Ox O v s σ H D r v' s' F e q => ?_⟩
  rw [ex] at e
  obtain ⟨x, s1, e1, e2⟩ := bind_ok e
  cases e2
  exact g A O v s σ H _ x _ F.toFE e1 fun x' H' h' t' r' => q O σ H' (F.step h' t') (F.stepS h' t')
theorem gs_if {e : Expr} {c : E} {a b : List Stmt} {ca cb : List C} {pos : Pos} (h : GB Γ k e c) (ha : GSs Γ k a ca) (hb : GSs Γ k b cb) : GS Γ k (.If e a b pos) (.ifs c ca cb) := by
  obtain ⟨t, p, g⟩ := h
  obtain ⟨ta, pa, ga⟩ := ha
  obtain ⟨tb, pb, gb⟩ := hb
  refine ⟨_, fun X hX => ps_if (p X hX) (pa X hX) (pb X hX), fun A Ox O v s σ H D r v' s' F e q => ?_⟩
  rw [ex] at e
  obtain ⟨x, s1, e1, e2⟩ := bind_ok e
  refine g A O v s σ H _ x s1 F.toFE e1 fun H' h' t' => ?_
  cases x with
  | true => rw [if_pos rfl] at e2 ⊢; exact ga A Ox O v s1 σ H' D r v' s' (F.step h' t') e2 (q.from (F.stepS h' t'))
  | false => rw [if_neg Bool.false_ne_true] at e2 ⊢; exact gb A Ox O v s1 σ H' D r v' s' (F.step h' t') e2 (q.from (F.stepS h' t'))

/-! ### stores -/
def GV (Γ : Ctx) (k : CallT) (e : Expr) (c : E) : Prop := ∃ t, (∀ X, Γ.Has X → PE X e t) ∧ Stb Γ e t ∧ ∀ (A : HA) (O : Addr → Prop) (v : Env) (s : S) (σ : St) (H : Hp) (Q : VK) (d : PyData) (s' : S), FE Γ.K A O v s σ H → ev k c v s = .ok d s' →
  (∀ x H', HRel A s' H' → Step A H H' → Rep Γ.K (Bo A O) H' x d → Q x H') → t σ H Q
theorem GE.gv {e : Expr} {c : E} (h : GE Γ k e c) (hn : notComp e = true) : GV Γ k e c := by
  obtain ⟨t, p, g⟩ := h
  exact ⟨t, p, stb_of hn p, g⟩
theorem GFr.gv {e : Expr} {c : E} (h : GFr Γ k e c) (hl : Lists k c) : GV Γ k e c := by
  obtain ⟨t, p, b, g⟩ := h
  exact ⟨t, p, b, g.ge hl⟩
theorem gs_set {e : Expr} {c : E} {i : Nat} {y : Str} {py pos : Pos} (h : GV Γ k e c) (S : Sto Γ i y) : GS Γ k (.Assign [.Name y py] e pos) (.set i c) := by
  obtain ⟨t, _, b, g⟩ := h
  refine ⟨_, fun X hX => b X hX i y py pos S, fun A Ox O v s σ H D r v' s' F e q => ?_⟩
  rw [ex] at e
  obtain ⟨x, s1, e1, e2⟩ := bind_ok e
  obtain ⟨v1, s2, e3, e4⟩ := bind_ok e2
  obtain ⟨e5, rfl⟩ := lift_ok e3
  cases e4
  exact g A O v s σ H _ x _ F.toFE e1 fun x' H' h' t' r' => q O _ H' ((F.step h' t').put e5 r') (F.stepS h' t')
theorem gs_setF {e : Expr} {c : E} {i : Nat} {y : Str} {py pos : Pos} (h : GFr Γ k e c) (S : Sto Γ i y) : GS Γ k (.Assign [.Name y py] e pos) (.setF i c) := by
  obtain ⟨t, _, b, g⟩ := h
  refine ⟨_, fun X hX => b X hX i y py pos S, fun A Ox O v s σ H D r v' s' F e q => ?_⟩
  rw [ex] at e
  obtain ⟨x, s1, e1, e2⟩ := bind_ok e
  cases x <;> first | (cases e2; done) | skip
  rename_i ds
  refine g A O v s σ H _ ds s1 F.toFE e1 fun a vs H' h' t' hn ha r' => ?_
  obtain ⟨v1, s2, e3, e4⟩ := bind_ok e2
  obtain ⟨e5, rfl⟩ := lift_ok e3
  cases e4
  obtain ⟨F', t2⟩ := F.more h' t' hn ha
  refine q (oD O a) _ H' (F'.putOwn e5 ha (.inr rfl) (fun z => ?_) (fun j ys hj e6 e7 => ?_) r') t2
  · exact (F.toFH.fresh hn) (.inr (F.sub a z))
  · obtain ⟨a', vs', e8, e9, _⟩ := F.sl j _ e6
    rw [e7] at e8
    cases e8
    rw [hn] at e9
    cases e9
theorem swSole {tg e : Expr} (h : notComp e = true) (l : Nat) (env : PySem.Env) : swapsWithSole [tg] e l env = pure false := sw_false h _ _ _
def isTup : Expr → Bool
  | .Tuple _ _ _ => true
  | _ => false
theorem swNone {es : List Expr} {n : Nat} {pos : Pos} {e : Expr} (h : isTup e = false) (env : PySem.Env) : swappedStores [.Tuple es n pos] e env = pure none := by
  cases e <;> first | rfl | (cases h; done)
theorem gs_tgt {e : Expr} {c : E} {es : List Expr} {is : List Nat} {n : Nat} {p pos : Pos} (h : GE Γ k e c) (hn : notComp e = true) (hw : ∀ X, Γ.Has X → swappedStores [.Tuple es n p] e X.env = pure none) (S : StoL Γ es is) : GS Γ k (.Assign [.Tuple es n p] e pos) (.tgt is c) := by
  obtain ⟨t, pr, g⟩ := h
  refine ⟨tAsg t (gTg Γ.K (.tp is)), fun X hX => ps_asg (pr X hX) (tg_tp S X hX) (swSole hn _ _) (hw X hX) rfl, fun A Ox O v s σ H D r v' s' F e q => ?_⟩
  rw [ex] at e
  obtain ⟨x, s1, e1, e2⟩ := bind_ok e
  obtain ⟨v1, s2, e3, e4⟩ := bind_ok e2
  obtain ⟨e5, rfl⟩ := lift_ok e3
  cases e4
  exact g A O v s σ H _ x _ F.toFE e1 fun x' H' h' t' r' => (F.step h' t').tg r' e5 fun σ' F' => q O σ' H' F' (F.stepS h' t')
end
end L2.NB
set_option Elab.async false
set_option linter.all false
set_option maxRecDepth 100000
/-! NB11: several stores at once; lists' methods; loops. -/
namespace L2.NB
open PySem PySem.Spec PyProof.Rows

/-! ### several at once -/
def ParAt (K : PySem.W.Frag) (A : HA) (Ox O : Addr → Prop) (H : Hp) : (Addr → Prop) → List Bool → List V → List PyData → Prop
  | _, [], [], [] => True
  | U, false :: fs, x :: xs, d :: ds => Rep K (Bo A O) H x d ∧ ParAt K A Ox O H U fs xs ds
  | U, true :: fs, x :: xs, d :: ds => (∃ a vs l, x = .ref a ∧ d = .list l ∧ ¬ U a ∧ H a = some (.lst vs) ∧ O a ∧ ¬ Ox a ∧ RepL K (Bo A O) H vs l) ∧ ParAt K A Ox O H (fun b => U b ∨ x = .ref b) fs xs ds
  | _, _, _, _ => False
section
variable {K : PySem.W.Frag} {A : HA} {Ox O : Addr → Prop} {H : Hp}
theorem ParAt.anti : ∀ {bs : List Bool} {xs : List V} {ds : List PyData} {U U' : Addr → Prop}, (∀ b, U b → U' b) → ParAt K A Ox O H U' bs xs ds → ParAt K A Ox O H U bs xs ds
  | [], [], [], _, _, _, _ => trivial
  | false :: _, _ :: _, _ :: _, _, _, h, p => ⟨p.1, ParAt.anti h p.2⟩
  | true :: _, x :: _, _ :: _, _, _, h, p => by
    obtain ⟨⟨a, vs, l, e1, e2, n, r⟩, q⟩ := p
    exact ⟨⟨a, vs, l, e1, e2, fun z => n (h a z), r⟩, ParAt.anti (fun b z => z.elim (fun z => .inl (h b z)) .inr) q⟩
def setAll : List Nat → List V → St → St
  | i :: is, x :: xs, σ => setAll is xs (σ.set i (some x))
  | _, _, σ => σ
theorem putP_run {s : S} : ∀ {ps : List (Nat × Bool)} {xs : List V} {ds : List PyData} {U : Addr → Prop} {v v' : Env} {σ : St}, FS K A Ox O v s σ H → ParAt K A Ox O H U (ps.map (·.2)) xs ds → (∀ (i : Nat) (ys : List PyData) (a : Addr), v[i]? = some (Slot.own ys) → σ[i]? = some (some (V.ref a)) → U a) →
    putP ps ds v = some v' → FS K A Ox O v' s (setAll (ps.map (·.1)) xs σ) H
  | [], [], [], U, v, v', σ, F, _, _, e => by cases e; exact F
  | (i, false) :: ps, x :: xs, d :: ds, U, v, v', σ, F, p, hu, e => by
    obtain ⟨v1, e1, e2⟩ := Option.bind_eq_some_iff.mp (show (put i (.val d) v).bind (putP ps ds) = some v' from e)
    show FS K A Ox O v' s (setAll (ps.map (·.1)) xs (σ.set i (some x))) H
    refine putP_run (ps := ps) (U := U) (F.put e1 p.1) p.2 (fun j ys a h1 h2 => ?_) e2
    obtain ⟨hi, rfl⟩ := put_some e1
    by_cases hj : i = j
    · subst hj
      rw [List.getElem?_set_self hi] at h1
      cases h1
    · rw [List.getElem?_set_ne hj] at h1 h2
      exact hu j ys a h1 h2
  | (i, true) :: ps, x :: xs, d :: ds, U, v, v', σ, F, p, hu, e => by
    obtain ⟨⟨a, vs, l, rfl, rfl, n, ha, ho, hx, r⟩, p⟩ := p
    obtain ⟨v1, e1, e2⟩ := Option.bind_eq_some_iff.mp (show (put i (.own l) v).bind (putP ps ds) = some v' from e)
    show FS K A Ox O v' s (setAll (ps.map (·.1)) xs (σ.set i (some (V.ref a)))) H
    refine putP_run (ps := ps) (U := fun b => U b ∨ V.ref a = .ref b) (F.putOwn e1 ha ho hx (fun j ys _ h1 h2 => n (hu j ys a h1 h2)) r) p (fun j ys b h1 h2 => ?_) e2
    obtain ⟨hi, rfl⟩ := put_some e1
    by_cases hj : i = j
    · subst hj
      rw [List.getElem?_set_self (by rw [F.ln]; exact hi)] at h2
      cases h2
      exact .inr rfl
    · rw [List.getElem?_set_ne hj] at h1 h2
      exact .inl (hu j ys b h1 h2)
  | [], [], _ :: _, _, _, _, _, _, p, _, _ => p.elim
  | [], _ :: _, _, _, _, _, _, _, p, _, _ => by cases p
  | (_, true) :: _, [], _, _, _, _, _, _, p, _, _ => by cases p
  | (_, false) :: _, [], _, _, _, _, _, _, p, _, _ => by cases p
  | (_, true) :: _, _ :: _, [], _, _, _, _, _, p, _, _ => by cases p
  | (_, false) :: _, _ :: _, [], _, _, _, _, _, p, _, _ => by cases p
end
section
variable {Γ : Ctx} {k : CallT}
def GP (Γ : Ctx) (k : CallT) (es : List Expr) (cs : List E) (bs : List Bool) : Prop :=
  ∃ t, (∀ X, Γ.Has X → PA X es t) ∧ ∀ (A : HA) (Ox O : Addr → Prop) (v : Env) (s : S) (σ : St) (H : Hp) (Q : List V → Hp → Prop) (ds : List PyData) (s' : S), FS Γ.K A Ox O v s σ H → evL k cs v s = .ok ds s' →
    (∀ xs O' H', FS Γ.K A Ox O' v s' σ H' → Step A H H' → (∀ b, O b → O' b) → (∀ b, O' b → O b ∨ H b = none) → ParAt Γ.K A Ox O' H' (fun b => H b ≠ none) bs xs ds → Q xs H') → t σ H Q
theorem p_nil : GP Γ k [] [] [] := ⟨_, fun X hX => pa_nil, fun A Ox O v s σ H Q ds s' F e q => by
  rw [evL] at e
  obtain ⟨rfl, rfl⟩ := pure_ok e
  exact q [] O H F .refl (fun _ z => z) (fun _ z => .inl z) trivial⟩
theorem Step.dom {A : HA} {s' : S} {H H' : Hp} (st : Step A H H') (h : HRel A s' H') {a : Addr} (n : H a ≠ Option.none) : H' a ≠ Option.none := fun z => by
  cases e : H a with
  | none => exact n e
  | some o =>
    have na : ¬ inH A a := h.fresh z
    rw [st a o e na] at z
    cases z
theorem p_val {e : Expr} {es : List Expr} {c : E} {cs : List E} {bs : List Bool} (h : GE Γ k e c) (hs : GP Γ k es cs bs) (hn : noStar e = true) (hc : isStarC c = false) : GP Γ k (e :: es) (c :: cs) (false :: bs) := by
  obtain ⟨ta, pa, ga⟩ := h
  obtain ⟨tb, pb, gb⟩ := hs
  refine ⟨_, fun X hX => pa_cons (pa X hX) (pb X hX) (starEach_cons hn), fun A Ox O v s σ H Q ds s' F e q => ?_⟩
  rw [evL_cons hc] at e
  obtain ⟨x, s1, e1, f1⟩ := bind_ok e
  obtain ⟨ys, s2, e2, f2⟩ := bind_ok f1
  obtain ⟨rfl, rfl⟩ := pure_ok f2
  refine ga A O v s σ H _ x s1 F.toFE e1 fun x' H1 h1 t1 r1 => ?_
  refine gb A Ox O v s1 σ H1 _ ys _ (F.step h1 t1) e2 fun xs O' H' F' t' u1 u2 p => ?_
  refine q (x' :: xs) O' H' F' (t1.trans t') u1 (fun b z => (u2 b z).elim .inl fun z => .inr (t1.none F.hr h1 z)) ⟨Rep.mono (fun b z => ?_) (fun b o eb n => t' b o eb fun z => n (.inl z)) r1, p.anti fun b z => t1.dom h1 z⟩
  rcases z with z | z
  · exact .inl (.inl z)
  · rcases u2 b z with z | z
    · exact .inl (.inr z)
    · exact .inr z
theorem p_own {e : Expr} {es : List Expr} {c : E} {cs : List E} {bs : List Bool} (h : GFr Γ k e c) (hll : Lists k c) (hs : GP Γ k es cs bs) (hn : noStar e = true) (hc : isStarC c = false) : GP Γ k (e :: es) (c :: cs) (true :: bs) := by
  obtain ⟨ta, pa, _, ga⟩ := h
  obtain ⟨tb, pb, gb⟩ := hs
  refine ⟨_, fun X hX => pa_cons (pa X hX) (pb X hX) (starEach_cons hn), fun A Ox O v s σ H Q ds s' F e q => ?_⟩
  rw [evL_cons hc] at e
  obtain ⟨x, s1, e1, f1⟩ := bind_ok e
  obtain ⟨ys, s2, e2, f2⟩ := bind_ok f1
  obtain ⟨rfl, rfl⟩ := pure_ok f2
  obtain ⟨l, hxl⟩ := hll v s s1 x e1
  subst hxl
  refine ga A O v s σ H _ l s1 F.toFE e1 fun a vs H1 h1 t1 hn' ha r1 => ?_
  obtain ⟨F1, S1⟩ := F.more h1 t1 hn' ha
  refine gb A Ox (oD O a) v s1 σ H1 _ ys _ F1 e2 fun xs O' H' F' t' u1 u2 p => ?_
  have nA : ¬ inH A a := F.hr.fresh hn'
  refine q (.ref a :: xs) O' H' F' (t1.trans t') (fun b z => u1 b (.inl z)) (fun b z => ?_) ⟨⟨a, vs, l, rfl, rfl, fun z => z hn', t' a _ ha nA, u1 a (.inr rfl), fun z => ?_, RepL.mono (fun b z => ?_) (fun b o eb n => t' b o eb fun z => n (.inl z)) r1⟩, p.anti fun b z => ?_⟩
  · rcases u2 b z with (z | rfl) | z
    · exact .inl z
    · exact .inr hn'
    · exact .inr (t1.none F.hr h1 z)
  · exact (F.toFH.fresh hn') (.inr (F.sub a z))
  · rcases z with z | z
    · exact .inl (.inl z)
    · rcases u2 b z with z | z
      · exact .inl (.inr z)
      · exact .inr z
  · rcases z with z | z
    · exact t1.dom h1 z
    · cases z
      rw [ha]
      exact fun z => by cases z
theorem par_end {ps : List (Nat × Bool)} {es : List Expr} {cs : List E} {t : TA} {D : Ends} {A : HA} {Ox O : Addr → Prop} {v v' : Env} {s s' : S} {σ : St} {H : Hp} {r : Out}
    (g : ∀ (Q : List V → Hp → Prop) (ds : List PyData) (s' : S), FS Γ.K A Ox O v s σ H → evL k cs v s = .ok ds s' →
      (∀ xs O' H', FS Γ.K A Ox O' v s' σ H' → Step A H H' → (∀ b, O b → O' b) → (∀ b, O' b → O b ∨ H b = none) → ParAt Γ.K A Ox O' H' (fun b => H b ≠ none) (ps.map (·.2)) xs ds → Q xs H') → t σ H Q)
    (F : FS Γ.K A Ox O v s σ H) (e : ex k (.parF ps cs) v s = .ok (r, v') s') (q : Post Γ.K A Ox O H D r v' s') (Q : List V → Hp → Prop) (hQ : ∀ xs H1, xs.length = ps.length → D.nx (setAll (ps.map (·.1)) xs σ) H1 → Q xs H1) :
    t σ H Q := by
  rw [ex] at e
  obtain ⟨ds, s1, e1, e2⟩ := bind_ok e
  obtain ⟨v1, s2, e3, e4⟩ := bind_ok e2
  obtain ⟨e5, rfl⟩ := lift_ok e3
  cases e4
  refine g _ ds _ F e1 fun xs O' H' F' t' u1 u2 p => hQ xs H' ?_ ?_
  · have : ∀ (bs : List Bool) (xs : List V) (ds : List PyData) (U : Addr → Prop), ParAt Γ.K A Ox O' H' U bs xs ds → xs.length = bs.length := by
      intro bs
      induction bs with
      | nil => intro xs ds U p; cases xs <;> first | rfl | (cases ds <;> cases p)
      | cons b bs ih =>
        intro xs ds U p
        cases xs with
        | nil => cases b <;> cases p
        | cons x xs =>
          cases ds with
          | nil => cases b <;> cases p
          | cons d ds => cases b <;> exact congrArg Nat.succ (ih xs ds _ p.2)
    rw [this _ _ _ _ p, List.length_map]
  · refine q O' _ H' (putP_run F' p (fun i ys a h1 h2 => ?_) e5) ⟨fun b o eb n => t' b o eb fun z => n.elim (fun n => (F.on b (F.sub b n)).1 z) fun n => n (.inl z), u2, fun b o eb => ?_⟩
    · obtain ⟨a', vs, e6, e7, e8, _⟩ := F.sl i _ h1
      rw [h2] at e6
      cases e6
      rw [e7]
      exact fun z => by cases z
    · cases z : H' b with
      | none => exact absurd z (t'.dom F'.hr (by rw [eb]; exact fun z => by cases z))
      | some o' => exact ⟨o', rfl⟩
/-- two names, three names: plain local ones -/
def LocN (Γ : Ctx) (i : Nat) (x : Str) : Prop := Γ.N[i]? = some x ∧ Γ.sc.names.lookup x = some .local
theorem gs_par2 {a b : Expr} {ca cb : E} {i j : Nat} {bi bj : Bool} {x y : Str} {px py pt pos pt2 : Pos} {kt k2 : Nat} (h : GP Γ k [a, b] [ca, cb] [bi, bj]) (hi : LocN Γ i x) (hj : LocN Γ j y) (hij : i ≠ j)
    (hw : ∀ X, Γ.Has X → swappedStores [.Tuple [.Name x px, .Name y py] kt pt] (.Tuple [a, b] k2 pt2) X.env = pure (some [x, y])) : GS Γ k (.Assign [.Tuple [.Name x px, .Name y py] kt pt] (.Tuple [a, b] k2 pt2) pos) (.parF [(i, bi), (j, bj)] [ca, cb]) := by
  obtain ⟨t, p, g⟩ := h
  refine ⟨tPar i j t, fun X hX => ps_par hX.calm (by rw [hX.N]; exact hX.nd) (by rw [hX.N]; exact hi.1) (by rw [hX.N]; exact hj.1) hij (by rw [hX.sc]; exact hi.2) (by rw [hX.sc]; exact hj.2) (p X hX) (hw X hX) rfl, fun A Ox O v s σ H D r v' s' F e q => ?_⟩
  exact par_end (ps := [(i, bi), (j, bj)]) (es := [a, b]) (fun Q ds s' => g A Ox O v s σ H Q ds s') F e q _ fun xs H1 hl hd => by
    match xs, hl with
    | [u, w], _ => exact ⟨u, w, rfl, hd⟩
theorem gs_par3 {a b c : Expr} {ca cb cc : E} {i j l : Nat} {bi bj bl : Bool} {x y z : Str} {px py pz pt pos pt2 : Pos} {kt k2 : Nat} (h : GP Γ k [a, b, c] [ca, cb, cc] [bi, bj, bl]) (hi : LocN Γ i x) (hj : LocN Γ j y) (hl : LocN Γ l z) (hij : i ≠ j) (hil : i ≠ l) (hjl : j ≠ l)
    (hw : ∀ X, Γ.Has X → swappedStores [.Tuple [.Name x px, .Name y py, .Name z pz] kt pt] (.Tuple [a, b, c] k2 pt2) X.env = pure (some [x, y, z])) :
    GS Γ k (.Assign [.Tuple [.Name x px, .Name y py, .Name z pz] kt pt] (.Tuple [a, b, c] k2 pt2) pos) (.parF [(i, bi), (j, bj), (l, bl)] [ca, cb, cc]) := by
  obtain ⟨t, p, g⟩ := h
  refine ⟨tPar3 i j l t, fun X hX => ps_par3 hX.calm (by rw [hX.N]; exact hX.nd) (by rw [hX.N]; exact hi.1) (by rw [hX.N]; exact hj.1) (by rw [hX.N]; exact hl.1) hij hil hjl (by rw [hX.sc]; exact hi.2) (by rw [hX.sc]; exact hj.2) (by rw [hX.sc]; exact hl.2) (p X hX) (hw X hX) rfl, fun A Ox O v s σ H D r v' s' F e q => ?_⟩
  exact par_end (ps := [(i, bi), (j, bj), (l, bl)]) (es := [a, b, c]) (fun Q ds s' => g A Ox O v s σ H Q ds s') F e q _ fun xs H1 hl hd => by
    match xs, hl with
    | [u, w, w'], _ => exact ⟨u, w, w', rfl, hd⟩
theorem ParAt.step {K : PySem.W.Frag} {A : HA} {Ox O : Addr → Prop} {H H' : Hp} (hk : ∀ b o, H b = some o → H' b = some o) (st : Step A H H') : ∀ {bs : List Bool} {xs : List V} {ds : List PyData} {U : Addr → Prop}, ParAt K A Ox O H U bs xs ds → ParAt K A Ox O H' U bs xs ds
  | [], [], [], _, _ => trivial
  | false :: _, _ :: _, _ :: _, _, p => ⟨Rep.step p.1 st, ParAt.step hk st p.2⟩
  | true :: _, _ :: _, _ :: _, _, p => by
    obtain ⟨⟨a, vs, l, e1, e2, n, ha, ho, hx, r⟩, q⟩ := p
    exact ⟨⟨a, vs, l, e1, e2, n, hk a _ ha, ho, hx, r.step st⟩, ParAt.step hk st q⟩
  | [], [], _ :: _, _, p => p.elim
  | [], _ :: _, _, _, p => by cases p
  | false :: _, [], _, _, p => by cases p
  | true :: _, [], _, _, p => by cases p
  | false :: _, _ :: _, [], _, p => by cases p
  | true :: _, _ :: _, [], _, p => by cases p
theorem ParAt.len {K : PySem.W.Frag} {A : HA} {Ox O : Addr → Prop} {H : Hp} : ∀ {bs : List Bool} {xs : List V} {ds : List PyData} {U : Addr → Prop}, ParAt K A Ox O H U bs xs ds → xs.length = bs.length
  | [], [], [], _, _ => rfl
  | false :: _, _ :: _, _ :: _, _, p => congrArg Nat.succ (ParAt.len p.2)
  | true :: _, _ :: _, _ :: _, _, p => congrArg Nat.succ (ParAt.len p.2)
  | [], [], _ :: _, _, p => p.elim
  | [], _ :: _, _, _, p => by cases p
  | false :: _, [], _, _, p => by cases p
  | true :: _, [], _, _, p => by cases p
  | false :: _, _ :: _, [], _, p => by cases p
  | true :: _, _ :: _, [], _, p => by cases p
theorem slots_all {H : Hp} {Q : St → Hp → Prop} : ∀ {is : List Nat} {xs : List V} {σ : St}, xs.length = is.length → Q (setAll is xs σ) H → gSlots is xs σ H Q
  | [], [], _, _, q => ⟨rfl, q⟩
  | _ :: _, _ :: _, _, hl, q => ⟨_, _, rfl, slots_all (Nat.succ.inj hl) q⟩
  | [], _ :: _, _, hl, _ => by cases hl
  | _ :: _, [], _, hl, _ => by cases hl
/-- names from a tuple's display, some of which come to own lists -/
theorem gs_tgtF {es tes : List Expr} {cs : List E} {bs : List Bool} {is : List Nat} {n k2 : Nat} {p p2 pos : Pos} (h : GP Γ k es cs bs) (hl : bs.length = is.length) (hz : is.length ≤ 1000)
    (hw : ∀ X, Γ.Has X → swappedStores [.Tuple tes n p] (.Tuple es k2 p2) X.env = pure none) (S : StoL Γ tes is) : GS Γ k (.Assign [.Tuple tes n p] (.Tuple es k2 p2) pos) (.parF (is.zip bs) cs) := by
  obtain ⟨t, pr, g⟩ := h
  refine ⟨tAsg _ (gTg Γ.K (.tp is)), fun X hX => ps_asg (pe_tup (pr X hX)) (tg_tp S X hX) (swSole rfl _ _) (hw X hX) rfl, fun A Ox O v s σ H D r v' s' F e q => ?_⟩
  rw [ex] at e
  obtain ⟨ds, s1, e1, e2⟩ := bind_ok e
  obtain ⟨v1, s2, e3, e4⟩ := bind_ok e2
  obtain ⟨e5, rfl⟩ := lift_ok e3
  cases e4
  have m1 : (is.zip bs).map (·.1) = is := by rw [List.map_fst_zip (by omega)]
  have m2 : (is.zip bs).map (·.2) = bs := by rw [List.map_snd_zip (by omega)]
  refine g A Ox O v s σ H _ ds _ F e1 fun xs O' H' F' t' u1 u2 pa => ?_
  have hxl : xs.length = is.length := pa.len.trans hl
  refine ⟨by rw [hxl]; exact Nat.le_trans hz (by rw [sizeLine_eq]; decide), fun a ha => ?_⟩
  have st : Step A H' (upd H' a (.tup xs)) := Step.upd ha
  have hk : ∀ b o, H' b = some o → upd H' a (.tup xs) b = some o := fun b o e => by
    by_cases hb : b = a
    · subst hb; rw [ha] at e; cases e
    · rw [upd_ne hb]; exact e
  have F2 : FS Γ.K A Ox O' v _ σ (upd H' a (.tup xs)) := F'.step (F'.toFH.upd ha).hr st
  refine ⟨a, xs, rfl, .inl (.inl upd_same), hxl, slots_all hxl ?_⟩
  have run := putP_run F2 (ps := is.zip bs) (U := fun b => H b ≠ none) (by rw [m2]; exact pa.step hk st) (fun i ys a h1 h2 => ?_) e5
  · rw [m1] at run
    have tt : Step A H (upd H' a (.tup xs)) := t'.trans st
    refine q O' _ _ run ⟨fun b o eb n => tt b o eb fun z => n.elim (fun n => (F.on b (F.sub b n)).1 z) fun n => n (.inl z), u2, fun b o eb => ?_⟩
    cases z : H' b with
    | none => exact absurd z (t'.dom F'.hr (by rw [eb]; exact fun z => by cases z))
    | some o' => exact ⟨o', hk b o' z⟩
  · obtain ⟨a', vs, e6, e7, e8, _⟩ := F.sl i _ h1
    rw [h2] at e6
    cases e6
    rw [e7]
    exact fun z => by cases z
def swS (sc : Scope) (ts vs : List Expr) : Option (List Str) :=
  if (!(ts.length == 2 || ts.length == 3) || vs.length != ts.length || sc.kind != .function) = true then none
  else if (vs.any fun | .Starred .. => true | _ => false) = true then none
  else
    let line := (ts.head?.map (·.pos.line)).getD 0
    let names := ts.filterMap fun
      | .Name id pos => if (sc.names.lookup id == some .local && pos.line == line) = true then some id else none
      | _ => none
    if (names.length != ts.length || names.eraseDups.length != names.length) = true then none
    else if vs.all (foldedForSure 8) = true then none
    else some names
theorem swS_eq {ts vs : List Expr} {n k2 : Nat} {p p2 : Pos} {X : Cx} (hX : Γ.Has X) (hc : vs.all (foldedForSure 8) = true ∨ vs.all (constantsAlone 8) = false) : swappedStores [.Tuple ts n p] (.Tuple vs k2 p2) X.env = pure (swS Γ.sc ts vs) := by
  have hb : X.env.blockKind = .function := by unfold Env.blockKind; rw [hX.sc, hX.kind]; rfl
  have hk := hX.kind
  have hn : ∀ x, X.env.kindOf x = Γ.sc.names.lookup x := fun x => by unfold Env.kindOf; rw [hX.sc]
  unfold swappedStores swS
  simp only [hb, hn, hk]
  by_cases h1 : (!(ts.length == 2 || ts.length == 3) || vs.length != ts.length || ScopeKind.function != .function) = true
  · rw [if_pos h1, if_pos h1]
  · rw [if_neg h1, if_neg h1]
    split
    · rename_i h2
      exact congrArg pure (if_pos h2).symm
    · rename_i h2
      refine Eq.trans ?_ (congrArg pure (if_neg h2).symm)
      split
      · rename_i h3
        exact congrArg pure (if_pos h3).symm
      · rename_i h3
        refine Eq.trans ?_ (congrArg pure (if_neg h3).symm)
        split
        · rename_i h4
          rfl
        · rename_i h4
          rw [if_neg (by rw [hc.resolve_left h4]; exact Bool.false_ne_true)]
          rfl

/-! ### a list of one's own, written -/
theorem own_at {A : HA} {Ox O : Addr → Prop} {v : Env} {s : S} {σ : St} {H H' : Hp} {i : Nat} {xs : List PyData} (F : FS Γ.K A Ox O v s σ H) (e : v[i]? = some (.own xs)) (st : Step A H H') :
    ∃ a vs, σ[i]? = some (some (.ref a)) ∧ H a = some (.lst vs) ∧ H' a = some (.lst vs) ∧ RepL Γ.K (Bo A O) H' vs xs ∧ ∀ H2, Step A H' H2 → H2 a = some (.lst vs) := by
  obtain ⟨a, vs, e1, e2, e3, e4⟩ := F.sl i _ e
  have e5 := st a _ e2 (F.on a e3).1
  exact ⟨a, vs, e1, e2, e5, e4.step st, fun H2 st2 => st2 a _ e5 (F.on a e3).1⟩
theorem getO_some {i : Nat} {v : Env} {xs : List PyData} (h : getO i v = some xs) : v[i]? = some (.own xs) := by
  unfold getO at h
  split at h
  · rename_i q
    cases h; exact q
  · cases h
/-- a name that may be read -/
structure Rdb (Γ : Ctx) (i : Nat) (x : Str) : Prop where
  ix : Γ.N[i]? = some x
  vis : Vis Γ.sc x
  db : (x == ("__debug__" : Str)) = false
  cd : (x == ("__classdict__" : Str)) = false
theorem Rdb.pe {i : Nat} {x : Str} {pos : Pos} (h : Rdb Γ i x) {X : Cx} (hX : Γ.Has X) : PE X (.Name x pos) (tVar i) := pe_var (by rw [hX.N]; exact h.ix) (by rw [hX.sc]; exact h.vis) h.db h.cd
theorem pe_m1 {X : Cx} {x name : Str} {p apos cpos : Pos} {e : Expr} {te to : TE} {T id : String} {r : V → List V → Hp → VK → Prop} (pa : PlainAttrs T) (slot : PySem.Slot T name id) (hty : typeOf (.builtin id) = pure (.type "method_descriptor")) (hm : MtR X id r)
    (ho : PE X (.Name x p) to) (he : PE X e te) (hn : noStar e = true) (hl : (apos.endLine == cpos.line) = true) : PE X (.Call (.Attribute (.Name x p) name apos) [e] [] cpos) (tBM X.K T r to (tCons te tNil)) :=
  pe_bm pa slot hty hm ho (pa_cons he pa_nil (starEach_cons hn)) rfl (by rw [starEach_cons hn]; rfl) hl (starEach_cons hn) rfl
end
end L2.NB
set_option Elab.async false
set_option linter.all false
set_option maxRecDepth 100000
/-! NB12: lists' methods; loops. -/
namespace PySem.AutoSeq1
open PySem PySem.Spec PyProof PyProof.Rows
/-- a list extended by any tuple -/
theorem extend_tup (l : Addr) (us : Array Value) (n : Nat) (b : Addr) (ws : Array Value) (n2 : Nat) (dd : Option Addr) (sl : Array (Option Value)) (hs0 : ¬(!us.isEmpty && Builtin.List.listTooLong (us.size + ws.size)) = true) (hs1 : us.size ≤ sizeLine) (hs2 : us.size + ws.size ≤ sizeLine + 1) :
    Meets (Builtin.«list.extend» ⟨[.ref l, .ref b], []⟩) (fun _ R s => s.heap.get? l = some { cls := .type "list", dict := none, data := .seq us n, slots := #[] } ∧ s.heap.get? b = some { cls := .type "tuple", dict := dd, data := .seq ws n2, slots := sl } ∧ R (.ok (.ret Value.none)) { s with heap := s.heap.update l (Obj.mapSeq fun x => x ++ ws), toks := s.toks }) :=
  .of_wp fun prog w A R s h => by
    obtain ⟨hp, g, d, tk, os⟩ := s
    obtain ⟨hl, hb, h⟩ := h
    have f3 := sub_list_list
    have f4 := sub_tuple_list
    have hz : (us ++ ws).size ≤ sizeLine + 1 := by
      rw [Array.size_append]
      exact hs2
    wp_walk using (wpAny_updateSeq hl rfl (hz := hs1) (_hz' := hz)), wpAny_loadPart' hl, wpAny_loadPart' hb
    exact ⟨_, rfl, h⟩
end PySem.AutoSeq1
namespace L2.NB
open PySem PySem.Spec PyProof.Rows
def rExtT (K : PySem.W.Frag) : V → List V → Hp → VK → Prop := fun x vs H Q => ∃ l b xs zs, x = .ref l ∧ vs = [.ref b] ∧ H l = some (.lst xs) ∧ SqT K H b zs ∧ xs.length + zs.length ≤ sizeLine ∧ Q .non (upd H l (.lst (xs ++ zs)))
theorem mt_extT {X : Cx} : MtM X "list.extend" (rExtT X.K) := by
  intro pins s σ H x vs v us Q I rx rv h
  obtain ⟨l, b, xs, zs, rfl, rfl, hH, hB, hz, q⟩ := h
  cases rx
  obtain ⟨u, rfl, ru⟩ := rv.one
  cases ru
  obtain ⟨z, its, n, r, hl, e⟩ := I.lstM hH
  obtain ⟨its2, r2, ⟨o, eo, hc, n2, hd⟩, hz2⟩ := I.tuple hB
  have ho : o = { cls := .type "tuple", dict := o.dict, data := .seq its2.toArray n2, slots := o.slots } := by
    cases o
    simp only at hc hd
    rw [hc, hd]
  rw [ho] at eo
  have l2 := r2.length
  have fit : its.toArray.size + its2.toArray.size ≤ sizeLine := by
    rw [List.size_toArray, List.size_toArray, ← hl, ← l2]
    exact hz
  have notLong : ¬ (!its.toArray.isEmpty && Builtin.List.listTooLong (its.toArray.size + its2.toArray.size)) = true := by
    rw [notLongL fit, Bool.and_false]
    simp
  refine call_meets F.slot_list_extend ⟨_, e, rfl⟩ F.entry_list_extend (F.args_list_extend_2 _ _) (AutoSeq1.extend_tup l its.toArray n b its2.toArray n2 o.dict o.slots notLong (by rw [List.size_toArray]; omega) (by omega)) ⟨e, eo, ?_⟩
  exact ⟨.non, _, I.lset (its' := its ++ its2) hH e (by simp) (r.append r2) (by rw [List.length_append]; exact hz), rfl, q⟩
theorem MtM.or {X : Cx} {id : String} {r r' : V → List V → Hp → VK → Prop} (h : MtM X id r) (h' : MtM X id r') : MtM X id (fun x vs H Q => r x vs H Q ∨ r' x vs H Q) := fun pins s σ H x vs v us Q I rx rv z => z.elim (h pins s σ H x vs v us Q I rx rv) (h' pins s σ H x vs v us Q I rx rv)
section
variable {Γ : Ctx} {k : CallT}
theorem gs_app {i : Nat} {x : Str} {p apos cpos pos : Pos} {e : Expr} {c : E} (R : Rdb Γ i x) (h : GE Γ k e c) (hn : noStar e = true) (hl : (apos.endLine == cpos.line) = true) : GS Γ k (.Expr (.Call (.Attribute (.Name x p) "append" apos) [e] [] cpos) pos) (.app i c) := by
  obtain ⟨t, pr, g⟩ := h
  refine ⟨tDrop (tBM Γ.K "list" rAppend (tVar i) (tCons t tNil)), fun X hX => by have hK := hX.K; rw [← hK]; exact ps_expr (pe_m1 PySem.F.plainAttrs_list PySem.F.slot_list_append PySem.F.type_list_append mt_append (R.pe hX) (pr X hX) hn hl) rfl, fun A Ox O v s σ H D r v' s' F e0 q => ?_⟩
  rw [ex] at e0
  obtain ⟨d, s1, e1, f1⟩ := bind_ok e0
  obtain ⟨xs, s2, e2, f2⟩ := bind_ok f1
  obtain ⟨e3, rfl⟩ := lift_ok e2
  obtain ⟨hz, f3⟩ := if_ok f2
  obtain ⟨v1, s3, e4, f4⟩ := bind_ok f3
  obtain ⟨e5, rfl⟩ := lift_ok e4
  cases f4
  have ei := getO_some e3
  obtain ⟨a, vs, es, ha, _, _, hs⟩ := own_at F ei (Step.refl (H := H))
  refine ⟨_, es, .inl ⟨rfl, vs, .of ha⟩, ?_⟩
  refine g A O v s σ H _ d _ F.toFE e1 fun y H1 h1 t1 r1 => ?_
  obtain ⟨a', vs', es', _, ha1, r2, _⟩ := own_at F ei t1
  rw [es] at es'
  cases es'
  have ha2 := hs H1 t1
  rw [ha2] at ha1
  cases ha1
  obtain ⟨F', S', _⟩ := (F.step h1 t1).write ei es e5 ha2 (r2.append (.one r1))
  exact ⟨a, vs, y, rfl, rfl, ha2, by rw [r2.length]; exact hz, q O σ _ F' ((F.stepS h1 t1).trans S')⟩
theorem gs_ext {i : Nat} {x : Str} {p apos cpos pos : Pos} {e : Expr} {c : E} (R : Rdb Γ i x) (h : GE Γ k e c) (hn : noStar e = true) (hl : (apos.endLine == cpos.line) = true) : GS Γ k (.Expr (.Call (.Attribute (.Name x p) "extend" apos) [e] [] cpos) pos) (.ext i c) := by
  obtain ⟨t, pr, g⟩ := h
  refine ⟨tDrop (tBM Γ.K "list" (fun x vs H Q => rExtend x vs H Q ∨ rExtT Γ.K x vs H Q) (tVar i) (tCons t tNil)), fun X hX => by have hK := hX.K; rw [← hK]; exact ps_expr (pe_m1 PySem.F.plainAttrs_list PySem.F.slot_list_extend PySem.F.type_list_extend (MtM.or mt_extend mt_extT) (R.pe hX) (pr X hX) hn hl) rfl, fun A Ox O v s σ H D r v' s' F e0 q => ?_⟩
  rw [ex] at e0
  obtain ⟨d, s1, e1, f1⟩ := bind_ok e0
  obtain ⟨xs, s2, e2, f2⟩ := bind_ok f1
  obtain ⟨e3, rfl⟩ := lift_ok e2
  have ei := getO_some e3
  obtain ⟨ys, s3, e6, f3⟩ := bind_ok f2
  obtain ⟨e7, rfl⟩ := lift_ok e6
  obtain ⟨hz, f4⟩ := if_ok f3
  obtain ⟨v1, s4, e4, f5⟩ := bind_ok f4
  obtain ⟨e5, rfl⟩ := lift_ok e4
  cases f5
  obtain ⟨a, vs, es, ha, _, _, hs⟩ := own_at F ei (Step.refl (H := H))
  refine ⟨_, es, .inl ⟨rfl, vs, .of ha⟩, ?_⟩
  refine g A O v s σ H _ d _ F.toFE e1 fun y H1 h1 t1 r1 => ?_
  obtain ⟨a', vs', es', _, ha1, r2, _⟩ := own_at F ei t1
  rw [es] at es'
  cases es'
  have ha2 := hs H1 t1
  rw [ha2] at ha1
  cases ha1
  cases d <;> first | (cases e7; done) | skip
  · cases e7
    obtain ⟨b, zs, rfl, hb, _, r3⟩ := r1.lst_inv
    obtain ⟨F', S', _⟩ := (F.step h1 t1).write ei es e5 ha2 (r2.append r3)
    exact .inl ⟨a, b, vs, zs, rfl, rfl, ha2, hb, by rw [r2.length, r3.length]; exact hz, q O σ _ F' ((F.stepS h1 t1).trans S')⟩
  · cases e7
    obtain ⟨b, zs, rfl, hb, r3⟩ := r1.tup_inv
    obtain ⟨F', S', _⟩ := (F.step h1 t1).write ei es e5 ha2 (r2.append r3)
    exact .inr ⟨a, b, vs, zs, rfl, rfl, ha2, hb.sq, by rw [r2.length, r3.length]; exact hz, q O σ _ F' ((F.stepS h1 t1).trans S')⟩
theorem gs_setI {i : Nat} {x : Str} {p tpos pos : Pos} {ke e : Expr} {ck c : E} (R : Rdb Γ i x) (hk : GE Γ k ke ck) (h : GE Γ k e c) (hsl : noSlice ke = true) : GS Γ k (.Assign [.Subscript (.Name x p) ke tpos] e pos) (.setI i ck c) := by
  obtain ⟨t, pr, g⟩ := h
  obtain ⟨t', pr', g'⟩ := hk
  refine ⟨tAsg t (gSub (tVar i) t' rSetL), fun X hX => ps_asg (pr X hX) (pg_sub (R.pe hX) (pr' X hX) set_list (by intro v; cases ke <;> first | rfl | (cases hsl; done))) (by cases e <;> rfl) (by cases e <;> rfl) rfl, fun A Ox O v s σ H D r v' s' F e0 q => ?_⟩
  rw [ex] at e0
  obtain ⟨d, s1, e1, f1⟩ := bind_ok e0
  obtain ⟨y, s2, e2, f2⟩ := bind_ok f1
  obtain ⟨xs, s3, e3, f3⟩ := bind_ok f2
  obtain ⟨e4, rfl⟩ := lift_ok e3
  obtain ⟨n, s4, e5, f4⟩ := bind_ok f3
  obtain ⟨e6, rfl⟩ := lift_ok e5
  obtain ⟨j, s5, e7, f5⟩ := bind_ok f4
  obtain ⟨e8, rfl⟩ := lift_ok e7
  obtain ⟨v1, s6, e9, f6⟩ := bind_ok f5
  obtain ⟨e10, rfl⟩ := lift_ok e9
  cases f6
  have ei := getO_some e4
  refine g A O v s σ H _ d _ F.toFE e1 fun dv H1 h1 t1 r1 => ?_
  have F1 := F.step h1 t1
  obtain ⟨a, vs, es, ha, _, _, hs⟩ := own_at F1 ei (Step.refl (H := H1))
  refine ⟨_, es, ?_⟩
  refine g' A O v s1 σ H1 _ y _ F1.toFE e2 fun yv H2 h2 t2 r2 => ?_
  have F2 := F1.step h2 t2
  obtain ⟨a', vs', es', _, ha2, r3, _⟩ := own_at F1 ei t2
  rw [es] at es'
  cases es'
  have ha3 := hs H2 t2
  rw [ha3] at ha2
  cases ha2
  have hy : y = .int n := by
    unfold isInt at e6
    split at e6
    · cases e6; rfl
    · cases e6
  subst hy
  cases r2.int_inv
  obtain ⟨F', S', _⟩ := F2.write ei es e10 ha3 (r3.set (r1.step t2) j)
  exact ⟨a, vs, n, j, rfl, rfl, ha3, by rw [r3.length]; exact e8, q O σ _ F' (((F.stepS h1 t1).trans (F1.stepS h2 t2)).trans S')⟩

/-! ### loops -/
theorem gs_while {e : Expr} {c : E} {b : List Stmt} {cb : List C} {pos : Pos} (h : GB Γ k e c) (hb : GSs Γ k b cb) : GS Γ k (.While e b [] pos) (.while c cb) := by
  obtain ⟨t, p, g⟩ := h
  obtain ⟨tb, pb, gb⟩ := hb
  refine ⟨tWhile t tb, fun X hX => ps_while (by rw [hX.xe]; exact PassesOwn.never) (p X hX) (pb X hX), fun A Ox O v s σ H D r v' s' F e0 q => ?_⟩
  rw [ex] at e0
  refine ⟨fun m σ2 H2 => ∃ O2 v2 s2, FS Γ.K A Ox O2 v2 s2 σ2 H2 ∧ StepS A Ox O H O2 H2 ∧ whileM (tst k c) (exs k cb) m v2 s2 = .ok (r, v') s', ⟨FUEL, O, v, s, F, .refl, e0⟩, ?_⟩
  rintro m σ2 H2 ⟨O2, v2, s2, F2, S2, e2⟩
  cases m with
  | zero => cases e2
  | succ m =>
    unfold whileM at e2
    obtain ⟨x, s3, e3, f3⟩ := bind_ok e2
    refine g A O2 v2 s2 σ2 H2 _ x s3 F2.toFE e3 fun H3 h3 t3 => ?_
    have F3 := F2.step h3 t3
    have S3 := S2.trans (F2.stepS h3 t3)
    cases x with
    | false =>
      rw [if_neg Bool.false_ne_true] at f3 ⊢
      cases f3
      exact q O2 σ2 H3 F3 S3
    | true =>
      rw [if_pos rfl] at f3 ⊢
      obtain ⟨⟨o, v4⟩, s4, e4, f4⟩ := bind_ok f3
      refine ⟨fun σ' H' => ∃ O', FS Γ.K A Ox O' v4 s4 σ' H' ∧ StepS A Ox O H O' H' ∧ whileM (tst k c) (exs k cb) m v4 s4 = .ok (r, v') s', fun σ' H' ⟨O', z1, z2, z3⟩ => ⟨m, Nat.lt_succ_self m, O', v4, s4, z1, z2, z3⟩, ?_⟩
      refine gb A Ox O2 v2 s3 σ2 H3 _ o v4 s4 F3 e4 ?_
      cases o with
      | nx => exact fun O' σ' H' F' S' => ⟨O', F', S3.trans S', f4⟩
      | ct => exact fun O' σ' H' F' S' => ⟨O', F', S3.trans S', f4⟩
      | bk => cases f4; exact fun O' σ' H' F' S' => q O' σ' H' F' (S3.trans S')
      | rt d => cases f4; exact fun O' x' H' h' r' S' => q O' x' H' h' r' (S3.trans S')
theorem gs_for {tg it : Expr} {ci : E} {g0 : Tg} {b : List Stmt} {cb : List C} {pos : Pos} (h : GF Γ k tg it ci) (hg : TG_ Γ tg g0) (hb : GSs Γ k b cb) (hf : ∀ (env : PySem.Env) x, foldedSetIterable it env x = pure x) : GS Γ k (.For tg it b [] pos) (.for g0 ci cb) := by
  obtain ⟨wi, p, g⟩ := h
  obtain ⟨tb, pb, gb⟩ := hb
  refine ⟨tFor wi (gTg Γ.K g0) tb, fun X hX => ps_for (by rw [hX.xe]; exact PassesOwn.never) hX.calm (p X hX) (hg X hX) (pb X hX) (hf X.env), fun A Ox O v s σ H D r v' s' F e0 q => ?_⟩
  rw [ex] at e0
  obtain ⟨d, s1, e1, f1⟩ := bind_ok e0
  obtain ⟨ds, s2, e2, f2⟩ := bind_ok f1
  obtain ⟨e3, rfl⟩ := lift_ok e2
  refine g A O v s σ H _ d ds _ F.toFE e1 e3 fun J H1 h1 t1 y => ?_
  have F1 := F.step h1 t1
  have S1 := F.stepS h1 t1
  refine ⟨fun i m σ2 H2 => m = ds.length - i ∧ i ≤ ds.length ∧ ∃ O2 v2 s2, FS Γ.K A Ox O2 v2 s2 σ2 H2 ∧ StepS A Ox O H1 O2 H2 ∧ forM' g0 (exs k cb) (ds.drop i) v2 s2 = .ok (r, v') s', ⟨_, rfl, Nat.zero_le _, O, v, _, F1, .refl, f2⟩, ?_⟩
  rintro i m σ2 H2 ⟨rfl, hi, O2, v2, s2, F2, S2, e4⟩
  have yy := y Ox O2 H2 s2 S2 F2.toFH i
  cases hx : ds.drop i with
  | nil =>
    have hil : ds.length ≤ i := List.drop_eq_nil_iff.mp hx
    rw [hx] at e4
    unfold forM' at e4
    cases e4
    exact .inl ⟨yy.2 hil, q O2 σ2 H2 F2 (S1.trans S2)⟩
  | cons d0 r0 =>
    obtain ⟨hg0, hd0, hlt⟩ := getElem_drop_cons hx
    rw [hx] at e4
    unfold forM' at e4
    obtain ⟨v3, s3, e5, f5⟩ := bind_ok e4
    obtain ⟨e6, hs3⟩ := lift_ok e5
    have hs3' := hs3.symm
    subst hs3'
    obtain ⟨⟨o, v4⟩, s4, e7, f7⟩ := bind_ok f5
    obtain ⟨yg, yy⟩ := yy.1 d0 hg0
    refine .inr ⟨yg, fun σ' H' => ∃ O', FS Γ.K A Ox O' v4 s4 σ' H' ∧ StepS A Ox O H1 O' H' ∧ forM' g0 (exs k cb) (ds.drop (i + 1)) v4 s4 = .ok (r, v') s', fun σ' H' ⟨O', z1, z2, z3⟩ => ⟨ds.length - (i + 1), by omega, rfl, hlt, O', v4, s4, z1, z2, z3⟩, fun x H3 yx => ?_⟩
    obtain ⟨h3, t3, rx⟩ := yy x H3 yx
    have F3 := F2.step h3 t3
    have S3 := S2.trans (F2.stepS h3 t3)
    refine F3.tg rx e6 fun σ4 F4 => ?_
    refine gb A Ox O2 v3 s2 σ4 H3 _ o v4 s4 F4 e7 ?_
    rw [hd0]
    cases o with
    | nx => exact fun O' σ' H' F' S' => ⟨O', F', S3.trans S', f7⟩
    | ct => exact fun O' σ' H' F' S' => ⟨O', F', S3.trans S', f7⟩
    | bk => cases f7; exact fun O' σ' H' F' S' => q O' σ' H' F' (S1.trans (S3.trans S'))
    | rt d => cases f7; exact fun O' x' H' h' r' S' => q O' x' H' h' r' (S1.trans (S3.trans S'))
end
end L2.NB
set_option Elab.async false
set_option linter.all false
set_option maxRecDepth 100000
/-! NB12P: found.append(left.pop(e)); x.index(e). -/
namespace L2.NB
open PySem PySem.Spec PyProof.Rows
theorem RepL.erase {K : PySem.W.Frag} {B : Addr → Prop} {H : Hp} : ∀ {vs : List V} {ds : List PyData} (n : Nat), RepL K B H vs ds → RepL K B H (vs.eraseIdx n) (ds.eraseIdx n)
  | _, _, _, .nil => .nil
  | _, _, 0, .cons _ r => r
  | _, _, n + 1, .cons a r => .cons a (RepL.erase n r)
theorem seqIx_of {n : Nat} {i : Int} {k : Nat} (h : ixD n i = some k) : seqIndex? i n = some k := by
  unfold ixD at h
  unfold seqIndex?
  by_cases h0 : 0 ≤ i
  · rw [if_pos h0] at h
    split at h
    · rename_i h1
      rw [if_neg (show ¬ i < 0 by omega)]
      simp only [h0, h1, decide_true, Bool.and_self, if_true]
      exact h
    · cases h
  · rw [if_neg h0] at h
    split at h
    · rename_i h1
      rw [if_pos (show i < 0 by omega)]
      have a1 : (0 : Int) ≤ i + n := by omega
      have a2 : i + (n : Int) < n := by omega
      simp only [a1, a2, decide_true, Bool.and_self, if_true]
      exact h
    · cases h
theorem ix_bound {n : Nat} {i : Int} {k : Nat} (h : ixD n i = some k) (hz : n ≤ sizeLine) : -(2 ^ 63) ≤ i ∧ i < 2 ^ 63 := by
  have hs := sizeLine_eq
  unfold ixD at h
  split at h
  · split at h
    · omega
    · cases h
  · split at h
    · omega
    · cases h
section
variable {Γ : Ctx} {k : CallT}
theorem gs_appPop {i j : Nat} {x y : Str} {p p2 apos cpos apos2 cpos2 pos : Pos} {e : Expr} {c : E} (R : Rdb Γ i x) (R2 : Rdb Γ j y) (ij : i ≠ j) (h : GE Γ k e c) (hn : noStar e = true) (hl : (apos.endLine == cpos.line) = true) (hl2 : (apos2.endLine == cpos2.line) = true) :
    GS Γ k (.Expr (.Call (.Attribute (.Name x p) "append" apos) [.Call (.Attribute (.Name y p2) "pop" apos2) [e] [] cpos2] [] cpos) pos) (.appPop i j c) := by
  obtain ⟨t, pr, g⟩ := h
  refine ⟨tDrop (tBM Γ.K "list" rAppend (tVar i) (tCons (tBM Γ.K "list" rPopAt (tVar j) (tCons t tNil)) tNil)), fun X hX => by
    have hK := hX.K
    rw [← hK]
    exact ps_expr (pe_m1 PySem.F.plainAttrs_list PySem.F.slot_list_append PySem.F.type_list_append mt_append (R.pe hX) (pe_m1 PySem.F.plainAttrs_list PySem.F.slot_list_pop PySem.F.type_list_pop mt_popAt (R2.pe hX) (pr X hX) hn hl2) rfl hl) rfl,
    fun A Ox O v s σ H D r v' s' F e0 q => ?_⟩
  rw [ex] at e0
  obtain ⟨d, s1, e1, f1⟩ := bind_ok e0
  obtain ⟨n, s2, e2, f2⟩ := bind_ok f1
  obtain ⟨e3, rfl⟩ := lift_ok e2
  obtain ⟨xs, s3, e4, f3⟩ := bind_ok f2
  obtain ⟨e5, rfl⟩ := lift_ok e4
  obtain ⟨m, s4, e6, f4⟩ := bind_ok f3
  obtain ⟨e7, rfl⟩ := lift_ok e6
  obtain ⟨w, s5, e8, f5⟩ := bind_ok f4
  obtain ⟨e9, rfl⟩ := lift_ok e8
  obtain ⟨v1, s6, e10, f6⟩ := bind_ok f5
  obtain ⟨e11, rfl⟩ := lift_ok e10
  obtain ⟨ys, s7, e12, f7⟩ := bind_ok f6
  obtain ⟨e13, rfl⟩ := lift_ok e12
  obtain ⟨hz, f8⟩ := if_ok f7
  obtain ⟨v2, s8, e14, f9⟩ := bind_ok f8
  obtain ⟨e15, rfl⟩ := lift_ok e14
  cases f9
  have hd : d = .int n := by
    unfold isInt at e3
    split at e3
    · cases e3; rfl
    · cases e3
  subst hd
  split at e7
  · rename_i hzx
    have ej := getO_some e5
    have ei1 := getO_some e13
    have hvi : v[i]? = some (.own ys) := by
      obtain ⟨_, rfl⟩ := put_some e11
      rw [List.getElem?_set_ne (Ne.symm ij)] at ei1
      exact ei1
    obtain ⟨a, vs, es, ha, _, _, hs⟩ := own_at F hvi (Step.refl (H := H))
    obtain ⟨b, us, eb, hb, _, _, hs2⟩ := own_at F ej (Step.refl (H := H))
    refine ⟨_, es, .inl ⟨rfl, vs, .of ha⟩, ?_⟩
    refine ⟨_, eb, .inl ⟨rfl, us, .of hb⟩, ?_⟩
    refine g A O v s σ H _ _ _ F.toFE e1 fun z H1 h1 t1 r1 => ?_
    cases r1.int_inv
    have F1 := F.step h1 t1
    obtain ⟨b', us', eb', _, hb1, r2, _⟩ := own_at F ej t1
    rw [eb] at eb'
    cases eb'
    have hb2 := hs2 H1 t1
    rw [hb2] at hb1
    cases hb1
    obtain ⟨bd1, bd2⟩ := ix_bound e7 hzx
    obtain ⟨u, hu, ru⟩ := r2.get e9
    obtain ⟨F2, S2, ob⟩ := F1.write ej eb e11 hb2 (r2.erase m)
    obtain ⟨a2, vs2, es2, ha2, _, r3, _⟩ := own_at F2 ei1 (Step.refl (H := upd H1 b (.lst (us.eraseIdx m))))
    rw [es] at es2
    cases es2
    have ru2 : Rep Γ.K (Bo A O) (upd H1 b (.lst (us.eraseIdx m))) u w := ru.mono (fun _ z => .inl z) fun c o z n => by
      rw [upd_ne fun q' => n (.inr (by rw [q']; exact ob))]
      exact z
    obtain ⟨F3, S3, _⟩ := F2.write ei1 es e15 ha2 (r3.append (.one ru2))
    refine ⟨b, us, n, m, u, rfl, rfl, hb2, bd1, bd2, by rw [r2.length]; exact seqIx_of e7, hu, ?_⟩
    exact ⟨a, vs2, u, rfl, rfl, ha2, by rw [r3.length]; exact hz, q O σ _ F3 (((F.stepS h1 t1).trans S2).trans S3)⟩
  · cases e7
theorem biD_index {x y d : PyData} (h : biD .index [x, y] = some d) : ∃ xs ns kk, x = .list xs ∧ y = .int kk ∧ intsOf xs = some ns ∧ kk ∈ ns ∧ d = .int (ns.idxOf kk : Nat) := by
  cases x <;> first | (cases h; done) | skip
  cases y <;> first | (cases h; done) | skip
  rename_i xs kk
  have h' : ((intsOf xs).bind fun ns => if kk ∈ ns then some (PyData.int (ns.idxOf kk : Nat)) else none) = some d := h
  obtain ⟨ns, e4, e5⟩ := Option.bind_eq_some_iff.mp h'
  split at e5
  · rename_i hk
    cases e5
    exact ⟨xs, ns, kk, rfl, rfl, e4, hk, rfl⟩
  · cases e5
theorem g_index {x : Str} {p apos cpos : Pos} {e : Expr} {ca ce : E} (ho : GT Γ k (.Name x p) ca) (he : GE Γ k e ce) (hn : noStar e = true) (hl : (apos.endLine == cpos.line) = true) (h1 : isStarC ca = false) (h2 : isStarC ce = false) : GE Γ k (.Call (.Attribute (.Name x p) "index" apos) [e] [] cpos) (.bi .index [ca, ce]) := by
  obtain ⟨ta, pa, ga⟩ := ho
  obtain ⟨tb, pb, gb⟩ := he
  refine ⟨tBM Γ.K "list" (rIndexI Γ.K) ta (tCons tb tNil), fun X hX => by
    have hK := hX.K
    rw [← hK]
    exact pe_m1 PySem.F.plainAttrs_list PySem.F.slot_list_index PySem.F.type_list_index mt_indexI (pa X hX) (pb X hX) hn hl, fun A O v s σ H Q d s' F e q => ?_⟩
  rw [ev] at e
  obtain ⟨x, y, s1, e1, e2, e3⟩ := evL2 h1 h2 e
  obtain ⟨xs, ns, kk, rfl, rfl, e4, hk, rfl⟩ := biD_index e3
  refine ga A O v s σ H _ _ s1 F e1 fun x' H1 g1 t1 r1 => ?_
  have F1 := F.step g1 t1
  obtain ⟨a0, vs0, hx0, hl0, _⟩ := r1.lst_inv
  refine ⟨by rw [hx0]; exact .inl ⟨rfl, vs0, .of hl0⟩, ?_⟩
  refine gb A O v s1 σ H1 _ _ s' F1 e2 fun y' H2 g2 t2 r2 => ?_
  cases r2.int_inv
  obtain ⟨a, vs, rfl, z1, l1⟩ := (r1.step F1.toFH t2).lst_inv
  cases l1.ints e4
  exact ⟨a, ns, _, rfl, rfl, .of z1, hk, q _ _ g2 (t1.trans t2) (.int _)⟩
end
end L2.NB
set_option Elab.async false
set_option linter.all false
set_option maxRecDepth 100000
/-! NB13: defs keep what the evaluator says; the law's end. -/
namespace L2.NB
open PySem PySem.Spec PyProof.Rows

theorem runB_ok {k : CallT} {np ns : Nat} {b : List C} {xs : List AV} {s s' : S} {d : PyData} (h : runB k np ns b xs s = .ok d s') :
    xs.length = np ∧ ∃ o v', exs k b (start ns xs) s = .ok (o, v') s' ∧ ((o = .nx ∧ d = .none) ∨ o = .rt d) := by
  unfold runB at h
  split at h
  · rename_i hl
    refine ⟨hl, ?_⟩
    obtain ⟨⟨o, v1⟩, s1, e1, e2⟩ := bind_ok h
    cases o with
    | nx => cases e2; exact ⟨_, _, e1, .inl ⟨rfl, rfl⟩⟩
    | rt d => cases e2; exact ⟨_, _, e1, .inr rfl⟩
    | bk => cases e2
    | ct => cases e2
  · cases h
theorem callN_ok {P : Prog} {n : Nat} {f : Str} {np ns : Nat} {b : List C} {xs : List AV} {s s' : S} {d : PyData} (hP : P.fn f = some (.code np ns b)) (h : callN P n f xs s = .ok d s') : ∃ m, n = m + 1 ∧ runB (callN P m) np ns b xs s = .ok d s' := by
  cases n with
  | zero => cases h
  | succ m =>
    refine ⟨m, rfl, ?_⟩
    unfold callN at h
    simp only [hP] at h
    exact h
theorem ArgsR.getI {K : PySem.W.Frag} {A : HA} {O : Addr → Prop} {H : Hp} {vs : List V} {xs : List AV} {i : Nat} {x : AV} (h : ArgsR K A O H vs xs) (e : xs[i]? = some x) : ∃ v, vs[i]? = some v ∧ AVR K A O H v x := by
  rcases h.get i with ⟨_, z⟩ | ⟨v, y, e1, e2, r⟩
  · rw [e] at z; cases z
  · rw [e] at e2; cases e2; exact ⟨v, e1, r⟩
/-- a def's entry -/
theorem fs_start {K : PySem.W.Frag} {A : HA} {O : Addr → Prop} {s : S} {H : Hp} {N : List Str} {vs : List V} {xs : List AV} (F : FH A O s H) (r : ArgsR K A O H vs xs) (hl : xs.length ≤ N.length) : FS K A O O (start N.length xs) s (L2.start N vs) H := by
  have hv := r.length
  have no : ∀ (i : Nat) (ys : List PyData), (start N.length xs)[i]? ≠ some (.own ys) := fun i ys e => by
    unfold start at e
    by_cases hi : i < (xs.map AV.slot).length
    · rw [List.getElem?_append_left hi, List.getElem?_map] at e
      obtain ⟨x, _, e2⟩ := Option.map_eq_some_iff.mp e
      cases x <;> cases e2
    · rw [List.getElem?_append_right (by omega), List.getElem?_replicate] at e
      split at e <;> cases e
  refine ⟨⟨F, fun i x e => ?_, ?_⟩, fun _ z => z, fun i ys a e => absurd e (no i ys), fun i _ ys _ _ e => absurd e (no i ys)⟩
  · unfold start at e
    by_cases hi : i < (xs.map AV.slot).length
    · rw [List.getElem?_append_left hi, List.getElem?_map] at e
      obtain ⟨y, e1, rfl⟩ := Option.map_eq_some_iff.mp e
      obtain ⟨v, e2, rv⟩ := r.getI e1
      have e3 : (L2.start N vs)[i]? = some (some v) := by
        unfold L2.start
        rw [List.getElem?_append_left (by rw [List.length_map, hv]; rw [List.length_map] at hi; exact hi), List.getElem?_map, e2]
        rfl
      rw [e3]
      cases y with
      | d d => exact ⟨v, rfl, rv⟩
      | h n => obtain ⟨p, h1, rfl⟩ := rv; exact ⟨p, h1, rfl⟩
      | s ns => obtain ⟨a, rfl, h1⟩ := rv; exact ⟨a, rfl, h1⟩
    · rw [List.getElem?_append_right (by omega), List.getElem?_replicate] at e
      split at e
      · cases e; trivial
      · cases e
  · unfold start L2.start
    simp [hv]
/-- a def's promise from its body -/
theorem fn_x {pw : Program} {w : World} {K : PySem.W.Frag} {mg : Str → Option Value} {base : Heap} {n : Nat} {f : Addr} {x qual : Str} {params : Arguments} {body : List Stmt} {scope : Scope} {fd : FuncData} {N ps : List Str} {sp : Sp}
    (F : FunD K x qual params body scope [] [] f fd) (S : FnScope N ps scope) (len : ∀ vs H Q E, sp vs H Q E → vs.length = ps.length)
    (hb : ∀ X, Ctx.Has ⟨pw, w, K, mg, base, N, scope, n, fun _ => true⟩ X → ∀ vs H Q, sp vs H Q E0 → ∃ t, PSs X body t ∧ t { nx := fun _ H' => Q .non H', rt := Q } (L2.start N vs) H) :
    FnG pw w K mg base (n + 1) f fd ps sp := by
  obtain ⟨oc, od, dV, kV, doc, pm, an, cdv, ct, osl, rfl, lk, hcd, _, _⟩ := F.ex
  refine ⟨len, fun A outer s H args us vs Q hr hg e0 hbd r hsp => ?_⟩
  have hl := len _ _ _ E0 hsp
  have old : ∀ c o, base.get? c = some o → s.heap.get? c = some o := fun c o e => (e0.bs c o e).1
  have hK : K.In s.heap := e0.mod.kin.keeps old
  refine codeAny_call_function hr.depth (hK _ _ lk) rfl S.co S.gen rfl (PySem.W.codeRec_of hK hcd) (hbd _ _ _ _ ?_)
  refine wpAny_newFunctionEnv_cells S.kind (fun y hy => ?_) fun env he s1 z => ?_
  · obtain ⟨m, u⟩ := y
    have hm := (List.of_mem_zip hy).1
    exact (S.par m hm).elim .inl fun q => .inr ⟨q, PySem.W.cellsFrom_some _ _ _ (.inl q)⟩
  subst he
  refine ⟨(e0.mod.nolimit.keeps old).keeps z.toInCall.keep, codeAny_func ?_⟩
  generalize hX : (cxOf CX0 pw w K mg base N qual scope f cdv A outer s H E0).nox = X
  have I : Inv X [] (L2.start N vs) H s1 := by
    rw [← hX]
    exact (inv_start S hr.hd e0 hl r z).wish _
  have has : Ctx.Has ⟨pw, w, K, mg, base, N, scope, n, fun _ => true⟩ X := by
    rw [← hX]
    exact ⟨rfl, rfl, rfl, rfl, rfl, rfl, S.nd, rfl, S.kind, rfl, hr.deeper _, hg, rfl, rfl⟩
  obtain ⟨t, ht, good⟩ := hb X has vs H Q hsp
  have body := ht.run [] s1 (L2.start N vs) H { nx := fun _ H' => Q .non H', rt := Q } I good
  rw [← hX] at body
  refine wpAny_mono body (fun fl s' hs => ?_) fun e s' hs => False.elim hs
  cases fl with
  | ret u =>
    obtain ⟨v, σ', H', J, rv, z⟩ := hs
    exact ⟨v, H', J.os, J.bare, J.base, J.hok, rv, z⟩
  | next =>
    obtain ⟨σ', H', J, z⟩ := hs
    exact ⟨.non, H', J.os, J.bare, J.base, J.hok, rfl, z⟩
  | brk => obtain ⟨_, _, _, z⟩ := hs; exact False.elim z
  | cont => obtain ⟨_, _, _, z⟩ := hs; exact False.elim z
/-- THE RULE of a def -/
theorem fn_g {P : Prog} {pw : Program} {w : World} {K : PySem.W.Frag} {mg : Str → Option Value} {base : Heap} {n : Nat} {f : Addr} {x fx qual : Str} {params : Arguments} {body : List Stmt} {scope : Scope} {fd : FuncData} {N ps : List Str} {b : List C}
    (F : FunD K x qual params body scope [] [] f fd) (S : FnScope N ps scope) (hP : P.fn fx = some (.code ps.length N.length b)) (hb : GSs ⟨pw, w, K, mg, base, N, scope, n, fun _ => true⟩ (callN P n) body b) :
    FnG pw w K mg base (n + 1) f fd ps (spN P K (n + 1) fx) := by
  have hpl : ps.length ≤ N.length := by
    have := congrArg List.length S.pre
    rw [List.length_take] at this
    omega
  refine fn_x F S (fun vs H Q E ⟨A, O, s, s', xs, d, F, r, e, q⟩ => ?_) fun X hX vs H Q hsp => ?_
  · obtain ⟨m, _, e2⟩ := callN_ok hP e
    rw [r.length]
    exact (runB_ok e2).1
  obtain ⟨t, ht, good⟩ := hb
  obtain ⟨A', O, st, st', xs, d, FH0, ra, ec, q⟩ := hsp
  obtain ⟨m, hm, er⟩ := callN_ok hP ec
  cases hm
  obtain ⟨hxl, o, v', eb, ho⟩ := runB_ok er
  have F0 : FS K A' O O (start N.length xs) st (L2.start N vs) H := fs_start FH0 ra (by rw [hxl]; exact hpl)
  have step_of : ∀ {O' : Addr → Prop} {H' : Hp}, StepS A' O O H O' H' → Step A' H H' := fun {O' H'} ss a u e na => ss.1 a u e (by
    by_cases hO : O a
    · exact .inl hO
    · exact .inr fun z => z.elim na hO)
  refine ⟨t, ht X hX, good A' O O _ st _ H _ o v' st' F0 eb ?_⟩
  rcases ho with ⟨rfl, rfl⟩ | rfl
  · exact fun O' σ' H' F' ss => q _ H' F'.hr (step_of ss) .non
  · exact fun O' y H' h' ry ss => q _ H' h' (step_of ss) ry
theorem FnG.none {P : Prog} {pw : Program} {w : World} {K : PySem.W.Frag} {mg : Str → Option Value} {base : Heap} {f : Addr} {x : Str} {fd : FuncData} {ps : List Str} : FnG pw w K mg base 0 f fd ps (spN P K 0 x) :=
  ⟨fun vs H Q E ⟨_, _, _, _, _, _, _, _, e, _⟩ => (by cases e), fun A outer s H args us vs Q hr hg e0 hb r ⟨_, _, _, _, _, _, _, _, e, _⟩ => (by cases e)⟩
/-- what is fixed of a def -/
structure Def (P : Prog) (pw : Program) (w : World) (K : PySem.W.Frag) (mg : Str → Option Value) (base : Heap) (kws : List (Str × List Str × List Nat)) (f : Str) (F : Fn) (a : Addr) (fd : FuncData) (ps : List Str) : Prop where
  gl : mg f = some (.ref a)
  kp : PySem.W.keepIn K (.ref a) = true
  np : ps.length = F.np
  bd : Binds K fd ps []
  kw : ∀ ks perm, (f, ks, perm) ∈ kws → KwOk K fd ps ks perm
  ok : ∀ n, Fns P pw w K mg base n kws → FnG pw w K mg base (n + 1) a fd ps (spN P K (n + 1) f)
theorem fns {P : Prog} {pw : Program} {w : World} {K : PySem.W.Frag} {mg : Str → Option Value} {base : Heap} {kws : List (Str × List Str × List Nat)} (h : ∀ f F, P.fn f = some F → ∃ a fd ps, Def P pw w K mg base kws f F a fd ps) : ∀ n, Fns P pw w K mg base n kws
  | 0 => fun f F e => by
    obtain ⟨a, fd, ps, D⟩ := h f F e
    exact ⟨a, fd, ps, D.gl, D.kp, D.np, D.bd, D.kw, .none⟩
  | n + 1 => fun f F e => by
    obtain ⟨a, fd, ps, D⟩ := h f F e
    exact ⟨a, fd, ps, D.gl, D.kp, D.np, D.bd, D.kw, D.ok n (fns h n)⟩
end L2.NB
set_option Elab.async false
set_option linter.all false
set_option maxRecDepth 100000
/-! NB14: from the text's trees to the small language; what comes out goes as the evaluator says. -/
namespace L2.NB
open PySem PySem.Spec PyProof.Rows

structure Cp where
  N : List Str
  sc : Scope
  fn : Str → Bool
  cs : List (Str × PyData)
  bl : List Str
  fs : List Str
  kws : List (Str × List Str × List Nat)
structure CpOk (P : Prog) (cp : Cp) (Γ : Ctx) : Prop where
  N : Γ.N = cp.N
  sc : Γ.sc = cp.sc
  fn : Γ.fn = cp.fn
  cs : ∀ x d, (x, d) ∈ cp.cs → ConstOk Γ.K Γ.mg x d
  bl : ∀ x ∈ cp.bl, Γ.mg x = none
  fs : ∀ x ∈ cp.fs, (P.fn x).isSome = true
  Fs : Fns P Γ.pw Γ.w Γ.K Γ.mg Γ.base Γ.n cp.kws
structure Rec where
  e : Cp → Bool → Expr → Option E
  b : Cp → Expr → Option E
structure RecOk (r : Rec) : Prop where
  ge : ∀ (P : Prog) (cp : Cp) (Γ : Ctx), CpOk P cp Γ → ∀ e c, r.e cp false e = some c → GE Γ (callN P Γ.n) e c
  gt : ∀ (P : Prog) (cp : Cp) (Γ : Ctx), CpOk P cp Γ → ∀ e c, r.e cp true e = some c → GT Γ (callN P Γ.n) e c
  gb : ∀ (P : Prog) (cp : Cp) (Γ : Ctx), CpOk P cp Γ → ∀ e c, r.b cp e = some c → GB Γ (callN P Γ.n) e c

/-! ### names -/
def nameOk (x : Str) : Bool := !(x == ("__debug__" : Str)) && !(x == ("__classdict__" : Str))
def visB (sc : Scope) (x : Str) : Bool := match sc.names.lookup x with
  | some .local => true
  | some .cell => true
  | some .free => true
  | _ => false
def locB (sc : Scope) (x : Str) : Bool := match sc.names.lookup x with
  | some .local => true
  | some .cell => true
  | _ => false
def glB (sc : Scope) (x : Str) : Bool := match sc.names.lookup x with
  | some .globalImplicit => true
  | _ => false
def ixIn (x : Str) : Nat → List Str → Option Nat
  | _, [] => none
  | i, y :: r => if x == y then some i else ixIn x (i + 1) r
theorem ixIn_get {x : Str} : ∀ {N : List Str} {j i : Nat}, ixIn x j N = some i → ∃ m, i = j + m ∧ N[m]? = some x
  | [], _, _, h => by cases h
  | y :: r, j, i, h => by
    unfold ixIn at h
    split at h
    · rename_i e
      cases h
      exact ⟨0, rfl, by rw [eq_of_beq e]; rfl⟩
    · obtain ⟨m, e1, e2⟩ := ixIn_get h
      exact ⟨m + 1, by omega, by simpa using e2⟩
def ixOf (N : List Str) (x : Str) : Option Nat := ixIn x 0 N
theorem ixOf_get {N : List Str} {x : Str} {i : Nat} (h : ixOf N x = some i) : N[i]? = some x := by
  obtain ⟨m, e1, e2⟩ := ixIn_get h
  rw [e1, Nat.zero_add]
  exact e2
theorem vis_of {sc : Scope} {x : Str} (h : visB sc x = true) : Vis sc x := by
  unfold visB at h
  unfold Vis
  split at h
  · rename_i e; exact .inl e
  · rename_i e; exact .inr (.inl e)
  · rename_i e; exact .inr (.inr e)
  · cases h
theorem loc_of {sc : Scope} {x : Str} (h : locB sc x = true) : Loc sc x := by
  unfold locB at h
  unfold Loc
  split at h
  · rename_i e; exact .inl e
  · rename_i e; exact .inr e
  · cases h
theorem gl_of {sc : Scope} {x : Str} (h : glB sc x = true) : sc.names.lookup x = some .globalImplicit := by
  unfold glB at h
  split at h
  · assumption
  · cases h
theorem nameOk_of {x : Str} (h : nameOk x = true) : (x == ("__debug__" : Str)) = false ∧ (x == ("__classdict__" : Str)) = false := by
  unfold nameOk at h
  simpa using h
def cName (cp : Cp) (m : Bool) (x : Str) : Option E := match ixOf cp.N x with
  | some i => if (visB cp.sc x && nameOk x) = true then some (if m = true then .varT i else .var i) else none
  | none => if (glB cp.sc x && nameOk x) = true then (cp.cs.lookup x).map .cst else none
theorem lookup_mem {α : Type} : ∀ {l : List (Str × α)} {x : Str} {d : α}, l.lookup x = some d → (x, d) ∈ l
  | (y, e) :: r, x, d, h => by
    rw [List.lookup_cons] at h
    cases hb : x == y with
    | true =>
      rw [hb] at h
      cases h
      rw [eq_of_beq hb]
      exact List.mem_cons_self
    | false =>
      rw [hb] at h
      exact List.mem_cons_of_mem _ (lookup_mem h)
section
variable {P : Prog} {cp : Cp} {Γ : Ctx} {r : Rec}
theorem cName_ok (hc : CpOk P cp Γ) {x : Str} {p : Pos} {c : E} {m : Bool} (h : cName cp m x = some c) : (m = false → GE Γ (callN P Γ.n) (.Name x p) c) ∧ GT Γ (callN P Γ.n) (.Name x p) c := by
  unfold cName at h
  split at h
  · rename_i i hi
    split at h
    · rename_i hv
      rw [Bool.and_eq_true] at hv
      obtain ⟨d1, d2⟩ := nameOk_of hv.2
      have e1 : Γ.N[i]? = some x := by rw [hc.N]; exact ixOf_get hi
      have e2 : Vis Γ.sc x := by rw [hc.sc]; exact vis_of hv.1
      cases m with
      | true => cases h; exact ⟨fun z => (by cases z), g_varT e1 e2 d1 d2⟩
      | false => cases h; exact ⟨fun _ => g_var e1 e2 d1 d2, (g_var e1 e2 d1 d2).t⟩
    · cases h
  · split at h
    · rename_i hv
      rw [Bool.and_eq_true] at hv
      obtain ⟨d, e1, rfl⟩ := Option.map_eq_some_iff.mp h
      have g : GE Γ (callN P Γ.n) (.Name x p) (.cst d) := g_glo (by rw [hc.sc]; exact gl_of hv.1) (hc.cs x d (lookup_mem e1)) (nameOk_of hv.2).1
      exact ⟨fun _ => g, g.t⟩
    · cases h
/-! ### operators, tests -/
def bopOf : Operator → Option Bop
  | .Add => some .add | .Sub => some .sub | .Mult => some .mul | .FloorDiv => some .fdiv | .Mod => some .mod | .Pow => some .pow
  | _ => none
theorem bopOf_ok {o : Operator} {o' : Bop} (h : bopOf o = some o') : o = opOf o' := by
  cases o <;> first | (cases h; rfl) | (cases h; done)
def copOf : CmpOp → Cop
  | .Lt => .lt | .LtE => .le | .Gt => .gt | .GtE => .ge | .Eq => .eq | .NotEq => .ne | .Is => .is | .IsNot => .isnot | .In => .mem | .NotIn => .notmem
theorem copOf_ok (o : CmpOp) : opC (copOf o) = o := by cases o <;> rfl
def cBin (r : Rec) (cp : Cp) (a : Expr) (o : Operator) (b : Expr) : Option E :=
  (bopOf o).bind fun o => (r.e cp true a).bind fun x => (r.e cp true b).map fun y => .bin o x y
theorem cBin_ok (hr : RecOk r) (hc : CpOk P cp Γ) {a b : Expr} {o : Operator} {pos : Pos} {c : E} (h : cBin r cp a o b = some c) : GE Γ (callN P Γ.n) (.BinOp a o b pos) c := by
  obtain ⟨o', e1, h⟩ := Option.bind_eq_some_iff.mp h
  obtain ⟨x, e2, h⟩ := Option.bind_eq_some_iff.mp h
  obtain ⟨y, e3, rfl⟩ := Option.map_eq_some_iff.mp h
  rw [bopOf_ok e1]
  exact g_bin (hr.gt P cp Γ hc _ _ e2) (hr.gt P cp Γ hc _ _ e3)
def cCmp (r : Rec) (cp : Cp) (a : Expr) : List CmpOp → List Expr → Option E
  | [o], [b] => if behindInMarks o b = true then none else (r.e cp true a).bind fun x => (r.e cp true b).map fun y => .cmp (copOf o) x y
  | [o, o'], [b, c] => if lastMarks [o, o'] [b, c] = true then none else (r.e cp true a).bind fun x => (r.e cp true b).bind fun y => (r.e cp true c).map fun z => .chain (copOf o) (copOf o') x y z
  | _, _ => none
theorem cCmp_ok (hr : RecOk r) (hc : CpOk P cp Γ) {a : Expr} {os : List CmpOp} {bs : List Expr} {pos : Pos} {c : E} (h : cCmp r cp a os bs = some c) : GE Γ (callN P Γ.n) (.Compare a os bs pos) c ∧ GB Γ (callN P Γ.n) (.Compare a os bs pos) c := by
  unfold cCmp at h
  split at h
  · split at h
    · cases h
    · rename_i o b hm
      obtain ⟨x, e2, h⟩ := Option.bind_eq_some_iff.mp h
      obtain ⟨y, e3, rfl⟩ := Option.map_eq_some_iff.mp h
      have hm' : behindInMarks (opC (copOf o)) b = false := by rw [copOf_ok]; simpa using hm
      have ga := hr.gt P cp Γ hc _ _ e2
      have gb := hr.gt P cp Γ hc _ _ e3
      have g1 := g_cmp (pos := pos) ga gb hm'
      have g2 := b_cmp (pos := pos) ga gb hm'
      rw [copOf_ok] at g1 g2
      exact ⟨g1, g2⟩
  · split at h
    · cases h
    · rename_i o o' b b' hm
      obtain ⟨x, e2, h⟩ := Option.bind_eq_some_iff.mp h
      obtain ⟨y, e3, h⟩ := Option.bind_eq_some_iff.mp h
      obtain ⟨w, e4, rfl⟩ := Option.map_eq_some_iff.mp h
      have hm' : lastMarks [opC (copOf o), opC (copOf o')] [b, b'] = false := by rw [copOf_ok, copOf_ok]; simpa using hm
      have g1 := g_chain (pos := pos) (hr.gt P cp Γ hc _ _ e2) (hr.gt P cp Γ hc _ _ e3) (hr.gt P cp Γ hc _ _ e4) hm'
      have g2 := b_chain (pos := pos) (hr.gt P cp Γ hc _ _ e2) (hr.gt P cp Γ hc _ _ e3) (hr.gt P cp Γ hc _ _ e4) hm'
      rw [copOf_ok, copOf_ok] at g1 g2
      exact ⟨g1, g2⟩
  · cases h
def boB : BoolOp → E → E → E
  | .And, x, y => .and x y
  | .Or, x, y => .or x y
def cBool (r : Rec) (cp : Cp) (o : BoolOp) (pos : Pos) : List Expr → Option E
  | [a] => r.e cp false a
  | a :: b :: l => (r.e cp false a).bind fun x => (r.e cp false (.BoolOp o (b :: l) pos)).map fun y => boB o x y
  | [] => none
theorem cBool_ok (hr : RecOk r) (hc : CpOk P cp Γ) {o : BoolOp} {es : List Expr} {pos : Pos} {c : E} (h : cBool r cp o pos es = some c) : GE Γ (callN P Γ.n) (.BoolOp o es pos) c := by
  unfold cBool at h
  split at h
  · exact g_one (hr.ge P cp Γ hc _ _ h)
  · obtain ⟨x, e2, h⟩ := Option.bind_eq_some_iff.mp h
    obtain ⟨y, e3, rfl⟩ := Option.map_eq_some_iff.mp h
    cases o with
    | And => exact g_and (hr.ge P cp Γ hc _ _ e2) (hr.ge P cp Γ hc _ _ e3)
    | Or => exact g_or (hr.ge P cp Γ hc _ _ e2) (hr.ge P cp Γ hc _ _ e3)
  · cases h
/-- tests: a chain of and, of or -/
def cWs (r : Rec) (cp : Cp) (o : BoolOp) : List Expr → Option E
  | [a] => r.b cp a
  | a :: b :: l => (r.b cp a).bind fun x => (cWs r cp o (b :: l)).map fun y => boB o x y
  | [] => none
theorem cWs_ok (hr : RecOk r) (hc : CpOk P cp Γ) {o : BoolOp} {pos : Pos} : ∀ {es : List Expr} {c : E}, cWs r cp o es = some c → GW Γ (callN P Γ.n) (.BoolOp o es pos) c
  | [], c, h => by cases h
  | [a], c, h => by
    cases o with
    | And => exact w_and1 (hr.gb P cp Γ hc _ _ h)
    | Or => exact w_or1 (hr.gb P cp Γ hc _ _ h)
  | a :: b :: l, c, h => by
    obtain ⟨x, e2, h⟩ := Option.bind_eq_some_iff.mp (show ((r.b cp a).bind fun x => (cWs r cp o (b :: l)).map fun y => boB o x y) = some c from h)
    obtain ⟨y, e3, rfl⟩ := Option.map_eq_some_iff.mp h
    have ih := cWs_ok hr hc (pos := pos) e3
    cases o with
    | And => exact w_and (hr.gb P cp Γ hc _ _ e2) ih
    | Or => exact w_or (hr.gb P cp Γ hc _ _ e2) ih
/-- a test that is a value -/
def plainT : Expr → Bool
  | .Name _ _ => true
  | .Call _ _ _ _ => true
  | .Subscript _ _ _ => true
  | .BinOp _ _ _ _ => true
  | _ => false
theorem plainT_ok {e : Expr} (h : plainT e = true) : ∀ env whole, isTrue e env whole = (do let v ← whole; standAt e.pos; holding [v] (truthy v)) := by
  intro env whole
  cases e <;> first | rfl | (cases h; done)
def stepB (r : Rec) (cp : Cp) : Expr → Option E
  | .Compare a os bs _ => cCmp r cp a os bs
  | .BoolOp o es _ => cWs r cp o es
  | .UnaryOp .Not a _ => (r.b cp a).map .not
  | .IfExp c a b _ => (r.b cp c).bind fun x => (r.b cp a).bind fun y => (r.b cp b).map fun z => .ite x y z
  | e => if plainT e = true then r.e cp true e else none
theorem stepB_ok (hr : RecOk r) (hc : CpOk P cp Γ) {e : Expr} {c : E} (h : stepB r cp e = some c) : GB Γ (callN P Γ.n) e c := by
  unfold stepB at h
  split at h
  · exact (cCmp_ok hr hc h).2
  · exact (cWs_ok hr hc h).b
  · obtain ⟨x, e1, rfl⟩ := Option.map_eq_some_iff.mp h
    exact b_not (hr.gb P cp Γ hc _ _ e1)
  · obtain ⟨x, e1, h⟩ := Option.bind_eq_some_iff.mp h
    obtain ⟨y, e2, h⟩ := Option.bind_eq_some_iff.mp h
    obtain ⟨z, e3, rfl⟩ := Option.map_eq_some_iff.mp h
    exact b_ite (hr.gb P cp Γ hc _ _ e1) (hr.gb P cp Γ hc _ _ e2) (hr.gb P cp Γ hc _ _ e3)
  · split at h
    · rename_i hp
      exact b_truth (hr.gt P cp Γ hc _ _ h) (plainT_ok hp)
    · cases h
end
end L2.NB
set_option Elab.async false
set_option linter.all false
set_option maxRecDepth 100000
/-! NB15: lists of expressions, subscripts, built-ins, calls. -/
namespace L2.NB
open PySem PySem.Spec PyProof.Rows
section
variable {P : Prog} {cp : Cp} {Γ : Ctx} {r : Rec}
def cL (r : Rec) (cp : Cp) : List Expr → Option (List E)
  | [] => some []
  | .Starred e _ :: es => (r.e cp true e).bind fun x => (cL r cp es).map fun ys => .star x :: ys
  | e :: es => (r.e cp false e).bind fun x => if (noStar e && !isStarC x) = true then (cL r cp es).map fun ys => x :: ys else none
theorem cL_ok (hr : RecOk r) (hc : CpOk P cp Γ) : ∀ {es : List Expr} {cs : List E}, cL r cp es = some cs → GL Γ (callN P Γ.n) es cs
  | [], cs, h => by
    cases h
    exact l_nil
  | e :: es, cs, h => by
    cases hs : noStar e with
    | false =>
      cases e <;> first | (cases hs; done) | skip
      obtain ⟨x, e1, h⟩ := Option.bind_eq_some_iff.mp h
      obtain ⟨ys, e2, rfl⟩ := Option.map_eq_some_iff.mp h
      exact l_star (hr.gt P cp Γ hc _ _ e1) (cL_ok hr hc e2)
    | true =>
      have h' : ((r.e cp false e).bind fun x => if (noStar e && !isStarC x) = true then (cL r cp es).map fun ys => x :: ys else none) = some cs := by
        cases e <;> first | exact h | (cases hs; done)
      obtain ⟨x, e1, h'⟩ := Option.bind_eq_some_iff.mp h'
      split at h'
      · rename_i hz
        simp only [Bool.and_eq_true, Bool.not_eq_true'] at hz
        obtain ⟨ys, e2, rfl⟩ := Option.map_eq_some_iff.mp h'
        exact l_cons (hr.ge P cp Γ hc _ _ e1) (cL_ok hr hc e2) hs hz.2
      · cases h'
/-- arguments; the deal and the script are handed on by their names -/
def hndName (x : Str) : Bool := x == ("_law_deal" : Str) || x == ("_law_script" : Str)
def cA (r : Rec) (cp : Cp) : List Expr → Option (List E)
  | [] => some []
  | .Name x _ :: es => if hndName x = true then (ixOf cp.N x).bind fun i => if (visB cp.sc x && nameOk x) = true then (cA r cp es).map fun ys => .hnd i :: ys else none
    else (cName cp false x).bind fun c => if isHndC c = true then none else (cA r cp es).map fun ys => c :: ys
  | e :: es => (r.e cp false e).bind fun x => if (noStar e && !isHndC x) = true then (cA r cp es).map fun ys => x :: ys else none
def isName : Expr → Bool
  | .Name _ _ => true
  | _ => false
theorem cA_ok (hr : RecOk r) (hc : CpOk P cp Γ) : ∀ {es : List Expr} {cs : List E}, cA r cp es = some cs → GA Γ (callN P Γ.n) es cs ∧ es.all noStar = true
  | [], cs, h => by
    cases h
    exact ⟨a_nil, rfl⟩
  | e :: es, cs, h => by
    cases hs : isName e with
    | true =>
      cases e <;> first | (cases hs; done) | skip
      rename_i x p
      unfold cA at h
      split at h
      · obtain ⟨i, e1, h⟩ := Option.bind_eq_some_iff.mp h
        split at h
        · rename_i hv
          rw [Bool.and_eq_true] at hv
          obtain ⟨d1, d2⟩ := nameOk_of hv.2
          obtain ⟨ys, e2, rfl⟩ := Option.map_eq_some_iff.mp h
          obtain ⟨g, al⟩ := cA_ok hr hc e2
          exact ⟨a_hnd (by rw [hc.N]; exact ixOf_get e1) (by rw [hc.sc]; exact vis_of hv.1) d1 d2 g, by rw [List.all_cons, al]; rfl⟩
        · cases h
      · obtain ⟨c, e1, h⟩ := Option.bind_eq_some_iff.mp h
        split at h
        · cases h
        · rename_i hz
          obtain ⟨ys, e2, rfl⟩ := Option.map_eq_some_iff.mp h
          obtain ⟨g, al⟩ := cA_ok hr hc e2
          exact ⟨a_cons ((cName_ok hc e1).1 rfl) g rfl (by simpa using hz), by rw [List.all_cons, al]; rfl⟩
    | false =>
      have h' : ((r.e cp false e).bind fun x => if (noStar e && !isHndC x) = true then (cA r cp es).map fun ys => x :: ys else none) = some cs := by
        cases e <;> first | exact h | (cases hs; done)
      obtain ⟨x, e1, h'⟩ := Option.bind_eq_some_iff.mp h'
      split at h'
      · rename_i hz
        simp only [Bool.and_eq_true, Bool.not_eq_true'] at hz
        obtain ⟨ys, e2, rfl⟩ := Option.map_eq_some_iff.mp h'
        obtain ⟨g, al⟩ := cA_ok hr hc e2
        exact ⟨a_cons (hr.ge P cp Γ hc _ _ e1) g hz.1 hz.2, by rw [List.all_cons, al, hz.1]; rfl⟩
      · cases h'
/-- keywords alone -/
def cK (r : Rec) (cp : Cp) : List Keyword → Option (List E)
  | [] => some []
  | ⟨_, e, _⟩ :: es => (r.e cp false e).bind fun x => if isHndC x = true then none else (cK r cp es).map fun ys => x :: ys
theorem cK_ok (hr : RecOk r) (hc : CpOk P cp Γ) : ∀ {es : List Keyword} {cs : List E}, cK r cp es = some cs → GK Γ (callN P Γ.n) es cs ∧ cs.length = es.length
  | [], cs, h => by
    cases h
    exact ⟨k_nil, rfl⟩
  | ⟨nm, e, p⟩ :: es, cs, h => by
    obtain ⟨x, e1, h⟩ := Option.bind_eq_some_iff.mp (show ((r.e cp false e).bind fun x => if isHndC x = true then none else (cK r cp es).map fun ys => x :: ys) = some cs from h)
    split at h
    · cases h
    · rename_i hz
      obtain ⟨ys, e2, rfl⟩ := Option.map_eq_some_iff.mp h
      obtain ⟨g, al⟩ := cK_ok hr hc e2
      exact ⟨k_cons (hr.ge P cp Γ hc _ _ e1) g (by simpa using hz), by rw [List.length_cons, List.length_cons, al]⟩
/-! ### subscripts -/
def cO (r : Rec) (cp : Cp) : Option Expr → Option E
  | none => some .no
  | some e => (r.e cp true e).bind fun x => if x.isNo = true then none else some x
theorem cO_ok (hr : RecOk r) (hc : CpOk P cp Γ) {o : Option Expr} {c : E} (h : cO r cp o = some c) : GO Γ (callN P Γ.n) o c := by
  cases o with
  | none => cases h; exact o_none
  | some e =>
    obtain ⟨x, e1, h⟩ := Option.bind_eq_some_iff.mp h
    split at h
    · cases h
    · rename_i hz
      cases h
      exact o_some (hr.gt P cp Γ hc _ _ e1) (by simpa using hz)
def cScr (cp : Cp) (x : Str) (n : Int) : Option E := (ixOf cp.N x).bind fun i => if (visB cp.sc x && nameOk x && decide (0 ≤ n)) = true then some (.scr i n.toNat) else none
def isScr : Expr → Bool
  | .Name x _ => x == ("_law_script" : Str)
  | _ => false
def cSub (r : Rec) (cp : Cp) (a : Expr) : Expr → Option E
  | .Slice none none (some (.UnaryOp .USub (.Constant (.int 1) _ _) _)) _ => (r.e cp true a).map .rev
  | .Slice lo hi none _ => (match a, lo, hi with
    | .Name x _, none, some (.Constant (.int n) _ _) => if (x == ("_law_script" : Str)) = true then cScr cp x n else none
    | _, _, _ => none).or (if isScr a = true then none else (r.e cp true a).bind fun x => (cO r cp lo).bind fun y => (cO r cp hi).map fun z => .sl x y z)
  | b => if noSlice b = true then (r.e cp true a).bind fun x => (r.e cp true b).map fun y => .idx x y else none
theorem cSub_ok (hr : RecOk r) (hc : CpOk P cp Γ) {a b : Expr} {pos : Pos} {c : E} (h : cSub r cp a b = some c) : GE Γ (callN P Γ.n) (.Subscript a b pos) c := by
  unfold cSub at h
  split at h
  · obtain ⟨x, e1, rfl⟩ := Option.map_eq_some_iff.mp h
    exact g_rev (hr.gt P cp Γ hc _ _ e1)
  · rw [Option.or_eq_some_iff] at h
    rcases h with h | ⟨_, h⟩
    · split at h
      · split at h
        · obtain ⟨i, e1, h⟩ := Option.bind_eq_some_iff.mp h
          split at h
          · rename_i hv
            simp only [Bool.and_eq_true, decide_eq_true_eq] at hv
            obtain ⟨d1, d2⟩ := nameOk_of hv.1.2
            cases h
            obtain ⟨m, hm⟩ := Int.eq_ofNat_of_zero_le hv.2
            subst hm
            exact g_scr (by rw [hc.N]; exact ixOf_get e1) (by rw [hc.sc]; exact vis_of hv.1.1) d1 d2
          · cases h
        · cases h
      · cases h
    · split at h
      · cases h
      · obtain ⟨x, e1, h⟩ := Option.bind_eq_some_iff.mp h
        obtain ⟨y, e2, h⟩ := Option.bind_eq_some_iff.mp h
        obtain ⟨z, e3, rfl⟩ := Option.map_eq_some_iff.mp h
        exact g_sl (hr.gt P cp Γ hc _ _ e1) (cO_ok hr hc e2) (cO_ok hr hc e3)
  · split at h
    · rename_i hn
      obtain ⟨x, e1, h⟩ := Option.bind_eq_some_iff.mp h
      obtain ⟨y, e2, rfl⟩ := Option.map_eq_some_iff.mp h
      exact g_idx (hr.gt P cp Γ hc _ _ e1) (hr.gt P cp Γ hc _ _ e2) hn
    · cases h
end
end L2.NB
set_option Elab.async false
set_option linter.all false
set_option maxRecDepth 100000
/-! NB16: built-ins, calls, comprehensions, all expressions. -/
namespace L2.NB
open PySem PySem.Spec PyProof.Rows
section
variable {P : Prog} {cp : Cp} {Γ : Ctx} {r : Rec} {k : CallT}
theorem b1B {b : Bi} {x : Str} {id : String} {a : Expr} {ca : E} {p pos : Pos} {rr : PySem.W.Frag → List V → Hp → VK → Prop} (hcall : ∀ X, Γ.Has X → CallR X (.builtin id) (rr X.K)) (op : ∀ K, OpN K (rr K) (biD b)) (hv : bootBuiltins x = some (.builtin id)) (hx : x ≠ "__name__") (hd : (x == ("__debug__" : Str)) = false)
    (hb : Blt Γ x) (ha : GT Γ k a ca) (hn : noStar a = true) (hs : isStarC ca = false) : GE Γ k (.Call (.Name x p) [a] [] pos) (.bi b [ca]) :=
  g_b1 ha (op Γ.K) (fun X hX ta pa => by have hK := hX.K; rw [← hK]; exact pe_callB (hcall X hX) (hX.gl hb.1) (hX.mgn hb.2) hv (pa_cons pa pa_nil (starEach_cons hn)) hx hd (starEach_cons hn) rfl) hs
theorem b1T {b : Bi} {x : Str} {id : String} {a : Expr} {ca : E} {p pos : Pos} {rr : PySem.W.Frag → List V → Hp → VK → Prop} (hcall : ∀ X, Γ.Has X → CallR X (.type id) (rr X.K)) (op : ∀ K, OpN K (rr K) (biD b)) (hv : bootBuiltins x = some (.type id)) (hx : x ≠ "__name__") (hd : (x == ("__debug__" : Str)) = false)
    (hb : Blt Γ x) (ha : GT Γ k a ca) (hn : noStar a = true) (hs : isStarC ca = false) : GE Γ k (.Call (.Name x p) [a] [] pos) (.bi b [ca]) :=
  g_b1 ha (op Γ.K) (fun X hX ta pa => by have hK := hX.K; rw [← hK]; exact pe_callTy (hcall X hX) (hX.gl hb.1) (hX.mgn hb.2) hv (pa_cons pa pa_nil (starEach_cons hn)) hx hd (starEach_cons hn) rfl) hs
theorem b2B {b : Bi} {x : Str} {id : String} {a a' : Expr} {ca ca' : E} {p pos : Pos} {rr : PySem.W.Frag → List V → Hp → VK → Prop} (hcall : ∀ X, Γ.Has X → CallR X (.builtin id) (rr X.K)) (op : ∀ K, OpN K (rr K) (biD b)) (hv : bootBuiltins x = some (.builtin id)) (hx : x ≠ "__name__") (hd : (x == ("__debug__" : Str)) = false)
    (hb : Blt Γ x) (ha : GT Γ k a ca) (ha' : GT Γ k a' ca') (hn : noStar a = true) (hn' : noStar a' = true) (hs : isStarC ca = false) (hs' : isStarC ca' = false) : GE Γ k (.Call (.Name x p) [a, a'] [] pos) (.bi b [ca, ca']) :=
  g_b2 ha ha' (op Γ.K) (fun X hX ta tb pa pb => by have hK := hX.K; rw [← hK]; exact pe_callB (hcall X hX) (hX.gl hb.1) (hX.mgn hb.2) hv (pa_cons pa (pa_cons pb pa_nil (starEach_cons hn')) (starEach_cons hn)) hx hd (starEach_cons hn) (by rw [starEach_cons hn']; rfl)) hs hs'
/-- built-ins of one argument -/
def bi1 : List (Str × Bi) := [("len", .len), ("tuple", .tup), ("list", .lst), ("min", .min), ("max", .max), ("sum", .sum), ("abs", .abs), ("int", .int), ("all", .all), ("any", .any), ("sorted", .sorted), ("repr", .repr), ("str", .str)]
theorem bi1_ok {x : Str} {b : Bi} {a : Expr} {ca : E} {p pos : Pos} (h : (x, b) ∈ bi1) (hb : Blt Γ x) (ha : GT Γ k a ca) (hn : noStar a = true) (hs : isStarC ca = false) : GE Γ k (.Call (.Name x p) [a] [] pos) (.bi b [ca]) := by
  simp only [bi1, List.mem_cons, Prod.mk.injEq, List.not_mem_nil, or_false] at h
  rcases h with ⟨rfl, rfl⟩ | ⟨rfl, rfl⟩ | ⟨rfl, rfl⟩ | ⟨rfl, rfl⟩ | ⟨rfl, rfl⟩ | ⟨rfl, rfl⟩ | ⟨rfl, rfl⟩ | ⟨rfl, rfl⟩ | ⟨rfl, rfl⟩ | ⟨rfl, rfl⟩ | ⟨rfl, rfl⟩ | ⟨rfl, rfl⟩ | ⟨rfl, rfl⟩
  · exact b1B (fun X hX => call_len) (fun K => opN_len) (by decide +kernel) (by decide) (by decide) hb ha hn hs
  · exact b1T (fun X hX => call_tuple_of) (fun K => opN_tup) (by decide +kernel) (by decide) (by decide) hb ha hn hs
  · exact b1T (fun X hX => call_list_of) (fun K => opN_lst) (by decide +kernel) (by decide) (by decide) hb ha hn hs
  · exact b1B (rr := rMinA) (fun X hX => cr_minA hX.calm) (fun K => opN_min) (by decide +kernel) (by decide) (by decide) hb ha hn hs
  · exact b1B (rr := rMaxA) (fun X hX => cr_maxA hX.calm) (fun K => opN_max) (by decide +kernel) (by decide) (by decide) hb ha hn hs
  · exact b1B (rr := rSumA) (fun X hX => cr_sumA hX.calm) (fun K => opN_sum) (by decide +kernel) (by decide) (by decide) hb ha hn hs
  · exact b1B (rr := fun _ => _) (fun X hX => call_abs) (fun K => opN_abs) (by decide +kernel) (by decide) (by decide) hb ha hn hs
  · exact b1T (rr := fun _ => _) (fun X hX => call_int1) (fun K => opN_int) (by decide +kernel) (by decide) (by decide) hb ha hn hs
  · exact b1B (rr := rAllA) (fun X hX => cr_allA hX.calm) (fun K => opN_all) (by decide +kernel) (by decide) (by decide) hb ha hn hs
  · exact b1B (rr := rAnyA) (fun X hX => cr_anyA hX.calm) (fun K => opN_any) (by decide +kernel) (by decide) (by decide) hb ha hn hs
  · exact b1B (rr := rSortedI) (fun X hX => cr_sortedI) (fun K => opN_sorted) (by decide +kernel) (by decide) (by decide) hb ha hn hs
  · exact b1B (rr := rRepr) (fun X hX => call_repr hX.gd (by have := hX.hu; omega)) (fun K => opN_repr) (by decide +kernel) (by decide) (by decide) hb ha hn hs
  · exact b1T (rr := fun _ => _) (fun X hX => call_str_int) (fun K => opN_str) (by decide +kernel) (by decide) (by decide) hb ha hn hs
def bi2 : List (Str × Bi) := [("min", .min2), ("max", .max2)]
theorem bi2_ok {x : Str} {b : Bi} {a a' : Expr} {ca ca' : E} {p pos : Pos} (h : (x, b) ∈ bi2) (hb : Blt Γ x) (ha : GT Γ k a ca) (ha' : GT Γ k a' ca') (hn : noStar a = true) (hn' : noStar a' = true) (hs : isStarC ca = false) (hs' : isStarC ca' = false) : GE Γ k (.Call (.Name x p) [a, a'] [] pos) (.bi b [ca, ca']) := by
  simp only [bi2, List.mem_cons, Prod.mk.injEq, List.not_mem_nil, or_false] at h
  rcases h with ⟨rfl, rfl⟩ | ⟨rfl, rfl⟩
  · exact b2B (rr := fun _ => _) (fun X hX => call_min2 hX.calm) (fun K => opN_min2) (by decide +kernel) (by decide) (by decide) hb ha ha' hn hn' hs hs'
  · exact b2B (rr := fun _ => _) (fun X hX => call_max2 hX.calm) (fun K => opN_max2) (by decide +kernel) (by decide) (by decide) hb ha ha' hn hn' hs hs'
def bltB (cp : Cp) (x : Str) : Bool := cp.bl.contains x && glB cp.sc x
theorem bltB_ok (hc : CpOk P cp Γ) {x : Str} (h : bltB cp x = true) : Blt Γ x := by
  unfold bltB at h
  rw [Bool.and_eq_true] at h
  exact ⟨by rw [hc.sc]; exact gl_of h.2, hc.bl x (by simpa using h.1)⟩
/-! ### ranges -/
def cRg (r : Rec) (cp : Cp) : Expr → Option E
  | .Call (.Name x _) [a] [] _ => if (x == ("range" : Str) && bltB cp x && noStar a) = true then (r.e cp true a).map .rng1 else none
  | .Call (.Name x _) [a, b] [] _ => if (x == ("range" : Str) && bltB cp x && noStar a && noStar b) = true then (r.e cp true a).bind fun u => (r.e cp true b).map fun v => .rng2 u v else none
  | _ => none
theorem cRg_r (hr : RecOk r) (hc : CpOk P cp Γ) {e : Expr} {c : E} (h : cRg r cp e = some c) : GR Γ (callN P Γ.n) e c ∧ isStarC c = false ∧ noStar e = true := by
  unfold cRg at h
  split at h
  · split at h
    · rename_i hx
      simp only [Bool.and_eq_true, beq_iff_eq] at hx
      obtain ⟨⟨hx, hb⟩, hn⟩ := hx
      subst hx
      obtain ⟨u, e1, rfl⟩ := Option.map_eq_some_iff.mp h
      exact ⟨r_1 (hr.gt P cp Γ hc _ _ e1) hn (bltB_ok hc hb), rfl, rfl⟩
    · cases h
  · split at h
    · rename_i hx
      simp only [Bool.and_eq_true, beq_iff_eq] at hx
      obtain ⟨⟨⟨hx, hb⟩, hn⟩, hn'⟩ := hx
      subst hx
      obtain ⟨u, e1, h⟩ := Option.bind_eq_some_iff.mp h
      obtain ⟨w, e2, rfl⟩ := Option.map_eq_some_iff.mp h
      exact ⟨r_2 (hr.gt P cp Γ hc _ _ e1) (hr.gt P cp Γ hc _ _ e2) hn hn' (bltB_ok hc hb), rfl, rfl⟩
    · cases h
  · cases h
theorem cRg_w (hr : RecOk r) (hc : CpOk P cp Γ) {tg e : Expr} {c : E} (h : cRg r cp e = some c) : GI Γ (callN P Γ.n) tg e c ∧ GF Γ (callN P Γ.n) tg e c := by
  unfold cRg at h
  split at h
  · split at h
    · rename_i hx
      simp only [Bool.and_eq_true, beq_iff_eq] at hx
      obtain ⟨⟨hx, hb⟩, hn⟩ := hx
      subst hx
      obtain ⟨u, e1, rfl⟩ := Option.map_eq_some_iff.mp h
      exact gi_of (wi_rng1 (hr.gt P cp Γ hc _ _ e1) hn (bltB_ok hc hb))
    · cases h
  · split at h
    · rename_i hx
      simp only [Bool.and_eq_true, beq_iff_eq] at hx
      obtain ⟨⟨⟨hx, hb⟩, hn⟩, hn'⟩ := hx
      subst hx
      obtain ⟨u, e1, h⟩ := Option.bind_eq_some_iff.mp h
      obtain ⟨w, e2, rfl⟩ := Option.map_eq_some_iff.mp h
      exact gi_of (wi_rng2 (hr.gt P cp Γ hc _ _ e1) (hr.gt P cp Γ hc _ _ e2) hn hn' (bltB_ok hc hb))
    · cases h
  · cases h
/-! ### isinstance -/
def tyOf : Expr → Option Ty
  | .Name x _ => if (x == ("int" : Str)) = true then some .int else if (x == ("bool" : Str)) = true then some .bool else if (x == ("str" : Str)) = true then some .str else if (x == ("tuple" : Str)) = true then some .tuple else if (x == ("list" : Str)) = true then some .list else none
  | _ => none
theorem tyOf_ok {e : Expr} {u : Ty} (h : tyOf e = some u) : ∃ p, e = .Name (Str.ofString u.name) p := by
  unfold tyOf at h
  split at h
  · rename_i x p
    repeat' split at h
    all_goals first | (cases h; done) | (cases h; rename_i hx; exact ⟨p, by rw [eq_of_beq hx]; rfl⟩)
  · cases h
def tysOf : List Expr → Option (List Ty)
  | [] => some []
  | e :: es => (tyOf e).bind fun u => (tysOf es).map fun us => u :: us
theorem tysOf_ok : ∀ {es : List Expr} {us : List Ty}, tysOf es = some us → ∃ ps : List Pos, es = (us.zip ps).map (fun q => Expr.Name (Str.ofString q.1.name) q.2) ∧ ps.length = us.length
  | [], us, h => by cases h; exact ⟨[], rfl, rfl⟩
  | e :: es, us, h => by
    obtain ⟨u, e1, h⟩ := Option.bind_eq_some_iff.mp (show ((tyOf e).bind fun u => (tysOf es).map fun us => u :: us) = some us from h)
    obtain ⟨us', e2, rfl⟩ := Option.map_eq_some_iff.mp h
    obtain ⟨p, rfl⟩ := tyOf_ok e1
    obtain ⟨ps, rfl, hl⟩ := tysOf_ok e2
    exact ⟨p :: ps, rfl, congrArg Nat.succ hl⟩
def tyB (cp : Cp) (u : Ty) : Bool := bltB cp (Str.ofString u.name)
def cIsi (r : Rec) (cp : Cp) (a : Expr) : Expr → Option E
  | .Tuple es _ _ => (tysOf es).bind fun us => if (noStar a && us.all (tyB cp) && decide (us.length ≤ 10)) = true then (r.e cp true a).map fun x => .isi x us else none
  | e => (tyOf e).bind fun u => if (noStar a && tyB cp u) = true then (r.e cp true a).map fun x => .isi x [u] else none
theorem cIsi_ok (hr : RecOk r) (hc : CpOk P cp Γ) {a t : Expr} {c : E} {p pos : Pos} (hb : Blt Γ "isinstance") (h : cIsi r cp a t = some c) : GE Γ (callN P Γ.n) (.Call (.Name "isinstance" p) [a, t] [] pos) c := by
  unfold cIsi at h
  split at h
  · obtain ⟨us, e1, h⟩ := Option.bind_eq_some_iff.mp h
    split at h
    · rename_i hx
      simp only [Bool.and_eq_true, decide_eq_true_eq] at hx
      obtain ⟨x, e2, rfl⟩ := Option.map_eq_some_iff.mp h
      exact g_isiT (hr.gt P cp Γ hc _ _ e2) hx.1.1 hb (fun u hu => bltB_ok hc (List.all_eq_true.mp hx.1.2 u hu)) (tysOf_ok e1) hx.2
    · cases h
  · obtain ⟨u, e1, h⟩ := Option.bind_eq_some_iff.mp h
    split at h
    · rename_i hx
      simp only [Bool.and_eq_true] at hx
      obtain ⟨x, e2, rfl⟩ := Option.map_eq_some_iff.mp h
      obtain ⟨p2, rfl⟩ := tyOf_ok e1
      exact g_isi (hr.gt P cp Γ hc _ _ e2) hx.1 hb (bltB_ok hc hx.2)
    · cases h
end
end L2.NB
set_option Elab.async false
set_option linter.all false
set_option maxRecDepth 100000
/-! NB17: calls, comprehensions, all expressions; statements. -/
namespace L2.NB
open PySem PySem.Spec PyProof.Rows
section
variable {P : Prog} {cp : Cp} {Γ : Ctx} {r : Rec}
/-- a built-in's call -/
def cBi (r : Rec) (cp : Cp) (x : Str) : List Expr → Option E
  | [a] => if (bltB cp x && noStar a) = true then
      (match cRg r cp a with
      | some c => if x == ("list" : Str) then some (.bi .lstRg [c]) else if x == ("tuple" : Str) then some (.bi .tupRg [c]) else none
      | none => (bi1.lookup x).bind fun b => (r.e cp true a).bind fun c => if isStarC c = true then none else some (.bi b [c]))
    else none
  | [a, b] => if (bltB cp x && noStar a) = true then
      (if (x == ("isinstance" : Str)) = true then cIsi r cp a b
      else if noStar b = true then (bi2.lookup x).bind fun bb => (r.e cp true a).bind fun c => (r.e cp true b).bind fun d => if (isStarC c || isStarC d) = true then none else some (.bi bb [c, d]) else none)
    else none
  | _ => none
theorem cBi_ok (hr : RecOk r) (hc : CpOk P cp Γ) {x : Str} {es : List Expr} {c : E} {p pos : Pos} (h : cBi r cp x es = some c) : GE Γ (callN P Γ.n) (.Call (.Name x p) es [] pos) c := by
  unfold cBi at h
  split at h
  · split at h
    · rename_i a hx
      rw [Bool.and_eq_true] at hx
      have hb := bltB_ok hc hx.1
      split at h
      · rename_i c' e1
        obtain ⟨g, hs, _⟩ := cRg_r hr hc e1
        split at h
        · rename_i e2
          cases h
          rw [eq_of_beq e2] at hb ⊢
          exact g_lstRg g hx.2 hs hb
        · split at h
          · rename_i e2
            cases h
            rw [eq_of_beq e2] at hb ⊢
            exact g_tupRg g hx.2 hs hb
          · cases h
      · obtain ⟨b, e2, h⟩ := Option.bind_eq_some_iff.mp h
        obtain ⟨c', e3, h⟩ := Option.bind_eq_some_iff.mp h
        split at h
        · cases h
        · rename_i hs
          cases h
          exact bi1_ok (lookup_mem e2) hb (hr.gt P cp Γ hc _ _ e3) hx.2 (by simpa using hs)
    · cases h
  · split at h
    · rename_i a b hx
      rw [Bool.and_eq_true] at hx
      have hb := bltB_ok hc hx.1
      split at h
      · rename_i e2
        rw [eq_of_beq e2] at hb ⊢
        exact cIsi_ok hr hc hb h
      · split at h
        · rename_i hn
          obtain ⟨bb, e2, h⟩ := Option.bind_eq_some_iff.mp h
          obtain ⟨c', e3, h⟩ := Option.bind_eq_some_iff.mp h
          obtain ⟨d', e4, h⟩ := Option.bind_eq_some_iff.mp h
          split at h
          · cases h
          · rename_i hs
            cases h
            simp only [Bool.or_eq_true, not_or, Bool.not_eq_true] at hs
            exact bi2_ok (lookup_mem e2) hb (hr.gt P cp Γ hc _ _ e3) (hr.gt P cp Γ hc _ _ e4) hx.2 hn hs.1 hs.2
        · cases h
    · cases h
  · cases h
/-- a call -/
def kwsOf (x : Str) (ks : List (Option Str)) : List (Str × List Str × List Nat) → Option (List Str × List Nat)
  | [] => none
  | (y, ns, perm) :: l => if (x == y && ks == ns.map some) = true then some (ns, perm) else kwsOf x ks l
theorem kwsOf_ok {x : Str} {ks : List (Option Str)} {q : List Str × List Nat} : ∀ {l : List (Str × List Str × List Nat)}, kwsOf x ks l = some q → (x, q.1, q.2) ∈ l ∧ ks = q.1.map some
  | [], h => by cases h
  | (y, ns, perm) :: l, h => by
    unfold kwsOf at h
    split at h
    · rename_i hx
      rw [Bool.and_eq_true] at hx
      cases h
      rw [eq_of_beq hx.1]
      exact ⟨List.mem_cons_self, eq_of_beq hx.2⟩
    · obtain ⟨h1, h2⟩ := kwsOf_ok h
      exact ⟨List.mem_cons_of_mem _ h1, h2⟩
/-- the defs that are lent lists, and give numbers -/
def borrows : List Str := ["_law_hears"]
def cAB (r : Rec) (cp : Cp) : List Expr → Option (List E)
  | [] => some []
  | e :: es => (r.e cp true e).bind fun x => if (noStar e && !isHndC x) = true then (cAB r cp es).map fun ys => x :: ys else none
theorem cAB_ok (hr : RecOk r) (hc : CpOk P cp Γ) : ∀ {es : List Expr} {cs : List E}, cAB r cp es = some cs → GAB Γ (callN P Γ.n) es cs ∧ es.all noStar = true
  | [], cs, h => by
    cases h
    exact ⟨ab_nil, rfl⟩
  | e :: es, cs, h => by
    unfold cAB at h
    obtain ⟨x, e1, h⟩ := Option.bind_eq_some_iff.mp h
    split at h
    · rename_i hx
      simp only [Bool.and_eq_true, Bool.not_eq_true'] at hx
      obtain ⟨ys, e2, rfl⟩ := Option.map_eq_some_iff.mp h
      obtain ⟨g, al⟩ := cAB_ok hr hc e2
      exact ⟨ab_cons (hr.gt P cp Γ hc _ _ e1) g hx.1 hx.2, by rw [List.all_cons, hx.1, al]; rfl⟩
    · cases h
def cCall (r : Rec) (cp : Cp) (x : Str) (es : List Expr) (kw : List Keyword) : Option E :=
  if (cp.fs.contains x && glB cp.sc x && nameOk x) = true then
    match es, kw with
    | [], [] => some (.call x [])
    | e :: l, [] => if borrows.contains x = true then (cAB r cp (e :: l)).map fun cs => .callB x cs else (cA r cp (e :: l)).map fun cs => .call x cs
    | [], q :: l => (kwsOf x ((q :: l).map (·.arg)) cp.kws).bind fun t => (cK r cp (q :: l)).map fun cs => .callK x cs t.2
    | _, _ => none
  else match kw with
    | [] => cBi r cp x es
    | _ => none
theorem cCall_ok (hr : RecOk r) (hc : CpOk P cp Γ) {x : Str} {es : List Expr} {kw : List Keyword} {c : E} {p pos : Pos} (h : cCall r cp x es kw = some c) : GE Γ (callN P Γ.n) (.Call (.Name x p) es kw pos) c := by
  unfold cCall at h
  split at h
  · rename_i hx
    simp only [Bool.and_eq_true] at hx
    have hf := hc.fs x (by simpa using hx.1.1)
    have hg : Γ.sc.names.lookup x = some .globalImplicit := by rw [hc.sc]; exact gl_of hx.1.2
    have hd := (nameOk_of hx.2).1
    split at h
    · cases h
      exact g_call0 hc.Fs hf hg hd
    · split at h
      · obtain ⟨cs, e1, rfl⟩ := Option.map_eq_some_iff.mp h
        obtain ⟨g, al⟩ := cAB_ok hr hc e1
        exact g_callB hc.Fs hf hg g hd al
      · obtain ⟨cs, e1, rfl⟩ := Option.map_eq_some_iff.mp h
        obtain ⟨g, al⟩ := cA_ok hr hc e1
        exact g_call hc.Fs hf hg g hd al
    · obtain ⟨t, e1, h⟩ := Option.bind_eq_some_iff.mp h
      obtain ⟨cs, e2, rfl⟩ := Option.map_eq_some_iff.mp h
      obtain ⟨g, hl⟩ := cK_ok hr hc e2
      obtain ⟨h1, h2⟩ := kwsOf_ok e1
      refine g_callK hc.Fs hf h1 hg g hd h2 ?_
      rw [hl]
      have := congrArg List.length h2
      rw [List.length_map, List.length_map] at this
      exact this
    · cases h
  · split at h
    · exact cBi_ok hr hc h
    · cases h
/-! ### comprehensions -/
def stoB (cp : Cp) (i : Nat) (x : Str) : Bool := (ixOf cp.N x == some i) && locB cp.sc x && (cp.fn x || (match cp.sc.names.lookup x with | some .local => true | _ => false))
theorem stoB_ok (hc : CpOk P cp Γ) {i : Nat} {x : Str} (h : stoB cp i x = true) : Sto Γ i x := by
  unfold stoB at h
  simp only [Bool.and_eq_true, Bool.or_eq_true] at h
  refine ⟨by rw [hc.N]; exact ixOf_get (eq_of_beq h.1.1), by rw [hc.sc]; exact loc_of h.1.2, ?_⟩
  rcases h.2 with z | z
  · exact .inl (by rw [hc.fn]; exact z)
  · refine .inr ?_
    rw [hc.sc]
    split at z
    · assumption
    · cases z
def cNms (cp : Cp) : List Expr → Option (List Nat)
  | [] => some []
  | .Name x _ :: es => (ixOf cp.N x).bind fun i => if stoB cp i x = true then (cNms cp es).map fun is => i :: is else none
  | _ :: _ => none
theorem cNms_ok (hc : CpOk P cp Γ) : ∀ {es : List Expr} {is : List Nat}, cNms cp es = some is → StoL Γ es is
  | [], is, h => by cases h; trivial
  | e :: es, is, h => by
    cases e <;> first | (cases h; done) | skip
    rename_i x p
    obtain ⟨i, e1, h⟩ := Option.bind_eq_some_iff.mp (show ((ixOf cp.N x).bind fun i => if stoB cp i x = true then (cNms cp es).map fun is => i :: is else none) = some is from h)
    split at h
    · rename_i hs
      obtain ⟨is', e2, rfl⟩ := Option.map_eq_some_iff.mp h
      exact ⟨stoB_ok hc hs, cNms_ok hc e2⟩
    · cases h
def cTg (cp : Cp) : Expr → Option Tg
  | .Name x _ => (ixOf cp.N x).bind fun i => if stoB cp i x = true then some (.nm i) else none
  | .Tuple es _ _ => (cNms cp es).map .tp
  | _ => none
theorem cTg_ok (hc : CpOk P cp Γ) {e : Expr} {g : Tg} (h : cTg cp e = some g) : TG_ Γ e g := by
  unfold cTg at h
  split at h
  · obtain ⟨i, e1, h⟩ := Option.bind_eq_some_iff.mp h
    split at h
    · rename_i hs
      cases h
      exact tg_nm (stoB_ok hc hs)
    · cases h
  · obtain ⟨is, e1, rfl⟩ := Option.map_eq_some_iff.mp h
    exact tg_tp (cNms_ok hc e1)
  · cases h
def isSetE : Expr → Bool
  | .Set _ _ _ => true
  | _ => false
theorem fold_of {e : Expr} (h : isSetE e = false) : ∀ (env : PySem.Env) x, foldedSetIterable e env x = pure x := by
  intro env x
  cases e <;> first | rfl | (cases h; done)
def isTupE : Expr → Bool
  | .Tuple _ _ _ => true
  | _ => false
/-- zip of two, enumerate of one -/
def cZe (r : Rec) (cp : Cp) (m : Bool) (tg : Expr) : Expr → Option E
  | .Call (.Name x _) [a] [] _ => if (isTupE tg && x == ("enumerate" : Str) && bltB cp x && noStar a) = true then (r.e cp m a).map .enum else none
  | .Call (.Name x _) [a, b] [] _ => if (isTupE tg && x == ("zip" : Str) && bltB cp x && noStar a && noStar b) = true then (r.e cp m a).bind fun u => (r.e cp m b).map fun v => .zip u v else none
  | _ => none
theorem isTup_ok {tg : Expr} (h : isTupE tg = true) : ∃ es k p, tg = .Tuple es k p := by
  cases tg <;> first | (cases h; done) | exact ⟨_, _, _, rfl⟩
theorem cZe_gi (hr : RecOk r) (hc : CpOk P cp Γ) {tg e : Expr} {c : E} (h : cZe r cp true tg e = some c) : GI Γ (callN P Γ.n) tg e c := by
  unfold cZe at h
  split at h
  · split at h
    · rename_i hx
      simp only [Bool.and_eq_true, beq_iff_eq] at hx
      obtain ⟨⟨⟨ht, hx⟩, hb⟩, hn⟩ := hx
      subst hx
      obtain ⟨es, kk, tp, rfl⟩ := isTup_ok ht
      obtain ⟨u, e1, rfl⟩ := Option.map_eq_some_iff.mp h
      exact i_enum (hr.gt P cp Γ hc _ _ e1) hn (bltB_ok hc hb)
    · cases h
  · split at h
    · rename_i hx
      simp only [Bool.and_eq_true, beq_iff_eq] at hx
      obtain ⟨⟨⟨⟨ht, hx⟩, hb⟩, hn⟩, hn'⟩ := hx
      subst hx
      obtain ⟨es, kk, tp, rfl⟩ := isTup_ok ht
      obtain ⟨u, e1, h⟩ := Option.bind_eq_some_iff.mp h
      obtain ⟨w, e2, rfl⟩ := Option.map_eq_some_iff.mp h
      exact i_zip (hr.gt P cp Γ hc _ _ e1) (hr.gt P cp Γ hc _ _ e2) hn hn' (bltB_ok hc hb)
    · cases h
  · cases h
theorem cZe_gf (hr : RecOk r) (hc : CpOk P cp Γ) {tg e : Expr} {c : E} (h : cZe r cp false tg e = some c) : GF Γ (callN P Γ.n) tg e c := by
  unfold cZe at h
  split at h
  · split at h
    · rename_i hx
      simp only [Bool.and_eq_true, beq_iff_eq] at hx
      obtain ⟨⟨⟨ht, hx⟩, hb⟩, hn⟩ := hx
      subst hx
      obtain ⟨es, kk, tp, rfl⟩ := isTup_ok ht
      obtain ⟨u, e1, rfl⟩ := Option.map_eq_some_iff.mp h
      exact f_enum (hr.ge P cp Γ hc _ _ e1) hn (bltB_ok hc hb)
    · cases h
  · split at h
    · rename_i hx
      simp only [Bool.and_eq_true, beq_iff_eq] at hx
      obtain ⟨⟨⟨⟨ht, hx⟩, hb⟩, hn⟩, hn'⟩ := hx
      subst hx
      obtain ⟨es, kk, tp, rfl⟩ := isTup_ok ht
      obtain ⟨u, e1, h⟩ := Option.bind_eq_some_iff.mp h
      obtain ⟨w, e2, rfl⟩ := Option.map_eq_some_iff.mp h
      exact f_zip (hr.ge P cp Γ hc _ _ e1) (hr.ge P cp Γ hc _ _ e2) hn hn' (bltB_ok hc hb)
    · cases h
  · cases h
/-- what is walked in a comprehension; in a loop -/
def cIt (r : Rec) (cp : Cp) (m : Bool) (tg e : Expr) : Option E := match cRg r cp e with
  | some c => some c
  | none => match cZe r cp m tg e with
    | some c => some c
    | none => if isSetE e = true then none else r.e cp m e
theorem cIt_ge (hr : RecOk r) (hc : CpOk P cp Γ) {tg e : Expr} {c : E} (h : cIt r cp true tg e = some c) : GI Γ (callN P Γ.n) tg e c := by
  unfold cIt at h
  split at h
  · rename_i e1; cases h; exact (cRg_w hr hc e1).1
  · split at h
    · rename_i e1; cases h; exact cZe_gi hr hc e1
    · split at h
      · cases h
      · exact i_seq (hr.gt P cp Γ hc _ _ h)
theorem cIt_gf (hr : RecOk r) (hc : CpOk P cp Γ) {tg e : Expr} {c : E} (h : cIt r cp false tg e = some c) : GF Γ (callN P Γ.n) tg e c := by
  unfold cIt at h
  split at h
  · rename_i e1; cases h; exact (cRg_w hr hc e1).2
  · split at h
    · rename_i e1; cases h; exact cZe_gf hr hc e1
    · split at h
      · cases h
      · exact f_seq (hr.ge P cp Γ hc _ _ h)
theorem cIt_set {m : Bool} {tg e : Expr} {c : E} (h : cIt r cp m tg e = some c) : isSetE e = false := by
  cases e <;> first | rfl | skip
  exfalso
  unfold cIt at h
  simp [cRg, cZe, isSetE] at h
def Cp.blk (cp : Cp) (scope : Scope) : Cp := { cp with sc := relS scope cp.sc, fn := fun x => scope.names.lookup x == some .cell }
theorem CpOk.blk (hc : CpOk P cp Γ) (scope : Scope) : CpOk P (cp.blk scope) (Γ.blk scope) :=
  ⟨hc.N, by show relS scope Γ.sc = relS scope cp.sc; rw [hc.sc], rfl, hc.cs, hc.bl, hc.fs, hc.Fs⟩
def ownOf (N : List Str) : List (Str × NameKind) → List (Str × Nat)
  | [] => []
  | (x, k) :: l => match k with
    | .local => (match ixOf N x with | some i => (x, i) :: ownOf N l | none => ownOf N l)
    | .cell => (match ixOf N x with | some i => (x, i) :: ownOf N l | none => ownOf N l)
    | _ => ownOf N l
def lcB (cp : Cp) (scope : Scope) (g : Tg) : Bool := let own := ownOf cp.N scope.names
  blkC cp.N cp.sc scope own && g.slots.all (fun i => (own.map (·.2)).contains i) && (own.map (·.2)).all (fun i => g.slots.contains i)
theorem lcB_ok (hc : CpOk P cp Γ) {scope : Scope} {g : Tg} (h : lcB cp scope g = true) : LcOk Γ scope (ownOf cp.N scope.names) g := by
  unfold lcB at h
  simp only [Bool.and_eq_true, List.all_eq_true, List.contains_iff_mem] at h
  exact ⟨by rw [hc.N, hc.sc]; exact blkOk_by h.1.1, h.1.2, h.2⟩
def cLc (r : Rec) (cp : Cp) (elt : Expr) (scope : Scope) : List Comprehension → Option E
  | [⟨tg, it, [], 0⟩] => (cIt r cp true tg it).bind fun ci => (cTg (cp.blk scope) tg).bind fun g => if lcB cp scope g = true then (r.e (cp.blk scope) false elt).map fun ce => .lc ce g ci else none
  | [⟨tg, it, [c], 0⟩] => (cIt r cp true tg it).bind fun ci => (cTg (cp.blk scope) tg).bind fun g => if lcB cp scope g = true then (r.b (cp.blk scope) c).bind fun cc => (r.e (cp.blk scope) false elt).map fun ce => .lcIf ce g ci cc else none
  | _ => none
theorem cLc_ok (hr : RecOk r) (hc : CpOk P cp Γ) {elt : Expr} {scope : Scope} {gs : List Comprehension} {c : E} {pos : Pos} (h : cLc r cp elt scope gs = some c) : GFr Γ (callN P Γ.n) (.ListComp elt gs scope pos) c ∧ Lists (callN P Γ.n) c := by
  unfold cLc at h
  split at h
  · obtain ⟨ci, e1, h⟩ := Option.bind_eq_some_iff.mp h
    obtain ⟨g, e2, h⟩ := Option.bind_eq_some_iff.mp h
    split at h
    · rename_i hl
      obtain ⟨ce, e3, rfl⟩ := Option.map_eq_some_iff.mp h
      exact ⟨g_lc (cIt_ge hr hc e1) (lcB_ok hc hl) (cTg_ok (hc.blk scope) e2) (hr.ge P _ _ (hc.blk scope) _ _ e3) (fold_of (cIt_set e1)), lc_lists⟩
    · cases h
  · obtain ⟨ci, e1, h⟩ := Option.bind_eq_some_iff.mp h
    obtain ⟨g, e2, h⟩ := Option.bind_eq_some_iff.mp h
    split at h
    · rename_i hl
      obtain ⟨cc, e4, h⟩ := Option.bind_eq_some_iff.mp h
      obtain ⟨ce, e3, rfl⟩ := Option.map_eq_some_iff.mp h
      exact ⟨g_lcIf (cIt_ge hr hc e1) (lcB_ok hc hl) (cTg_ok (hc.blk scope) e2) (hr.gb P _ _ (hc.blk scope) _ _ e4) (hr.ge P _ _ (hc.blk scope) _ _ e3) (fold_of (cIt_set e1)), lcIf_lists⟩
    · cases h
  · cases h
/-! ### all expressions -/
def stepE (r : Rec) (cp : Cp) : Expr → Option E
  | .Constant (.int i) _ _ => some (.cst (.int i))
  | .Constant (.bool b) _ _ => some (.cst (.bool b))
  | .Constant .none _ _ => some (.cst .none)
  | .Constant (.str x) _ _ => some (.cst (.str x))
  | .BinOp a o b _ => cBin r cp a o b
  | .UnaryOp .USub a _ => (r.e cp true a).map .neg
  | .UnaryOp .Not a _ => (r.e cp true a).map .not
  | .Compare a os bs _ => cCmp r cp a os bs
  | .BoolOp o es pos => cBool r cp o pos es
  | .IfExp c a b _ => (r.b cp c).bind fun x => (r.e cp false a).bind fun y => (r.e cp false b).map fun z => .ite x y z
  | .Tuple es _ _ => (cL r cp es).map .tup
  | .List es _ => (cL r cp es).map .lst
  | .Subscript a b _ => cSub r cp a b
  | .Call (.Name x _) es kw _ => cCall r cp x es kw
  | .Call (.Attribute (.Name x p) m apos) [e] [] cpos => if (m == ("index" : Str) && (apos.endLine == cpos.line) && noStar e) = true then (r.e cp true (.Name x p)).bind fun a => (r.e cp false e).bind fun b => if (isStarC a || isStarC b) = true then none else some (.bi .index [a, b]) else none
  | .ListComp elt gs scope _ => cLc r cp elt scope gs
  | _ => none
theorem stepE_ok (hr : RecOk r) (hc : CpOk P cp Γ) {e : Expr} {c : E} (h : stepE r cp e = some c) : GE Γ (callN P Γ.n) e c := by
  unfold stepE at h
  split at h
  · cases h; exact g_int
  · cases h; exact g_bool
  · cases h; exact g_none
  · cases h; exact g_str
  · exact cBin_ok hr hc h
  · obtain ⟨x, e1, rfl⟩ := Option.map_eq_some_iff.mp h
    exact g_neg (hr.gt P cp Γ hc _ _ e1)
  · obtain ⟨x, e1, rfl⟩ := Option.map_eq_some_iff.mp h
    exact g_not (hr.gt P cp Γ hc _ _ e1)
  · exact (cCmp_ok hr hc h).1
  · exact cBool_ok hr hc h
  · obtain ⟨x, e1, h⟩ := Option.bind_eq_some_iff.mp h
    obtain ⟨y, e2, h⟩ := Option.bind_eq_some_iff.mp h
    obtain ⟨z, e3, rfl⟩ := Option.map_eq_some_iff.mp h
    exact g_ite (hr.gb P cp Γ hc _ _ e1) (hr.ge P cp Γ hc _ _ e2) (hr.ge P cp Γ hc _ _ e3)
  · obtain ⟨x, e1, rfl⟩ := Option.map_eq_some_iff.mp h
    exact g_tup (cL_ok hr hc e1)
  · obtain ⟨x, e1, rfl⟩ := Option.map_eq_some_iff.mp h
    exact g_lst (cL_ok hr hc e1)
  · exact cSub_ok hr hc h
  · exact cCall_ok hr hc h
  · split at h
    · rename_i hx
      simp only [Bool.and_eq_true] at hx
      obtain ⟨⟨hm, hl⟩, hn⟩ := hx
      obtain ⟨a, e1, h⟩ := Option.bind_eq_some_iff.mp h
      obtain ⟨b, e2, h⟩ := Option.bind_eq_some_iff.mp h
      split at h
      · cases h
      · rename_i hs
        cases h
        rw [eq_of_beq hm]
        simp only [Bool.or_eq_true, not_or, Bool.not_eq_true] at hs
        exact g_index (hr.gt P cp Γ hc _ _ e1) (hr.ge P cp Γ hc _ _ e2) hn hl hs.1 hs.2
    · cases h
  · exact (cLc_ok hr hc h).1.ge (cLc_ok (pos := ⟨0, 0, 0, 0⟩) hr hc h).2
  · cases h
/-- never evaluated -/
def badE : E := .rng3 .no .no .no
theorem g_bad {k : CallT} {R : HA → (Addr → Prop) → Hp → V → PyData → Prop} {e : Expr} : G R Γ k e badE := ⟨fun _ _ _ => False, fun X hX => ⟨fun _ _ _ _ _ _ h => h.elim⟩, fun A O v s σ H Q d s' F e q => by unfold badE at e; rw [ev] at e; cases e⟩
theorem b_bad {k : CallT} {e : Expr} : GB Γ k e badE := ⟨fun _ _ _ => False, fun X hX => ⟨fun _ _ _ _ _ _ h => h.elim⟩, fun A O v s σ H Q d s' F e q => by
  unfold tst at e
  obtain ⟨x, s1, e1, e2⟩ := bind_ok e
  unfold badE at e1
  rw [ev] at e1
  cases e1⟩
def stepM (r : Rec) (cp : Cp) (m : Bool) : Expr → Option E
  | .Name x _ => cName cp m x
  | .Starred _ _ => none
  | e => (stepE r cp e).or (some badE)
def stepB' (r : Rec) (cp : Cp) (e : Expr) : Option E := (stepB r cp e).or (some badE)
theorem stepM_ge (hr : RecOk r) (hc : CpOk P cp Γ) {e : Expr} {c : E} (h : stepM r cp false e = some c) : GE Γ (callN P Γ.n) e c := by
  unfold stepM at h
  split at h
  · exact (cName_ok hc h).1 rfl
  · cases h
  · rcases Option.or_eq_some_iff.mp h with h | ⟨_, h⟩
    · exact stepE_ok hr hc h
    · cases h; exact g_bad
theorem stepM_gt (hr : RecOk r) (hc : CpOk P cp Γ) {m : Bool} {e : Expr} {c : E} (h : stepM r cp m e = some c) : GT Γ (callN P Γ.n) e c := by
  unfold stepM at h
  split at h
  · exact (cName_ok hc h).2
  · cases h
  · rcases Option.or_eq_some_iff.mp h with h | ⟨_, h⟩
    · exact (stepE_ok hr hc h).t
    · cases h; exact g_bad
def recN : Nat → Rec
  | 0 => ⟨fun _ _ _ => none, fun _ _ => none⟩
  | n + 1 => ⟨stepM (recN n), stepB' (recN n)⟩
theorem recN_ok : ∀ n, RecOk (recN n)
  | 0 => ⟨fun _ _ _ _ _ _ h => (by cases h), fun _ _ _ _ _ _ h => (by cases h), fun _ _ _ _ _ _ h => (by cases h)⟩
  | n + 1 => ⟨fun P cp Γ hc e c h => stepM_ge (recN_ok n) hc h, fun P cp Γ hc e c h => stepM_gt (recN_ok n) hc h, fun P cp Γ hc e c h => (Option.or_eq_some_iff.mp h).elim (stepB_ok (recN_ok n) hc) fun z => (by cases z.2; exact b_bad)⟩
end
end L2.NB
set_option Elab.async false
set_option linter.all false
set_option maxRecDepth 100000
/-! NB18: statements from the text's trees. -/
namespace L2.NB
open PySem PySem.Spec PyProof.Rows
section
variable {P : Prog} {cp : Cp} {Γ : Ctx} {r : Rec} {k : CallT}
/-! ### lists that are new -/
theorem RepL.new {K : PySem.W.Frag} {A : HA} {O : Addr → Prop} {H : Hp} {vs : List V} {ds : List PyData} {p : Addr} {o : HO} (h : RepL K (Bo A O) H vs ds) (hp : H p = none) : RepL K (Bo A (oD O p)) (upd H p o) vs ds :=
  h.mono (fun a z => z.elim (fun z => .inl (.inl z)) fun z => z.elim (fun z => .inl (.inr z)) fun z => .inr (by rw [z]; exact hp)) fun a u e n => by rw [upd_ne (ne_of_none e hp)]; exact e
theorem fr_of {e : Expr} {c : E} {t : TE} (hn : notComp e = true) (p : ∀ X, Γ.Has X → PE X e t) (g : GoodF Γ k c t) : GFr Γ k e c := ⟨t, p, stb_of hn p, g⟩
theorem fr_lst {es : List Expr} {cs : List E} {pos : Pos} (h : GL Γ k es cs) : GFr Γ k (.List es pos) (.lst cs) := by
  obtain ⟨t, p, g⟩ := h
  refine fr_of rfl (fun X hX => pe_lst (p X hX)) fun A O v s σ H Q d s' F e q => ?_
  rw [ev] at e
  obtain ⟨xs, s1, e1, e⟩ := bind_ok e
  unfold lstOk at e
  obtain ⟨hz, e⟩ := if_ok e
  obtain ⟨hd, rfl⟩ := pure_ok e
  cases hd
  refine g A O v s σ H _ _ _ F e1 fun us H1 h1 t1 r1 => ⟨by rw [r1.length]; exact hz, fun p hp => ?_⟩
  have F1 := F.step h1 t1
  exact q p us _ (F1.toFH.upd hp).hr (t1.trans (Step.upd hp)) (t1.none F.hr h1 hp) upd_same (r1.new hp)
theorem fr_list {a : Expr} {ca : E} {p pos : Pos} (hb : Blt Γ "list") (ha : GT Γ k a ca) (hn : noStar a = true) (hs : isStarC ca = false) : GFr Γ k (.Call (.Name "list" p) [a] [] pos) (.bi .lst [ca]) := by
  obtain ⟨ta, pa, ga⟩ := ha
  refine fr_of (t := tCB (fun xs H Q => ∃ p ys, xs = [.ref p] ∧ (SqL Γ.K H p ys ∨ SqT Γ.K H p ys) ∧ ∀ l, H l = none → Q (.ref l) (upd H l (.lst ys))) (tCons ta tNil)) rfl (fun X hX => by have hK := hX.K; rw [← hK]; exact pe_callTy call_list_of (hX.gl hb.1) (hX.mgn hb.2) (by decide +kernel) (pa_cons (pa X hX) pa_nil (starEach_cons hn)) (by decide) (by decide) (starEach_cons hn) rfl) fun A O v s σ H Q d s' F e q => ?_
  rw [ev] at e
  obtain ⟨x, e1, e2⟩ := evL1 hs e
  refine ga A O v s σ H _ x s' F e1 fun x' H1 h1 t1 r1 => ?_
  have F1 := F.step h1 t1
  have key : ∀ (l : Addr) (ys : List V), x' = .ref l → (SqL Γ.K H1 l ys ∨ SqT Γ.K H1 l ys) → RepL Γ.K (Bo A O) H1 ys d →
      ∃ p ys, [x'] = [V.ref p] ∧ (SqL Γ.K H1 p ys ∨ SqT Γ.K H1 p ys) ∧ ∀ l, H1 l = none → Q (.ref l) (upd H1 l (.lst ys)) := fun l ys ex sq rl =>
    ⟨l, ys, by rw [ex], sq, fun p hp => q p ys _ (F1.toFH.upd hp).hr (t1.trans (Step.upd hp)) (t1.none F.hr h1 hp) upd_same (rl.new hp)⟩
  cases x with
  | list xs =>
    cases (show some (PyData.list xs) = some (.list d) from e2)
    obtain ⟨a, vs, ea, q1, rl⟩ := r1.lst_inv
    exact key a vs ea (.inl (.of q1)) rl
  | tuple xs =>
    cases (show some (PyData.list xs) = some (.list d) from e2)
    obtain ⟨a, vs, ea, q1, rl⟩ := r1.tup_inv
    exact key a vs ea (.inr q1.sq) rl
  | _ => cases (show (none : Option PyData) = some (.list d) from e2)
/-- [..] * n, [..] + [..] -/
theorem fr_two {a b : Expr} {ca cb : E} {pos : Pos} {o : Bop} (ho : o = .mul ∨ o = .add) (ha : GT Γ k a ca) (hb : GT Γ k b cb) : GFr Γ k (.BinOp a (opOf o) b pos) (.bin o ca cb) := by
  obtain ⟨ta, pa, ga⟩ := ha
  obtain ⟨tb, pb, gb⟩ := hb
  have main : ∀ (r2 : R2), (∀ (A : HA) (O : Addr → Prop) (H : Hp) (s : S) (x y : V) (u w : PyData) (ds : List PyData) (Q : VK), FH A O s H → Rep1 Γ.K A O H x u → Rep1 Γ.K A O H y w → binD o u w = some (.list ds) →
      (∀ p vs, H p = none → RepL Γ.K (Bo A (oD O p)) (upd H p (.lst vs)) vs ds → Q (.ref p) (upd H p (.lst vs))) → r2 x y H Q) → GoodF Γ k (.bin o ca cb) (tOp r2 ta tb) := fun r2 hr2 A O v s σ H Q ds s' F e q => by
    rw [ev] at e
    obtain ⟨x, y, s1, e1, e2, e3⟩ := ev2_ok e
    refine ga A O v s σ H _ x s1 F e1 fun x' H1 h1 t1 r1 => ?_
    have F1 := F.step h1 t1
    refine gb A O v s1 σ H1 _ y s' F1 e2 fun y' H2 h2 t2 r2 => ?_
    have F2 := F1.step h2 t2
    exact hr2 A O H2 s' x' y' x y ds Q F2.toFH (r1.step F1.toFH t2) r2 e3 fun p vs hp rl => q p vs _ (F2.toFH.upd hp).hr ((t1.trans t2).trans (Step.upd hp)) ((t1.trans t2).none F.hr h2 hp) upd_same rl
  rcases ho with rfl | rfl
  · refine fr_of rfl (fun X hX => pe_op op_rep (pa X hX) (pb X hX)) (main rRep fun A O H s x y u w ds Q F r1 r2 e q => ?_)
    cases u <;> cases w <;> first | (simp [binD] at e; done) | skip
    rename_i l0 n0
    simp only [binD] at e
    split at e
    · rename_i hc
      cases e
      obtain ⟨l, xs, rfl, h1, l1⟩ := r1.lst_inv
      exact ⟨l, _, xs, rfl, r2.int_inv, h1, by omega, hc.2.1, by rw [l1.length]; exact hc.2.2, fun p hp => q p _ hp ((l1.rep _).new hp)⟩
    · cases e
  · refine fr_of rfl (fun X hX => pe_op op_cat (pa X hX) (pb X hX)) (main rCat fun A O H s x y u w ds Q F r1 r2 e q => ?_)
    cases u <;> cases w <;> first | (simp [binD] at e; done) | skip
    simp only [binD] at e
    split at e
    · rename_i hc
      cases e
      obtain ⟨l, xs, rfl, h1, l1⟩ := r1.lst_inv
      obtain ⟨l', ys, rfl, h2, l2⟩ := r2.lst_inv
      exact ⟨l, l', xs, ys, rfl, rfl, h1, h2, by rw [l1.length, l2.length]; exact hc, fun p hp => q p _ hp ((l1.append l2).new hp)⟩
    · cases e
end
end L2.NB
set_option Elab.async false
set_option linter.all false
set_option maxRecDepth 100000
/-! NB19: statements from the text's trees. -/
namespace L2.NB
open PySem PySem.Spec PyProof.Rows
mutual
/-- the names read as values -/
def E.vars : E → List Nat
  | .var i => [i]
  | .bin _ a b => a.vars ++ b.vars
  | .neg a => a.vars
  | .cmp _ a b => a.vars ++ b.vars
  | .chain _ _ a b c => a.vars ++ b.vars ++ c.vars
  | .and a b => a.vars ++ b.vars
  | .or a b => a.vars ++ b.vars
  | .not a => a.vars
  | .ite c a b => c.vars ++ a.vars ++ b.vars
  | .tup es => E.varsL es
  | .lst es => E.varsL es
  | .star a => a.vars
  | .idx a b => a.vars ++ b.vars
  | .sl a b c => a.vars ++ b.vars ++ c.vars
  | .rev a => a.vars
  | .call _ es => E.varsL es
  | .callK _ es _ => E.varsL es
  | .callB _ es => E.varsL es
  | .bi _ es => E.varsL es
  | .isi a _ => a.vars
  | .rng1 a => a.vars
  | .rng2 a b => a.vars ++ b.vars
  | .enum a => a.vars
  | .zip a b => a.vars ++ b.vars
  | .lc e _ it => e.vars ++ it.vars
  | .lcIf e _ it c => e.vars ++ it.vars ++ c.vars
  | _ => []
def E.varsL : List E → List Nat
  | [] => []
  | e :: es => e.vars ++ E.varsL es
end
def fzOf (mu : List Nat) (e : E) : List Nat := e.vars.filter fun i => mu.contains i
section
variable {P : Prog} {cp : Cp} {Γ : Ctx} {r : Rec}
/-! ### lists that are new -/
def cFr (r : Rec) (cp : Cp) : Expr → Option E
  | .List es _ => (cL r cp es).map .lst
  | .ListComp elt gs scope _ => cLc r cp elt scope gs
  | .Call (.Name x _) [a] [] _ => if (x == ("list" : Str) && bltB cp x && noStar a) = true then (r.e cp true a).bind fun c => if isStarC c = true then none else some (.bi .lst [c]) else none
  | .BinOp a .Mult b _ => (r.e cp true a).bind fun x => (r.e cp true b).map fun y => .bin .mul x y
  | .BinOp a .Add b _ => (r.e cp true a).bind fun x => (r.e cp true b).map fun y => .bin .add x y
  | _ => none
theorem cFr_ok (hr : RecOk r) (hc : CpOk P cp Γ) {e : Expr} {c : E} (h : cFr r cp e = some c) : GFr Γ (callN P Γ.n) e c := by
  unfold cFr at h
  split at h
  · obtain ⟨x, e1, rfl⟩ := Option.map_eq_some_iff.mp h
    exact fr_lst (cL_ok hr hc e1)
  · exact (cLc_ok hr hc h).1
  · split at h
    · rename_i hx
      simp only [Bool.and_eq_true] at hx
      obtain ⟨x, e1, h⟩ := Option.bind_eq_some_iff.mp h
      split at h
      · cases h
      · rename_i hs
        cases h
        have hb := bltB_ok hc hx.1.2
        rw [eq_of_beq hx.1.1] at hb ⊢
        exact fr_list hb (hr.gt P cp Γ hc _ _ e1) hx.2 (by simpa using hs)
    · cases h
  · obtain ⟨x, e1, h⟩ := Option.bind_eq_some_iff.mp h
    obtain ⟨y, e2, rfl⟩ := Option.map_eq_some_iff.mp h
    exact fr_two (o := .mul) (.inl rfl) (hr.gt P cp Γ hc _ _ e1) (hr.gt P cp Γ hc _ _ e2)
  · obtain ⟨x, e1, h⟩ := Option.bind_eq_some_iff.mp h
    obtain ⟨y, e2, rfl⟩ := Option.map_eq_some_iff.mp h
    exact fr_two (o := .add) (.inr rfl) (hr.gt P cp Γ hc _ _ e1) (hr.gt P cp Γ hc _ _ e2)
  · cases h
def listsB : E → Bool
  | .lst _ => true
  | .lc _ _ _ => true
  | .lcIf _ _ _ _ => true
  | .bi .lst _ => true
  | .bin .mul (.lst _) _ => true
  | _ => false
theorem listsB_ok {k : CallT} {c : E} (h : listsB c = true) : Lists k c := by
  unfold listsB at h
  split at h
  · intro v s s' d e
    rw [ev] at e
    obtain ⟨xs, s1, e1, e2⟩ := bind_ok e
    unfold lstOk at e2
    obtain ⟨_, e3⟩ := if_ok e2
    obtain ⟨rfl, _⟩ := pure_ok e3
    exact ⟨xs, rfl⟩
  · exact lc_lists
  · exact lcIf_lists
  · intro v s s' d e
    rw [ev] at e
    obtain ⟨xs, s1, e1, e2⟩ := bind_ok e
    obtain ⟨e3, _⟩ := lift_ok e2
    unfold biD at e3
    split at e3 <;> first | (cases e3; done) | skip
    all_goals first | (rename_i hne _; cases hne; done) | (rename_i hne; cases hne; done) | (cases e3; exact ⟨_, rfl⟩)
  · intro v s s' d e
    rw [ev] at e
    obtain ⟨x, s1, e1, e2⟩ := bind_ok e
    obtain ⟨y, s2, e3, e4⟩ := bind_ok e2
    obtain ⟨e5, _⟩ := lift_ok e4
    rw [ev] at e1
    obtain ⟨xs, s3, e6, e7⟩ := bind_ok e1
    unfold lstOk at e7
    obtain ⟨_, e8⟩ := if_ok e7
    obtain ⟨rfl, _⟩ := pure_ok e8
    cases y <;> first | (cases e5; done) | skip
    rename_i k
    have e9 : (if 0 ≤ k ∧ k < 2 ^ 63 ∧ xs.length * k.toNat ≤ sizeLine then some (PyData.list (List.replicate k.toNat xs).flatten) else none) = some d := e5
    split at e9
    · cases e9
      exact ⟨_, rfl⟩
    · cases e9
  · cases h
/-! ### several at once -/
def cP (r : Rec) (cp : Cp) (mu : List Nat) : List Nat → List Expr → Option (List E × List Bool)
  | [], [] => some ([], [])
  | i :: is, e :: es => if noStar e = true then (cP r cp mu is es).bind fun t =>
      if mu.contains i = true then (cFr r cp e).bind fun c => if (listsB c && !isStarC c) = true then some (c :: t.1, true :: t.2) else none
      else (r.e cp false e).bind fun c => if isStarC c = true then none else some (c :: t.1, false :: t.2) else none
  | _, _ => none
theorem cP_ok (hr : RecOk r) (hc : CpOk P cp Γ) {mu : List Nat} : ∀ {is : List Nat} {es : List Expr} {t : List E × List Bool}, cP r cp mu is es = some t → GP Γ (callN P Γ.n) es t.1 t.2 ∧ t.2.length = is.length ∧ es.length = is.length ∧ t.1.length = is.length
  | [], [], t, h => by cases h; exact ⟨p_nil, rfl, rfl, rfl⟩
  | [], _ :: _, t, h => by cases h
  | _ :: _, [], t, h => by cases h
  | i :: is, e :: es, t, h => by
    unfold cP at h
    split at h
    · rename_i hn
      obtain ⟨u, e1, h⟩ := Option.bind_eq_some_iff.mp h
      obtain ⟨g, l1, l2, l3⟩ := cP_ok hr hc e1
      split at h
      · obtain ⟨c, e2, h⟩ := Option.bind_eq_some_iff.mp h
        split at h
        · rename_i hx
          simp only [Bool.and_eq_true, Bool.not_eq_true'] at hx
          cases h
          exact ⟨p_own (cFr_ok hr hc e2) (listsB_ok hx.1) g hn hx.2, congrArg Nat.succ l1, congrArg Nat.succ l2, congrArg Nat.succ l3⟩
        · cases h
      · obtain ⟨c, e2, h⟩ := Option.bind_eq_some_iff.mp h
        split at h
        · cases h
        · rename_i hx
          cases h
          exact ⟨p_val (hr.ge P cp Γ hc _ _ e2) g hn (by simpa using hx), congrArg Nat.succ l1, congrArg Nat.succ l2, congrArg Nat.succ l3⟩
    · cases h
/-- one statement: names that give up what they own, the statement -/
abbrev SC := List Nat × C
def cParS (r : Rec) (cp : Cp) (mu : List Nat) (ts vs : List Expr) : Option SC :=
  if (vs.all (foldedForSure 8) || !vs.all (constantsAlone 8)) = true then
    match swS cp.sc ts vs with
    | some _ => (match ts, vs with
      | [.Name x _, .Name y _], [a, b] => (ixOf cp.N x).bind fun i => (ixOf cp.N y).bind fun j => if (decide (i ≠ j) && decide (cp.sc.names.lookup x = some .local) && decide (cp.sc.names.lookup y = some .local) && decide (swS cp.sc ts vs = some [x, y])) = true then
          (cP r cp mu [i, j] [a, b]).bind fun t => match t with
            | ([c, d], [u, w]) => some (fzOf mu c ++ fzOf mu d, .parF [(i, u), (j, w)] [c, d])
            | _ => none else none
      | [.Name x _, .Name y _, .Name z _], [a, b, e] => (ixOf cp.N x).bind fun i => (ixOf cp.N y).bind fun j => (ixOf cp.N z).bind fun l =>
          if (decide (i ≠ j) && decide (i ≠ l) && decide (j ≠ l) && decide (cp.sc.names.lookup x = some .local) && decide (cp.sc.names.lookup y = some .local) && decide (cp.sc.names.lookup z = some .local) && decide (swS cp.sc ts vs = some [x, y, z])) = true then
          (cP r cp mu [i, j, l] [a, b, e]).bind fun t => match t with
            | ([c, d, f], [u, w, q]) => some (fzOf mu c ++ fzOf mu d ++ fzOf mu f, .parF [(i, u), (j, w), (l, q)] [c, d, f])
            | _ => none else none
      | _, _ => none)
    | none => (cNms cp ts).bind fun is => if (is.any mu.contains && decide (is.length ≤ 1000)) = true then (cP r cp mu is vs).map fun u => (fzOf mu (.tup u.1), .parF (is.zip u.2) u.1)
      else (cL r cp vs).map fun cs => (fzOf mu (.tup cs), .tgt is (.tup cs))
  else none
theorem cParS_ok (hr : RecOk r) (hc : CpOk P cp Γ) {mu : List Nat} {ts vs : List Expr} {t : SC} {n k2 : Nat} {p p2 pos : Pos} (h : cParS r cp mu ts vs = some t) : GS Γ (callN P Γ.n) (.Assign [.Tuple ts n p] (.Tuple vs k2 p2) pos) t.2 := by
  unfold cParS at h
  split at h
  · rename_i hcon
    have hcon' : vs.all (foldedForSure 8) = true ∨ vs.all (constantsAlone 8) = false := by simpa [Bool.or_eq_true] using hcon
    have hsw : ∀ X, Γ.Has X → swappedStores [.Tuple ts n p] (.Tuple vs k2 p2) X.env = pure (swS cp.sc ts vs) := fun X hX => by rw [swS_eq hX hcon', hc.sc]
    split at h
    · split at h
      · obtain ⟨i, e1, h⟩ := Option.bind_eq_some_iff.mp h
        obtain ⟨j, e2, h⟩ := Option.bind_eq_some_iff.mp h
        split at h
        · rename_i hx
          simp only [Bool.and_eq_true, decide_eq_true_eq] at hx
          obtain ⟨u, e3, h⟩ := Option.bind_eq_some_iff.mp h
          obtain ⟨g, _⟩ := cP_ok hr hc e3
          split at h
          · cases h
            exact gs_par2 g ⟨by rw [hc.N]; exact ixOf_get e1, by rw [hc.sc]; exact hx.1.1.2⟩ ⟨by rw [hc.N]; exact ixOf_get e2, by rw [hc.sc]; exact hx.1.2⟩ hx.1.1.1 fun X hX => by rw [hsw X hX, hx.2]
          · cases h
        · cases h
      · obtain ⟨i, e1, h⟩ := Option.bind_eq_some_iff.mp h
        obtain ⟨j, e2, h⟩ := Option.bind_eq_some_iff.mp h
        obtain ⟨l, e5, h⟩ := Option.bind_eq_some_iff.mp h
        split at h
        · rename_i hx
          simp only [Bool.and_eq_true, decide_eq_true_eq] at hx
          obtain ⟨u, e3, h⟩ := Option.bind_eq_some_iff.mp h
          obtain ⟨g, _⟩ := cP_ok hr hc e3
          split at h
          · cases h
            obtain ⟨⟨⟨⟨⟨⟨h1, h2⟩, h3⟩, h4⟩, h5⟩, h6⟩, h7⟩ := hx
            exact gs_par3 g ⟨by rw [hc.N]; exact ixOf_get e1, by rw [hc.sc]; exact h4⟩ ⟨by rw [hc.N]; exact ixOf_get e2, by rw [hc.sc]; exact h5⟩ ⟨by rw [hc.N]; exact ixOf_get e5, by rw [hc.sc]; exact h6⟩ h1 h2 h3 fun X hX => by rw [hsw X hX, h7]
          · cases h
        · cases h
      · cases h
    · rename_i hno
      obtain ⟨is, e1, h⟩ := Option.bind_eq_some_iff.mp h
      split at h
      · rename_i hx
        rw [Bool.and_eq_true] at hx
        obtain ⟨u, e2, rfl⟩ := Option.map_eq_some_iff.mp h
        obtain ⟨g, l1, _⟩ := cP_ok hr hc e2
        exact gs_tgtF g l1 (of_decide_eq_true hx.2) (fun X hX => by rw [hsw X hX, hno]) (cNms_ok hc e1)
      · obtain ⟨cs, e2, rfl⟩ := Option.map_eq_some_iff.mp h
        exact gs_tgt (g_tup (cL_ok hr hc e2)) rfl (fun X hX => by rw [hsw X hX, hno]) (cNms_ok hc e1)
  · cases h
end
end L2.NB
set_option Elab.async false
set_option linter.all false
set_option maxRecDepth 100000
/-! NB20: blocks. -/
namespace L2.NB
open PySem PySem.Spec PyProof.Rows
section
variable {P : Prog} {cp : Cp} {Γ : Ctx} {r : Rec}
def rdB (cp : Cp) (i : Nat) (x : Str) : Bool := (ixOf cp.N x == some i) && visB cp.sc x && nameOk x
theorem rdB_ok (hc : CpOk P cp Γ) {i : Nat} {x : Str} (h : rdB cp i x = true) : Rdb Γ i x := by
  unfold rdB at h
  simp only [Bool.and_eq_true] at h
  obtain ⟨d1, d2⟩ := nameOk_of h.2
  exact ⟨by rw [hc.N]; exact ixOf_get (eq_of_beq h.1.1), by rw [hc.sc]; exact vis_of h.1.2, d1, d2⟩
/-- x.append(e), x.extend(e) -/
def cMeth (r : Rec) (cp : Cp) (mu : List Nat) (x m : Str) (apos cpos : Pos) (e : Expr) : Option SC :=
  (ixOf cp.N x).bind fun i => if (rdB cp i x && noStar e && (apos.endLine == cpos.line)) = true then
    (r.e cp false e).bind fun c => if (m == ("append" : Str)) = true then some (fzOf mu c, .app i c) else if (m == ("extend" : Str)) = true then some (fzOf mu c, .ext i c) else none else none
theorem cMeth_ok (hr : RecOk r) (hc : CpOk P cp Γ) {mu : List Nat} {x m : Str} {p apos cpos pos : Pos} {e : Expr} {t : SC} (h : cMeth r cp mu x m apos cpos e = some t) : GS Γ (callN P Γ.n) (.Expr (.Call (.Attribute (.Name x p) m apos) [e] [] cpos) pos) t.2 := by
  unfold cMeth at h
  obtain ⟨i, e1, h⟩ := Option.bind_eq_some_iff.mp h
  split at h
  · rename_i hx
    simp only [Bool.and_eq_true] at hx
    obtain ⟨c, e2, h⟩ := Option.bind_eq_some_iff.mp h
    split at h
    · rename_i hm
      cases h
      rw [eq_of_beq hm]
      exact gs_app (rdB_ok hc hx.1.1) (hr.ge P cp Γ hc _ _ e2) hx.1.2 hx.2
    · split at h
      · rename_i hm
        cases h
        rw [eq_of_beq hm]
        exact gs_ext (rdB_ok hc hx.1.1) (hr.ge P cp Γ hc _ _ e2) hx.1.2 hx.2
      · cases h
  · cases h
/-- x.append(y.pop(e)) -/
def cAP (r : Rec) (cp : Cp) (mu : List Nat) (x : Str) (apos cpos : Pos) : Expr → Option SC
  | .Call (.Attribute (.Name y _) m2 apos2) [e] [] cpos2 => if (m2 == ("pop" : Str)) = true then (ixOf cp.N x).bind fun i => (ixOf cp.N y).bind fun j =>
      if (rdB cp i x && rdB cp j y && noStar e && (apos.endLine == cpos.line) && (apos2.endLine == cpos2.line) && i != j) = true then (r.e cp false e).map fun c => (fzOf mu c, .appPop i j c) else none else none
  | _ => none
theorem cAP_ok (hr : RecOk r) (hc : CpOk P cp Γ) {mu : List Nat} {x : Str} {p apos cpos pos : Pos} {e : Expr} {t : SC} (h : cAP r cp mu x apos cpos e = some t) : GS Γ (callN P Γ.n) (.Expr (.Call (.Attribute (.Name x p) "append" apos) [e] [] cpos) pos) t.2 := by
  unfold cAP at h
  split at h
  · split at h
    · rename_i hm
      rw [eq_of_beq hm]
      obtain ⟨i, e1, h⟩ := Option.bind_eq_some_iff.mp h
      obtain ⟨j, e2, h⟩ := Option.bind_eq_some_iff.mp h
      split at h
      · rename_i hx
        simp only [Bool.and_eq_true] at hx
        obtain ⟨⟨⟨⟨⟨h1, h2⟩, h3⟩, h4⟩, h5⟩, h6⟩ := hx
        obtain ⟨c, e3, rfl⟩ := Option.map_eq_some_iff.mp h
        exact gs_appPop (rdB_ok hc h1) (rdB_ok hc h2) (by simpa using h6) (hr.ge P cp Γ hc _ _ e3) h3 h4 h5
      · cases h
    · cases h
  · cases h
/-- name = e -/
def isLc : Expr → Bool
  | .ListComp _ _ _ _ => true
  | _ => false
def cSet (r : Rec) (cp : Cp) (mu : List Nat) (x : Str) (e : Expr) : Option SC :=
  (ixOf cp.N x).bind fun i => if stoB cp i x = true then
    (if mu.contains i = true then (cFr r cp e).map fun c => (fzOf mu c, .setF i c)
    else if isLc e = true then (cFr r cp e).bind fun c => if listsB c = true then some (fzOf mu c, .set i c) else none
    else if notComp e = true then (r.e cp false e).map fun c => (fzOf mu c, .set i c) else none) else none
theorem cSet_ok (hr : RecOk r) (hc : CpOk P cp Γ) {mu : List Nat} {x : Str} {p pos : Pos} {e : Expr} {t : SC} (h : cSet r cp mu x e = some t) : GS Γ (callN P Γ.n) (.Assign [.Name x p] e pos) t.2 := by
  unfold cSet at h
  obtain ⟨i, e1, h⟩ := Option.bind_eq_some_iff.mp h
  split at h
  · rename_i hs
    split at h
    · obtain ⟨c, e2, rfl⟩ := Option.map_eq_some_iff.mp h
      exact gs_setF (cFr_ok hr hc e2) (stoB_ok hc hs)
    · split at h
      · obtain ⟨c, e2, h⟩ := Option.bind_eq_some_iff.mp h
        split at h
        · rename_i hl
          cases h
          exact gs_set ((cFr_ok hr hc e2).gv (listsB_ok hl)) (stoB_ok hc hs)
        · cases h
      · split at h
        · rename_i hn
          obtain ⟨c, e2, rfl⟩ := Option.map_eq_some_iff.mp h
          exact gs_set ((hr.ge P cp Γ hc _ _ e2).gv hn) (stoB_ok hc hs)
        · cases h
  · cases h
def cBlk (f : Stmt → Option SC) : List Stmt → Option (List C)
  | [] => some []
  | st :: sts => (f st).bind fun t => (cBlk f sts).map fun cs => t.1.map .frz ++ t.2 :: cs
theorem gss_fz {k : CallT} {sts : List Stmt} {cs : List C} (h : GSs Γ k sts cs) : ∀ fz : List Nat, GSs Γ k sts (fz.map .frz ++ cs)
  | [] => h
  | i :: fz => gss_frz (gss_fz h fz)
theorem cBlk_ok {k : CallT} {f : Stmt → Option SC} (hf : ∀ st t, f st = some t → GS Γ k st t.2) : ∀ {sts : List Stmt} {cs : List C}, cBlk f sts = some cs → GSs Γ k sts cs
  | [], cs, h => by cases h; exact gss_nil
  | st :: sts, cs, h => by
    obtain ⟨t, e1, h⟩ := Option.bind_eq_some_iff.mp (show ((f st).bind fun t => (cBlk f sts).map fun cs => t.1.map C.frz ++ t.2 :: cs) = some cs from h)
    obtain ⟨cs', e2, rfl⟩ := Option.map_eq_some_iff.mp h
    exact gss_fz (gss_cons (hf st t e1) (cBlk_ok hf e2)) t.1
def stepS (r : Rec) (cp : Cp) (mu : List Nat) (f : Stmt → Option SC) : Stmt → Option SC
  | .Pass _ => some ([], .pass)
  | .Break _ => some ([], .brk)
  | .Continue _ => some ([], .cont)
  | .Return none _ => some ([], .retN)
  | .Return (some e) _ => (r.e cp false e).map fun c => (fzOf mu c, .ret c)
  | .Expr (.Constant (.str _) _ _) _ => some ([], .pass)
  | .Expr (.Call (.Attribute (.Name x _) m apos) [e] [] cpos) _ => (if (m == ("append" : Str)) = true then cAP r cp mu x apos cpos e else none).or (cMeth r cp mu x m apos cpos e)
  | .Expr e _ => if notComp e = true then (r.e cp true e).map fun c => (fzOf mu c, .exp c) else none
  | .Assign [.Name x _] e _ => cSet r cp mu x e
  | .Assign [.Tuple ts _ _] (.Tuple vs _ _) _ => cParS r cp mu ts vs
  | .Assign [.Tuple ts _ _] e _ => if (notComp e && !isTup e) = true then (cNms cp ts).bind fun is => (r.e cp false e).map fun c => (fzOf mu c, .tgt is c) else none
  | .Assign [.Subscript (.Name x _) ke _] e _ => (ixOf cp.N x).bind fun i => if (rdB cp i x && noSlice ke) = true then (r.e cp false e).bind fun c => (r.e cp false ke).map fun ck => (fzOf mu c, .setI i ck c) else none
  | .If c a b _ => (r.b cp c).bind fun x => (cBlk f a).bind fun u => (cBlk f b).map fun w => (fzOf mu x, .ifs x u w)
  | .While c b [] _ => (r.b cp c).bind fun x => (cBlk f b).map fun u => ([], .while x u)
  | .For tg it b [] _ => (cIt r cp false tg it).bind fun ci => (cTg cp tg).bind fun g => (cBlk f b).map fun u => (fzOf mu ci, .for g ci u)
  | _ => none
theorem stepS_ok (hr : RecOk r) (hc : CpOk P cp Γ) {mu : List Nat} {f : Stmt → Option SC} (hf : ∀ st t, f st = some t → GS Γ (callN P Γ.n) st t.2) {st : Stmt} {t : SC} (h : stepS r cp mu f st = some t) : GS Γ (callN P Γ.n) st t.2 := by
  unfold stepS at h
  split at h
  · cases h; exact gs_pass
  · cases h; exact gs_brk
  · cases h; exact gs_cont
  · cases h; exact gs_retN
  · obtain ⟨c, e1, rfl⟩ := Option.map_eq_some_iff.mp h
    exact gs_ret (hr.ge P cp Γ hc _ _ e1)
  · cases h; exact gs_doc
  · rcases Option.or_eq_some_iff.mp h with h | ⟨_, h⟩
    · split at h
      · rename_i hm
        rw [eq_of_beq hm]
        exact cAP_ok hr hc h
      · cases h
    · exact cMeth_ok hr hc h
  · split at h
    · rename_i hn
      obtain ⟨c, e1, rfl⟩ := Option.map_eq_some_iff.mp h
      exact gs_exp (hr.gt P cp Γ hc _ _ e1) hn
    · cases h
  · exact cSet_ok hr hc h
  · exact cParS_ok hr hc h
  · split at h
    · rename_i hn
      simp only [Bool.and_eq_true, Bool.not_eq_true'] at hn
      obtain ⟨is, e1, h⟩ := Option.bind_eq_some_iff.mp h
      obtain ⟨c, e2, rfl⟩ := Option.map_eq_some_iff.mp h
      exact gs_tgt (hr.ge P cp Γ hc _ _ e2) hn.1 (fun X hX => swNone hn.2 _) (cNms_ok hc e1)
    · cases h
  · obtain ⟨i, e1, h⟩ := Option.bind_eq_some_iff.mp h
    split at h
    · rename_i hx
      rw [Bool.and_eq_true] at hx
      obtain ⟨c, e2, h⟩ := Option.bind_eq_some_iff.mp h
      obtain ⟨ck, e3, rfl⟩ := Option.map_eq_some_iff.mp h
      exact gs_setI (rdB_ok hc hx.1) (hr.ge P cp Γ hc _ _ e3) (hr.ge P cp Γ hc _ _ e2) hx.2
    · cases h
  · obtain ⟨x, e1, h⟩ := Option.bind_eq_some_iff.mp h
    obtain ⟨u, e2, h⟩ := Option.bind_eq_some_iff.mp h
    obtain ⟨w, e3, rfl⟩ := Option.map_eq_some_iff.mp h
    exact gs_if (hr.gb P cp Γ hc _ _ e1) (cBlk_ok hf e2) (cBlk_ok hf e3)
  · obtain ⟨x, e1, h⟩ := Option.bind_eq_some_iff.mp h
    obtain ⟨u, e2, rfl⟩ := Option.map_eq_some_iff.mp h
    exact gs_while (hr.gb P cp Γ hc _ _ e1) (cBlk_ok hf e2)
  · obtain ⟨ci, e1, h⟩ := Option.bind_eq_some_iff.mp h
    obtain ⟨g, e2, h⟩ := Option.bind_eq_some_iff.mp h
    obtain ⟨u, e3, rfl⟩ := Option.map_eq_some_iff.mp h
    exact gs_for (cIt_gf hr hc e1) (cTg_ok hc e2) (cBlk_ok hf e3) (fold_of (cIt_set e1))
  · cases h
/-- every statement; what is not known is never to be reached -/
def cS (r : Rec) (cp : Cp) (mu : List Nat) : Nat → Stmt → Option SC
  | 0, _ => some ([], .never)
  | n + 1, st => (stepS r cp mu (cS r cp mu n) st).or (some ([], .never))
theorem cS_ok (hr : RecOk r) (hc : CpOk P cp Γ) {mu : List Nat} : ∀ (n : Nat) (st : Stmt) (t : SC), cS r cp mu n st = some t → GS Γ (callN P Γ.n) st t.2
  | 0, st, t, h => by cases h; exact gs_never
  | n + 1, st, t, h => by
    rcases Option.or_eq_some_iff.mp (show (stepS r cp mu (cS r cp mu n) st).or (some ([], .never)) = some t from h) with h | ⟨_, h⟩
    · exact stepS_ok hr hc (cS_ok hr hc n) h
    · cases h; exact gs_never
def popS : List Expr → List Str
  | [.Call (.Attribute (.Name y _) m _) _ _ _] => if (m == ("pop" : Str)) = true then [y] else []
  | _ => []
/-- the names whose lists are written -/
def mutS : Nat → Stmt → List Str
  | 0, _ => []
  | _ + 1, .Expr (.Call (.Attribute (.Name x _) m _) es _ _) _ => if (m == ("append" : Str) || m == ("extend" : Str) || m == ("pop" : Str)) = true then x :: popS es else []
  | _ + 1, .Assign [.Subscript (.Name x _) _ _] _ _ => [x]
  | n + 1, .If _ a b _ => a.flatMap (mutS n) ++ b.flatMap (mutS n)
  | n + 1, .While _ a _ _ => a.flatMap (mutS n)
  | n + 1, .For _ _ a _ _ => a.flatMap (mutS n)
  | _, _ => []
def muOf (N : List Str) (b : List Stmt) : List Nat := (b.flatMap (mutS 10)).filterMap fun x => if hndName x = true then none else ixOf N x
/-- a def's body -/
def cDef (cp : Cp) (body : List Stmt) : Option (List C) := cBlk (cS (recN 30) cp (muOf cp.N body) 12) body
theorem cDef_ok (hc : CpOk P cp Γ) {body : List Stmt} {cs : List C} (h : cDef cp body = some cs) : GSs Γ (callN P Γ.n) body cs := cBlk_ok (fun st t e => cS_ok (recN_ok 30) hc 12 st t e) h
end
end L2.NB
set_option Elab.async false
set_option linter.all false
set_option maxRecDepth 100000
/-! NB21: the deal; defs by their facts; the law's end. -/
namespace L2.NB
open PySem PySem.Spec PyProof.Rows

/-! ### the deal -/
/-- without the zeros at the end -/
def trim (l : List Int) : List Int := (l.reverse.dropWhile fun x => x == 0).reverse
theorem trim_nil : trim [] = [] := rfl
theorem trim_zero (l : List Int) : trim (l ++ [0]) = trim l := by unfold trim; simp
theorem trim_last (l : List Int) {y : Int} (h : y ≠ 0) : trim (l ++ [y]) = l ++ [y] := by unfold trim; simp [h]
theorem trim_len (l : List Int) : (trim l).length ≤ l.length := by
  unfold trim
  rw [List.length_reverse]
  have := (List.dropWhile_suffix (fun x : Int => x == 0) (l := l.reverse)).length_le
  rwa [List.length_reverse] at this
/-- what `_law_any` gives, and the deal behind it -/
def anyD (d : Deal) (b : Int) : Int × Deal :=
  match (trim d.cells).reverse with
  | r :: l => (r.fmod b, ⟨(l.reverse) ++ [r.fdiv b], d.blend⟩)
  | [] => (((d.blend * 40693 + 71).fmod 2147483647).fdiv 64 |>.fmod b, ⟨[], (d.blend * 40693 + 71).fmod 2147483647⟩)
theorem anyD_range (d : Deal) {b : Int} (h : 0 < b) : 0 ≤ (anyD d b).1 ∧ (anyD d b).1 < b := by
  unfold anyD
  split
  · exact ⟨Int.fmod_nonneg_of_pos _ h, Int.fmod_lt_of_pos _ h⟩
  · exact ⟨Int.fmod_nonneg_of_pos _ h, Int.fmod_lt_of_pos _ h⟩
theorem anyD_cells (d : Deal) (b : Int) : (anyD d b).2.cells.length ≤ d.cells.length := by
  have h := trim_len d.cells
  unfold anyD
  split
  · rename_i r l e
    have := congrArg List.length e
    simp at this
    simp
    omega
  · simp
theorem anyD_blend (d : Deal) (b : Int) (h : 0 ≤ d.blend ∧ d.blend < 1099511627776) : 0 ≤ (anyD d b).2.blend ∧ (anyD d b).2.blend < 1099511627776 := by
  unfold anyD
  split
  · exact h
  · have h1 := Int.fmod_nonneg_of_pos (d.blend * 40693 + 71) (b := 2147483647) (by decide)
    have h2 := Int.fmod_lt_of_pos (d.blend * 40693 + 71) (b := 2147483647) (by decide)
    exact ⟨h1, by show (d.blend * 40693 + 71).fmod 2147483647 < _; omega⟩
/-- `_law_any` as a function of values -/
def anyP : List AV → M PyData
  | [.h n, .d (.int b)] => fun s => match s[n]? with
    | some d => if 0 < b ∧ b.natAbs.log2 < 9000 then .ok (.int (anyD d b).1) (s.set n (anyD d b).2) else .bad
    | none => .bad
  | _ => M.bad
/-- what stands for the deal, as a value -/
def dealD (d : Deal) : PyData := .list [.list (d.cells.map .int), .int d.blend]
/-- its promise -/
def spAny : Sp := fun vs H Q _ => ∃ (p : Addr × Addr) (d : Deal) (b : Int), vs = [.ref p.1, .int b] ∧ DealAt H p d ∧ p.1 ≠ p.2 ∧ 0 < b ∧ b.natAbs.log2 < 9000 ∧
  ∀ H', DealAt H' p (anyD d b).2 → (∀ a o, H a = some o → a ≠ p.1 → a ≠ p.2 → H' a = some o) → Q (.int (anyD d b).1) H'
theorem nodup_pairs {A : HA} (h : (A.flatMap fun p => [p.1, p.2]).Nodup) {i j : Nat} {p q : Addr × Addr} (hp : A[i]? = some p) (hq : A[j]? = some q) : p.1 ≠ p.2 ∧ (i ≠ j → p.1 ≠ q.1 ∧ p.1 ≠ q.2 ∧ p.2 ≠ q.1 ∧ p.2 ≠ q.2) := by
  induction A generalizing i j p q with
  | nil => simp at hp
  | cons a A ih =>
    rw [List.flatMap_cons, List.nodup_append] at h
    obtain ⟨h1, h2, h3⟩ := h
    have mem : ∀ {k : Nat} {r : Addr × Addr}, A[k]? = some r → r.1 ∈ A.flatMap (fun p => [p.1, p.2]) ∧ r.2 ∈ A.flatMap (fun p => [p.1, p.2]) := fun {k r} e => by
      have m := List.mem_of_getElem? e
      exact ⟨List.mem_flatMap.mpr ⟨r, m, by simp⟩, List.mem_flatMap.mpr ⟨r, m, by simp⟩⟩
    have ha : a.1 ≠ a.2 := by simpa using h1
    cases i with
    | zero =>
      simp only [List.getElem?_cons_zero, Option.some.injEq] at hp
      subst hp
      refine ⟨ha, fun hij => ?_⟩
      cases j with
      | zero => exact absurd rfl hij
      | succ j =>
        have hq' : A[j]? = some q := by simpa using hq
        obtain ⟨m1, m2⟩ := mem hq'
        exact ⟨h3 a.1 (by simp) q.1 m1, h3 a.1 (by simp) q.2 m2, h3 a.2 (by simp) q.1 m1, h3 a.2 (by simp) q.2 m2⟩
    | succ i =>
      have hp' : A[i]? = some p := by simpa using hp
      cases j with
      | zero =>
        simp only [List.getElem?_cons_zero, Option.some.injEq] at hq
        subst hq
        refine ⟨(ih h2 hp' hp').1, fun _ => ?_⟩
        obtain ⟨m1, m2⟩ := mem hp'
        exact ⟨(h3 a.1 (by simp) p.1 m1).symm, (h3 a.2 (by simp) p.1 m1).symm, (h3 a.1 (by simp) p.2 m2).symm, (h3 a.2 (by simp) p.2 m2).symm⟩
      | succ j =>
        have hq' : A[j]? = some q := by simpa using hq
        obtain ⟨z1, z2⟩ := ih h2 hp' hq'
        exact ⟨z1, fun hij => z2 fun e => hij (by rw [e])⟩
theorem anyP_ok {xs : List AV} {s s' : S} {d : PyData} (h : anyP xs s = .ok d s') : ∃ m b dl, xs = [.h m, .d (.int b)] ∧ s[m]? = some dl ∧ 0 < b ∧ b.natAbs.log2 < 9000 ∧ d = .int (anyD dl b).1 ∧ s' = s.set m (anyD dl b).2 := by
  match xs, h with
  | [.h m, .d (.int b)], h =>
    have h' : (match s[m]? with
      | some d => if 0 < b ∧ b.natAbs.log2 < 9000 then Res.ok (PyData.int (anyD d b).1) (s.set m (anyD d b).2) else .bad
      | none => .bad) = .ok d s' := h
    cases hs : s[m]? with
    | none => rw [hs] at h'; cases h'
    | some dl =>
      rw [hs] at h'
      simp only at h'
      split at h'
      · rename_i hb
        cases h'
        exact ⟨m, b, dl, rfl, hs, hb.1, hb.2, rfl, rfl⟩
      · cases h'
/-- the promise, as the table wants it -/
theorem any_sp {P : Prog} {K : PySem.W.Frag} {n : Nat} {f : Str} (hP : P.fn f = some (.prim 2 anyP)) {vs : List V} {H : Hp} {Q : VK} {E : XK} (h : spN P K (n + 1) f vs H Q E) : spAny vs H Q E := by
  obtain ⟨A, O, s, s', xs, d, F, r, e, q⟩ := h
  unfold callN at e
  simp only [hP] at e
  obtain ⟨_, e1⟩ := if_ok e
  obtain ⟨m, b, dl, rfl, hs, hb1, hb2, rfl, rfl⟩ := anyP_ok e1
  match vs, r with
  | [v1, v2], r =>
    obtain ⟨⟨p, hp, rfl⟩, r2, _⟩ := r
    have e2 : v2 = .int b := Rep.int_inv r2
    subst e2
    have hd := F.hr.at_ m p dl hp hs
    have nd := (nodup_pairs F.hr.nd hp hp).1
    refine ⟨p, dl, b, rfl, hd, nd, hb1, hb2, fun H' d' keep => q _ H' ⟨by rw [List.length_set]; exact F.hr.len, fun k q' dk hk hdk => ?_, F.hr.nd⟩ (fun a o ea na => keep a o ea (fun z => na ⟨p, List.mem_of_getElem? hp, .inl z⟩) fun z => na ⟨p, List.mem_of_getElem? hp, .inr z⟩) (.int _)⟩
    by_cases hkm : m = k
    · subst hkm
      rw [hp] at hk
      cases hk
      rw [List.getElem?_set_self (List.getElem?_eq_some_iff.mp hs).1] at hdk
      cases hdk
      exact d'
    · rw [List.getElem?_set_ne hkm] at hdk
      have dk' := F.hr.at_ k q' dk hk hdk
      obtain ⟨n1, n2, n3, n4⟩ := (nodup_pairs F.hr.nd hk hp).2 fun z => hkm z.symm
      exact ⟨keep _ _ dk'.out n1 n2, keep _ _ dk'.inn n3 n4, dk'.len, dk'.sm⟩
/-! ### the facts of a def -/
theorem kw_of {K : PySem.W.Frag} {x qual : Str} {params : Arguments} {body : List Stmt} {scope : Scope} {f : Addr} {fd : FuncData} {ps ks : List Str} {perm : List Nat} (F : FunD K x qual params body scope [] [] f fd)
    (h : ∀ (kV doc pm : Value) (an : Option Addr) (cdv ct : Value) (ws : List Value), ws.length = ks.length → bindArgs (PySem.W.fnOf x qual params body scope .none kV doc pm an cdv ct) ⟨[], ks.zip ws⟩ = pure (ps.zip (perm.filterMap fun i => ws[i]?))) : KwOk K fd ps ks perm := by
  obtain ⟨oc, od, dV, kV, doc, pm, an, cdv, ct, osl, rfl, lk, hcd, hD, hK⟩ := F.ex
  rcases hD with ⟨_, rfl⟩ | ⟨e, _⟩
  · exact fun s ws _ hl => .of_eq (h kV doc pm an cdv ct ws hl)
  · exact absurd rfl e
def kwsFor (f : Str) : List (Str × List Str × List Nat) → List (List Str × List Nat)
  | [] => []
  | (g, t) :: l => if g == f then t :: kwsFor f l else kwsFor f l
theorem kwsFor_mem {f : Str} {ks : List Str} {perm : List Nat} : ∀ {l : List (Str × List Str × List Nat)}, (f, ks, perm) ∈ l → (ks, perm) ∈ kwsFor f l
  | (g, t) :: l, h => by
    unfold kwsFor
    rcases List.mem_cons.mp h with e | h
    · cases e
      rw [if_pos (by simp)]
      exact List.mem_cons_self
    · split
      · exact List.mem_cons_of_mem _ (kwsFor_mem h)
      · exact kwsFor_mem h
theorem kw_all {K : PySem.W.Frag} {fd : FuncData} {ps : List Str} {f : Str} {l : List (Str × List Str × List Nat)} (h : ∀ t ∈ kwsFor f l, KwOk K fd ps t.1 t.2) : ∀ ks perm, (f, ks, perm) ∈ l → KwOk K fd ps ks perm := fun ks perm m => h (ks, perm) (kwsFor_mem m)
/-- a def of the text -/
theorem def_code {P : Prog} {pw : Program} {w : World} {K : PySem.W.Frag} {mg : Str → Option Value} {base : Heap} {kws : List (Str × List Str × List Nat)} {cs : List (Str × PyData)} {bl fs : List Str} {f : Str} {st : Stmt} {N ps : List Str} {b : List C} {a : Addr} {fd : FuncData}
    (F : FunD K f f (defArgs st) (defBody st) (defScope st) [] [] a fd) (S : FnScope N ps (defScope st)) (hP : P.fn f = some (.code ps.length N.length b)) (hc : cDef ⟨N, defScope st, fun _ => true, cs, bl, fs, kws⟩ (defBody st) = some b) (gl : mg f = some (.ref a))
    (bd : Binds K fd ps []) (kw : ∀ t ∈ kwsFor f kws, KwOk K fd ps t.1 t.2) (hcs : ∀ x d, (x, d) ∈ cs → ConstOk K mg x d) (hbl : ∀ x ∈ bl, mg x = none) (hfs : ∀ x ∈ fs, (P.fn x).isSome = true) : Def P pw w K mg base kws f (.code ps.length N.length b) a fd ps :=
  ⟨gl, F.kp, rfl, bd, kw_all kw, fun n Fs => fn_g F S hP (cDef_ok ⟨rfl, rfl, rfl, hcs, hbl, hfs, Fs⟩ hc)⟩
theorem FnG.up {P : Program} {w : World} {K : PySem.W.Frag} {mg : Str → Option Value} {base : Heap} {j k : Nat} {f : Addr} {fd : FuncData} {ps : List Str} {sp : Sp} (F : FnG P w K mg base j f fd ps sp) (h : j ≤ k) : FnG P w K mg base k f fd ps sp :=
  ⟨F.len, fun A outer s H args us vs Q hr => F.run A outer s H args us vs Q (hr.mono h)⟩
theorem FnG.imp {P : Program} {w : World} {K : PySem.W.Frag} {mg : Str → Option Value} {base : Heap} {k : Nat} {f : Addr} {fd : FuncData} {ps : List Str} {sp sp' : Sp} (F : FnG P w K mg base k f fd ps sp) (h : ∀ vs H Q E, sp' vs H Q E → sp vs H Q E) : FnG P w K mg base k f fd ps sp' :=
  ⟨fun vs H Q E q => F.len vs H Q E (h _ _ _ _ q), fun A outer s H args us vs Q hr hg he hb hv hs => F.run A outer s H args us vs Q hr hg he hb hv (h _ _ _ _ hs)⟩
theorem def_any {P : Prog} {pw : Program} {w : World} {K : PySem.W.Frag} {mg : Str → Option Value} {base : Heap} {kws : List (Str × List Str × List Nat)} {f : Str} {st : Stmt} {ps : List Str} {a : Addr} {fd : FuncData}
    (F : FunD K f f (defArgs st) (defBody st) (defScope st) [] [] a fd) (hP : P.fn f = some (.prim 2 anyP)) (gl : mg f = some (.ref a)) (bd : Binds K fd ps []) (kw : ∀ t ∈ kwsFor f kws, KwOk K fd ps t.1 t.2) (hl : ps.length = 2) (ok : FnG pw w K mg base 1 a fd ps spAny) :
    Def P pw w K mg base kws f (.prim 2 anyP) a fd ps :=
  ⟨gl, F.kp, hl, bd, kw_all kw, fun n _ => (ok.up (Nat.succ_le_succ (Nat.zero_le n))).imp fun vs H Q E h => any_sp hP h⟩
/-- all defs of a table -/
def AllDefs (P : Prog) (pw : Program) (w : World) (K : PySem.W.Frag) (mg : Str → Option Value) (base : Heap) (kws : List (Str × List Str × List Nat)) : Prog → Prop
  | [] => True
  | (f, F) :: r => (∃ a fd ps, Def P pw w K mg base kws f F a fd ps) ∧ AllDefs P pw w K mg base kws r
theorem AllDefs.get {P : Prog} {pw : Program} {w : World} {K : PySem.W.Frag} {mg : Str → Option Value} {base : Heap} {kws : List (Str × List Str × List Nat)} : ∀ {l : Prog}, AllDefs P pw w K mg base kws l → ∀ f F, (f, F) ∈ l → ∃ a fd ps, Def P pw w K mg base kws f F a fd ps
  | (g, G) :: r, h, f, F, m => by
    rcases List.mem_cons.mp m with e | m
    · cases e; exact h.1
    · exact AllDefs.get h.2 f F m
theorem AllDefs.fns {P : Prog} {pw : Program} {w : World} {K : PySem.W.Frag} {mg : Str → Option Value} {base : Heap} {kws : List (Str × List Str × List Nat)} (h : AllDefs P pw w K mg base kws P) (n : Nat) : Fns P pw w K mg base n kws :=
  NB.fns (fun f F e => h.get f F (lookup_mem e)) n
theorem const_int {K : PySem.W.Frag} {mg : Str → Option Value} {x : Str} {i : Int} (h : ∃ t, mg x = some (.int i t)) : ConstOk K mg x (.int i) := by
  obtain ⟨t, e⟩ := h
  exact ⟨.int i, _, e, ⟨t, rfl⟩, fun B H => .int i⟩
theorem const_str {K : PySem.W.Frag} {mg : Str → Option Value} {x z : Str} (h : ∃ t, mg x = some (.str z t)) : ConstOk K mg x (.str z) := by
  obtain ⟨t, e⟩ := h
  exact ⟨.str z, _, e, ⟨t, rfl⟩, fun B H => .str z⟩
end L2.NB
set_option Elab.async false
set_option linter.all false
set_option maxRecDepth 100000
/-! NB22: running the evaluator; ints in lists; the deal's def. -/
namespace L2.NB
open PySem PySem.Spec PyProof.Rows

/-! ### runs -/
@[simp] theorem run_bind {α β : Type} (m : M α) (f : α → M β) (s : S) : (m >>= f) s = match m s with
  | .ok a s' => f a s'
  | .bad => .bad := rfl
@[simp] theorem run_pure {α : Type} (a : α) (s : S) : (M.pure a) s = .ok a s := rfl
@[simp] theorem run_bad {α : Type} (s : S) : (M.bad : M α) s = .bad := rfl
@[simp] theorem run_some {α : Type} (a : α) (s : S) : (liftO (some a)) s = .ok a s := rfl
@[simp] theorem run_none {α : Type} (s : S) : (liftO (none : Option α)) s = .bad := rfl
@[simp] theorem run_ite {α : Type} (c : Prop) [Decidable c] (m m' : M α) (s : S) : (if c then m else m') s = if c then m s else m' s := by split <;> rfl

/-! ### lists of ints -/
theorem depth_ints : ∀ ns : List Int, PyData.depthAll (ns.map .int) = 0
  | [] => rfl
  | i :: r => by
    show max 0 (PyData.depthAll (r.map .int)) = 0
    rw [depth_ints r]
    rfl
theorem lay_ints : ∀ ns : List Int, PyData.canLayAll0 (ns.map .int) = true
  | [] => rfl
  | i :: r => by
    show (true && PyData.canLayAll0 (r.map .int)) = true
    rw [lay_ints r]
    rfl
theorem okEq_ints (ns : List Int) : okEq (.list (ns.map .int)) = true := by
  show (PyData.canLayAll0 (ns.map .int) && decide (PyData.depthAll (ns.map .int) + 1 ≤ 64)) = true
  rw [lay_ints, depth_ints]
  rfl
theorem okEq_nil : okEq (.list []) = true := okEq_ints []
theorem eqOk_nil (ns : List Int) : eqOk (.list (ns.map .int)) (.list []) = true := by
  show (okEq _ && okEq _) = true
  rw [okEq_ints, okEq_nil]
  rfl
theorem eqOk_nil0 : eqOk (.list []) (.list []) = true := eqOk_nil []
theorem eqOk_int (i j : Int) : eqOk (.int i) (.int j) = true := rfl
theorem okEq_int (i : Int) : okEq (.int i) = true := rfl
theorem eqv_nil (xs : List PyData) : PyData.eqv (.list xs) (.list []) = xs.isEmpty := by cases xs <;> rfl
theorem eqv_int (i j : Int) : PyData.eqv (.int i) (.int j) = (i == j) := rfl
theorem atD_last {α : Type} (l : List α) (y : α) : atD (l ++ [y]) (-1) = some y := by
  unfold atD ixD
  have hl : (l ++ [y]).length = l.length + 1 := by simp
  rw [if_neg (by omega), if_pos (by rw [hl]; omega), hl]
  have : ((-1 : Int) + ((l.length + 1 : Nat) : Int)).toNat = l.length := by omega
  simp only [Option.bind_some, this]
  simp
theorem atD_at {α : Type} (l : List α) (i : Nat) : atD l (i : Int) = l[i]? := by
  unfold atD ixD
  rw [if_pos (by omega)]
  by_cases h : i < l.length
  · rw [if_pos (by omega)]
    simp
  · rw [if_neg (by omega)]
    simp
    omega
theorem atD_zero {α : Type} (x : α) (l : List α) : atD (x :: l) 0 = some x := by
  have := atD_at (x :: l) 0
  simpa using this

/-! ### `_law_any` -/
def anyN : List Str := ["_law_deal", "_law_bound", "_law_rest"]
def a1 : E := .and (.cmp .ne (.idx (.varT 0) (.cst (.int 0))) (.lst [])) (.cmp .eq (.idx (.idx (.varT 0) (.cst (.int 0))) (.neg (.cst (.int 1)))) (.cst (.int 0)))
def a2 : E := .cmp .ne (.idx (.varT 0) (.cst (.int 0))) (.lst [])
def a3 : E := .bin .fdiv (.varT 2) (.varT 1)
def a4 : E := .bin .mod (.varT 2) (.varT 1)
def a5 : E := .bin .mod (.bi .int [.bin .add (.bin .mul (.idx (.varT 0) (.cst (.int 1))) (.cst (.int 40693))) (.cst (.int 71))]) (.cst (.int 2147483647))
def a6 : E := .bin .mod (.bi .int [.bin .fdiv (.idx (.varT 0) (.cst (.int 1))) (.cst (.int 64))]) (.varT 1)
section
variable {k : CallT}
theorem a1_nil {bl b : Int} {z : NB.Slot} {s : S} : tst k a1 [.val (dealD ⟨[], bl⟩), .val (.int b), z] s = .ok false s := by
  simp [a1, tst, ev, evL, getT, dealD, idxD, atD_zero, lstOk, cmpD, eqOk_nil0, eqv_nil, truthD]
theorem a1_app {cs : List Int} {y bl b : Int} {z : NB.Slot} {s : S} : tst k a1 [.val (dealD ⟨cs ++ [y], bl⟩), .val (.int b), z] s = .ok (y == 0) s := by
  have h1 := eqOk_nil (cs ++ [y])
  rw [List.map_append, List.map_cons, List.map_nil] at h1
  simp [a1, tst, ev, evL, getT, dealD, idxD, atD_zero, atD_last, lstOk, cmpD, eqv_nil, truthD, h1, negD, eqOk_int, eqv_int]
theorem a2_run {cs : List Int} {bl b : Int} {z : NB.Slot} {s : S} : tst k a2 [.val (dealD ⟨cs, bl⟩), .val (.int b), z] s = .ok (!cs.isEmpty) s := by
  simp [a2, tst, ev, evL, getT, dealD, idxD, atD_zero, lstOk, cmpD, eqOk_nil, eqv_nil, truthD]
theorem a3_run {x : NB.Slot} {r b : Int} {s : S} (h : 0 < b) (h2 : b.natAbs.log2 < 9000) : ev k a3 [x, .val (.int b), .val (.int r)] s = .ok (.int (r.fdiv b)) s := by
  have h3 : divOk b = true := by unfold divOk; simp [h2]; omega
  simp [a3, ev, getT, binD, h3]
theorem a4_run {x : NB.Slot} {r b : Int} {s : S} (h : 0 < b) : ev k a4 [x, .val (.int b), .val (.int r)] s = .ok (.int (r.fmod b)) s := by
  have h3 : b ≠ 0 := by omega
  simp [a4, ev, getT, binD, h3]
theorem a5_run {cs : List Int} {bl : Int} {x z : NB.Slot} {s : S} (h : bl.natAbs.log2 < 500000) : ev k a5 [.val (dealD ⟨cs, bl⟩), x, z] s = .ok (.int ((bl * 40693 + 71).fmod 2147483647)) s := by
  have h3 : mulOk bl 40693 = true := by
    unfold mulOk
    have : (40693 : Int).natAbs.log2 = 15 := by decide
    rw [this]
    simp
    omega
  have h1 : atD [PyData.list (cs.map .int), PyData.int bl] 1 = some (.int bl) := by
    have := atD_at [PyData.list (cs.map .int), PyData.int bl] 1
    simpa using this
  simp [a5, ev, evL, getT, dealD, idxD, h1, binD, h3, biD]
theorem a6_run {cs : List Int} {bl b : Int} {z : NB.Slot} {s : S} (h : 0 < b) : ev k a6 [.val (dealD ⟨cs, bl⟩), .val (.int b), z] s = .ok (.int ((bl.fdiv 64).fmod b)) s := by
  have h3 : b ≠ 0 := by omega
  have h4 : divOk 64 = true := by decide
  have h1 : atD [PyData.list (cs.map .int), PyData.int bl] 1 = some (.int bl) := by
    have := atD_at [PyData.list (cs.map .int), PyData.int bl] 1
    simpa using this
  simp [a6, ev, evL, getT, dealD, idxD, h1, binD, h3, h4, biD]
theorem log_small {b : Int} (h : 0 ≤ b ∧ b < 1099511627776) : b.natAbs.log2 < 500000 := by
  have h1 : b.natAbs < 2 ^ 40 := by
    have : (2 : Nat) ^ 40 = 1099511627776 := by decide
    omega
  by_cases h0 : b.natAbs = 0
  · rw [h0]; decide
  · have := (Nat.log2_lt h0).mpr h1
    omega
/-! the frame of its body -/
theorem any_fh {H : Hp} : FH [] (fun _ => False) [] H := ⟨⟨rfl, fun n p d h => by simp at h, by simp⟩, fun a h => h.elim⟩
theorem any_rep {K : PySem.W.Frag} {H : Hp} {p : Addr × Addr} {d : Deal} (h : DealAt H p d) : Rep K (Bo [] fun _ => False) H (.ref p.1) (dealD d) := by
  have nb : ∀ a, ¬ Bo [] (fun _ => False) a := fun a z => z.elim (fun ⟨q, m, _⟩ => by simp at m) id
  exact .lst h.out (nb _) (.cons (.lst h.inn (nb _) (RepL.of_ints _)) (.cons (.int _) .nil))
theorem any_fe {K : PySem.W.Frag} {H : Hp} {p : Addr × Addr} {d : Deal} {b : Int} {z : Option V} (h : DealAt H p d) : FE K [] (fun _ => False) [.val (dealD d), .val (.int b), .non] [] [some (.ref p.1), some (.int b), z] H := by
  refine ⟨any_fh, fun i x e => ?_, rfl⟩
  match i, e with
  | 0, e => cases e; exact ⟨_, rfl, any_rep h⟩
  | 1, e => cases e; exact ⟨_, rfl, .int b⟩
  | 2, e => cases e; trivial
  | i + 3, e => simp at e
theorem any_fe2 {K : PySem.W.Frag} {H : Hp} {p : Addr × Addr} {d : Deal} {b r : Int} (h : DealAt H p d) : FE K [] (fun _ => False) [.val (dealD d), .val (.int b), .val (.int r)] [] [some (.ref p.1), some (.int b), some (.int r)] H := by
  refine ⟨any_fh, fun i x e => ?_, rfl⟩
  match i, e with
  | 0, e => cases e; exact ⟨_, rfl, any_rep h⟩
  | 1, e => cases e; exact ⟨_, rfl, .int b⟩
  | 2, e => cases e; exact ⟨_, rfl, .int r⟩
  | i + 3, e => simp at e
theorem DealAt.step {H H' : Hp} {p : Addr × Addr} {d : Deal} (h : DealAt H p d) (st : Step [] H H') : DealAt H' p d := by
  have nb : ∀ a, ¬ inH [] a := fun a ⟨q, m, _⟩ => by simp at m
  exact ⟨st _ _ h.out (nb _), st _ _ h.inn (nb _), h.len, h.sm⟩
/-- what is not the deal stays -/
def Kept (p : Addr × Addr) (H H' : Hp) : Prop := ∀ a o, H a = some o → a ≠ p.1 → a ≠ p.2 → H' a = some o
theorem Kept.step {p : Addr × Addr} {H H1 H2 : Hp} (h : Kept p H H1) (st : Step [] H1 H2) : Kept p H H2 := fun a o e n1 n2 => st a o (h a o e n1 n2) fun ⟨q, m, _⟩ => by simp at m
theorem Kept.upd {p : Addr × Addr} {H H1 : Hp} {a : Addr} {o : HO} (h : Kept p H H1) (ha : a = p.1 ∨ a = p.2) : Kept p H (upd H1 a o) := fun b u e n1 n2 => by
  rw [upd_ne fun z => ha.elim (fun w => n1 (z.trans w)) fun w => n2 (z.trans w)]
  exact h b u e n1 n2
/-- deal[0] -/
theorem d0_run {K : PySem.W.Frag} {σ : St} {H : Hp} {p : Addr × Addr} {d : Deal} {Q : VK} (hσ : σ[0]? = some (some (.ref p.1))) (h : DealAt H p d) (q : Q (.ref p.2) H) : tOp (rIx K) (tVar 0) (tC (.int 0)) σ H Q :=
  ⟨_, hσ, .inl ⟨p.1, _, 0, _, rfl, rfl, .of h.out, rfl, q⟩⟩
end
end L2.NB
set_option Elab.async false
set_option linter.all false
set_option maxRecDepth 100000
/-! NB23: `_law_any` keeps its promise. -/
namespace L2.NB
open PySem PySem.Spec PyProof.Rows

theorem list_snoc (l : List Int) : l = [] ∨ ∃ xs y, l = xs ++ [y] := by
  rcases List.eq_nil_or_concat l with h | ⟨xs, y, h⟩
  · exact .inl h
  · exact .inr ⟨xs, y, by rw [h, List.concat_eq_append]⟩
theorem anyD_nil {d : Deal} {b : Int} (h : trim d.cells = []) : anyD d b = (((d.blend * 40693 + 71).fmod 2147483647).fdiv 64 |>.fmod b, ⟨[], (d.blend * 40693 + 71).fmod 2147483647⟩) := by
  unfold anyD
  rw [h]
  rfl
theorem anyD_app {d : Deal} {b r : Int} {l : List Int} (h : trim d.cells = l ++ [r]) : anyD d b = (r.fmod b, ⟨l ++ [r.fdiv b], d.blend⟩) := by
  unfold anyD
  rw [h, List.reverse_append]
  simp
theorem getLast_ref (l : List Int) (y : Int) : ((l ++ [y]).map V.int)[((l ++ [y]).map V.int).length - 1]? = some (.int y) := by simp
theorem dropLast_ref (l : List Int) (y : Int) : ((l ++ [y]).map V.int).dropLast = l.map V.int := by simp
section
variable {pw : Program} {w : World} {K : PySem.W.Frag} {mg : Str → Option Value} {base : Heap} {f : Addr} {fd : FuncData} {st : Stmt}
theorem any_fn (F : FunD K "_law_any" "_law_any" (defArgs st) (defBody st) (defScope st) [] [] f fd) (S : FnScope anyN ["_law_deal", "_law_bound"] (defScope st)) (hi : mg "int" = none)
    {e1 e2 e3 e4 e5 e6 : Expr} {n1 n2 n3 n4 : Nat} {k1 k2 k3 k4 m1 m2 m3 m4 o1 o2 o3 b1 q1 w1 r1 i1 j1 b2 q2 b3 q3 q4 w2 s4 q5 q6 c1 c2 c3 : Pos}
    (hb : defBody st = [
      .While e1 [.Expr (.Call (.Attribute (.Subscript (.Name "_law_deal" k1) (.Constant (.int 0) n1 m1) o1) "pop" b1) [] [] c1) q1] [] w1,
      .If e2 [.Assign [.Name "_law_rest" r1] (.Call (.Name "int" i1) [.Call (.Attribute (.Subscript (.Name "_law_deal" k2) (.Constant (.int 0) n2 m2) o2) "pop" b2) [] [] c2] [] j1) q2,
        .Expr (.Call (.Attribute (.Subscript (.Name "_law_deal" k3) (.Constant (.int 0) n3 m3) o3) "append" b3) [e3] [] c3) q3, .Return (some e4) q4] [] w2,
      .Assign [.Subscript (.Name "_law_deal" k4) (.Constant (.int 1) n4 m4) s4] e5 q5, .Return (some e6) q6])
    (hl : (b1.endLine == c1.line) = true ∧ (b2.endLine == c2.line) = true ∧ (b3.endLine == c3.line) = true ∧ noStar e3 = true ∧ notComp e5 = true ∧ glB (defScope st) "int" = true ∧ locB (defScope st) "_law_deal" = true ∧ (defScope st).names.lookup ("_law_rest" : Str) = some NameKind.local)
    (h1 : (recN 30).b ⟨anyN, defScope st, fun _ => true, [], ["int"], [], []⟩ e1 = some a1) (h2 : (recN 30).b ⟨anyN, defScope st, fun _ => true, [], ["int"], [], []⟩ e2 = some a2) (h3 : (recN 30).e ⟨anyN, defScope st, fun _ => true, [], ["int"], [], []⟩ false e3 = some a3)
    (h4 : (recN 30).e ⟨anyN, defScope st, fun _ => true, [], ["int"], [], []⟩ false e4 = some a4) (h5 : (recN 30).e ⟨anyN, defScope st, fun _ => true, [], ["int"], [], []⟩ false e5 = some a5) (h6 : (recN 30).e ⟨anyN, defScope st, fun _ => true, [], ["int"], [], []⟩ false e6 = some a6) :
    FnG pw w K mg base 1 f fd ["_law_deal", "_law_bound"] spAny := by
  refine fn_x F S (fun vs H Q E ⟨p, d, b, e, _⟩ => by rw [e]; rfl) fun X hX vs H Q hsp => ?_
  have hc : CpOk [] ⟨anyN, defScope st, fun _ => true, [], ["int"], [], []⟩ ⟨pw, w, K, mg, base, anyN, defScope st, 0, fun _ => true⟩ :=
    ⟨rfl, rfl, rfl, fun x d h => by simp at h, fun x h => by simp at h; rw [h]; exact hi, fun x h => by simp at h, fun f F e => by cases e⟩
  obtain ⟨t1, p1, g1⟩ := (recN_ok 30).gb _ _ _ hc _ _ h1
  obtain ⟨t2, p2, g2⟩ := (recN_ok 30).gb _ _ _ hc _ _ h2
  obtain ⟨t3, p3, g3⟩ := (recN_ok 30).ge _ _ _ hc _ _ h3
  obtain ⟨t4, p4, g4⟩ := (recN_ok 30).ge _ _ _ hc _ _ h4
  obtain ⟨t5, p5, g5⟩ := (recN_ok 30).ge _ _ _ hc _ _ h5
  obtain ⟨t6, p6, g6⟩ := (recN_ok 30).ge _ _ _ hc _ _ h6
  obtain ⟨l1, l2, l3, ns, nc, gi, ld, hrl⟩ := hl
  have hvd : Vis (defScope st) "_law_deal" := (loc_of ld).elim .inl fun z => .inr (.inl z)
  have pd : ∀ {pos : Pos}, PE X (.Name "_law_deal" pos) (tVar 0) := fun {pos} => pe_var (by rw [hX.N]; rfl) (by rw [hX.sc]; exact hvd)
  have p0 : ∀ {k m o : Pos} {n : Nat}, PE X (.Subscript (.Name "_law_deal" k) (.Constant (.int 0) n m) o) (tOp (rIx X.K) (tVar 0) (tC (.int 0))) := fun {k m o n} => pe_ix ix_seq pd pe_int (plainIx_of rfl)
  rw [hb]
  refine ⟨_, pss_cons (ps_while (by rw [hX.xe]; exact PassesOwn.never) (p1 X hX) (pss_one (ps_expr (pe_bm0 PySem.F.plainAttrs_list PySem.F.slot_list_pop PySem.F.type_list_pop mt_pop p0 rfl l1) rfl)))
      (pss_cons (ps_if (p2 X hX) (pss_cons (ps_set (i := 2) (by rw [hX.N]; exact hX.nd) (by rw [hX.N]; rfl) (.inl (by rw [hX.sc]; exact hrl)) (pe_callTy call_int1 (hX.gl (gl_of gi)) (hX.mgn hi) (by decide +kernel) (pa_cons (pe_bm0 PySem.F.plainAttrs_list PySem.F.slot_list_pop PySem.F.type_list_pop mt_pop p0 rfl l2) pa_nil)) rfl (.inl (by rw [hX.fn])))
        (pss_cons (ps_expr (pe_bm PySem.F.plainAttrs_list PySem.F.slot_list_append PySem.F.type_list_append mt_append p0 (pa_cons (p3 X hX) pa_nil (starEach_cons ns)) rfl (by rw [starEach_cons ns]; rfl) l3 (starEach_cons ns) rfl) rfl) (pss_one (ps_ret (p4 X hX))))) pss_nil)
      (pss_cons (ps_asg (p5 X hX) (pg_sub pd pe_int set_list) (by cases e5 <;> rfl) (by cases e5 <;> rfl) rfl) (pss_one (ps_ret (p6 X hX))))), ?_⟩
  obtain ⟨p, d, b, rfl, hd, hne, hb0, hb2, q⟩ := hsp
  have hσ : L2.start anyN [.ref p.1, .int b] = [some (.ref p.1), some (.int b), none] := rfl
  rw [hσ]
  have nb : ∀ a, ¬ inH [] a := fun a ⟨q, m, _⟩ => by simp at m
  -- the loop
  refine ⟨fun m σ' H' => σ' = [some (.ref p.1), some (.int b), none] ∧ ∃ cs, m = cs.length ∧ trim cs = trim d.cells ∧ DealAt H' p ⟨cs, d.blend⟩ ∧ Kept p H H', ⟨_, rfl, d.cells, rfl, rfl, hd, fun a o e _ _ => e⟩, ?_⟩
  rintro m σ' H1 ⟨rfl, cs, rfl, ht, hd1, hk1⟩
  rcases list_snoc cs with rfl | ⟨xs, y, rfl⟩
  · -- no cells
    refine g1 [] _ _ [] _ H1 _ false [] (any_fe hd1) a1_nil fun H2 h2' st2 => ?_
    rw [if_neg Bool.false_ne_true]
    have hd2 := hd1.step st2
    have hk2 := hk1.step st2
    rw [trim_nil] at ht
    refine g2 [] _ _ [] _ H2 _ false [] (any_fe hd2) a2_run fun H3 h3' st3 => ?_
    rw [if_neg Bool.false_ne_true]
    have hd3 := hd2.step st3
    have hk3 := hk2.step st3
    refine g5 [] _ _ [] _ H3 _ _ [] (any_fe hd3) (a5_run (log_small hd.sm)) fun x H4 h4' st4 r4 => ?_
    cases r4.int_inv
    have hd4 := hd3.step st4
    have hk4 := hk3.step st4
    refine ⟨_, rfl, p.1, _, 1, 1, rfl, rfl, hd4.out, rfl, ?_⟩
    have e := anyD_nil (b := b) ht.symm
    have hd5 : DealAt (upd H4 p.1 (.lst [V.ref p.2, V.int ((d.blend * 40693 + 71).fmod 2147483647)])) p ⟨[], (d.blend * 40693 + 71).fmod 2147483647⟩ := by
      have := anyD_blend d b hd.sm
      rw [e] at this
      exact ⟨upd_same, by rw [upd_ne hne.symm]; exact hd4.inn, Nat.zero_le _, this⟩
    refine g6 [] _ _ [] _ _ _ _ [] (any_fe hd5) (a6_run hb0) fun x H6 h6' st6 r6 => ?_
    cases r6.int_inv
    have hq := q H6 (by rw [e]; exact hd5.step st6) ((hk4.upd (.inl rfl)).step st6)
    rw [e] at hq
    exact hq
  · by_cases hy : y = 0
    · subst hy
      refine g1 [] _ _ [] _ H1 _ true [] (any_fe hd1) a1_app fun H2 h2' st2 => ?_
      rw [if_pos rfl]
      have hd2 := hd1.step st2
      have hk2 := hk1.step st2
      refine ⟨fun σ' H' => σ' = [some (.ref p.1), some (.int b), none] ∧ trim xs = trim d.cells ∧ DealAt H' p ⟨xs, d.blend⟩ ∧ Kept p H H', fun σ' H' ⟨z1, z2, z3, z4⟩ => ⟨xs.length, by simp, z1, xs, rfl, z2, z3, z4⟩, ?_⟩
      refine d0_run rfl hd2 ⟨.inl ⟨rfl, _, .of hd2.inn⟩, p.2, _, _, rfl, rfl, hd2.inn, getLast_ref _ _, rfl, ?_, ?_, hk2.upd (.inr rfl)⟩
      · rw [← ht, trim_zero]
      · rw [dropLast_ref]
        have := hd.len
        have l2 := hd2.len
        exact ⟨by rw [upd_ne hne]; exact hd2.out, upd_same, by simp at l2; show xs.length ≤ 64; omega, hd2.sm⟩
    · refine g1 [] _ _ [] _ H1 _ false [] (any_fe hd1) (by rw [a1_app]; simp [hy]) fun H2 h2' st2 => ?_
      rw [if_neg Bool.false_ne_true]
      have hd2 := hd1.step st2
      have hk2 := hk1.step st2
      rw [trim_last _ hy] at ht
      refine g2 [] _ _ [] _ H2 _ true [] (any_fe hd2) (by rw [a2_run]; simp) fun H3 h3' st3 => ?_
      rw [if_pos rfl]
      have hd3 := hd2.step st3
      have hk3 := hk2.step st3
      refine d0_run rfl hd3 ⟨.inl ⟨rfl, _, .of hd3.inn⟩, p.2, _, _, rfl, rfl, hd3.inn, getLast_ref _ _, .inl ⟨y, rfl, ?_⟩⟩
      rw [dropLast_ref]
      have l3' := hd3.len
      have hd4 : DealAt (upd H3 p.2 (.lst (xs.map V.int))) p ⟨xs, d.blend⟩ := ⟨by rw [upd_ne hne]; exact hd3.out, upd_same, by simp at l3'; show xs.length ≤ 64; omega, hd3.sm⟩
      have hk4 := hk3.upd (a := p.2) (o := .lst (xs.map V.int)) (.inr rfl)
      refine d0_run rfl hd4 ⟨.inl ⟨rfl, _, .of hd4.inn⟩, ?_⟩
      refine g3 [] _ _ [] _ _ _ _ [] (any_fe2 hd4) (a3_run hb0 hb2) fun x H5 h5' st5 r5 => ?_
      cases r5.int_inv
      have hd5 := hd4.step st5
      have hk5 := hk4.step st5
      have l5 := hd5.len
      simp at l3' l5
      refine ⟨p.2, _, _, rfl, rfl, hd5.inn, by rw [List.length_map]; exact Nat.lt_of_le_of_lt l5 (by decide), ?_⟩
      have e := anyD_app (b := b) ht.symm
      have hd6 : DealAt (upd H5 p.2 (.lst (xs.map V.int ++ [V.int (y.fdiv b)]))) p ⟨xs ++ [y.fdiv b], d.blend⟩ := ⟨by rw [upd_ne hne]; exact hd5.out, by rw [upd_same]; simp, by simp; omega, hd5.sm⟩
      refine g4 [] _ _ [] _ _ _ _ [] (any_fe2 hd6) (a4_run hb0) fun x H7 h7' st7 r7 => ?_
      cases r7.int_inv
      have hq := q H7 (by rw [e]; exact hd6.step st7) ((hk5.upd (.inr rfl)).step st7)
      rw [e] at hq
      exact hq
end
end L2.NB
set_option Elab.async false
set_option linter.all false
set_option maxRecDepth 100000
/-! NB24: the law's own def; the end. -/
namespace L2.NB
open PySem PySem.Spec PyProof.Rows

def spLaw (K : PySem.W.Frag) : Sp := fun vs H Q _ => ∃ (a : Addr) (ns : List Int), vs = [.ref a] ∧ ns.length ≤ 63 ∧ ScrAt K (fun _ => False) H a ns ∧ ∀ H', Q (.bl true) H'
/-- the slots behind the draw -/
def envL (n : Nat) : Env := .non :: .hnd 0 :: List.replicate (n - 2) .non
/-- what is to be shown of the values: the draw gives a deal, the rest of the law's body gives True -/
def Runs (P : Prog) (n nslots : Nat) (salt : Int) (b : List C) : Prop := ∀ ns : List Int, ns.length ≤ 63 → ∃ dl : Deal, callN P n "_law_draw" [.s ns, .d (.int salt)] [] = .ok (dealD dl) [] ∧ dl.cells.length ≤ 64 ∧ (0 ≤ dl.blend ∧ dl.blend < 1099511627776) ∧
  ∃ v' s', exs (callN P n) b (envL nslots) [dl] = .ok (.rt (.bool true), v') s'
section
variable {pw : Program} {w : World} {K : PySem.W.Frag} {mg : Str → Option Value} {base : Heap} {f : Addr} {fd : FuncData} {st : Stmt} {P : Prog} {n : Nat} {kws : List (Str × List Str × List Nat)} {cs : List (Str × PyData)} {bl fs : List Str}
theorem law_fn (F : FunD K "law" "law" (defArgs st) (defBody st) (defScope st) [] [] f fd) {N : List Str} (S : FnScope N ["_law_script"] (defScope st)) (hN : 2 ≤ N.length) (hN1 : N[1]? = some ("_law_deal" : Str)) (hN0 : N[0]? = some ("_law_script" : Str)) (hld : locB (defScope st) "_law_deal" = true)
    (Fs : Fns P pw w K mg base n kws) (hcs : ∀ x d, (x, d) ∈ cs → ConstOk K mg x d) (hbl : ∀ x ∈ bl, mg x = none) (hfs : ∀ x ∈ fs, (P.fn x).isSome = true)
    {e : Expr} {rest : List Stmt} {p q : Pos} {salt : Int} {b : List C} (hb : defBody st = .Assign [.Name "_law_deal" p] e q :: rest) (hn : notComp e = true) (he : (recN 30).e ⟨N, defScope st, fun _ => true, cs, bl, fs, kws⟩ false e = some (.call "_law_draw" [.hnd 0, .cst (.int salt)]))
    {mu : List Nat} (hr : cBlk (cS (recN 30) ⟨N, defScope st, fun _ => true, cs, bl, fs, kws⟩ mu 12) rest = some b) (run : Runs P n N.length salt b) : FnG pw w K mg base (n + 1) f fd ["_law_script"] (spLaw K) := by
  refine fn_x F S (fun vs H Q E ⟨a, ns, e, _⟩ => by rw [e]; rfl) fun X hX vs H Q hsp => ?_
  have hc : CpOk P ⟨N, defScope st, fun _ => true, cs, bl, fs, kws⟩ ⟨pw, w, K, mg, base, N, defScope st, n, fun _ => true⟩ := ⟨rfl, rfl, rfl, hcs, hbl, hfs, Fs⟩
  obtain ⟨t1, p1, g1⟩ := (recN_ok 30).ge _ _ _ hc _ _ he
  obtain ⟨t2, p2, g2⟩ := cBlk_ok (fun st t e => cS_ok (recN_ok 30) hc 12 st t e) hr
  rw [hb]
  refine ⟨_, pss_cons (ps_set (i := 1) (by rw [hX.N]; exact hX.nd) (by rw [hX.N]; exact hN1) (by rw [hX.sc]; exact loc_of hld) (p1 X hX) (sw_false hn _ _ _) (.inl (by rw [hX.fn]))) (p2 X hX), ?_⟩
  obtain ⟨a, ns, rfl, hl, hs, q⟩ := hsp
  obtain ⟨dl, e1, e2, e3, v', s', e4⟩ := run ns hl
  have nb : ∀ a, ¬ Bo [] (fun _ => False) a := fun a z => z.elim (fun ⟨q, m, _⟩ => by simp at m) id
  have sc : ScrAt K (Bo [] fun _ => False) H a ns := by
    rcases hs with ⟨o, h1, _⟩ | h
    · exact .inl ⟨o, h1, nb a⟩
    · exact .inr h
  have F0 : FS K [] (fun _ => False) (fun _ => False) (start N.length [.s ns]) [] (L2.start N [.ref a]) H := fs_start any_fh ⟨⟨a, rfl, sc⟩, trivial⟩ (by simp; omega)
  have hl0 : (L2.start N [V.ref a]).length = N.length := by
    unfold L2.start
    simp
    omega
  have ev1 : ev (callN P n) (.call "_law_draw" [.hnd 0, .cst (.int salt)]) (start N.length [.s ns]) [] = .ok (dealD dl) [] := by
    rw [ev, evA, evA_cons rfl, evA]
    have h0 : getH 0 (start N.length [.s ns]) = some (.s ns) := rfl
    rw [h0]
    simp only [run_bind, run_some, ev, run_pure]
    exact e1
  refine g1 [] _ _ [] _ H _ _ [] F0.toFE ev1 fun x H1 h1 st1 r1 => ?_
  obtain ⟨a1, vs1, rfl, o1, _, r1⟩ := r1.lst_inv
  cases r1 with | cons ra rb =>
  cases rb with | cons rc rd =>
  cases rd
  obtain ⟨a2, vs2, rfl, o2, _, r2⟩ := ra.lst_inv
  cases rc.int_inv
  have hv2 : vs2 = dl.cells.map V.int := by
    have : ∀ (l : List Int) (vs : List V), RepL K (Bo [] fun _ => False) H1 vs (l.map .int) → vs = l.map V.int := by
      intro l
      induction l with
      | nil => intro vs h; cases h; rfl
      | cons i l ih =>
        intro vs h
        cases h with | cons x y =>
        cases x
        rw [ih _ y]
        rfl
    exact this _ _ r2
  subst hv2
  have hne : a1 ≠ a2 := fun z => by
    subst z
    rw [o1] at o2
    have := HO.lst.inj (Option.some.inj o2)
    cases hcl : dl.cells with
    | nil => rw [hcl] at this; cases this
    | cons i l => rw [hcl] at this; simp at this
  have hd : DealAt H1 (a1, a2) dl := ⟨o1, o2, e2, e3⟩
  have HR : HRel [(a1, a2)] [dl] H1 := ⟨rfl, fun k p d hp hd' => by
    cases k with
    | zero => cases hp; cases hd'; exact hd
    | succ k => simp at hp, by simpa using hne⟩
  have FS1 : FS K [(a1, a2)] (fun _ => False) (fun _ => False) (envL N.length) [dl] ((L2.start N [V.ref a]).set 1 (some (.ref a1))) H1 := by
    have no : ∀ (i : Nat) (ys : List PyData), (envL N.length)[i]? ≠ some (.own ys) := fun i ys e => by
      unfold envL at e
      match i, e with
      | 0, e => cases e
      | 1, e => cases e
      | i + 2, e =>
        simp only [List.getElem?_cons_succ, List.getElem?_replicate] at e
        split at e <;> cases e
    refine ⟨⟨⟨HR, fun a h => h.elim⟩, fun i x ei => ?_, ?_⟩, fun _ z => z, fun i ys a e => absurd e (no i ys), fun i _ ys _ _ e => absurd e (no i ys)⟩
    · unfold envL at ei
      match i, ei with
      | 0, ei => cases ei; trivial
      | 1, ei =>
        cases ei
        exact ⟨(a1, a2), rfl, by rw [List.getElem?_set_self (by rw [hl0]; omega)]⟩
      | i + 2, ei =>
        simp only [List.getElem?_cons_succ, List.getElem?_replicate] at ei
        split at ei
        · cases ei; trivial
        · cases ei
    · rw [List.length_set, hl0]
      unfold envL
      simp
      omega
  refine g2 [(a1, a2)] _ _ _ [dl] _ H1 _ (.rt (.bool true)) v' s' FS1 e4 fun O' x H' h' r' ss => ?_
  cases r'.bl_inv
  exact q H'
/-- the goal that the head leaves (case hc), from the law's promise -/
theorem law_end {l : PySem.W.OpenLaw} {n : Nat} {qq : Program} {loose : List Str} {XP : (Str → Option Value) → Heap → Prop} {YP : World → Heap → Prop} {d : DefRec} {x : Str} (hn : l.most = some 63) (hdf : d.params.defaults = []) (hr : Room n callerA)
    (F : ∀ (w : World) (mg : Str → Option Value) (fa : Addr) (h : Heap), YP w h → h.Ns mainGlobals mg → mg d.name = some (.ref fa) →
      ∃ (K : PySem.W.Frag) (fd : FuncData), K.In h ∧ (∀ (s : Shared) (u : Value), BindsTo s fd ⟨[u], []⟩ [(x, u)]) ∧ ∀ base : Heap, K.In base → base.Ns mainGlobals mg → FnG l.prog w K mg base n fa fd [x] (spLaw K)) :
    PySem.W.WalkO qq loose XP YP l.row.toRowW d [] (fun f vs => PySem.call f vs) := by
  refine Att.attach_call hn hdf fun w s0 s1 mg mb fa o pm cd doc a vs ns G Y ho hd hcd hmg hobj hints hlen hg => ?_
  obtain ⟨K, fd, KX, hb, hF⟩ := F w mg fa _ Y G.T.g hmg
  have lenV := hints.length
  have h63 : ns.length ≤ sizeLine := Nat.le_trans hlen (by decide)
  obtain ⟨H, hsc, hok, honly, hKn⟩ : ∃ H : Hp, ScrAt K (fun _ => False) H a ns ∧ HOk l.prog w H s1.heap ∧ (∀ b, H b = none ∨ (b = a ∧ H b = some (.frz { cls := .type "list", data := .seq vs.toArray } (.lst (ns.map V.int))))) ∧ (H a ≠ none → K.lookup a = none) := by
    cases hk : K.lookup a with
    | some ob =>
      have e := KX a ob hk
      rw [hobj] at e
      cases e
      exact ⟨fun _ => none, .inr ⟨_, vs.toArray, _, hk, rfl, rfl, rfl, by rw [List.size_toArray, lenV]; exact h63, by simpa using vals_ints hints⟩, fun b u z => (by cases z), fun b => .inl rfl, fun z => absurd rfl z⟩
    | none =>
      refine ⟨upd (fun _ => none) a (.frz { cls := .type "list", data := .seq vs.toArray } (.lst (ns.map V.int))), .inl ⟨_, upd_same, fun z => z⟩, fun b u z => ?_, fun b => ?_, fun _ => rfl⟩
      · by_cases hba : b = a
        · subst hba
          rw [upd_same] at z
          cases z
          exact ⟨hobj, by rw [List.length_map]; exact h63, vs, _, vals_ints hints, hobj⟩
        · rw [upd_ne hba] at z
          cases z
      · by_cases hba : b = a
        · exact .inr ⟨hba, by rw [hba]; exact upd_same⟩
        · exact .inl (upd_ne hba)
  have out : ∀ {b : Addr} {ob : Obj} {es : Array DictEntry} {ep : Nat}, s1.heap.get? b = some ob → ob.data = .dict es ep → H b = none := fun {b ob es ep} e dd => by
    rcases honly b with z | ⟨rfl, _⟩
    · exact z
    · rw [hobj] at e
      cases e
      cases dd
  have nsH : ∀ {b : Addr} {m : Str → Option Value}, s1.heap.Ns b m → (hidT s1.heap H).Ns b m := fun {b m} z => by
    obtain ⟨ob, es, ep, e, dd, r⟩ := z
    exact ⟨ob, es, ep, hidT_get e (out e dd), dd, r⟩
  have hKb : K.In (hidT s1.heap H) := fun b ob e => hidT_get (KX b ob e) (by
    rcases honly b with z | ⟨rfl, z⟩
    · exact z
    · have := hKn (by rw [z]; simp)
      rw [e] at this
      cases this)
  have hM : Mod K mg (hidT s1.heap H) := ⟨hKb, nsH G.T.g, ⟨mb, nsH G.T.b, G.T.builtins⟩, by
    obtain ⟨mc, h1, h2⟩ := G.T.nolimit
    exact ⟨mc, nsH h1, h2⟩⟩
  have nil : ∀ b : Addr, b ∉ frs ([] : List PySem.Env) := fun b hb => by simp [frs] at hb
  have env0 : Env0 l.prog w K mg (hidT s1.heap H) callerA [] s1 H := ⟨rfl, hM, fun b ob e => of_hidT e, Nat.le_of_eq (hidT_size _ _), trivial, fun b hb => absurd hb (nil b), hok, .of_eq hg⟩
  refine codeAny_mono ((hF _ hKb (nsH G.T.g)).run callerA [] s1 H ⟨[.ref a], []⟩ [.ref a] [.ref a] (fun v _ => v = .bl true) hr rfl env0 (hb s1 (.ref a)) (.cons rfl .nil) ⟨a, ns, rfl, hlen, hsc, fun _ => rfl⟩) fun r s' hq => ?_
  cases r with
  | error e => exact False.elim hq
  | ok fl =>
    cases fl with
    | next => exact False.elim hq
    | brk => exact False.elim hq
    | cont => exact False.elim hq
    | ret u =>
      obtain ⟨v, H', os, bare, un, hok', rv, hv⟩ := hq
      have hv' : v = .bl true := hv
      subst hv'
      have hu : u = Value.bool true := rv
      subst hu
      refine ⟨rfl, OldK.of_keep fun b ob e => ?_, os, bare⟩
      rcases honly b with z | ⟨rfl, z⟩
      · exact un.keep b ob e z (nil b) (by simp)
      · have z2 := un.frzs b _ _ z
        have e1 := (hok b _ z).1
        have e2 := (hok' b _ z2).1
        rw [e] at e1
        cases e1
        exact e2
end
end L2.NB
set_option Elab.async false
set_option linter.all false
set_option maxRecDepth 100000
/-! NB25: small lists of facts. -/
namespace L2.NB
open PySem PySem.Spec PyProof.Rows

def AllC (K : PySem.W.Frag) (mg : Str → Option Value) : List (Str × PyData) → Prop
  | [] => True
  | (x, d) :: r => ConstOk K mg x d ∧ AllC K mg r
theorem AllC.get {K : PySem.W.Frag} {mg : Str → Option Value} : ∀ {l : List (Str × PyData)}, AllC K mg l → ∀ x d, (x, d) ∈ l → ConstOk K mg x d
  | (y, e) :: r, h, x, d, m => by
    rcases List.mem_cons.mp m with z | m
    · cases z; exact h.1
    · exact AllC.get h.2 x d m
def AllF (mg : Str → Option Value) : List Str → Prop
  | [] => True
  | x :: r => mg x = none ∧ AllF mg r
theorem AllF.get {mg : Str → Option Value} : ∀ {l : List Str}, AllF mg l → ∀ x ∈ l, mg x = none
  | y :: r, h, x, m => by
    rcases List.mem_cons.mp m with z | m
    · subst z; exact h.1
    · exact AllF.get h.2 x m
theorem fs_ok {P : Prog} {fs : List Str} (h : (fs.all fun x => (P.fn x).isSome) = true) : ∀ x ∈ fs, (P.fn x).isSome = true := fun x m => List.all_eq_true.mp h x m
theorem no_kw {K : PySem.W.Frag} {fd : FuncData} {ps : List Str} {f : Str} {l : List (Str × List Str × List Nat)} (h : kwsFor f l = []) : ∀ t ∈ kwsFor f l, KwOk K fd ps t.1 t.2 := fun t m => by rw [h] at m; cases m
theorem one_kw {K : PySem.W.Frag} {fd : FuncData} {ps ks : List Str} {perm : List Nat} {f : Str} {l : List (Str × List Str × List Nat)} (h : kwsFor f l = [(ks, perm)]) (k : KwOk K fd ps ks perm) : ∀ t ∈ kwsFor f l, KwOk K fd ps t.1 t.2 := fun t m => by
  rw [h] at m
  cases List.mem_singleton.mp m
  exact k
theorem two_kw {K : PySem.W.Frag} {fd : FuncData} {ps ks ks' : List Str} {perm perm' : List Nat} {f : Str} {l : List (Str × List Str × List Nat)} (h : kwsFor f l = [(ks, perm), (ks', perm')]) (k : KwOk K fd ps ks perm) (k' : KwOk K fd ps ks' perm') : ∀ t ∈ kwsFor f l, KwOk K fd ps t.1 t.2 := fun t m => by
  rw [h] at m
  rcases List.mem_cons.mp m with z | m
  · subst z; exact k
  · cases List.mem_singleton.mp m
    exact k'
end L2.NB
set_option Elab.async false
set_option linter.all false
set_option maxRecDepth 100000
/-! NB26: the evaluator by equations, for simp. -/
namespace L2.NB
open PySem PySem.Spec PyProof.Rows
section
variable {k : CallT} {v : Env} {s : S}
@[simp] theorem q_cst {d : PyData} : ev k (.cst d) v s = .ok d s := by rw [ev]; rfl
@[simp] theorem q_no : ev k .no v s = .ok .none s := by rw [ev]; rfl
@[simp] theorem q_var {i : Nat} : ev k (.var i) v = liftO (getV i v) := by rw [ev]
@[simp] theorem q_varT {i : Nat} : ev k (.varT i) v = liftO (getT i v) := by rw [ev]
@[simp] theorem q_bin {o : Bop} {a b : E} : ev k (.bin o a b) v = (do let x ← ev k a v; let y ← ev k b v; liftO (binD o x y)) := by rw [ev]
@[simp] theorem q_neg {a : E} : ev k (.neg a) v = (do let x ← ev k a v; liftO (negD x)) := by rw [ev]
@[simp] theorem q_cmp {o : Cop} {a b : E} : ev k (.cmp o a b) v = (do let x ← ev k a v; let y ← ev k b v; let c ← liftO (cmpD o x y); M.pure (.bool c)) := by rw [ev]
@[simp] theorem q_chain {o o' : Cop} {a b c : E} : ev k (.chain o o' a b c) v = (do
    let x ← ev k a v; let y ← ev k b v; let t ← liftO (cmpD o x y)
    if t = true then do let z ← ev k c v; let u ← liftO (cmpD o' y z); M.pure (.bool u) else M.pure (.bool false)) := by rw [ev]
@[simp] theorem q_and {a b : E} : ev k (.and a b) v = (do let x ← ev k a v; let t ← liftO (truthD x); if t = true then ev k b v else M.pure x) := by rw [ev]
@[simp] theorem q_or {a b : E} : ev k (.or a b) v = (do let x ← ev k a v; let t ← liftO (truthD x); if t = true then M.pure x else ev k b v) := by rw [ev]
@[simp] theorem q_not {a : E} : ev k (.not a) v = (do let x ← ev k a v; let t ← liftO (truthD x); M.pure (.bool (!t))) := by rw [ev]
@[simp] theorem q_ite {c a b : E} : ev k (.ite c a b) v = (do let x ← ev k c v; let t ← liftO (truthD x); if t = true then ev k a v else ev k b v) := by rw [ev]
@[simp] theorem q_tup {es : List E} : ev k (.tup es) v = (do let xs ← evL k es v; tupOk xs) := by rw [ev]
@[simp] theorem q_lst {es : List E} : ev k (.lst es) v = (do let xs ← evL k es v; lstOk xs) := by rw [ev]
@[simp] theorem q_idx {a b : E} : ev k (.idx a b) v = (do let x ← ev k a v; let y ← ev k b v; liftO (idxD x y)) := by rw [ev]
@[simp] theorem q_sl {a lo hi : E} : ev k (.sl a lo hi) v = (do let x ← ev k a v; let l ← partM lo.isNo (ev k lo v); let h ← partM hi.isNo (ev k hi v); liftO (sliceD x l h)) := by rw [ev]
@[simp] theorem q_rev {a : E} : ev k (.rev a) v = (do let x ← ev k a v; liftO (revD x)) := by rw [ev]
@[simp] theorem q_call {f : Str} {es : List E} : ev k (.call f es) v = (do let xs ← evA k es v; k f xs) := by rw [ev]
@[simp] theorem q_callB {f : Str} {es : List E} : ev k (.callB f es) v = (do let xs ← evA k es v; let x ← k f xs; if atomD x = true then M.pure x else M.bad) := by rw [ev]
@[simp] theorem q_callK {f : Str} {es : List E} {perm : List Nat} : ev k (.callK f es perm) v = (do let xs ← evA k es v; k f (perm.filterMap fun i => xs[i]?)) := by rw [ev]
@[simp] theorem q_bi {b : Bi} {es : List E} : ev k (.bi b es) v = (do let xs ← evL k es v; liftO (biD b xs)) := by rw [ev]
@[simp] theorem q_isi {a : E} {ts : List Ty} : ev k (.isi a ts) v = (do let x ← ev k a v; let t ← liftO (isiD ts x); M.pure (.bool t)) := by rw [ev]
@[simp] theorem q_rng1 {a : E} : ev k (.rng1 a) v = (do let x ← ev k a v; liftO (rng1D x)) := by rw [ev]
@[simp] theorem q_rng2 {a b : E} : ev k (.rng2 a b) v = (do let x ← ev k a v; let y ← ev k b v; liftO (rng2D x y)) := by rw [ev]
@[simp] theorem q_enum {a : E} : ev k (.enum a) v = (do let x ← ev k a v; liftO (enumD x)) := by rw [ev]
@[simp] theorem q_zip {a b : E} : ev k (.zip a b) v = (do let x ← ev k a v; let y ← ev k b v; liftO (zipD x y)) := by rw [ev]
@[simp] theorem q_scr {i n : Nat} : ev k (.scr i n) v = liftO (getS i n v) := by rw [ev]
@[simp] theorem q_lc {e it : E} {g : Tg} : ev k (.lc e g it) v = (do let x ← ev k it v; let xs ← liftO (itemsOf x); let r ← lcM g (ev k e) v xs []; M.pure (.list r)) := by rw [ev]
@[simp] theorem q_lcIf {e it c : E} {g : Tg} : ev k (.lcIf e g it c) v = (do
    let x ← ev k it v; let xs ← liftO (itemsOf x)
    let r ← lcIfM g (ev k e) (fun u => do let y ← ev k c u; liftO (truthD y)) v xs []; M.pure (.list r)) := by rw [ev]
@[simp] theorem q_Lnil : evL k [] v s = .ok [] s := by rw [evL]; rfl
@[simp] theorem q_Lstar {a : E} {es : List E} : evL k (.star a :: es) v = (do let x ← ev k a v; let xs ← liftO (itemsOf x); let ys ← evL k es v; M.pure (xs ++ ys)) := by rw [evL]
theorem q_Lcons {e : E} {es : List E} (h : isStarC e = false) : evL k (e :: es) v = (do let x ← ev k e v; let ys ← evL k es v; M.pure (x :: ys)) := by
  cases e <;> first | rfl | (cases h; done)
@[simp] theorem q_Anil : evA k [] v s = .ok [] s := by rw [evA]; rfl
@[simp] theorem q_Ahnd {i : Nat} {es : List E} : evA k (.hnd i :: es) v = (do let n ← liftO (getH i v); let ys ← evA k es v; M.pure (n :: ys)) := by rw [evA]
theorem q_Acons {e : E} {es : List E} (h : isHndC e = false) : evA k (e :: es) v = (do let x ← ev k e v; let ys ← evA k es v; M.pure (.d x :: ys)) := by
  cases e <;> first | rfl | (cases h; done)
@[simp] theorem q_tst {e : E} : tst k e v = (do let x ← ev k e v; liftO (truthD x)) := rfl
@[simp] theorem q_nx : nx v s = .ok (.nx, v) s := rfl
@[simp] theorem x_set {i : Nat} {e : E} : ex k (.set i e) v = (do let x ← ev k e v; let v' ← liftO (put i (.val x) v); nx v') := by rw [ex]
@[simp] theorem x_setF {i : Nat} {e : E} : ex k (.setF i e) v = (do let x ← ev k e v; match x with
    | .list xs => do let v' ← liftO (put i (.own xs) v); nx v'
    | _ => M.bad) := by first | (rw [ex]; done) | (rw [ex]; rfl)
@[simp] theorem x_tgt {is : List Nat} {e : E} : ex k (.tgt is e) v = (do let x ← ev k e v; let v' ← liftO (putTg (.tp is) x v); nx v') := by rw [ex]
@[simp] theorem x_parF {ps : List (Nat × Bool)} {es : List E} : ex k (.parF ps es) v = (do let xs ← evL k es v; let v' ← liftO (putP ps xs v); nx v') := by rw [ex]
@[simp] theorem x_app {i : Nat} {e : E} : ex k (.app i e) v = (do
    let x ← ev k e v; let xs ← liftO (getO i v)
    if xs.length < sizeLine then do let v' ← liftO (put i (.own (xs ++ [x])) v); nx v' else M.bad) := by rw [ex]
@[simp] theorem x_ext {i : Nat} {e : E} : ex k (.ext i e) v = (do
    let x ← ev k e v; let xs ← liftO (getO i v); let ys ← liftO (itemsOf x)
    if xs.length + ys.length ≤ sizeLine then do let v' ← liftO (put i (.own (xs ++ ys)) v); nx v' else M.bad) := by rw [ex]
@[simp] theorem x_appPop {i j : Nat} {e : E} : ex k (.appPop i j e) v = (do
    let y ← ev k e v; let n ← liftO (isInt y); let xs ← liftO (getO j v); let m ← liftO (if xs.length ≤ sizeLine then ixD xs.length n else none); let x ← liftO xs[m]?
    let v1 ← liftO (put j (.own (xs.eraseIdx m)) v); let ys ← liftO (getO i v1)
    if ys.length < sizeLine then do let v' ← liftO (put i (.own (ys ++ [x])) v1); nx v' else M.bad) := by rw [ex]
@[simp] theorem x_setI {i : Nat} {a e : E} : ex k (.setI i a e) v = (do
    let x ← ev k e v; let y ← ev k a v; let xs ← liftO (getO i v); let n ← liftO (isInt y); let j ← liftO (ixD xs.length n)
    let v' ← liftO (put i (.own (xs.set j x)) v); nx v') := by rw [ex]
@[simp] theorem x_exp {e : E} : ex k (.exp e) v = (do let _ ← ev k e v; nx v) := by rw [ex]
@[simp] theorem x_ifs {c : E} {a b : List C} : ex k (.ifs c a b) v = (do let t ← tst k c v; if t = true then exs k a v else exs k b v) := by rw [ex]
@[simp] theorem x_while {c : E} {b : List C} : ex k (.while c b) v = whileM (tst k c) (exs k b) FUEL v := by rw [ex]
@[simp] theorem x_for {g : Tg} {it : E} {b : List C} : ex k (.for g it b) v = (do let x ← ev k it v; let xs ← liftO (itemsOf x); forM' g (exs k b) xs v) := by rw [ex]
@[simp] theorem x_ret {e : E} : ex k (.ret e) v = (do let x ← ev k e v; M.pure (.rt x, v)) := by rw [ex]
@[simp] theorem x_retN : ex k .retN v s = .ok (.rt .none, v) s := by rw [ex]; rfl
@[simp] theorem x_brk : ex k .brk v s = .ok (.bk, v) s := by rw [ex]; rfl
@[simp] theorem x_cont : ex k .cont v s = .ok (.ct, v) s := by rw [ex]; rfl
@[simp] theorem x_pass : ex k .pass v s = .ok (.nx, v) s := by rw [ex]; rfl
@[simp] theorem x_frz {i : Nat} : ex k (.frz i) v s = .ok (.nx, frzS i v) s := by rw [ex]; rfl
@[simp] theorem xs_nil : exs k [] v s = .ok (.nx, v) s := by rw [exs]; rfl
@[simp] theorem xs_cons {c : C} {cs : List C} : exs k (c :: cs) v = (do
    let r ← ex k c v
    match r with
    | (.nx, v') => exs k cs v'
    | (o, v') => M.pure (o, v')) := by first | (rw [exs]; done) | (rw [exs]; rfl)
end
@[simp] theorem qA_cst {k : CallT} {v : Env} {es : List E} : ∀ d,  evA k ((E.cst d) :: es) v = (do let x ← ev k (E.cst d) v; let ys ← evA k es v; M.pure (.d x :: ys)) := fun _ => rfl
@[simp] theorem qL_cst {k : CallT} {v : Env} {es : List E} : ∀ d,  evL k ((E.cst d) :: es) v = (do let x ← ev k (E.cst d) v; let ys ← evL k es v; M.pure (x :: ys)) := fun _ => rfl
@[simp] theorem qA_no {k : CallT} {v : Env} {es : List E} :  evA k (E.no :: es) v = (do let x ← ev k E.no v; let ys ← evA k es v; M.pure (.d x :: ys)) := rfl
@[simp] theorem qL_no {k : CallT} {v : Env} {es : List E} :  evL k (E.no :: es) v = (do let x ← ev k E.no v; let ys ← evL k es v; M.pure (x :: ys)) := rfl
@[simp] theorem qA_var {k : CallT} {v : Env} {es : List E} : ∀ i,  evA k ((E.var i) :: es) v = (do let x ← ev k (E.var i) v; let ys ← evA k es v; M.pure (.d x :: ys)) := fun _ => rfl
@[simp] theorem qL_var {k : CallT} {v : Env} {es : List E} : ∀ i,  evL k ((E.var i) :: es) v = (do let x ← ev k (E.var i) v; let ys ← evL k es v; M.pure (x :: ys)) := fun _ => rfl
@[simp] theorem qA_varT {k : CallT} {v : Env} {es : List E} : ∀ i,  evA k ((E.varT i) :: es) v = (do let x ← ev k (E.varT i) v; let ys ← evA k es v; M.pure (.d x :: ys)) := fun _ => rfl
@[simp] theorem qL_varT {k : CallT} {v : Env} {es : List E} : ∀ i,  evL k ((E.varT i) :: es) v = (do let x ← ev k (E.varT i) v; let ys ← evL k es v; M.pure (x :: ys)) := fun _ => rfl
@[simp] theorem qA_scr {k : CallT} {v : Env} {es : List E} : ∀ i n,  evA k ((E.scr i n) :: es) v = (do let x ← ev k (E.scr i n) v; let ys ← evA k es v; M.pure (.d x :: ys)) := fun _ _ => rfl
@[simp] theorem qL_scr {k : CallT} {v : Env} {es : List E} : ∀ i n,  evL k ((E.scr i n) :: es) v = (do let x ← ev k (E.scr i n) v; let ys ← evL k es v; M.pure (x :: ys)) := fun _ _ => rfl
@[simp] theorem qA_bin {k : CallT} {v : Env} {es : List E} : ∀ o a b,  evA k ((E.bin o a b) :: es) v = (do let x ← ev k (E.bin o a b) v; let ys ← evA k es v; M.pure (.d x :: ys)) := fun _ _ _ => rfl
@[simp] theorem qL_bin {k : CallT} {v : Env} {es : List E} : ∀ o a b,  evL k ((E.bin o a b) :: es) v = (do let x ← ev k (E.bin o a b) v; let ys ← evL k es v; M.pure (x :: ys)) := fun _ _ _ => rfl
@[simp] theorem qA_neg {k : CallT} {v : Env} {es : List E} : ∀ a,  evA k ((E.neg a) :: es) v = (do let x ← ev k (E.neg a) v; let ys ← evA k es v; M.pure (.d x :: ys)) := fun _ => rfl
@[simp] theorem qL_neg {k : CallT} {v : Env} {es : List E} : ∀ a,  evL k ((E.neg a) :: es) v = (do let x ← ev k (E.neg a) v; let ys ← evL k es v; M.pure (x :: ys)) := fun _ => rfl
@[simp] theorem qA_cmp {k : CallT} {v : Env} {es : List E} : ∀ o a b,  evA k ((E.cmp o a b) :: es) v = (do let x ← ev k (E.cmp o a b) v; let ys ← evA k es v; M.pure (.d x :: ys)) := fun _ _ _ => rfl
@[simp] theorem qL_cmp {k : CallT} {v : Env} {es : List E} : ∀ o a b,  evL k ((E.cmp o a b) :: es) v = (do let x ← ev k (E.cmp o a b) v; let ys ← evL k es v; M.pure (x :: ys)) := fun _ _ _ => rfl
@[simp] theorem qA_chain {k : CallT} {v : Env} {es : List E} : ∀ o o2 a b c,  evA k ((E.chain o o2 a b c) :: es) v = (do let x ← ev k (E.chain o o2 a b c) v; let ys ← evA k es v; M.pure (.d x :: ys)) := fun _ _ _ _ _ => rfl
@[simp] theorem qL_chain {k : CallT} {v : Env} {es : List E} : ∀ o o2 a b c,  evL k ((E.chain o o2 a b c) :: es) v = (do let x ← ev k (E.chain o o2 a b c) v; let ys ← evL k es v; M.pure (x :: ys)) := fun _ _ _ _ _ => rfl
@[simp] theorem qA_and {k : CallT} {v : Env} {es : List E} : ∀ a b,  evA k ((E.and a b) :: es) v = (do let x ← ev k (E.and a b) v; let ys ← evA k es v; M.pure (.d x :: ys)) := fun _ _ => rfl
@[simp] theorem qL_and {k : CallT} {v : Env} {es : List E} : ∀ a b,  evL k ((E.and a b) :: es) v = (do let x ← ev k (E.and a b) v; let ys ← evL k es v; M.pure (x :: ys)) := fun _ _ => rfl
@[simp] theorem qA_or {k : CallT} {v : Env} {es : List E} : ∀ a b,  evA k ((E.or a b) :: es) v = (do let x ← ev k (E.or a b) v; let ys ← evA k es v; M.pure (.d x :: ys)) := fun _ _ => rfl
@[simp] theorem qL_or {k : CallT} {v : Env} {es : List E} : ∀ a b,  evL k ((E.or a b) :: es) v = (do let x ← ev k (E.or a b) v; let ys ← evL k es v; M.pure (x :: ys)) := fun _ _ => rfl
@[simp] theorem qA_not {k : CallT} {v : Env} {es : List E} : ∀ a,  evA k ((E.not a) :: es) v = (do let x ← ev k (E.not a) v; let ys ← evA k es v; M.pure (.d x :: ys)) := fun _ => rfl
@[simp] theorem qL_not {k : CallT} {v : Env} {es : List E} : ∀ a,  evL k ((E.not a) :: es) v = (do let x ← ev k (E.not a) v; let ys ← evL k es v; M.pure (x :: ys)) := fun _ => rfl
@[simp] theorem qA_ite {k : CallT} {v : Env} {es : List E} : ∀ c a b,  evA k ((E.ite c a b) :: es) v = (do let x ← ev k (E.ite c a b) v; let ys ← evA k es v; M.pure (.d x :: ys)) := fun _ _ _ => rfl
@[simp] theorem qL_ite {k : CallT} {v : Env} {es : List E} : ∀ c a b,  evL k ((E.ite c a b) :: es) v = (do let x ← ev k (E.ite c a b) v; let ys ← evL k es v; M.pure (x :: ys)) := fun _ _ _ => rfl
@[simp] theorem qA_tup {k : CallT} {v : Env} {es : List E} : ∀ l,  evA k ((E.tup l) :: es) v = (do let x ← ev k (E.tup l) v; let ys ← evA k es v; M.pure (.d x :: ys)) := fun _ => rfl
@[simp] theorem qL_tup {k : CallT} {v : Env} {es : List E} : ∀ l,  evL k ((E.tup l) :: es) v = (do let x ← ev k (E.tup l) v; let ys ← evL k es v; M.pure (x :: ys)) := fun _ => rfl
@[simp] theorem qA_lst {k : CallT} {v : Env} {es : List E} : ∀ l,  evA k ((E.lst l) :: es) v = (do let x ← ev k (E.lst l) v; let ys ← evA k es v; M.pure (.d x :: ys)) := fun _ => rfl
@[simp] theorem qL_lst {k : CallT} {v : Env} {es : List E} : ∀ l,  evL k ((E.lst l) :: es) v = (do let x ← ev k (E.lst l) v; let ys ← evL k es v; M.pure (x :: ys)) := fun _ => rfl
@[simp] theorem qA_idx {k : CallT} {v : Env} {es : List E} : ∀ a b,  evA k ((E.idx a b) :: es) v = (do let x ← ev k (E.idx a b) v; let ys ← evA k es v; M.pure (.d x :: ys)) := fun _ _ => rfl
@[simp] theorem qL_idx {k : CallT} {v : Env} {es : List E} : ∀ a b,  evL k ((E.idx a b) :: es) v = (do let x ← ev k (E.idx a b) v; let ys ← evL k es v; M.pure (x :: ys)) := fun _ _ => rfl
@[simp] theorem qA_sl {k : CallT} {v : Env} {es : List E} : ∀ a b c,  evA k ((E.sl a b c) :: es) v = (do let x ← ev k (E.sl a b c) v; let ys ← evA k es v; M.pure (.d x :: ys)) := fun _ _ _ => rfl
@[simp] theorem qL_sl {k : CallT} {v : Env} {es : List E} : ∀ a b c,  evL k ((E.sl a b c) :: es) v = (do let x ← ev k (E.sl a b c) v; let ys ← evL k es v; M.pure (x :: ys)) := fun _ _ _ => rfl
@[simp] theorem qA_rev {k : CallT} {v : Env} {es : List E} : ∀ a,  evA k ((E.rev a) :: es) v = (do let x ← ev k (E.rev a) v; let ys ← evA k es v; M.pure (.d x :: ys)) := fun _ => rfl
@[simp] theorem qL_rev {k : CallT} {v : Env} {es : List E} : ∀ a,  evL k ((E.rev a) :: es) v = (do let x ← ev k (E.rev a) v; let ys ← evL k es v; M.pure (x :: ys)) := fun _ => rfl
@[simp] theorem qA_call {k : CallT} {v : Env} {es : List E} : ∀ f l,  evA k ((E.call f l) :: es) v = (do let x ← ev k (E.call f l) v; let ys ← evA k es v; M.pure (.d x :: ys)) := fun _ _ => rfl
@[simp] theorem qL_call {k : CallT} {v : Env} {es : List E} : ∀ f l,  evL k ((E.call f l) :: es) v = (do let x ← ev k (E.call f l) v; let ys ← evL k es v; M.pure (x :: ys)) := fun _ _ => rfl
@[simp] theorem qA_callB {k : CallT} {v : Env} {es : List E} : ∀ f l,  evA k ((E.callB f l) :: es) v = (do let x ← ev k (E.callB f l) v; let ys ← evA k es v; M.pure (.d x :: ys)) := fun _ _ => rfl
@[simp] theorem qL_callB {k : CallT} {v : Env} {es : List E} : ∀ f l,  evL k ((E.callB f l) :: es) v = (do let x ← ev k (E.callB f l) v; let ys ← evL k es v; M.pure (x :: ys)) := fun _ _ => rfl
@[simp] theorem qA_callK {k : CallT} {v : Env} {es : List E} : ∀ f l p,  evA k ((E.callK f l p) :: es) v = (do let x ← ev k (E.callK f l p) v; let ys ← evA k es v; M.pure (.d x :: ys)) := fun _ _ _ => rfl
@[simp] theorem qL_callK {k : CallT} {v : Env} {es : List E} : ∀ f l p,  evL k ((E.callK f l p) :: es) v = (do let x ← ev k (E.callK f l p) v; let ys ← evL k es v; M.pure (x :: ys)) := fun _ _ _ => rfl
@[simp] theorem qA_bi {k : CallT} {v : Env} {es : List E} : ∀ b l,  evA k ((E.bi b l) :: es) v = (do let x ← ev k (E.bi b l) v; let ys ← evA k es v; M.pure (.d x :: ys)) := fun _ _ => rfl
@[simp] theorem qL_bi {k : CallT} {v : Env} {es : List E} : ∀ b l,  evL k ((E.bi b l) :: es) v = (do let x ← ev k (E.bi b l) v; let ys ← evL k es v; M.pure (x :: ys)) := fun _ _ => rfl
@[simp] theorem qA_isi {k : CallT} {v : Env} {es : List E} : ∀ a t,  evA k ((E.isi a t) :: es) v = (do let x ← ev k (E.isi a t) v; let ys ← evA k es v; M.pure (.d x :: ys)) := fun _ _ => rfl
@[simp] theorem qL_isi {k : CallT} {v : Env} {es : List E} : ∀ a t,  evL k ((E.isi a t) :: es) v = (do let x ← ev k (E.isi a t) v; let ys ← evL k es v; M.pure (x :: ys)) := fun _ _ => rfl
@[simp] theorem qA_rng1 {k : CallT} {v : Env} {es : List E} : ∀ a,  evA k ((E.rng1 a) :: es) v = (do let x ← ev k (E.rng1 a) v; let ys ← evA k es v; M.pure (.d x :: ys)) := fun _ => rfl
@[simp] theorem qL_rng1 {k : CallT} {v : Env} {es : List E} : ∀ a,  evL k ((E.rng1 a) :: es) v = (do let x ← ev k (E.rng1 a) v; let ys ← evL k es v; M.pure (x :: ys)) := fun _ => rfl
@[simp] theorem qA_rng2 {k : CallT} {v : Env} {es : List E} : ∀ a b,  evA k ((E.rng2 a b) :: es) v = (do let x ← ev k (E.rng2 a b) v; let ys ← evA k es v; M.pure (.d x :: ys)) := fun _ _ => rfl
@[simp] theorem qL_rng2 {k : CallT} {v : Env} {es : List E} : ∀ a b,  evL k ((E.rng2 a b) :: es) v = (do let x ← ev k (E.rng2 a b) v; let ys ← evL k es v; M.pure (x :: ys)) := fun _ _ => rfl
@[simp] theorem qA_enum {k : CallT} {v : Env} {es : List E} : ∀ a,  evA k ((E.enum a) :: es) v = (do let x ← ev k (E.enum a) v; let ys ← evA k es v; M.pure (.d x :: ys)) := fun _ => rfl
@[simp] theorem qL_enum {k : CallT} {v : Env} {es : List E} : ∀ a,  evL k ((E.enum a) :: es) v = (do let x ← ev k (E.enum a) v; let ys ← evL k es v; M.pure (x :: ys)) := fun _ => rfl
@[simp] theorem qA_zip {k : CallT} {v : Env} {es : List E} : ∀ a b,  evA k ((E.zip a b) :: es) v = (do let x ← ev k (E.zip a b) v; let ys ← evA k es v; M.pure (.d x :: ys)) := fun _ _ => rfl
@[simp] theorem qL_zip {k : CallT} {v : Env} {es : List E} : ∀ a b,  evL k ((E.zip a b) :: es) v = (do let x ← ev k (E.zip a b) v; let ys ← evL k es v; M.pure (x :: ys)) := fun _ _ => rfl
@[simp] theorem qA_lc {k : CallT} {v : Env} {es : List E} : ∀ a g b,  evA k ((E.lc a g b) :: es) v = (do let x ← ev k (E.lc a g b) v; let ys ← evA k es v; M.pure (.d x :: ys)) := fun _ _ _ => rfl
@[simp] theorem qL_lc {k : CallT} {v : Env} {es : List E} : ∀ a g b,  evL k ((E.lc a g b) :: es) v = (do let x ← ev k (E.lc a g b) v; let ys ← evL k es v; M.pure (x :: ys)) := fun _ _ _ => rfl
@[simp] theorem qA_lcIf {k : CallT} {v : Env} {es : List E} : ∀ a g b c,  evA k ((E.lcIf a g b c) :: es) v = (do let x ← ev k (E.lcIf a g b c) v; let ys ← evA k es v; M.pure (.d x :: ys)) := fun _ _ _ _ => rfl
@[simp] theorem qL_lcIf {k : CallT} {v : Env} {es : List E} : ∀ a g b c,  evL k ((E.lcIf a g b c) :: es) v = (do let x ← ev k (E.lcIf a g b c) v; let ys ← evL k es v; M.pure (x :: ys)) := fun _ _ _ _ => rfl
/-! values -/
section
variable {i j : Int} {x y : PyData} {xs ys : List PyData}
@[simp] theorem d_add : binD .add (.int i) (.int j) = some (.int (i + j)) := rfl
@[simp] theorem d_sub : binD .sub (.int i) (.int j) = some (.int (i - j)) := rfl
@[simp] theorem d_neg : negD (.int i) = some (.int (-i)) := rfl
@[simp] theorem d_lt : cmpD .lt (.int i) (.int j) = some (decide (i < j)) := rfl
@[simp] theorem d_le : cmpD .le (.int i) (.int j) = some (decide (i ≤ j)) := rfl
@[simp] theorem d_gt : cmpD .gt (.int i) (.int j) = some (decide (j < i)) := rfl
@[simp] theorem d_ge : cmpD .ge (.int i) (.int j) = some (decide (j ≤ i)) := rfl
@[simp] theorem d_eqI : cmpD .eq (.int i) (.int j) = some (i == j) := rfl
@[simp] theorem d_neI : cmpD .ne (.int i) (.int j) = some (!(i == j)) := rfl
@[simp] theorem d_isN : cmpD .is x .none = some (match x with | .none => true | _ => false) := by cases x <;> rfl
@[simp] theorem d_isnotN : cmpD .isnot x .none = some (match x with | .none => false | _ => true) := by cases x <;> rfl
@[simp] theorem d_isB {a b : Bool} : cmpD .is (.bool a) (.bool b) = some (decide (a = b)) := rfl
@[simp] theorem d_isnotB {a b : Bool} : cmpD .isnot (.bool a) (.bool b) = some (!decide (a = b)) := rfl
@[simp] theorem d_isNB {b : Bool} : cmpD .is .none (.bool b) = some false := rfl
@[simp] theorem d_isnotNB {b : Bool} : cmpD .isnot .none (.bool b) = some true := rfl
@[simp] theorem d_revL : revD (.list xs) = some (.list xs.reverse) := rfl
@[simp] theorem d_revT : revD (.tuple xs) = some (.tuple xs.reverse) := rfl
@[simp] theorem d_tB {b : Bool} : truthD (.bool b) = some b := rfl
@[simp] theorem d_tI : truthD (.int i) = some (i != 0) := rfl
@[simp] theorem d_tN : truthD .none = some false := rfl
@[simp] theorem d_lenL : biD .len [.list xs] = some (.int xs.length) := rfl
@[simp] theorem d_lenT : biD .len [.tuple xs] = some (.int xs.length) := rfl
@[simp] theorem d_tupL : biD .tup [.list xs] = some (.tuple xs) := rfl
@[simp] theorem d_tupT : biD .tup [.tuple xs] = some (.tuple xs) := rfl
@[simp] theorem d_lstL : biD .lst [.list xs] = some (.list xs) := rfl
@[simp] theorem d_lstT : biD .lst [.tuple xs] = some (.list xs) := rfl
@[simp] theorem d_ixT : idxD (.tuple xs) (.int i) = atD xs i := rfl
@[simp] theorem d_ixL : idxD (.list xs) (.int i) = atD xs i := rfl
@[simp] theorem d_slT {a b : Option Int} : sliceD (.tuple xs) a b = some (.tuple (cutD xs a b)) := rfl
@[simp] theorem d_slL {a b : Option Int} : sliceD (.list xs) a b = some (.list (cutD xs a b)) := rfl
@[simp] theorem d_itL : itemsOf (.list xs) = some xs := rfl
@[simp] theorem d_itT : itemsOf (.tuple xs) = some xs := rfl
@[simp] theorem d_eqS {a b : Str} : cmpD .eq (.str a) (.str b) = some (a == b) := rfl
@[simp] theorem d_neS {a b : Str} : cmpD .ne (.str a) (.str b) = some (!(a == b)) := rfl
@[simp] theorem d_no1 : (E.isNo .no) = true := rfl
@[simp] theorem d_par1 {m : M PyData} {s : S} : partM true m s = .ok none s := rfl
@[simp] theorem d_par2 {m : M PyData} : partM false m = (do let y ← m; let i ← liftO (isInt y); M.pure (some i)) := rfl
@[simp] theorem d_isInt : isInt (.int i) = some i := rfl
@[simp] theorem d_tupOk {s : S} (h : xs.length ≤ sizeLine) : tupOk xs s = .ok (.tuple xs) s := by unfold tupOk; rw [if_pos h]; rfl
@[simp] theorem d_lstOk {s : S} (h : xs.length ≤ sizeLine) : lstOk xs s = .ok (.list xs) s := by unfold lstOk; rw [if_pos h]; rfl
end
/-- a call of a def -/
theorem call_run {P : Prog} {m : Nat} {f : Str} {np ns : Nat} {b : List C} {xs : List AV} (h : P.fn f = some (.code np ns b)) (hl : xs.length = np) : callN P (m + 1) f xs = (do
    let r ← exs (callN P m) b (start ns xs)
    match r with
    | (.nx, _) => M.pure .none
    | (.rt d, _) => M.pure d
    | _ => M.bad) := by
  have e : callN P (m + 1) f xs = (match P.fn f with
    | some (.code np ns b) => runB (callN P m) np ns b xs
    | some (.prim np g) => if xs.length = np then g xs else M.bad
    | none => M.bad) := rfl
  rw [e, h]
  show runB (callN P m) np ns b xs = _
  unfold runB
  first | (rw [if_pos hl]; done) | (rw [if_pos hl]; rfl)
end L2.NB
set_option Elab.async false
set_option linter.all false
set_option maxRecDepth 100000
/-! NB27: comprehensions and loops as maps and invariants. -/
namespace L2.NB
open PySem PySem.Spec PyProof.Rows

theorem put_ok {i : Nat} {x : NB.Slot} {v : Env} (h : i < v.length) : put i x v = some (v.set i x) := by
  unfold put
  rw [if_pos h]
theorem putTg_nm {i : Nat} {d : PyData} {v : Env} : putTg (.nm i) d v = put i (.val d) v := rfl
/-- [f(x) for x in xs], each a function of x -/
theorem lc_map {i : Nat} {f : Env → M PyData} {v : Env} {s : S} (F : PyData → PyData) (hi : i < v.length) : ∀ {xs acc : List PyData}, (∀ x ∈ xs, f (v.set i (.val x)) s = .ok (F x) s) → acc.length + xs.length ≤ sizeLine → lcM (.nm i) f v xs acc s = .ok (acc ++ xs.map F) s
  | [], acc, _, _ => by simp [lcM]
  | x :: xs, acc, h, hz => by
    rw [List.length_cons] at hz
    have hz' : acc.length < sizeLine := by omega
    unfold lcM
    simp only [run_bind, putTg_nm, put_ok hi, run_some, h x List.mem_cons_self, run_ite, if_pos hz']
    rw [lc_map F hi (fun y hy => h y (List.mem_cons_of_mem _ hy)) (by rw [List.length_append, List.length_singleton]; omega)]
    simp
/-- a comprehension over a list of known things, no state turned -/
theorem lc_pure {α : Type} {tg : Tg} {f : Env → M PyData} {v : Env} {s : S} {g F : α → PyData} : ∀ {ps : List α} {acc : List PyData}, (∀ p ∈ ps, ∃ v1, putTg tg (g p) v = some v1 ∧ f v1 s = .ok (F p) s) → acc.length + ps.length ≤ sizeLine → lcM tg f v (ps.map g) acc s = .ok (acc ++ ps.map F) s
  | [], acc, _, _ => by simp [lcM]
  | x :: xs, acc, h, hz => by
    rw [List.length_cons] at hz
    have hz' : acc.length < sizeLine := by omega
    obtain ⟨v1, e1, e2⟩ := h x List.mem_cons_self
    rw [List.map_cons]
    unfold lcM
    simp only [run_bind, e1, run_some, e2, run_ite, if_pos hz']
    rw [lc_pure (fun y hy => h y (List.mem_cons_of_mem _ hy)) (by rw [List.length_append, List.length_singleton]; omega)]
    simp
theorem lcIf_pure {α : Type} {tg : Tg} {f : Env → M PyData} {c : Env → M Bool} {v : Env} {s : S} {g F : α → PyData} (C : α → Bool) : ∀ {ps : List α} {acc : List PyData}, (∀ p ∈ ps, ∃ v1, putTg tg (g p) v = some v1 ∧ c v1 s = .ok (C p) s ∧ (C p = true → f v1 s = .ok (F p) s)) → acc.length + ps.length ≤ sizeLine → lcIfM tg f c v (ps.map g) acc s = .ok (acc ++ (ps.filter C).map F) s
  | [], acc, _, _ => by simp [lcIfM]
  | x :: xs, acc, h, hz => by
    rw [List.length_cons] at hz
    have hz' : acc.length < sizeLine := by omega
    obtain ⟨v1, e1, e2, e3⟩ := h x List.mem_cons_self
    rw [List.map_cons]
    unfold lcIfM
    simp only [run_bind, e1, run_some, e2]
    cases hc : C x with
    | true =>
      simp only [if_pos, run_bind, e3 hc, run_ite, if_pos hz']
      rw [lcIf_pure C (fun y hy => h y (List.mem_cons_of_mem _ hy)) (by rw [List.length_append, List.length_singleton]; omega)]
      simp [hc]
    | false =>
      simp only [Bool.false_eq_true, if_false]
      rw [lcIf_pure C (fun y hy => h y (List.mem_cons_of_mem _ hy)) (by omega)]
      simp [hc]
/-- the same where the state turns -/
theorem lc_any {i : Nat} {f : Env → M PyData} {v : Env} (I : S → Prop) (R : PyData → PyData → Prop) (hi : i < v.length) : ∀ {xs acc : List PyData} {s : S}, (∀ x ∈ xs, ∀ s, I s → ∃ y s', f (v.set i (.val x)) s = .ok y s' ∧ I s' ∧ R x y) → acc.length + xs.length ≤ sizeLine → I s →
    ∃ ys s', lcM (.nm i) f v xs acc s = .ok (acc ++ ys) s' ∧ I s' ∧ Paired R xs ys
  | [], acc, s, _, _, hs => ⟨[], s, by simp [lcM], hs, .nil⟩
  | x :: xs, acc, s, h, hz, hs => by
    rw [List.length_cons] at hz
    have hz' : acc.length < sizeLine := by omega
    obtain ⟨y, s1, e1, h1, r1⟩ := h x List.mem_cons_self s hs
    obtain ⟨ys, s2, e2, h2, r2⟩ := lc_any I R hi (acc := acc ++ [y]) (fun z hz => h z (List.mem_cons_of_mem _ hz)) (by rw [List.length_append, List.length_singleton]; omega) h1
    refine ⟨y :: ys, s2, ?_, h2, .cons r1 r2⟩
    unfold lcM
    simp only [run_bind, putTg_nm, put_ok hi, run_some, e1, run_ite, if_pos hz', e2]
    simp
/-- [f(x) for x in xs if c(x)] -/
theorem lcIf_map {i : Nat} {f : Env → M PyData} {c : Env → M Bool} {v : Env} {s : S} (F : PyData → PyData) (C : PyData → Bool) (hi : i < v.length) : ∀ {xs acc : List PyData}, (∀ x ∈ xs, c (v.set i (.val x)) s = .ok (C x) s ∧ f (v.set i (.val x)) s = .ok (F x) s) → acc.length + xs.length ≤ sizeLine →
    lcIfM (.nm i) f c v xs acc s = .ok (acc ++ (xs.filter C).map F) s
  | [], acc, _, _ => by simp [lcIfM]
  | x :: xs, acc, h, hz => by
    rw [List.length_cons] at hz
    have hz' : acc.length < sizeLine := by omega
    have h1 := h x List.mem_cons_self
    unfold lcIfM
    simp only [run_bind, putTg_nm, put_ok hi, run_some, h1.1, h1.2, run_ite, if_pos hz']
    cases hc : C x with
    | true =>
      simp only [if_pos]
      rw [lcIf_map F C hi (fun y hy => h y (List.mem_cons_of_mem _ hy)) (by rw [List.length_append, List.length_singleton]; omega)]
      simp [hc]
    | false =>
      simp only [Bool.false_eq_true, if_false]
      rw [lcIf_map F C hi (fun y hy => h y (List.mem_cons_of_mem _ hy)) (by omega)]
      simp [hc]
/-- a loop by its invariant -/
theorem for_inv {g : Tg} {b : Env → M (Out × Env)} (I : Nat → Env → S → Prop) : ∀ {xs : List PyData} {j : Nat} {v : Env} {s : S}, (∀ k x v s, xs[k]? = some x → I (j + k) v s → ∃ v1, putTg g x v = some v1 ∧ ∃ v' s', (b v1 s = .ok (.nx, v') s' ∨ b v1 s = .ok (.ct, v') s') ∧ I (j + k + 1) v' s') → I j v s →
    ∃ v' s', forM' g b xs v s = .ok (.nx, v') s' ∧ I (j + xs.length) v' s'
  | [], j, v, s, _, h => ⟨v, s, rfl, h⟩
  | x :: xs, j, v, s, st, h => by
    obtain ⟨v1, e1, v2, s2, e2, h2⟩ := st 0 x v s rfl h
    obtain ⟨v3, s3, e3, h3⟩ := for_inv (j := j + 1) I (fun k y v s hk hi => by
      have := st (k + 1) y v s (by simpa using hk) (by rw [show j + (k + 1) = j + 1 + k by omega]; exact hi)
      rw [show j + (k + 1) + 1 = j + 1 + k + 1 by omega] at this
      exact this) h2
    refine ⟨v3, s3, ?_, by rw [List.length_cons, show j + (xs.length + 1) = j + 1 + xs.length by omega]; exact h3⟩
    unfold forM'
    simp only [run_bind, e1, run_some]
    rcases e2 with e2 | e2 <;> simp only [e2, e3]
/-- a loop that may end early: at each turn it goes on, or it gives d -/
theorem for_ret {g : Tg} {b : Env → M (Out × Env)} (I : Nat → Env → S → Prop) (R : PyData → S → Prop) : ∀ {xs : List PyData} {j : Nat} {v : Env} {s : S}, (∀ k x v s, xs[k]? = some x → I (j + k) v s → ∃ v1, putTg g x v = some v1 ∧ ((∃ v' s', (b v1 s = .ok (.nx, v') s' ∨ b v1 s = .ok (.ct, v') s') ∧ I (j + k + 1) v' s') ∨ ∃ d v' s', b v1 s = .ok (.rt d, v') s' ∧ R d s')) → I j v s →
    (∃ v' s', forM' g b xs v s = .ok (.nx, v') s' ∧ I (j + xs.length) v' s') ∨ ∃ d v' s', forM' g b xs v s = .ok (.rt d, v') s' ∧ R d s'
  | [], j, v, s, _, h => .inl ⟨v, s, rfl, h⟩
  | x :: xs, j, v, s, st, h => by
    obtain ⟨v1, e1, h1⟩ := st 0 x v s rfl h
    rcases h1 with ⟨v2, s2, e2, h2⟩ | ⟨d, v2, s2, e2, h2⟩
    · have ih := for_ret (j := j + 1) I R (fun k y v s hk hi => by
        have := st (k + 1) y v s (by simpa using hk) (by rw [show j + (k + 1) = j + 1 + k by omega]; exact hi)
        rw [show j + (k + 1) + 1 = j + 1 + k + 1 by omega] at this
        exact this) h2
      rcases ih with ⟨v3, s3, e3, h3⟩ | ⟨d, v3, s3, e3, h3⟩
      · refine .inl ⟨v3, s3, ?_, by rw [List.length_cons, show j + (xs.length + 1) = j + 1 + xs.length by omega]; exact h3⟩
        unfold forM'
        simp only [run_bind, e1, run_some]
        rcases e2 with e2 | e2 <;> simp only [e2, e3]
      · refine .inr ⟨d, v3, s3, ?_, h3⟩
        unfold forM'
        simp only [run_bind, e1, run_some]
        rcases e2 with e2 | e2 <;> simp only [e2, e3]
    · refine .inr ⟨d, v2, s2, ?_, h2⟩
      unfold forM'
      simp only [run_bind, e1, run_some, e2]
      rfl
section
variable {xs : List PyData} {i j : Int}
@[simp] theorem d_all : biD .all [.list xs] = (boolsOf xs).map fun bs => .bool (bs.all id) := rfl
@[simp] theorem d_any : biD .any [.list xs] = (boolsOf xs).map fun bs => .bool (bs.any id) := rfl
@[simp] theorem d_min : biD .min [.list xs] = ((intsOf xs).bind minI).map .int := rfl
@[simp] theorem d_max : biD .max [.list xs] = ((intsOf xs).bind maxI).map .int := rfl
@[simp] theorem d_sum : biD .sum [.list xs] = (intsOf xs).map fun ns => .int ns.sum := rfl
@[simp] theorem d_allT : biD .all [.tuple xs] = (boolsOf xs).map fun bs => .bool (bs.all id) := rfl
@[simp] theorem d_anyT : biD .any [.tuple xs] = (boolsOf xs).map fun bs => .bool (bs.any id) := rfl
@[simp] theorem d_minT : biD .min [.tuple xs] = ((intsOf xs).bind minI).map .int := rfl
@[simp] theorem d_maxT : biD .max [.tuple xs] = ((intsOf xs).bind maxI).map .int := rfl
@[simp] theorem d_sumT : biD .sum [.tuple xs] = (intsOf xs).map fun ns => .int ns.sum := rfl
@[simp] theorem d_sorted : biD .sorted [.list xs] = (intsOf xs).map fun ns => .list ((sortI ns).map .int) := rfl
@[simp] theorem d_min2 : biD .min2 [.int i, .int j] = some (.int (if j < i then j else i)) := rfl
@[simp] theorem d_max2 : biD .max2 [.int i, .int j] = some (.int (if j > i then j else i)) := rfl
@[simp] theorem d_abs : biD .abs [.int i] = some (.int (if i < 0 then -i else i)) := rfl
@[simp] theorem d_int : biD .int [.int i] = some (.int i) := rfl
@[simp] theorem ints_map : ∀ ns : List Int, intsOf (ns.map .int) = some ns
  | [] => rfl
  | i :: r => by rw [List.map_cons, intsOf, ints_map r]; rfl
@[simp] theorem bools_map : ∀ ns : List Bool, boolsOf (ns.map .bool) = some ns
  | [] => rfl
  | i :: r => by rw [List.map_cons, boolsOf, bools_map r]; rfl
end
@[simp] theorem no_cst {d : PyData} : (E.cst d).isNo = false := rfl
@[simp] theorem no_neg {d : E} : (E.neg d).isNo = false := rfl
@[simp] theorem no_varT {i : Nat} : (E.varT i).isNo = false := rfl
@[simp] theorem no_var {i : Nat} : (E.var i).isNo = false := rfl
@[simp] theorem no_bin {o : Bop} {a b : E} : (E.bin o a b).isNo = false := rfl
@[simp] theorem no_bi {o : Bi} {a : List E} : (E.bi o a).isNo = false := rfl
@[simp] theorem no_idx {a b : E} : (E.idx a b).isNo = false := rfl
@[simp] theorem no_callB {f : Str} {b : List E} : (E.callB f b).isNo = false := rfl
@[simp] theorem no_call {f : Str} {b : List E} : (E.call f b).isNo = false := rfl
section
variable {d : PyData} {xs : List PyData} {r : Env} {x : NB.Slot} {i n : Nat} {ns : List Int}
theorem gT0 : getT 0 (.val d :: r) = some d := rfl
theorem gT0o : getT 0 (.own xs :: r) = some (.list xs) := rfl
theorem gTs : getT (i + 1) (x :: r) = getT i r := rfl
theorem gV0 : getV 0 (.val d :: r) = some d := rfl
theorem gVs : getV (i + 1) (x :: r) = getV i r := rfl
theorem gO0 : getO 0 (.own xs :: r) = some xs := rfl
theorem gOs : getO (i + 1) (x :: r) = getO i r := rfl
theorem gH0 : getH 0 (.hnd n :: r) = some (.h n) := rfl
theorem gH0s : getH 0 (.scr ns :: r) = some (.s ns) := rfl
theorem gHs : getH (i + 1) (x :: r) = getH i r := rfl
theorem gS0 : getS 0 n (.scr ns :: r) = some (.list ((ns.take n).map .int)) := rfl
end
/-- range(e): the value of e first, so that the kernel never opens the bounds -/
theorem ev_rng1 {k : CallT} {e : E} {v : Env} {s s' : S} {n : Int} {L : PyData} (h : ev k e v s = .ok (.int n) s') (hr : rng1D (.int n) = some L) : ev k (.rng1 e) v s = .ok L s' := by
  rw [q_rng1, run_bind, h]
  show liftO (rng1D (.int n)) s' = _
  rw [hr]
  rfl
/-! ### texts of values -/
theorem repr_eq {d : PyData} (h : reprOk d = true) : biD .repr [d] = some (.str d.shown) := by
  show (if reprOk d = true then some (PyData.str d.shown) else none) = _
  rw [if_pos h]
end L2.NB
set_option Elab.async false
set_option linter.all false
set_option maxRecDepth 100000
/-! NB28: single steps as rules: where simp would make the kernel open a bound. -/
namespace L2.NB
open PySem PySem.Spec PyProof.Rows
section
variable {k : CallT} {v : Env} {s s1 s2 : S}
theorem ret_run {e : E} {d : PyData} (h : ev k e v s = .ok d s1) : (do
    let r ← exs k [.ret e] v
    match r with
    | (.nx, _) => M.pure PyData.none
    | (.rt d, _) => M.pure d
    | _ => M.bad) s = .ok d s1 := by
  simp only [xs_cons, x_ret, run_bind, h, run_pure]
theorem ev_lc {e it : E} {g : Tg} {x : PyData} {xs r : List PyData} (h1 : ev k it v s = .ok x s1) (h2 : itemsOf x = some xs) (h3 : lcM g (ev k e) v xs [] s1 = .ok r s2) : ev k (.lc e g it) v s = .ok (.list r) s2 := by
  rw [q_lc, run_bind, h1]
  simp only [h2, run_bind, run_some, h3, run_pure]
theorem ev_lcIf {e it c : E} {g : Tg} {x : PyData} {xs r : List PyData} (h1 : ev k it v s = .ok x s1) (h2 : itemsOf x = some xs) (h3 : lcIfM g (ev k e) (fun u => do let y ← ev k c u; liftO (truthD y)) v xs [] s1 = .ok r s2) : ev k (.lcIf e g it c) v s = .ok (.list r) s2 := by
  rw [q_lcIf, run_bind, h1]
  simp only [h2, run_bind, run_some, h3, run_pure]
theorem ev_bi1 {b : Bi} {e : E} {x y : PyData} (hs : isStarC e = false) (h : ev k e v s = .ok x s1) (hb : biD b [x] = some y) : ev k (.bi b [e]) v s = .ok y s1 := by
  rw [q_bi, run_bind, q_Lcons hs, run_bind, h]
  simp only [q_Lnil, run_bind, run_pure, run_some, hb]
/-- a loop as a statement -/
theorem x_for_run {g : Tg} {it : E} {b : List C} {x : PyData} {xs : List PyData} {r : Out × Env} (h1 : ev k it v s = .ok x s1) (h2 : itemsOf x = some xs) (h3 : forM' g (exs k b) xs v s1 = .ok r s2) : ex k (.for g it b) v s = .ok r s2 := by
  rw [x_for, run_bind, h1]
  simp only [h2, run_bind, run_some, h3]
theorem xs_nx {c : C} {cs : List C} {v' : Env} {r : Res (Out × Env)} (h1 : ex k c v s = .ok (.nx, v') s1) (h2 : exs k cs v' s1 = r) : exs k (c :: cs) v s = r := by
  rw [xs_cons, run_bind, h1]
  exact h2
theorem xs_rt {c : C} {cs : List C} {v' : Env} {d : PyData} (h1 : ex k c v s = .ok (.rt d, v') s1) : exs k (c :: cs) v s = .ok (.rt d, v') s1 := by
  rw [xs_cons, run_bind, h1]
  rfl
end
end L2.NB
set_option Elab.async false
set_option linter.all false
set_option maxRecDepth 100000
/-! NB29: more single steps as rules; loops and comprehensions over zips. -/
namespace L2.NB
open PySem PySem.Spec PyProof.Rows
theorem ev_rng2 {k : CallT} {a b : E} {v : NB.Env} {s s1 s2 : S} {i j : Int} {L : PyData} (h1 : ev k a v s = .ok (.int i) s1) (h2 : ev k b v s1 = .ok (.int j) s2) (hr : rng2D (.int i) (.int j) = some L) : ev k (.rng2 a b) v s = .ok L s2 := by
  rw [q_rng2, run_bind, h1]
  show (do let y ← ev k b v; liftO (rng2D (.int i) y)) s1 = _
  rw [run_bind, h2]
  show liftO (rng2D (.int i) (.int j)) s2 = _
  rw [hr]
  rfl
theorem x_set_run {k : CallT} {i : Nat} {e : E} {v : NB.Env} {s s1 : S} {d : PyData} (h : ev k e v s = .ok d s1) (hi : i < v.length) : ex k (.set i e) v s = .ok (.nx, v.set i (.val d)) s1 := by
  rw [x_set, run_bind, h]
  show (do let v' ← liftO (put i (.val d) v); nx v') s1 = _
  rw [put_ok hi]
  rfl
theorem while_done {c : NB.Env → M Bool} {b : NB.Env → M (Out × NB.Env)} {n : Nat} {v : NB.Env} {s s1 : S} (h : c v s = .ok false s1) : whileM c b (n + 1) v s = .ok (.nx, v) s1 := by
  conv => lhs; unfold whileM
  simp only [run_bind, h, Bool.false_eq_true, if_false, run_pure]
theorem while_step {c : NB.Env → M Bool} {b : NB.Env → M (Out × NB.Env)} {n : Nat} {v v1 : NB.Env} {s s1 s2 : S} (h : c v s = .ok true s1) (hb : b v s1 = .ok (.nx, v1) s2) : whileM c b (n + 1) v s = whileM c b n v1 s2 := by
  conv => lhs; unfold whileM
  simp only [run_bind, h, if_true, hb]
theorem ev_not {k : CallT} {a : E} {v : NB.Env} {s s1 : S} {b : Bool} (h : ev k a v s = .ok (.bool b) s1) : ev k (.not a) v s = .ok (.bool (!b)) s1 := by
  rw [q_not, run_bind, h]
  rfl
theorem ev_call {k : CallT} {f : Str} {es : List E} {v : NB.Env} {s s1 : S} {xs : List AV} {r : Res PyData} (ha : evA k es v s = .ok xs s1) (h : k f xs s1 = r) : ev k (.call f es) v s = r := by
  rw [q_call, run_bind, ha]
  exact h
theorem ev_callB {k : CallT} {f : Str} {es : List E} {v : NB.Env} {s s1 s2 : S} {xs : List AV} {x : PyData} (ha : evA k es v s = .ok xs s1) (h : k f xs s1 = .ok x s2) (hx : atomD x = true) : ev k (.callB f es) v s = .ok x s2 := by
  rw [q_callB, run_bind, ha]
  show (do let x ← k f xs; if atomD x = true then M.pure x else M.bad) s1 = _
  rw [run_bind, h]
  show (if atomD x = true then M.pure x else M.bad) s2 = _
  rw [if_pos hx]
  rfl
theorem evA_hnd {k : CallT} {i : Nat} {n : AV} {es : List E} {v : NB.Env} {s s1 : S} {ys : List AV} (h : getH i v = some n) (h2 : evA k es v s = .ok ys s1) : evA k (.hnd i :: es) v s = .ok (n :: ys) s1 := by
  rw [q_Ahnd, run_bind, h]
  show (do let ys ← evA k es v; M.pure (n :: ys)) s = _
  rw [run_bind, h2]
  rfl
theorem evA_nx {k : CallT} {e : E} {es : List E} {v : NB.Env} {s s1 s2 : S} {x : PyData} {ys : List AV} (hs : isHndC e = false) (h : ev k e v s = .ok x s1) (h2 : evA k es v s1 = .ok ys s2) : evA k (e :: es) v s = .ok (.d x :: ys) s2 := by
  rw [q_Acons hs, run_bind, h]
  show (do let ys ← evA k es v; M.pure (AV.d x :: ys)) s1 = _
  rw [run_bind, h2]
  rfl
theorem ev_callK {k : CallT} {f : Str} {es : List E} {p : List Nat} {v : NB.Env} {s s1 : S} {xs ys : List AV} {r : Res PyData} (ha : evA k es v s = .ok xs s1) (hp : (p.filterMap fun i => xs[i]?) = ys) (h : k f ys s1 = r) : ev k (.callK f es p) v s = r := by
  rw [q_callK, run_bind, ha]
  show k f (p.filterMap fun i => xs[i]?) s1 = r
  rw [hp]
  exact h
theorem ev_cmp {k : CallT} {o : Cop} {a b : E} {v : NB.Env} {s s1 s2 : S} {x y : PyData} {c : Bool} (ha : ev k a v s = .ok x s1) (hb : ev k b v s1 = .ok y s2) (hc : cmpD o x y = some c) : ev k (.cmp o a b) v s = .ok (.bool c) s2 := by
  rw [q_cmp, run_bind, ha]
  show (do let y ← ev k b v; let c ← liftO (cmpD o x y); M.pure (PyData.bool c)) s1 = _
  rw [run_bind, hb]
  show (do let c ← liftO (cmpD o x y); M.pure (PyData.bool c)) s2 = _
  rw [hc]
  rfl
theorem ev_or_no {k : CallT} {a b : E} {v : NB.Env} {s s1 s2 : S} (ha : ev k a v s = .ok (.bool false) s1) (hb : ev k b v s1 = .ok (.bool false) s2) : ev k (.or a b) v s = .ok (.bool false) s2 := by
  rw [q_or, run_bind, ha]
  exact hb
theorem ex_ifs_no {k : CallT} {c : E} {a : List C} {v : NB.Env} {s s1 : S} (h : ev k c v s = .ok (.bool false) s1) : ex k (.ifs c a []) v s = .ok (.nx, v) s1 := by
  have ht : tst k c v s = .ok false s1 := by
    rw [q_tst, run_bind, h]
    rfl
  rw [x_ifs, run_bind, ht]
  show exs k [] v s1 = _
  rw [xs_nil]
theorem ev_bi2 {k : CallT} {b : Bi} {e e' : E} {v : NB.Env} {s s1 s2 : S} {x y z : PyData} (h0 : isStarC e = false) (h0' : isStarC e' = false) (h : ev k e v s = .ok x s1) (h' : ev k e' v s1 = .ok y s2) (hb : biD b [x, y] = some z) : ev k (.bi b [e, e']) v s = .ok z s2 := by
  rw [q_bi, run_bind, q_Lcons h0, run_bind, h]
  show (do
    let xs ← (do let ys ← evL k [e'] v; M.pure (x :: ys))
    liftO (biD b xs)) s1 = _ 
  rw [run_bind, run_bind, q_Lcons h0', run_bind, h']
  simp only [q_Lnil, run_bind, run_pure, run_some, hb]
theorem zip_mapR {α : Type} (g : α → PyData) : ∀ (xs : List PyData) (ys : List α), zipL xs (ys.map g) = (xs.zip ys).map fun p => PyData.tuple [p.1, g p.2]
  | [], _ => rfl
  | _ :: _, [] => rfl
  | x :: xs, y :: ys => by
    have ih := zip_mapR g xs ys
    unfold zipL at ih ⊢
    rw [List.map_cons, List.zipWith_cons_cons, ih]
    rfl
theorem zip_mapL {α : Type} (f : α → PyData) : ∀ (xs : List α) (ys : List PyData), zipL (xs.map f) ys = (xs.zip ys).map fun p => PyData.tuple [f p.1, p.2]
  | [], _ => rfl
  | _ :: _, [] => rfl
  | x :: xs, y :: ys => by
    have ih := zip_mapL f xs ys
    unfold zipL at ih ⊢
    rw [List.map_cons, List.zipWith_cons_cons, ih]
    rfl
theorem zip_mapB {α β : Type} (f : α → PyData) (g : β → PyData) : ∀ (xs : List α) (ys : List β), zipL (xs.map f) (ys.map g) = (xs.zip ys).map fun p => PyData.tuple [f p.1, g p.2]
  | [], _ => rfl
  | _ :: _, [] => rfl
  | x :: xs, y :: ys => by
    have ih := zip_mapB f g xs ys
    unfold zipL at ih ⊢
    rw [List.map_cons, List.map_cons, List.zipWith_cons_cons, ih]
    rfl
theorem zipD_TT {a b : List PyData} : zipD (.tuple a) (.tuple b) = some (.list (zipL a b)) := rfl
theorem zipD_TL {a b : List PyData} : zipD (.tuple a) (.list b) = some (.list (zipL a b)) := rfl
theorem zipD_LT {a b : List PyData} : zipD (.list a) (.tuple b) = some (.list (zipL a b)) := rfl
theorem zipD_LL {a b : List PyData} : zipD (.list a) (.list b) = some (.list (zipL a b)) := rfl
theorem enumD_T {a : List PyData} : enumD (.tuple a) = some (.list (enumL a)) := rfl
theorem enumD_L {a : List PyData} : enumD (.list a) = some (.list (enumL a)) := rfl
theorem enum_get {xs : List PyData} {k : Nat} {x : PyData} (h : (enumL xs)[k]? = some x) : ∃ y, xs[k]? = some y ∧ x = .tuple [.int (k : Nat), y] := by
  unfold enumL at h
  rw [List.getElem?_zipWith] at h
  cases e : xs[k]? with
  | none => rw [e] at h; cases e2 : (List.range xs.length)[k]? <;> rw [e2] at h <;> cases h
  | some y =>
    have hk := (List.getElem?_eq_some_iff.mp e).1
    have e2 : (List.range xs.length)[k]? = some k := by rw [List.getElem?_range hk]
    rw [e, e2] at h
    cases h
    exact ⟨y, rfl, rfl⟩
theorem enum_len {xs : List PyData} : (enumL xs).length = xs.length := by unfold enumL; rw [List.length_zipWith, List.length_range, Nat.min_self]
/-- a loop over known things that gives d at the first that is not c -/
theorem for_all {α : Type} {tg : Tg} {b : Env → M (Out × Env)} {s : S} (g : α → PyData) (c : α → Bool) (I : Env → Prop) (d : PyData) : ∀ {ps : List α} {v : Env}, (∀ p ∈ ps, ∀ v, I v → ∃ v1, putTg tg (g p) v = some v1 ∧ ∃ v', b v1 s = .ok (if c p = true then Out.nx else Out.rt d, v') s ∧ I v') → I v →
    ∃ v', forM' tg b (ps.map g) v s = .ok (if ps.all c = true then Out.nx else Out.rt d, v') s ∧ I v'
  | [], v, _, h => ⟨v, rfl, h⟩
  | p :: ps, v, st, h => by
    obtain ⟨v1, e1, v2, e2, h2⟩ := st p List.mem_cons_self v h
    cases hc : c p with
    | true =>
      obtain ⟨v3, e3, h3⟩ := for_all g c I d (fun q hq => st q (List.mem_cons_of_mem _ hq)) h2
      refine ⟨v3, ?_, h3⟩
      rw [List.map_cons, List.all_cons, hc, Bool.true_and, ← e3]
      rw [hc, if_pos rfl] at e2
      unfold forM'
      simp only [run_bind, e1, run_some, e2]
      cases ps <;> rfl
    | false =>
      refine ⟨v2, ?_, h2⟩
      rw [List.map_cons, List.all_cons, hc, Bool.false_and]
      rw [hc] at e2
      simp only [Bool.false_eq_true, if_false] at e2 ⊢
      unfold forM'
      simp only [run_bind, e1, run_some, e2]
      rfl
abbrev rL (n : Nat) : List PyData := (List.range n).map fun k : Nat => PyData.int ((0 : Int) + (k : Nat))
theorem rL_ok {n : Nat} (h : n ≤ 1000) : rng1D (.int (n : Nat)) = some (.list (rL n)) := by
  have h1 : rngOk (n : Int) = true := by
    unfold rngOk
    have : (2 : Int) ^ 62 = 4611686018427387904 := by decide
    rw [this]
    simp only [Bool.and_eq_true, decide_eq_true_eq]
    omega
  show (if rngOk (n : Int) = true then some (PyData.list (rngL 0 (n : Int).toNat)) else none) = _
  rw [if_pos h1]
  rfl
theorem rL_get {n k : Nat} {x : PyData} (h : (rL n)[k]? = some x) : k < n ∧ x = .int (k : Nat) := by
  unfold rL at h
  rw [List.getElem?_map] at h
  obtain ⟨q, hq, rfl⟩ := Option.map_eq_some_iff.mp h
  obtain ⟨h1, h2⟩ := List.getElem?_eq_some_iff.mp hq
  rw [List.length_range] at h1
  rw [List.getElem_range] at h2
  subst h2
  exact ⟨h1, by congr 1; omega⟩
theorem rL_len {n : Nat} : (rL n).length = n := by simp [rL]
theorem rL_map {n : Nat} : rL n = (List.range n).map fun k : Nat => PyData.int (k : Nat) := by
  unfold rL
  apply List.map_congr_left
  intro k _
  congr 1
  omega
/-- the first number below n that is not ok -/
def firstBad (ok : Nat → Bool) (n : Nat) : Option Nat := (List.range n).find? fun k => !ok k
theorem firstBad_none {ok : Nat → Bool} {n : Nat} : firstBad ok n = none ↔ ∀ k, k < n → ok k = true := by
  unfold firstBad
  rw [List.find?_eq_none]
  constructor
  · intro h k hk
    have := h k (List.mem_range.mpr hk)
    simpa using this
  · intro h k hk
    have := h k (List.mem_range.mp hk)
    simp [this]
theorem firstBad_at {ok : Nat → Bool} : ∀ {n k : Nat}, k < n → ok k = false → (∀ i, i < k → ok i = true) → firstBad ok n = some k := fun {n k} hk h0 hi => by
  unfold firstBad
  rw [List.find?_eq_some_iff_getElem]
  refine ⟨by simp [h0], k, by rw [List.length_range]; exact hk, by rw [List.getElem_range], fun j hj => ?_⟩
  rw [List.getElem_range]
  simp [hi j hj]
def outOf (d : Nat → PyData) : Option Nat → Out
  | none => .nx
  | some k => .rt (d k)
/-- a loop that gives d k at the first k that is not ok -/
theorem for_first {tg : Tg} {b : Env → M (Out × Env)} {s : S} {xs : List PyData} {v : Env} (ok : Nat → Bool) (I : Env → Prop) (d : Nat → PyData) (st : ∀ k x, xs[k]? = some x → (∀ i, i < k → ok i = true) → ∀ v, I v → ∃ v1, putTg tg x v = some v1 ∧ ∃ v', b v1 s = .ok (if ok k = true then Out.nx else Out.rt (d k), v') s ∧ I v') (hI : I v) :
    ∃ v', forM' tg b xs v s = .ok (outOf d (firstBad ok xs.length), v') s ∧ (firstBad ok xs.length = none → I v') := by
  have key := for_ret (g := tg) (b := b) (fun k v s' => s' = s ∧ I v ∧ ∀ i, i < k → ok i = true) (fun dd s' => s' = s ∧ ∃ k, k < xs.length ∧ ok k = false ∧ (∀ i, i < k → ok i = true) ∧ dd = d k) (xs := xs) (j := 0) (v := v) (s := s)
    (fun k x v s' hx h => by
      obtain ⟨rfl, h1, h2⟩ := h
      rw [Nat.zero_add] at h2 ⊢
      obtain ⟨v1, e1, v2, e2, h3⟩ := st k x hx h2 v h1
      refine ⟨v1, e1, ?_⟩
      cases hc : ok k with
      | true =>
        rw [hc, if_pos rfl] at e2
        refine .inl ⟨v2, s', .inl e2, rfl, h3, fun i hi => ?_⟩
        by_cases hik : i = k
        · rw [hik]; exact hc
        · exact h2 i (by omega)
      | false =>
        rw [hc] at e2
        simp only [Bool.false_eq_true, if_false] at e2
        exact .inr ⟨d k, v2, s', e2, rfl, k, (List.getElem?_eq_some_iff.mp hx).1, hc, h2, rfl⟩)
    ⟨rfl, hI, fun i hi => absurd hi (Nat.not_lt_zero i)⟩
  rcases key with ⟨v', s', e, rfl, h1, h2⟩ | ⟨dd, v', s', e, rfl, k, hk, h0, hi, rfl⟩
  · have hn : firstBad ok xs.length = none := firstBad_none.mpr fun k hk => h2 k (by omega)
    exact ⟨v', by rw [e, hn]; rfl, fun _ => h1⟩
  · have hn := firstBad_at hk h0 hi
    exact ⟨v', by rw [e, hn]; rfl, fun z => by rw [hn] at z; cases z⟩
end L2.NB
set_option Elab.async false
set_option linter.all false
set_option maxRecDepth 100000
/-! NB30: values that can be told, compared: built up from within. -/
namespace L2.NB
open PySem PySem.Spec PyProof.Rows
/-- so deep, its text so long -/
structure Nice (k w : Nat) (d : PyData) : Prop where
  sh : d.showable = true
  di : d.hasDict = false
  de : d.depth ≤ k
  le : d.shown.length ≤ w
  la : d.canLay0 = true
  eq : PyData.eqv d d = true
theorem Nice.mono {k w k' w' : Nat} {d : PyData} (h : Nice k w d) (hk : k ≤ k') (hw : w ≤ w') : Nice k' w' d := ⟨h.sh, h.di, Nat.le_trans h.de hk, Nat.le_trans h.le hw, h.la, h.eq⟩
theorem Nice.big {i : Int} (h : i.natAbs.log2 < 1920) : Nice 0 1921 (.int i) := ⟨by simp [PyData.showable, h], rfl, Nat.le_refl _, int_text_len_1921 h, rfl, by simp [PyData.eqv]⟩
theorem small_text : ((List.range 1001).all fun n : Nat => decide ((PyData.shown (.int (n : Int))).length ≤ 4)) = true := by decide +kernel
theorem Nice.int {i : Int} (h0 : 0 ≤ i) (h1 : i < 1001) : Nice 0 4 (.int i) := by
  obtain ⟨n, rfl⟩ := Int.eq_ofNat_of_zero_le h0
  have hn : n < 1001 := by omega
  have hl : (n : Int).natAbs.log2 < 1920 := by
    have e : (n : Int).natAbs = n := rfl
    rw [e]
    by_cases hz : n = 0
    · subst hz; decide
    · have := (Nat.log2_lt hz).mpr (show n < 2 ^ 10 by omega)
      omega
  have := Nice.big hl
  have ht := List.all_eq_true.mp small_text n (List.mem_range.mpr hn)
  exact ⟨this.sh, this.di, this.de, of_decide_eq_true ht, this.la, this.eq⟩
theorem Nice.none : Nice 0 4 .none := ⟨rfl, rfl, Nat.le_refl _, by decide +kernel, rfl, rfl⟩
theorem Nice.bool (b : Bool) : Nice 0 5 (.bool b) := ⟨rfl, rfl, Nat.le_refl _, by cases b <;> decide +kernel, rfl, by cases b <;> rfl⟩
section
variable {k w : Nat} {xs : List PyData}
theorem nice_sh (h : ∀ x ∈ xs, Nice k w x) : PyData.showableAll xs = true := by
  induction xs with
  | nil => rfl
  | cons x r ih => rw [PyData.showableAll, (h x (by simp)).sh, ih fun y hy => h y (by simp [hy])]; rfl
theorem nice_di (h : ∀ x ∈ xs, Nice k w x) : PyData.hasDictAll xs = false := by
  induction xs with
  | nil => rfl
  | cons x r ih => rw [PyData.hasDictAll, (h x (by simp)).di, ih fun y hy => h y (by simp [hy])]; rfl
theorem nice_de (h : ∀ x ∈ xs, Nice k w x) : PyData.depthAll xs ≤ k := by
  induction xs with
  | nil => exact Nat.zero_le _
  | cons x r ih =>
    rw [PyData.depthAll]
    have h1 := (h x (by simp)).de
    have h2 := ih fun y hy => h y (by simp [hy])
    omega
theorem nice_la (h : ∀ x ∈ xs, Nice k w x) : PyData.canLayAll0 xs = true := by
  induction xs with
  | nil => rfl
  | cons x r ih => rw [PyData.canLayAll0, (h x (by simp)).la, ih fun y hy => h y (by simp [hy])]; rfl
theorem nice_eq (h : ∀ x ∈ xs, Nice k w x) : PyData.eqvAll xs xs = true := by
  induction xs with
  | nil => rfl
  | cons x r ih => rw [PyData.eqvAll, (h x (by simp)).eq, ih fun y hy => h y (by simp [hy])]; rfl
theorem nice_pile (h : ∀ x ∈ xs, Nice k w x) : piled (PyData.shownAll xs) ≤ xs.length * (w + 2) := by
  induction xs with
  | nil => exact Nat.zero_le _
  | cons x r ih =>
    have h1 := ih fun y hy => h y (by simp [hy])
    have h2 := (h x (by simp)).le
    rw [PyData.shownAll, piled_cons, List.length_cons, Nat.succ_mul]
    omega
theorem nice_join (h : ∀ x ∈ xs, Nice k w x) : (Str.join ", " (PyData.shownAll xs)).length ≤ xs.length * (w + 2) := by
  by_cases h0 : PyData.shownAll xs = []
  · rw [h0]
    exact Nat.zero_le _
  · have := join_length_add _ h0
    have := nice_pile h
    omega
theorem Nice.tup (h : ∀ x ∈ xs, Nice k w x) : Nice (k + 1) (xs.length * (w + 2) + 3) (.tuple xs) := by
  refine ⟨by rw [PyData.showable]; exact nice_sh h, by rw [PyData.hasDict]; exact nice_di h, by rw [PyData.depth]; have := nice_de h; omega, ?_, by rw [PyData.canLay0]; exact nice_la h, by rw [PyData.eqv]; exact nice_eq h⟩
  have e : PyData.shown (.tuple xs) = tupleText (PyData.shownAll xs) := rfl
  rw [e]
  unfold tupleText
  rw [strLen_append, strLen_append]
  have hj := nice_join h
  have h1 : (("(" : String) : Str).length = 1 := rfl
  have h2 : ((if (PyData.shownAll xs).length == 1 then ",)" else ")" : String) : Str).length ≤ 2 := by split <;> decide
  omega
theorem textFrom_le : ∀ (ts : List Str) (k : Nat) (acc : Str), (textFrom k acc ts).length ≤ acc.length + piled ts
  | [], k, acc => Nat.le_add_right _ _
  | t :: ts, k, acc => by
    rw [textFrom, piled_cons]
    have := textFrom_le ts (k + 1) (acc ++ (if k > 0 then ", " else "" : String) ++ t)
    refine Nat.le_trans this ?_
    rw [strLen_append, strLen_append]
    have h2 : ((if k > 0 then ", " else "" : String) : Str).length ≤ 2 := by split <;> decide
    omega
theorem Nice.lst (h : ∀ x ∈ xs, Nice k w x) : Nice (k + 1) (xs.length * (w + 2) + 3) (.list xs) := by
  refine ⟨by rw [PyData.showable]; exact nice_sh h, by rw [PyData.hasDict]; exact nice_di h, by rw [PyData.depth]; have := nice_de h; omega, ?_, by rw [PyData.canLay0]; exact nice_la h, by rw [PyData.eqv]; exact nice_eq h⟩
  have e : PyData.shown (.list xs) = listText (PyData.shownAll xs) := rfl
  rw [e]
  unfold listText
  rw [strLen_append]
  have hj := nice_pile h
  have hj2 := textFrom_le (PyData.shownAll xs) 0 "["
  have h1 : (("[" : String) : Str).length = 1 := rfl
  have h2 : (("]" : String) : Str).length = 1 := rfl
  omega
end
theorem Nice.repr {k w : Nat} {d : PyData} (h : Nice k w d) (hk : k ≤ 60) (hw : w ≤ 2000000) : biD .repr [d] = some (.str d.shown) := by
  refine repr_eq ?_
  have hlen : d.shown.length ≤ sizeLine := Nat.le_trans h.le (Nat.le_trans hw (by decide))
  have hd := Nat.le_trans h.de hk
  unfold reprOk
  rw [h.sh, h.di, decide_eq_true hlen, decide_eq_true hd]
  rfl
theorem Nice.ok {k w : Nat} {d : PyData} (h : Nice k w d) (hk : k ≤ 60) : okEq d = true := by
  show (d.canLay0 && decide (d.depth ≤ 64)) = true
  rw [h.la, decide_eq_true (Nat.le_trans h.de (by omega))]
  rfl
theorem eqOk_two {a b : PyData} (ha : okEq a = true) (hb : okEq b = true) : eqOk a b = true := by
  unfold eqOk
  split
  · rfl
  · rw [ha, hb]; rfl
theorem ne_self {k w : Nat} {d : PyData} (h : Nice k w d) (hk : k ≤ 60) : cmpD .ne d d = some false := by
  show (if eqOk d d = true then some (!PyData.eqv d d) else none) = _
  rw [if_pos (eqOk_two (h.ok hk) (h.ok hk)), h.eq]
  rfl
theorem eqvAll_map {α : Type} (f : α → PyData) [DecidableEq α] (hf : ∀ a b, PyData.eqv (f a) (f b) = decide (a = b)) : ∀ as bs : List α, PyData.eqvAll (as.map f) (bs.map f) = decide (as = bs)
  | [], [] => rfl
  | [], _ :: _ => rfl
  | _ :: _, [] => rfl
  | a :: as, b :: bs => by
    rw [List.map_cons, List.map_cons, PyData.eqvAll, hf, eqvAll_map f hf as bs]
    by_cases h1 : a = b
    · subst h1
      simp
    · simp [h1]
theorem eqv_ints (a b : List Int) : PyData.eqv (.tuple (a.map .int)) (.tuple (b.map .int)) = decide (a = b) := by
  rw [PyData.eqv]
  exact eqvAll_map PyData.int (fun i j => by rw [PyData.eqv]; by_cases h : i = j <;> simp [h]) a b
/-- a call whose body ends with a value -/
theorem call_ret {P : Prog} {m : Nat} {f : Str} {np ns : Nat} {b : List C} {xs : List AV} {s s1 : S} {d : PyData} {v v' : Env} (h : P.fn f = some (.code np ns b)) (hl : xs.length = np) (hs : start ns xs = v) (hb : exs (callN P m) b v s = .ok (.rt d, v') s1) : callN P (m + 1) f xs s = .ok d s1 := by
  rw [call_run h hl, hs, run_bind, hb]
  rfl
theorem x_ret_run {k : CallT} {e : E} {v : Env} {s s1 : S} {d : PyData} (h : ev k e v s = .ok d s1) : ex k (.ret e) v s = .ok (.rt d, v) s1 := by
  rw [x_ret, run_bind, h]
  rfl
theorem exs_ret {k : CallT} {e : E} {cs : List C} {v : Env} {s s1 : S} {d : PyData} (h : ev k e v s = .ok d s1) : exs k (.ret e :: cs) v s = .ok (.rt d, v) s1 := xs_rt (x_ret_run h)
theorem ev_ite_yes {k : CallT} {c a b : E} {v : Env} {s s1 : S} {r : Res PyData} (hc : ev k c v s = .ok (.bool true) s1) (h : ev k a v s1 = r) : ev k (.ite c a b) v s = r := by
  rw [q_ite, run_bind, hc]
  exact h
theorem ev_ite_no {k : CallT} {c a b : E} {v : Env} {s s1 : S} {r : Res PyData} (hc : ev k c v s = .ok (.bool false) s1) (h : ev k b v s1 = r) : ev k (.ite c a b) v s = r := by
  rw [q_ite, run_bind, hc]
  exact h
theorem ex_ifs_yes {k : CallT} {c : E} {a b : List C} {v : Env} {s s1 : S} {r : Res (Out × Env)} (h : ev k c v s = .ok (.bool true) s1) (hr : exs k a v s1 = r) : ex k (.ifs c a b) v s = r := by
  have ht : tst k c v s = .ok true s1 := by
    rw [q_tst, run_bind, h]
    rfl
  rw [x_ifs, run_bind, ht]
  exact hr
theorem ex_ifs_else {k : CallT} {c : E} {a b : List C} {v : Env} {s s1 : S} {r : Res (Out × Env)} (h : ev k c v s = .ok (.bool false) s1) (hr : exs k b v s1 = r) : ex k (.ifs c a b) v s = r := by
  have ht : tst k c v s = .ok false s1 := by
    rw [q_tst, run_bind, h]
    rfl
  rw [x_ifs, run_bind, ht]
  exact hr
theorem ev_bin {k : CallT} {o : Bop} {a b : E} {v : Env} {s s1 s2 : S} {x y z : PyData} (ha : ev k a v s = .ok x s1) (hb : ev k b v s1 = .ok y s2) (hz : binD o x y = some z) : ev k (.bin o a b) v s = .ok z s2 := by
  rw [q_bin, run_bind, ha]
  show (do let y ← ev k b v; liftO (binD o x y)) s1 = _
  rw [run_bind, hb]
  show liftO (binD o x y) s2 = _
  rw [hz]
  rfl
theorem evL_nx {k : CallT} {e : E} {es : List E} {v : Env} {s s1 s2 : S} {x : PyData} {ys : List PyData} (hs : isStarC e = false) (h : ev k e v s = .ok x s1) (h2 : evL k es v s1 = .ok ys s2) : evL k (e :: es) v s = .ok (x :: ys) s2 := by
  rw [q_Lcons hs, run_bind, h]
  show (do let ys ← evL k es v; M.pure (x :: ys)) s1 = _
  rw [run_bind, h2]
  rfl
theorem ev_tup {k : CallT} {es : List E} {v : Env} {s s1 : S} {xs : List PyData} (h : evL k es v s = .ok xs s1) (hl : xs.length ≤ sizeLine) : ev k (.tup es) v s = .ok (.tuple xs) s1 := by
  rw [q_tup, run_bind, h]
  exact d_tupOk hl
theorem ev_lst {k : CallT} {es : List E} {v : Env} {s s1 : S} {xs : List PyData} (h : evL k es v s = .ok xs s1) (hl : xs.length ≤ sizeLine) : ev k (.lst es) v s = .ok (.list xs) s1 := by
  rw [q_lst, run_bind, h]
  exact d_lstOk hl
theorem ev_varT {k : CallT} {i : Nat} {v : Env} {s : S} {d : PyData} (h : getT i v = some d) : ev k (.varT i) v s = .ok d s := by
  rw [q_varT, h]
  rfl
theorem ev_var {k : CallT} {i : Nat} {v : Env} {s : S} {d : PyData} (h : getV i v = some d) : ev k (.var i) v s = .ok d s := by
  rw [q_var, h]
  rfl
theorem ev_cst {k : CallT} {v : Env} {s : S} {d : PyData} : ev k (.cst d) v s = .ok d s := q_cst
theorem x_app_run {k : CallT} {i : Nat} {e : E} {v v' : Env} {s s1 : S} {x : PyData} {xs : List PyData} (h : ev k e v s = .ok x s1) (ho : getO i v = some xs) (hl : xs.length < sizeLine) (hp : put i (.own (xs ++ [x])) v = some v') : ex k (.app i e) v s = .ok (.nx, v') s1 := by
  rw [x_app, run_bind, h]
  show (do
    let xs ← liftO (getO i v)
    if xs.length < sizeLine then do let v' ← liftO (put i (.own (xs ++ [x])) v); nx v' else M.bad) s1 = _
  rw [ho]
  show (if xs.length < sizeLine then (do let v' ← liftO (put i (.own (xs ++ [x])) v); nx v') else M.bad) s1 = _
  rw [if_pos hl, hp]
  rfl
theorem x_setF_run {k : CallT} {i : Nat} {e : E} {v v' : Env} {s s1 : S} {xs : List PyData} (h : ev k e v s = .ok (.list xs) s1) (hp : put i (.own xs) v = some v') : ex k (.setF i e) v s = .ok (.nx, v') s1 := by
  rw [x_setF, run_bind, h]
  show (do let v' ← liftO (put i (.own xs) v); nx v') s1 = _
  rw [hp]
  rfl
theorem x_parF_run {k : CallT} {ps : List (Nat × Bool)} {es : List E} {v v' : Env} {s s1 : S} {xs : List PyData} (h : evL k es v s = .ok xs s1) (hp : putP ps xs v = some v') : ex k (.parF ps es) v s = .ok (.nx, v') s1 := by
  rw [x_parF, run_bind, h]
  show (do let v' ← liftO (putP ps xs v); nx v') s1 = _
  rw [hp]
  rfl
theorem exs_app {k : CallT} {b : List C} {v' : Env} {s' : S} : ∀ {a : List C} {v : Env} {s : S}, exs k a v s = .ok (.nx, v') s' → exs k (a ++ b) v s = exs k b v' s'
  | [], v, s, h => by
    rw [xs_nil] at h
    cases h
    rfl
  | c :: a, v, s, h => by
    rw [xs_cons, run_bind] at h
    rw [List.cons_append, xs_cons, run_bind]
    cases e : ex k c v s with
    | bad => rw [e] at h; cases h
    | ok r s1 =>
      obtain ⟨o, v1⟩ := r
      rw [e] at h
      cases o with
      | nx => exact exs_app (a := a) h
      | _ => cases h
theorem ev_sl2 {k : CallT} {a lo hi : E} {v : Env} {s : S} {x y : PyData} {i j : Int} (ha : ev k a v s = .ok x s) (h1 : lo.isNo = false) (hl : ev k lo v s = .ok (.int i) s) (h2 : hi.isNo = false) (hh : ev k hi v s = .ok (.int j) s) (hy : sliceD x (some i) (some j) = some y) : ev k (.sl a lo hi) v s = .ok y s := by
  rw [q_sl, run_bind, ha, h1, h2]
  simp only [d_par2, run_bind, hl, hh, d_isInt, run_some, run_pure, hy]
theorem ev_sl1 {k : CallT} {a lo : E} {v : Env} {s : S} {x y : PyData} {i : Int} (ha : ev k a v s = .ok x s) (h1 : lo.isNo = false) (hl : ev k lo v s = .ok (.int i) s) (hy : sliceD x (some i) none = some y) : ev k (.sl a lo .no) v s = .ok y s := by
  rw [q_sl, run_bind, ha, h1]
  have hno : E.isNo .no = true := rfl
  rw [hno]
  simp only [d_par2, d_par1, run_bind, hl, d_isInt, run_some, run_pure, hy]
theorem ev_sl0 {k : CallT} {a hi : E} {v : Env} {s : S} {x y : PyData} {i : Int} (ha : ev k a v s = .ok x s) (h1 : hi.isNo = false) (hl : ev k hi v s = .ok (.int i) s) (hy : sliceD x none (some i) = some y) : ev k (.sl a .no hi) v s = .ok y s := by
  rw [q_sl, run_bind, ha, h1]
  have hno : E.isNo .no = true := rfl
  rw [hno]
  simp only [d_par2, d_par1, run_bind, hl, d_isInt, run_some, run_pure, hy]
theorem ev_idx {k : CallT} {a b : E} {v : Env} {s s1 s2 : S} {x y z : PyData} (ha : ev k a v s = .ok x s1) (hb : ev k b v s1 = .ok y s2) (hz : idxD x y = some z) : ev k (.idx a b) v s = .ok z s2 := by
  rw [q_idx, run_bind, ha]
  show (do let y ← ev k b v; liftO (idxD x y)) s1 = _
  rw [run_bind, hb]
  show liftO (idxD x y) s2 = _
  rw [hz]
  rfl
theorem ev_neg {k : CallT} {a : E} {v : Env} {s s1 : S} {i : Int} (ha : ev k a v s = .ok (.int i) s1) : ev k (.neg a) v s = .ok (.int (-i)) s1 := by
  rw [q_neg, run_bind, ha]
  rfl
theorem cmp_eq {a b : PyData} (ha : okEq a = true) (hb : okEq b = true) : cmpD .eq a b = some (PyData.eqv a b) := by
  show (if eqOk a b = true then some (PyData.eqv a b) else none) = _
  rw [if_pos (eqOk_two ha hb)]
theorem cmp_ne {a b : PyData} (ha : okEq a = true) (hb : okEq b = true) : cmpD .ne a b = some (!PyData.eqv a b) := by
  show (if eqOk a b = true then some (!PyData.eqv a b) else none) = _
  rw [if_pos (eqOk_two ha hb)]
theorem rng2_ok {a b : Nat} (h1 : a ≤ 1000) (h2 : b ≤ 1000) : rng2D (.int (a : Nat)) (.int (b : Nat)) = some (.list ((List.range (b - a)).map fun k : Nat => PyData.int ((a + k : Nat) : Int))) := by
  have g : ∀ n : Nat, n ≤ 1000 → rngOk (n : Int) = true := fun n h => by
    unfold rngOk
    have : (2 : Int) ^ 62 = 4611686018427387904 := by decide
    rw [this]
    simp only [Bool.and_eq_true, decide_eq_true_eq]
    omega
  have e : ((b : Int) - (a : Int)).toNat = b - a := by omega
  show (if rngOk (a : Int) = true ∧ rngOk (b : Int) = true then some (PyData.list (rngL (a : Int) ((b : Int) - (a : Int)).toNat)) else none) = _
  rw [if_pos ⟨g a h1, g b h2⟩, e]
  congr 2
theorem r2_get {a n k : Nat} {x : PyData} (h : ((List.range n).map fun k : Nat => PyData.int ((a + k : Nat) : Int))[k]? = some x) : k < n ∧ x = .int ((a + k : Nat) : Int) := by
  rw [List.getElem?_map] at h
  obtain ⟨q, hq, rfl⟩ := Option.map_eq_some_iff.mp h
  obtain ⟨h1, h2⟩ := List.getElem?_eq_some_iff.mp hq
  rw [List.length_range] at h1
  rw [List.getElem_range] at h2
  subst h2
  exact ⟨h1, rfl⟩
theorem ev_rng2' {k : CallT} {a b : E} {v : Env} {s s1 s2 : S} {i j : Nat} (h1 : ev k a v s = .ok (.int (i : Nat)) s1) (h2 : ev k b v s1 = .ok (.int (j : Nat)) s2) (hi : i ≤ 1000) (hj : j ≤ 1000) : ev k (.rng2 a b) v s = .ok (.list ((List.range (j - i)).map fun k : Nat => PyData.int ((i + k : Nat) : Int))) s2 := ev_rng2 h1 h2 (rng2_ok hi hj)
theorem ev_and_yes {k : CallT} {a b : E} {v : Env} {s s1 : S} {r : Res PyData} (ha : ev k a v s = .ok (.bool true) s1) (hb : ev k b v s1 = r) : ev k (.and a b) v s = r := by
  rw [q_and, run_bind, ha]
  exact hb
theorem ev_and_no {k : CallT} {a b : E} {v : Env} {s s1 : S} (ha : ev k a v s = .ok (.bool false) s1) : ev k (.and a b) v s = .ok (.bool false) s1 := by
  rw [q_and, run_bind, ha]
  rfl
theorem ev_or_yes {k : CallT} {a b : E} {v : Env} {s s1 : S} (ha : ev k a v s = .ok (.bool true) s1) : ev k (.or a b) v s = .ok (.bool true) s1 := by
  rw [q_or, run_bind, ha]
  rfl
theorem ev_or_then {k : CallT} {a b : E} {v : Env} {s s1 : S} {r : Res PyData} (ha : ev k a v s = .ok (.bool false) s1) (hb : ev k b v s1 = r) : ev k (.or a b) v s = r := by
  rw [q_or, run_bind, ha]
  exact hb
theorem truth_run {k : CallT} {e : E} {v : Env} {s s1 : S} {b : Bool} (h : ev k e v s = .ok (.bool b) s1) : (do let y ← ev k e v; liftO (truthD y)) s = .ok b s1 := by
  rw [run_bind, h]
  rfl
theorem getD_appL {α : Type} {l l' : List α} {d : α} {i : Nat} (h : i < l.length) : (l ++ l').getD i d = l.getD i d := by
  rw [List.getD_eq_getElem?_getD, List.getD_eq_getElem?_getD, List.getElem?_append_left h]
theorem getD_appR {α : Type} {l l' : List α} {d : α} {i : Nat} (h : l.length ≤ i) : (l ++ l').getD i d = l'.getD (i - l.length) d := by
  rw [List.getD_eq_getElem?_getD, List.getD_eq_getElem?_getD, List.getElem?_append_right h]
end L2.NB
set_option Elab.async false
set_option linter.all false
set_option maxRecDepth 100000
/-! NB31: filters that draw, chains, all(..), what is next in a filtered range. -/
namespace L2.NB
open PySem PySem.Spec PyProof.Rows
theorem ev_chain_int {k : CallT} {a b c : E} {v : Env} {s : S} {i j l : Int} (ha : ev k a v s = .ok (.int i) s) (hb : ev k b v s = .ok (.int j) s) (hc : ev k c v s = .ok (.int l) s) : ev k (.chain .le .lt a b c) v s = .ok (.bool (decide (i ≤ j) && decide (j < l))) s := by
  rw [q_chain, run_bind, ha]
  show (do
    let y ← ev k b v; let t ← liftO (cmpD .le (.int i) y)
    if t = true then do let z ← ev k c v; let u ← liftO (cmpD .lt y z); M.pure (PyData.bool u) else M.pure (PyData.bool false)) s = _
  rw [run_bind, hb]
  show (if decide (i ≤ j) = true then do let z ← ev k c v; let u ← liftO (cmpD .lt (.int j) z); M.pure (PyData.bool u) else M.pure (PyData.bool false)) s = _
  cases hd : decide (i ≤ j) with
  | false => rfl
  | true =>
    rw [if_pos rfl, run_bind, hc]
    rfl
theorem bools_of {α : Type} (f : α → Bool) (l : List α) : boolsOf (l.map fun p => PyData.bool (f p)) = some (l.map f) := by
  have := bools_map (l.map f)
  rw [List.map_map] at this
  exact this
theorem ev_all {α : Type} {k : CallT} {e it : E} {g : Tg} {v : Env} {s : S} {x : PyData} {ps : List α} {G : α → PyData} (f : α → Bool) (h1 : ev k it v s = .ok x s) (h2 : itemsOf x = some (ps.map G)) (h : ∀ p ∈ ps, ∃ v1, putTg g (G p) v = some v1 ∧ ev k e v1 s = .ok (.bool (f p)) s) (hl : ps.length ≤ sizeLine) : ev k (.bi .all [.lc e g it]) v s = .ok (.bool (ps.all f)) s := by
  have lp := lc_pure (tg := g) (f := ev k e) (v := v) (s := s) (g := G) (F := fun p => PyData.bool (f p)) (ps := ps) (acc := []) h (by rw [List.length_nil, Nat.zero_add]; exact hl)
  rw [List.nil_append] at lp
  refine ev_bi1 rfl (ev_lc h1 h2 lp) ?_
  show (boolsOf (ps.map fun p => PyData.bool (f p))).map (fun bs => PyData.bool (bs.all id)) = _
  rw [bools_of, Option.map_some, List.all_map]
  rfl
theorem ev_any {α : Type} {k : CallT} {e it : E} {g : Tg} {v : Env} {s : S} {x : PyData} {ps : List α} {G : α → PyData} (f : α → Bool) (h1 : ev k it v s = .ok x s) (h2 : itemsOf x = some (ps.map G)) (h : ∀ p ∈ ps, ∃ v1, putTg g (G p) v = some v1 ∧ ev k e v1 s = .ok (.bool (f p)) s) (hl : ps.length ≤ sizeLine) : ev k (.bi .any [.lc e g it]) v s = .ok (.bool (ps.any f)) s := by
  have lp := lc_pure (tg := g) (f := ev k e) (v := v) (s := s) (g := G) (F := fun p => PyData.bool (f p)) (ps := ps) (acc := []) h (by rw [List.length_nil, Nat.zero_add]; exact hl)
  rw [List.nil_append] at lp
  refine ev_bi1 rfl (ev_lc h1 h2 lp) ?_
  show (boolsOf (ps.map fun p => PyData.bool (f p))).map (fun bs => PyData.bool (bs.any id)) = _
  rw [bools_of, Option.map_some, List.any_map]
  rfl
theorem rI_ok {i : Int} (h1 : -1000 ≤ i) (h2 : i ≤ 1000) : rng1D (.int i) = some (.list (rL i.toNat)) := by
  have h1 : rngOk i = true := by
    unfold rngOk
    have : (2 : Int) ^ 62 = 4611686018427387904 := by decide
    rw [this]
    simp only [Bool.and_eq_true, decide_eq_true_eq]
    omega
  show (if rngOk i = true then some (PyData.list (rngL 0 i.toNat)) else none) = _
  rw [if_pos h1]
  rfl
theorem enum_map (xs : List PyData) : enumL xs = (List.range xs.length).map fun k : Nat => .tuple [.int (k : Nat), xs.getD k .none] := by
  apply List.ext_getElem?
  intro k
  rw [List.getElem?_map]
  cases e : (enumL xs)[k]? with
  | none =>
    have : (enumL xs).length ≤ k := List.getElem?_eq_none_iff.mp e
    rw [enum_len] at this
    rw [List.getElem?_eq_none (by rw [List.length_range]; exact this)]
    rfl
  | some x =>
    obtain ⟨y, hy, rfl⟩ := enum_get e
    have hk := (List.getElem?_eq_some_iff.mp hy).1
    rw [List.getElem?_range hk, Option.map_some, List.getD_eq_getElem?_getD, hy]
    rfl
theorem ev_enum {k : CallT} {a : E} {v : Env} {s s1 : S} {x y : PyData} (ha : ev k a v s = .ok x s1) (hz : enumD x = some y) : ev k (.enum a) v s = .ok y s1 := by
  rw [q_enum, run_bind, ha]
  show liftO (enumD x) s1 = _
  rw [hz]
  rfl
theorem ev_zip {k : CallT} {a b : E} {v : Env} {s s1 s2 : S} {x y z : PyData} (ha : ev k a v s = .ok x s1) (hb : ev k b v s1 = .ok y s2) (hz : zipD x y = some z) : ev k (.zip a b) v s = .ok z s2 := by
  rw [q_zip, run_bind, ha]
  show (do let y ← ev k b v; liftO (zipD x y)) s1 = _
  rw [run_bind, hb]
  show liftO (zipD x y) s2 = _
  rw [hz]
  rfl
/-- [G k for k in .. if c(k)], where the test draws -/
theorem lcIf_some {i : Nat} {f : Env → M PyData} {c : Env → M Bool} {v : Env} (I : S → Prop) (R : Nat → Bool → Prop) (G : Nat → PyData) (hi : i < v.length) : ∀ {ps : List Nat} {acc : List PyData} {s : S}, ps.Nodup →
    (∀ k ∈ ps, ∀ s, I s → ∃ b s', c (v.set i (.val (G k))) s = .ok b s' ∧ I s' ∧ R k b ∧ f (v.set i (.val (G k))) s' = .ok (G k) s') → acc.length + ps.length ≤ sizeLine → I s →
    ∃ (p : Nat → Bool) (s' : S), lcIfM (.nm i) f c v (ps.map G) acc s = .ok (acc ++ (ps.filter p).map G) s' ∧ I s' ∧ ∀ k ∈ ps, R k (p k)
  | [], acc, s, _, _, _, hs => ⟨fun _ => false, s, by simp [lcIfM], hs, fun k hk => by cases hk⟩
  | a :: ps, acc, s, hn, h, hz, hs => by
    rw [List.length_cons] at hz
    have hz' : acc.length < sizeLine := by omega
    rw [List.nodup_cons] at hn
    obtain ⟨b, s1, e1, h1, r1, f1⟩ := h a List.mem_cons_self s hs
    have tail : ∀ acc' : List PyData, acc'.length + ps.length ≤ sizeLine → ∃ (p : Nat → Bool) (s' : S), lcIfM (.nm i) f c v (ps.map G) acc' s1 = .ok (acc' ++ (ps.filter p).map G) s' ∧ I s' ∧ ∀ k ∈ ps, R k (p k) := fun acc' hl => lcIf_some I R G hi hn.2 (fun k hk => h k (List.mem_cons_of_mem _ hk)) hl h1
    have same : ∀ (p : Nat → Bool), (ps.filter fun k => if k = a then b else p k) = ps.filter p := fun p => by
      apply List.filter_congr
      intro k hk
      have hne : k ≠ a := fun z => by rw [z] at hk; exact hn.1 hk
      rw [if_neg hne]
    have all : ∀ (p : Nat → Bool), (∀ k ∈ ps, R k (p k)) → ∀ k ∈ a :: ps, R k (if k = a then b else p k) := fun p hp k hk => by
      by_cases hka : k = a
      · rw [if_pos hka, hka]; exact r1
      · rw [if_neg hka]
        rcases List.mem_cons.mp hk with z | hk
        · exact absurd z hka
        · exact hp k hk
    rw [List.map_cons]
    unfold lcIfM
    simp only [run_bind, putTg_nm, put_ok hi, run_some, e1, run_ite]
    cases b with
    | true =>
      obtain ⟨p, s2, e2, h2, r2⟩ := tail (acc ++ [G a]) (by rw [List.length_append, List.length_singleton]; omega)
      refine ⟨fun k => if k = a then true else p k, s2, ?_, h2, all p r2⟩
      simp only [if_pos, run_bind, f1, run_ite, hz', e2]
      rw [List.filter_cons, same p]
      simp
    | false =>
      obtain ⟨p, s2, e2, h2, r2⟩ := tail acc (by omega)
      refine ⟨fun k => if k = a then false else p k, s2, ?_, h2, all p r2⟩
      simp only [Bool.false_eq_true, if_false, e2]
      rw [List.filter_cons, same p]
      simp
/-! ### the numbers of a range for which something holds -/
section
variable {p : Nat → Bool} {n : Nat}
theorem frn_lt : ((List.range n).filter p).Pairwise (· < ·) := List.Pairwise.filter _ List.pairwise_lt_range
theorem frn_mono {i j a b : Nat} (ha : ((List.range n).filter p)[i]? = some a) (hb : ((List.range n).filter p)[j]? = some b) (h : i < j) : a < b := by
  obtain ⟨h1, e1⟩ := List.getElem?_eq_some_iff.mp ha
  obtain ⟨h2, e2⟩ := List.getElem?_eq_some_iff.mp hb
  have := List.pairwise_iff_getElem.mp (frn_lt (p := p) (n := n)) i j h1 h2 h
  rw [e1, e2] at this
  exact this
theorem frn_of {i a : Nat} (ha : ((List.range n).filter p)[i]? = some a) : a < n ∧ p a = true := by
  have := List.mem_filter.mp (List.mem_of_getElem? ha)
  exact ⟨List.mem_range.mp this.1, this.2⟩
theorem frn_at {a : Nat} (h : a < n) (hp : p a = true) : ∃ i : Nat, ((List.range n).filter p)[i]? = some a := List.mem_iff_getElem?.mp (List.mem_filter.mpr ⟨List.mem_range.mpr h, hp⟩)
theorem frn_next {i a b : Nat} (ha : ((List.range n).filter p)[i]? = some a) (hb : ((List.range n).filter p)[i + 1]? = some b) {j : Nat} (h1 : a < j) (h2 : j < b) : p j = false := by
  cases hp : p j with
  | false => rfl
  | true =>
    obtain ⟨q, hq⟩ := frn_at (Nat.lt_trans h2 (frn_of hb).1) hp
    rcases Nat.lt_trichotomy q i with z | rfl | z
    · have := frn_mono hq ha z; omega
    · rw [ha] at hq; cases hq; omega
    · rcases Nat.lt_trichotomy q (i + 1) with w | rfl | w
      · omega
      · rw [hb] at hq; cases hq; omega
      · have := frn_mono hb hq w; omega
theorem frn_first {a : Nat} (ha : ((List.range n).filter p)[0]? = some a) {j : Nat} (h : j < a) : p j = false := by
  cases hp : p j with
  | false => rfl
  | true =>
    obtain ⟨q, hq⟩ := frn_at (Nat.lt_trans h (frn_of ha).1) hp
    cases q with
    | zero => rw [ha] at hq; cases hq; omega
    | succ q => have := frn_mono ha hq (Nat.succ_pos q); omega
theorem frn_last {i a : Nat} (ha : ((List.range n).filter p)[i]? = some a) (hl : ((List.range n).filter p).length = i + 1) {j : Nat} (h : a < j) (h2 : j < n) : p j = false := by
  cases hp : p j with
  | false => rfl
  | true =>
    obtain ⟨q, hq⟩ := frn_at h2 hp
    have hql := (List.getElem?_eq_some_iff.mp hq).1
    rcases Nat.lt_trichotomy q i with z | rfl | z
    · have := frn_mono hq ha z; omega
    · rw [ha] at hq; cases hq; omega
    · omega
end
end L2.NB
set_option Elab.async false
set_option linter.all false
set_option maxRecDepth 100000
set_option maxHeartbeats 0
namespace K52
open PySem PySem.Spec PyProof.Rows L2 L2.NB
def top (i : Nat) : Stmt := PySem.Challenge.pw_newsbehind_k52_stopped_runs.main.body.getD i (.Pass ⟨0, 0, 0, 0⟩)
def kws : List (Str × List Str × List Nat) := [("is_stopped_run", ["value", "e", "d", "net"], [3, 2, 1, 0]), ("stopped_shown", ["run", "d", "net"], [2, 1, 0])]
def fs : List Str := "is_integer" :: "is_number" :: "is_index" :: "is_rising" :: "is_worth" :: "is_head" :: "parts_of" :: "branches" :: "made" :: "told_by" :: "told" :: "is_state" :: "wanted" :: "is_past" :: "is_house_lateness" :: "is_lateness" :: "shows_next" :: "is_beat" :: "moves_of" :: "is_moving" :: "is_newer" :: "is_stopped_run" :: "stopped_shown" :: "_law_draw" :: "_law_any" :: "_law_of" :: "_law_rule" :: "_law_net" :: "_law_parts" :: "_law_branches" :: "_law_made" :: "_law_told" :: "_law_wants" :: "_law_past" :: "_law_hears" :: "_law_stopped" :: "_law_spoilt" :: []
def bl : List Str := ["abs", "all", "any", "bool", "enumerate", "int", "isinstance", "len", "list", "max", "min", "range", "repr", "sorted", "str", "sum", "tuple", "zip"]
def cs : List (Str × PyData) := [("MOST", .int 1001), ("MOST_ROW", .int 64)]
def cp (N : List Str) (i : Nat) : Cp := ⟨N, defScope (top i), fun _ => true, cs, bl, fs, kws⟩
def N_is_integer : List Str := ["value"]
abbrev i_is_integer : Nat := 1
def b_is_integer : List C := [.ret (.and (.isi (.varT 0) [.int]) (.not (.isi (.varT 0) [.bool])))]
theorem c_is_integer : cDef (cp N_is_integer i_is_integer) (defBody (top i_is_integer)) = some b_is_integer := by kernel_rfl
def N_is_number : List Str := ["value"]
abbrev i_is_number : Nat := 2
def b_is_number : List C := [.ret (.and (.call "is_integer" [.var 0]) (.cmp .ge (.varT 0) (.cst (.int 0))))]
theorem c_is_number : cDef (cp N_is_number i_is_number) (defBody (top i_is_number)) = some b_is_number := by kernel_rfl
def N_is_index : List Str := ["value", "many"]
abbrev i_is_index : Nat := 3
def b_is_index : List C := [.ret (.and (.call "is_number" [.var 0]) (.cmp .lt (.varT 0) (.varT 1)))]
theorem c_is_index : cDef (cp N_is_index i_is_index) (defBody (top i_is_index)) = some b_is_index := by kernel_rfl
def N_is_rising : List Str := ["value", "many", "at", "one"]
abbrev i_is_rising : Nat := 4
def b_is_rising : List C := [.ifs (.or (.not (.isi (.varT 0) [.tuple])) (.not (.bi .all [.lc (.call "is_index" [.var 3, .var 1]) (.nm 3) (.varT 0)]))) [.ret (.cst (.bool false))] [], .ret (.bi .all [.lc (.cmp .lt (.idx (.varT 0) (.varT 2)) (.idx (.varT 0) (.bin .add (.varT 2) (.cst (.int 1))))) (.nm 2) (.rng1 (.bin .sub (.bi .len [.varT 0]) (.cst (.int 1))))])]
theorem c_is_rising : cDef (cp N_is_rising i_is_rising) (defBody (top i_is_rising)) = some b_is_rising := by kernel_rfl
def N_is_worth : List Str := ["value"]
abbrev i_is_worth : Nat := 8
def b_is_worth : List C := [.ret (.call "is_index" [.var 0, .cst (.int 1001)])]
theorem c_is_worth : cDef (cp N_is_worth i_is_worth) (defBody (top i_is_worth)) = some b_is_worth := by kernel_rfl
def N_is_head : List Str := ["value", "one"]
abbrev i_is_head : Nat := 9
def b_is_head : List C := [.ifs (.cmp .eq (.idx (.varT 0) (.cst (.int 0))) (.cst (.str "times"))) [.ret (.and (.cmp .eq (.bi .len [.varT 0]) (.cst (.int 3))) (.call "is_worth" [.idx (.varT 0) (.cst (.int 1))]))] [], .ifs (.cmp .eq (.idx (.varT 0) (.cst (.int 0))) (.cst (.str "part"))) [.ret (.and (.cmp .eq (.bi .len [.varT 0]) (.cst (.int 3))) (.and (.call "is_worth" [.idx (.varT 0) (.cst (.int 1))]) (.cmp .gt (.idx (.varT 0) (.cst (.int 1))) (.cst (.int 0)))))] [], .ifs (.cmp .eq (.idx (.varT 0) (.cst (.int 0))) (.cst (.str "clip"))) [.ret (.and (.cmp .eq (.bi .len [.varT 0]) (.cst (.int 4))) (.and (.call "is_worth" [.idx (.varT 0) (.cst (.int 1))]) (.and (.call "is_worth" [.idx (.varT 0) (.cst (.int 2))]) (.cmp .le (.idx (.varT 0) (.cst (.int 1))) (.idx (.varT 0) (.cst (.int 2)))))))] [], .ifs (.cmp .eq (.idx (.varT 0) (.cst (.int 0))) (.cst (.str "from"))) [.ret (.and (.cmp .eq (.bi .len [.varT 0]) (.cst (.int 3))) (.call "is_worth" [.idx (.varT 0) (.cst (.int 1))]))] [], .ifs (.cmp .eq (.idx (.varT 0) (.cst (.int 0))) (.cst (.str "bar"))) [.ret (.and (.cmp .eq (.bi .len [.varT 0]) (.cst (.int 5))) (.and (.call "is_worth" [.idx (.varT 0) (.cst (.int 1))]) (.and (.call "is_worth" [.idx (.varT 0) (.cst (.int 2))]) (.call "is_worth" [.idx (.varT 0) (.cst (.int 3))]))))] [], .ifs (.or (.cmp .ne (.idx (.varT 0) (.cst (.int 0))) (.cst (.str "row"))) (.or (.cmp .ne (.bi .len [.varT 0]) (.cst (.int 3))) (.not (.isi (.idx (.varT 0) (.cst (.int 1))) [.tuple])))) [.ret (.cst (.bool false))] [], .ret (.and (.chain .le .le (.cst (.int 1)) (.bi .len [.idx (.varT 0) (.cst (.int 1))]) (.cst (.int 64))) (.bi .all [.lc (.call "is_worth" [.var 1]) (.nm 1) (.idx (.varT 0) (.cst (.int 1)))]))]
theorem c_is_head : cDef (cp N_is_head i_is_head) (defBody (top i_is_head)) = some b_is_head := by kernel_rfl
def N_parts_of : List Str := ["value"]
abbrev i_parts_of : Nat := 10
def b_parts_of : List C := [.ifs (.or (.not (.isi (.varT 0) [.tuple])) (.or (.cmp .lt (.bi .len [.varT 0]) (.cst (.int 2))) (.not (.isi (.idx (.varT 0) (.cst (.int 0))) [.str])))) [.ret (.cst .none)] [], .ifs (.cmp .eq (.idx (.varT 0) (.cst (.int 0))) (.cst (.str "is"))) [.ret (.ite (.and (.cmp .eq (.bi .len [.varT 0]) (.cst (.int 2))) (.call "is_worth" [.idx (.varT 0) (.cst (.int 1))])) (.tup []) (.cst .none))] [], .ifs (.cmp .eq (.idx (.varT 0) (.cst (.int 0))) (.cst (.str "hear"))) [.ret (.ite (.and (.cmp .eq (.bi .len [.varT 0]) (.cst (.int 2))) (.call "is_worth" [.idx (.varT 0) (.cst (.int 1))])) (.tup []) (.cst .none))] [], .ifs (.cmp .mem (.idx (.varT 0) (.cst (.int 0))) (.tup [.cst (.str "least"), .cst (.str "most"), .cst (.str "add")])) [.ret (.ite (.and (.cmp .eq (.bi .len [.varT 0]) (.cst (.int 2))) (.and (.isi (.idx (.varT 0) (.cst (.int 1))) [.tuple]) (.cmp .gt (.bi .len [.idx (.varT 0) (.cst (.int 1))]) (.cst (.int 0))))) (.idx (.varT 0) (.cst (.int 1))) (.cst .none))] [], .ifs (.cmp .eq (.idx (.varT 0) (.cst (.int 0))) (.cst (.str "middle"))) [.ret (.ite (.cmp .eq (.bi .len [.varT 0]) (.cst (.int 4))) (.sl (.varT 0) (.cst (.int 1)) (.no)) (.cst .none))] [], .ret (.ite (.call "is_head" [.var 0]) (.sl (.varT 0) (.neg (.cst (.int 1))) (.no)) (.cst .none))]
theorem c_parts_of : cDef (cp N_parts_of i_parts_of) (defBody (top i_parts_of)) = some b_parts_of := by kernel_rfl
def N_branches : List Str := ["rule", "found", "part"]
abbrev i_branches : Nat := 11
def b_branches : List C := [.ifs (.cmp .eq (.idx (.varT 0) (.cst (.int 0))) (.cst (.str "hear"))) [.ret (.tup [.idx (.varT 0) (.cst (.int 1))])] [], .setF 1 (.lst []), .for (.nm 2) (.call "parts_of" [.var 0]) [.ext 1 (.call "branches" [.var 2])], .ret (.bi .tup [.varT 1])]
theorem c_branches : cDef (cp N_branches i_branches) (defBody (top i_branches)) = some b_branches := by kernel_rfl
def N_made : List Str := ["rule", "values"]
abbrev i_made : Nat := 12
def b_made : List C := [.ifs (.cmp .eq (.idx (.varT 0) (.cst (.int 0))) (.cst (.str "least"))) [.ret (.bi .min [.varT 1])] [], .ifs (.cmp .eq (.idx (.varT 0) (.cst (.int 0))) (.cst (.str "most"))) [.ret (.bi .max [.varT 1])] [], .ifs (.cmp .eq (.idx (.varT 0) (.cst (.int 0))) (.cst (.str "middle"))) [.ret (.idx (.bi .sorted [.varT 1]) (.cst (.int 1)))] [], .ifs (.cmp .eq (.idx (.varT 0) (.cst (.int 0))) (.cst (.str "add"))) [.ret (.bi .sum [.varT 1])] [], .ifs (.cmp .eq (.idx (.varT 0) (.cst (.int 0))) (.cst (.str "times"))) [.ret (.bin .mul (.idx (.varT 0) (.cst (.int 1))) (.idx (.varT 1) (.cst (.int 0))))] [], .ifs (.cmp .eq (.idx (.varT 0) (.cst (.int 0))) (.cst (.str "part"))) [.ret (.bin .fdiv (.idx (.varT 1) (.cst (.int 0))) (.idx (.varT 0) (.cst (.int 1))))] [], .ifs (.cmp .eq (.idx (.varT 0) (.cst (.int 0))) (.cst (.str "clip"))) [.ret (.bi .min2 [.bi .max2 [.idx (.varT 1) (.cst (.int 0)), .idx (.varT 0) (.cst (.int 1))], .idx (.varT 0) (.cst (.int 2))])] [], .ifs (.cmp .eq (.idx (.varT 0) (.cst (.int 0))) (.cst (.str "from"))) [.ret (.bi .max2 [.cst (.int 0), .bin .sub (.idx (.varT 0) (.cst (.int 1))) (.idx (.varT 1) (.cst (.int 0)))])] [], .ifs (.cmp .eq (.idx (.varT 0) (.cst (.int 0))) (.cst (.str "bar"))) [.ret (.ite (.cmp .ge (.idx (.varT 1) (.cst (.int 0))) (.idx (.varT 0) (.cst (.int 1)))) (.idx (.varT 0) (.cst (.int 3))) (.idx (.varT 0) (.cst (.int 2))))] [], .ret (.idx (.idx (.varT 0) (.cst (.int 1))) (.bi .min2 [.idx (.varT 1) (.cst (.int 0)), .bin .sub (.bi .len [.idx (.varT 0) (.cst (.int 1))]) (.cst (.int 1))]))]
theorem c_made : cDef (cp N_made i_made) (defBody (top i_made)) = some b_made := by kernel_rfl
def N_told_by : List Str := ["rule", "heard", "at", "values", "part", "value"]
abbrev i_told_by : Nat := 13
def b_told_by : List C := [.ifs (.cmp .eq (.idx (.varT 0) (.cst (.int 0))) (.cst (.str "is"))) [.ret (.tup [.idx (.varT 0) (.cst (.int 1)), .var 2])] [], .ifs (.cmp .eq (.idx (.varT 0) (.cst (.int 0))) (.cst (.str "hear"))) [.ret (.tup [.idx (.varT 1) (.varT 2), .bin .add (.varT 2) (.cst (.int 1))])] [], .setF 3 (.lst []), .for (.nm 4) (.call "parts_of" [.var 0]) [.tgt [5, 2] (.call "told_by" [.var 4, .var 1, .var 2]), .app 3 (.var 5)], .frz 3, .ret (.tup [.call "made" [.var 0, .var 3], .var 2])]
theorem c_told_by : cDef (cp N_told_by i_told_by) (defBody (top i_told_by)) = some b_told_by := by kernel_rfl
def N_told : List Str := ["rule", "heard"]
abbrev i_told : Nat := 14
def b_told : List C := [.ret (.idx (.call "told_by" [.var 0, .var 1, .cst (.int 0)]) (.cst (.int 0)))]
theorem c_told : cDef (cp N_told i_told) (defBody (top i_told)) = some b_told := by kernel_rfl
def N_is_state : List Str := ["net", "value", "one", "top"]
abbrev i_is_state : Nat := 16
def b_is_state : List C := [.ifs (.or (.not (.isi (.varT 1) [.tuple])) (.cmp .ne (.bi .len [.varT 1]) (.bi .len [.idx (.varT 0) (.cst (.int 0))]))) [.ret (.cst (.bool false))] [], .ret (.bi .all [.lc (.call "is_index" [.var 2, .bin .add (.varT 3) (.cst (.int 1))]) (.tp [2, 3]) (.zip (.varT 1) (.idx (.varT 0) (.cst (.int 0))))])]
theorem c_is_state : cDef (cp N_is_state i_is_state) (defBody (top i_is_state)) = some b_is_state := by kernel_rfl
def N_wanted : List Str := ["net", "house", "heard"]
abbrev i_wanted : Nat := 17
def b_wanted : List C := [.ret (.bi .min2 [.idx (.idx (.varT 0) (.cst (.int 0))) (.varT 1), .call "told" [.idx (.idx (.varT 0) (.cst (.int 1))) (.varT 1), .var 2]])]
theorem c_wanted : cDef (cp N_wanted i_wanted) (defBody (top i_wanted)) = some b_wanted := by kernel_rfl
def N_is_past : List Str := ["net", "d", "value", "one"]
abbrev i_is_past : Nat := 19
def b_is_past : List C := [.ret (.and (.isi (.varT 2) [.tuple]) (.and (.cmp .eq (.bi .len [.varT 2]) (.varT 1)) (.bi .all [.lc (.call "is_state" [.var 0, .var 3]) (.nm 3) (.varT 2)])))]
theorem c_is_past : cDef (cp N_is_past i_is_past) (defBody (top i_is_past)) = some b_is_past := by kernel_rfl
def N_is_house_lateness : List Str := ["rule", "d", "value", "one"]
abbrev i_is_house_lateness : Nat := 20
def b_is_house_lateness : List C := [.ifs (.or (.not (.isi (.varT 2) [.tuple])) (.cmp .ne (.bi .len [.varT 2]) (.bi .len [.call "branches" [.var 0]]))) [.ret (.cst (.bool false))] [], .ret (.bi .all [.lc (.and (.call "is_index" [.var 3, .bin .add (.varT 1) (.cst (.int 1))]) (.cmp .gt (.varT 3) (.cst (.int 0)))) (.nm 3) (.varT 2)])]
theorem c_is_house_lateness : cDef (cp N_is_house_lateness i_is_house_lateness) (defBody (top i_is_house_lateness)) = some b_is_house_lateness := by kernel_rfl
def N_is_lateness : List Str := ["net", "d", "value", "rule", "one"]
abbrev i_is_lateness : Nat := 21
def b_is_lateness : List C := [.ifs (.or (.not (.isi (.varT 2) [.tuple])) (.cmp .ne (.bi .len [.varT 2]) (.bi .len [.idx (.varT 0) (.cst (.int 1))]))) [.ret (.cst (.bool false))] [], .ret (.bi .all [.lc (.call "is_house_lateness" [.var 3, .var 1, .var 4]) (.tp [3, 4]) (.zip (.idx (.varT 0) (.cst (.int 1))) (.varT 2))])]
theorem c_is_lateness : cDef (cp N_is_lateness i_is_lateness) (defBody (top i_is_lateness)) = some b_is_lateness := by kernel_rfl
def N_shows_next : List Str := ["net", "past", "lateness", "found", "house", "late", "heard", "one", "old"]
abbrev i_shows_next : Nat := 23
def b_shows_next : List C := [.setF 3 (.lst []), .for (.tp [4, 5]) (.enum (.var 2)) [.set 6 (.lc (.idx (.idx (.varT 1) (.bin .sub (.bi .len [.varT 1]) (.varT 8))) (.varT 7)) (.tp [7, 8]) (.zip (.call "branches" [.idx (.idx (.varT 0) (.cst (.int 1))) (.varT 4)]) (.varT 5))), .app 3 (.call "wanted" [.var 0, .var 4, .bi .tup [.varT 6]])], .ret (.bi .tup [.varT 3])]
theorem c_shows_next : cDef (cp N_shows_next i_shows_next) (defBody (top i_shows_next)) = some b_shows_next := by kernel_rfl
def N_is_beat : List Str := ["net", "d", "value"]
abbrev i_is_beat : Nat := 25
def b_is_beat : List C := [.ifs (.or (.not (.isi (.varT 2) [.tuple])) (.or (.cmp .ne (.bi .len [.varT 2]) (.cst (.int 2))) (.not (.call "is_rising" [.idx (.varT 2) (.cst (.int 0)), .bi .len [.idx (.varT 0) (.cst (.int 0))]])))) [.ret (.cst (.bool false))] [], .ret (.call "is_lateness" [.var 0, .var 1, .idx (.varT 2) (.cst (.int 1))])]
theorem c_is_beat : cDef (cp N_is_beat i_is_beat) (defBody (top i_is_beat)) = some b_is_beat := by kernel_rfl
def N_moves_of : List Str := ["beats", "house", "at", "beat"]
abbrev i_moves_of : Nat := 26
def b_moves_of : List C := [.ret (.lcIf (.var 2) (.tp [2, 3]) (.enum (.varT 0)) (.cmp .mem (.varT 1) (.idx (.varT 3) (.cst (.int 0)))))]
theorem c_moves_of : cDef (cp N_moves_of i_moves_of) (defBody (top i_moves_of)) = some b_moves_of := by kernel_rfl
def N_is_moving : List Str := ["beats", "e", "moves", "at", "move"]
abbrev i_is_moving : Nat := 27
def b_is_moving : List C := [.ret (.bi .all [.lc (.bi .any [.lc (.chain .le .lt (.varT 3) (.varT 4) (.bin .add (.varT 3) (.varT 1))) (.nm 4) (.varT 2)]) (.nm 3) (.rng1 (.bin .add (.bin .sub (.bi .len [.varT 0]) (.varT 1)) (.cst (.int 1))))])]
theorem c_is_moving : cDef (cp N_is_moving i_is_moving) (defBody (top i_is_moving)) = some b_is_moving := by kernel_rfl
def N_is_newer : List Str := ["beats", "house", "moves", "at", "gap", "one", "other", "before", "later"]
abbrev i_is_newer : Nat := 28
def b_is_newer : List C := [.for (.nm 3) (.rng1 (.bin .sub (.bi .len [.varT 2]) (.cst (.int 1)))) [.parF [(5, false), (6, false)] [.idx (.idx (.idx (.varT 0) (.idx (.varT 2) (.varT 3))) (.cst (.int 1))) (.varT 1), .idx (.idx (.idx (.varT 0) (.idx (.varT 2) (.bin .add (.varT 3) (.cst (.int 1))))) (.cst (.int 1))) (.varT 1)], .set 4 (.bin .sub (.idx (.varT 2) (.bin .add (.varT 3) (.cst (.int 1)))) (.idx (.varT 2) (.varT 3))), .ifs (.not (.bi .all [.lc (.cmp .le (.varT 8) (.bin .add (.varT 7) (.varT 4))) (.tp [7, 8]) (.zip (.varT 5) (.varT 6))])) [.ret (.cst (.bool false))] []], .ret (.cst (.bool true))]
theorem c_is_newer : cDef (cp N_is_newer i_is_newer) (defBody (top i_is_newer)) = some b_is_newer := by kernel_rfl
def N_is_stopped_run : List Str := ["net", "d", "e", "value", "beats", "house", "moves", "beat"]
abbrev i_is_stopped_run : Nat := 29
def b_is_stopped_run : List C := [.ifs (.or (.not (.isi (.varT 3) [.tuple])) (.or (.cmp .ne (.bi .len [.varT 3]) (.cst (.int 2))) (.not (.call "is_past" [.var 0, .var 1, .idx (.varT 3) (.cst (.int 0))])))) [.ret (.cst (.bool false))] [], .ifs (.not (.isi (.idx (.varT 3) (.cst (.int 1))) [.tuple])) [.ret (.cst (.bool false))] [], .set 4 (.idx (.varT 3) (.cst (.int 1))), .ifs (.not (.bi .all [.lc (.call "is_beat" [.var 0, .var 1, .var 7]) (.nm 7) (.varT 4)])) [.ret (.cst (.bool false))] [], .for (.nm 5) (.rng1 (.bi .len [.idx (.varT 0) (.cst (.int 0))])) [.set 6 (.call "moves_of" [.var 4, .var 5]), .ifs (.or (.not (.call "is_moving" [.var 4, .var 2, .var 6])) (.not (.call "is_newer" [.var 4, .var 5, .var 6]))) [.ret (.cst (.bool false))] []], .ret (.cst (.bool true))]
theorem c_is_stopped_run : cDef (cp N_is_stopped_run i_is_stopped_run) (defBody (top i_is_stopped_run)) = some b_is_stopped_run := by kernel_rfl
def N_stopped_shown : List Str := ["net", "d", "run", "past", "found", "movers", "lateness", "wants", "state", "house"]
abbrev i_stopped_shown : Nat := 30
def b_stopped_shown : List C := [.parF [(3, false), (4, true)] [.idx (.varT 2) (.cst (.int 0)), .lst []], .for (.tp [5, 6]) (.idx (.varT 2) (.cst (.int 1))) [.set 7 (.call "shows_next" [.var 0, .var 3, .var 6]), .set 8 (.bi .tup [.lc (.ite (.cmp .mem (.varT 9) (.varT 5)) (.idx (.varT 7) (.varT 9)) (.idx (.idx (.varT 3) (.neg (.cst (.int 1)))) (.varT 9))) (.nm 9) (.rng1 (.bi .len [.idx (.varT 0) (.cst (.int 0))]))]), .app 4 (.var 8), .set 3 (.tup [.star (.sl (.varT 3) (.cst (.int 1)) (.no)), .var 8])], .ret (.bi .tup [.varT 4])]
theorem c_stopped_shown : cDef (cp N_stopped_shown i_stopped_shown) (defBody (top i_stopped_shown)) = some b_stopped_shown := by kernel_rfl
def N__law_draw : List Str := ["_law_script", "_law_salt", "_law_cells", "_law_blend", "_law_cell"]
abbrev i__law_draw : Nat := 32
def b__law_draw : List C := [.set 2 (.lc (.bi .abs [.bi .int [.varT 4]]) (.nm 4) (.scr 0 48)), .set 3 (.bin .add (.cst (.int 7919)) (.bin .mul (.cst (.int 104729)) (.varT 1))), .for (.nm 4) (.var 2) [.set 3 (.bin .mod (.bi .int [.bin .add (.bin .add (.bin .mul (.varT 3) (.cst (.int 48271))) (.bin .mod (.varT 4) (.cst (.int 2147483549)))) (.cst (.int 11))]) (.cst (.int 2147483647)))], .ret (.lst [.rev (.lcIf (.var 4) (.nm 4) (.varT 2) (.cmp .ge (.varT 4) (.bin .pow (.cst (.int 10)) (.cst (.int 18))))), .var 3])]
theorem c__law_draw : cDef (cp N__law_draw i__law_draw) (defBody (top i__law_draw)) = some b__law_draw := by kernel_rfl
def N__law_any : List Str := ["_law_deal", "_law_bound", "_law_rest"]
abbrev i__law_any : Nat := 33
def N__law_of : List Str := ["_law_deal", "_law_some"]
abbrev i__law_of : Nat := 34
def b__law_of : List C := [.ret (.idx (.varT 1) (.call "_law_any" [.hnd 0, .bi .len [.varT 1]]))]
theorem c__law_of : cDef (cp N__law_of i__law_of) (defBody (top i__law_of)) = some b__law_of := by kernel_rfl
def N__law_rule : List Str := ["_law_deal", "_law_n", "_law_top", "_law_deep", "_law_any_row", "_law_form", "_law_inner", "_law_parts_here", "_law_low", "_law_row", "_law_turn"]
abbrev i__law_rule : Nat := 36
def b__law_rule : List C := [.set 5 (.ite (.cmp .gt (.varT 3) (.cst (.int 0))) (.call "_law_any" [.hnd 0, .cst (.int 14)]) (.call "_law_any" [.hnd 0, .cst (.int 4)])), .ifs (.cmp .eq (.varT 5) (.cst (.int 0))) [.ret (.tup [.cst (.str "is"), .call "_law_any" [.hnd 0, .bin .add (.varT 2) (.cst (.int 1))]])] [], .ifs (.cmp .lt (.varT 5) (.cst (.int 4))) [.ret (.tup [.cst (.str "hear"), .call "_law_any" [.hnd 0, .var 1]])] [], .ifs (.cmp .lt (.varT 5) (.cst (.int 8))) [.set 7 (.bi .tup [.lc (.call "_law_rule" [.hnd 0, .var 1, .var 2, .bin .sub (.varT 3) (.cst (.int 1)), .var 4]) (.nm 10) (.rng1 (.bin .add (.cst (.int 1)) (.call "_law_any" [.hnd 0, .cst (.int 2)])))]), .ret (.tup [.call "_law_of" [.hnd 0, .lst [.cst (.str "least"), .cst (.str "most"), .cst (.str "add")]], .var 7])] [], .ifs (.and (.cmp .eq (.varT 5) (.cst (.int 8))) (.cmp .eq (.varT 3) (.cst (.int 1)))) [.ret (.bin .add (.tup [.cst (.str "middle")]) (.bi .tup [.lc (.call "_law_rule" [.hnd 0, .var 1, .var 2, .cst (.int 0), .var 4]) (.nm 10) (.rng1 (.cst (.int 3)))]))] [], .set 6 (.call "_law_rule" [.hnd 0, .var 1, .var 2, .bin .sub (.varT 3) (.cst (.int 1)), .var 4]), .ifs (.cmp .eq (.varT 5) (.cst (.int 9))) [.ret (.tup [.cst (.str "times"), .call "_law_any" [.hnd 0, .cst (.int 3)], .var 6])] [], .ifs (.cmp .eq (.varT 5) (.cst (.int 10))) [.ret (.tup [.cst (.str "part"), .bin .add (.cst (.int 1)) (.call "_law_any" [.hnd 0, .cst (.int 3)]), .var 6])] [], .ifs (.cmp .eq (.varT 5) (.cst (.int 11))) [.set 8 (.call "_law_any" [.hnd 0, .bin .add (.varT 2) (.cst (.int 1))]), .ret (.tup [.cst (.str "clip"), .var 8, .bin .add (.varT 8) (.call "_law_any" [.hnd 0, .cst (.int 3)]), .var 6])] [], .ifs (.cmp .eq (.varT 5) (.cst (.int 12))) [.ret (.tup [.cst (.str "bar"), .call "_law_any" [.hnd 0, .bin .add (.varT 2) (.cst (.int 2))], .call "_law_any" [.hnd 0, .bin .add (.varT 2) (.cst (.int 1))], .call "_law_any" [.hnd 0, .bin .add (.varT 2) (.cst (.int 1))], .var 6])] [], .ifs (.cmp .eq (.varT 5) (.cst (.int 13))) [.set 9 (.lc (.call "_law_any" [.hnd 0, .bin .add (.varT 2) (.cst (.int 1))]) (.nm 10) (.rng1 (.bin .add (.cst (.int 1)) (.call "_law_any" [.hnd 0, .bin .add (.varT 2) (.cst (.int 1))])))), .ret (.tup [.cst (.str "row"), .bi .tup [.ite (.varT 4) (.var 9) (.bi .sorted [.varT 9])], .var 6])] [], .ret (.tup [.cst (.str "from"), .call "_law_any" [.hnd 0, .bin .add (.varT 2) (.cst (.int 2))], .var 6])]
theorem c__law_rule : cDef (cp N__law_rule i__law_rule) (defBody (top i__law_rule)) = some b__law_rule := by kernel_rfl
def N__law_net : List Str := ["_law_deal", "_law_most", "_law_top", "_law_any_row", "_law_n", "_law_tops", "_law_house"]
abbrev i__law_net : Nat := 37
def b__law_net : List C := [.set 4 (.bin .add (.cst (.int 1)) (.call "_law_any" [.hnd 0, .var 1])), .set 5 (.bi .tup [.lc (.bin .add (.cst (.int 1)) (.call "_law_any" [.hnd 0, .var 2])) (.nm 6) (.rng1 (.varT 4))]), .ret (.tup [.var 5, .bi .tup [.lc (.call "_law_rule" [.hnd 0, .var 4, .var 2, .call "_law_any" [.hnd 0, .cst (.int 4)], .var 3]) (.nm 6) (.rng1 (.varT 4))]])]
theorem c__law_net : cDef (cp N__law_net i__law_net) (defBody (top i__law_net)) = some b__law_net := by kernel_rfl
def N__law_parts : List Str := ["_law_rule_here"]
abbrev i__law_parts : Nat := 38
def b__law_parts : List C := [.ifs (.cmp .mem (.idx (.varT 0) (.cst (.int 0))) (.lst [.cst (.str "is"), .cst (.str "hear")])) [.ret (.lst [])] [], .ifs (.cmp .mem (.idx (.varT 0) (.cst (.int 0))) (.lst [.cst (.str "least"), .cst (.str "most"), .cst (.str "add")])) [.ret (.bi .lst [.idx (.varT 0) (.cst (.int 1))])] [], .ret (.ite (.cmp .eq (.idx (.varT 0) (.cst (.int 0))) (.cst (.str "middle"))) (.bi .lst [.sl (.varT 0) (.cst (.int 1)) (.no)]) (.lst [.idx (.varT 0) (.neg (.cst (.int 1)))]))]
theorem c__law_parts : cDef (cp N__law_parts i__law_parts) (defBody (top i__law_parts)) = some b__law_parts := by kernel_rfl
def N__law_branches : List Str := ["_law_rule_here", "_law_found", "_law_part"]
abbrev i__law_branches : Nat := 39
def b__law_branches : List C := [.set 1 (.ite (.cmp .eq (.idx (.varT 0) (.cst (.int 0))) (.cst (.str "hear"))) (.lst [.idx (.varT 0) (.cst (.int 1))]) (.lst [])), .for (.nm 2) (.call "_law_parts" [.var 0]) [.set 1 (.bin .add (.varT 1) (.call "_law_branches" [.var 2]))], .ret (.var 1)]
theorem c__law_branches : cDef (cp N__law_branches i__law_branches) (defBody (top i__law_branches)) = some b__law_branches := by kernel_rfl
def N__law_made : List Str := ["_law_rule_here", "_law_some", "_law_word", "_law_a"]
abbrev i__law_made : Nat := 40
def b__law_made : List C := [.parF [(2, false), (3, false)] [.idx (.varT 0) (.cst (.int 0)), .idx (.varT 1) (.cst (.int 0))], .ifs (.cmp .mem (.varT 2) (.lst [.cst (.str "least"), .cst (.str "most"), .cst (.str "add"), .cst (.str "middle")])) [.ret (.ite (.cmp .eq (.varT 2) (.cst (.str "least"))) (.bi .min [.varT 1]) (.ite (.cmp .eq (.varT 2) (.cst (.str "most"))) (.bi .max [.varT 1]) (.ite (.cmp .eq (.varT 2) (.cst (.str "add"))) (.bi .sum [.varT 1]) (.idx (.bi .sorted [.varT 1]) (.cst (.int 1))))))] [], .ifs (.cmp .mem (.varT 2) (.lst [.cst (.str "times"), .cst (.str "part")])) [.ret (.ite (.cmp .eq (.varT 2) (.cst (.str "times"))) (.bin .mul (.idx (.varT 0) (.cst (.int 1))) (.varT 3)) (.bin .fdiv (.varT 3) (.idx (.varT 0) (.cst (.int 1)))))] [], .ifs (.cmp .eq (.varT 2) (.cst (.str "clip"))) [.ret (.ite (.cmp .lt (.varT 3) (.idx (.varT 0) (.cst (.int 1)))) (.idx (.varT 0) (.cst (.int 1))) (.ite (.cmp .gt (.varT 3) (.idx (.varT 0) (.cst (.int 2)))) (.idx (.varT 0) (.cst (.int 2))) (.var 3)))] [], .ifs (.cmp .eq (.varT 2) (.cst (.str "from"))) [.ret (.ite (.cmp .lt (.varT 3) (.idx (.varT 0) (.cst (.int 1)))) (.bin .sub (.idx (.varT 0) (.cst (.int 1))) (.varT 3)) (.cst (.int 0)))] [], .ifs (.cmp .eq (.varT 2) (.cst (.str "bar"))) [.ret (.ite (.cmp .ge (.varT 3) (.idx (.varT 0) (.cst (.int 1)))) (.idx (.varT 0) (.cst (.int 3))) (.idx (.varT 0) (.cst (.int 2))))] [], .ret (.ite (.cmp .lt (.varT 3) (.bi .len [.idx (.varT 0) (.cst (.int 1))])) (.idx (.idx (.varT 0) (.cst (.int 1))) (.varT 3)) (.idx (.idx (.varT 0) (.cst (.int 1))) (.neg (.cst (.int 1)))))]
theorem c__law_made : cDef (cp N__law_made i__law_made) (defBody (top i__law_made)) = some b__law_made := by kernel_rfl
def N__law_told : List Str := ["_law_rule_here", "_law_heard", "_law_part", "_law_some", "_law_at", "_law_many"]
abbrev i__law_told : Nat := 41
def b__law_told : List C := [.ifs (.cmp .mem (.idx (.varT 0) (.cst (.int 0))) (.lst [.cst (.str "is"), .cst (.str "hear")])) [.ret (.ite (.cmp .eq (.idx (.varT 0) (.cst (.int 0))) (.cst (.str "is"))) (.idx (.varT 0) (.cst (.int 1))) (.idx (.varT 1) (.cst (.int 0))))] [], .parF [(3, true), (4, false)] [.lst [], .cst (.int 0)], .for (.nm 2) (.call "_law_parts" [.var 0]) [.set 5 (.bi .len [.call "_law_branches" [.var 2]]), .app 3 (.call "_law_told" [.var 2, .sl (.varT 1) (.varT 4) (.bin .add (.varT 4) (.varT 5))]), .set 4 (.bin .add (.varT 4) (.varT 5))], .frz 3, .ret (.call "_law_made" [.var 0, .var 3])]
theorem c__law_told : cDef (cp N__law_told i__law_told) (defBody (top i__law_told)) = some b__law_told := by kernel_rfl
def N__law_wants : List Str := ["_law_net_here", "_law_house", "_law_heard"]
abbrev i__law_wants : Nat := 42
def b__law_wants : List C := [.ret (.bi .min2 [.idx (.idx (.varT 0) (.cst (.int 0))) (.varT 1), .call "_law_told" [.idx (.idx (.varT 0) (.cst (.int 1))) (.varT 1), .bi .lst [.varT 2]]])]
theorem c__law_wants : cDef (cp N__law_wants i__law_wants) (defBody (top i__law_wants)) = some b__law_wants := by kernel_rfl
def N__law_past : List Str := ["_law_deal", "_law_net_here", "_law_d", "_law_beat", "_law_top"]
abbrev i__law_past : Nat := 43
def b__law_past : List C := [.ret (.bi .tup [.lc (.bi .tup [.lc (.call "_law_any" [.hnd 0, .bin .add (.varT 4) (.cst (.int 1))]) (.nm 4) (.idx (.varT 1) (.cst (.int 0)))]) (.nm 3) (.rng1 (.varT 2))])]
theorem c__law_past : cDef (cp N__law_past i__law_past) (defBody (top i__law_past)) = some b__law_past := by kernel_rfl
def N__law_hears : List Str := ["_law_net_here", "_law_states", "_law_house", "_law_row", "_law_heard", "_law_one", "_law_number"]
abbrev i__law_hears : Nat := 44
def b__law_hears : List C := [.setF 4 (.lst []), .for (.tp [5, 6]) (.zip (.call "_law_branches" [.idx (.idx (.varT 0) (.cst (.int 1))) (.varT 2)]) (.var 3)) [.app 4 (.idx (.idx (.varT 1) (.bin .sub (.bi .len [.varT 1]) (.varT 6))) (.varT 5))], .frz 4, .ret (.call "_law_wants" [.var 0, .var 2, .var 4])]
theorem c__law_hears : cDef (cp N__law_hears i__law_hears) (defBody (top i__law_hears)) = some b__law_hears := by kernel_rfl
def N__law_stopped : List Str := ["_law_deal", "_law_net_here", "_law_d", "_law_e", "_law_beats", "_law_n", "_law_states", "_law_beat", "_law_past_here", "_law_since", "_law_last", "_law_rows", "_law_movers", "_law_house", "_law_lateness", "_law_now", "_law_row", "_law_place", "_law_most"]
abbrev i__law_stopped : Nat := 45
def b__law_stopped : List C := [.set 5 (.bi .len [.idx (.varT 1) (.cst (.int 0))]), .parF [(8, false), (9, true), (10, true), (11, true)] [.call "_law_past" [.hnd 0, .var 1, .var 2], .bin .mul (.lst [.cst (.int 0)]) (.varT 5), .bin .mul (.lst [.cst .none]) (.varT 5), .lst []], .setF 6 (.bi .lst [.varT 8]), .for (.nm 7) (.rng1 (.varT 4)) [.set 12 (.bi .tup [.lcIf (.var 13) (.nm 13) (.rng1 (.varT 5)) (.or (.cmp .ge (.idx (.varT 9) (.varT 13)) (.bin .sub (.varT 3) (.cst (.int 1)))) (.cmp .eq (.call "_law_any" [.hnd 0, .cst (.int 2)]) (.cst (.int 0))))]), .parF [(14, true), (15, true)] [.lst [], .bi .lst [.idx (.varT 6) (.neg (.cst (.int 1)))]], .for (.nm 13) (.rng1 (.varT 5)) [.setF 16 (.lst []), .for (.nm 17) (.rng1 (.bi .len [.call "_law_branches" [.idx (.idx (.varT 1) (.cst (.int 1))) (.varT 13)]])) [.set 18 (.ite (.cmp .is (.idx (.varT 10) (.varT 13)) (.cst .none)) (.var 2) (.bi .min2 [.varT 2, .bin .sub (.bin .add (.idx (.idx (.idx (.varT 10) (.varT 13)) (.cst (.int 1))) (.varT 17)) (.varT 7)) (.idx (.idx (.varT 10) (.varT 13)) (.cst (.int 0)))])), .app 16 (.bin .add (.cst (.int 1)) (.call "_law_any" [.hnd 0, .ite (.cmp .mem (.varT 13) (.varT 12)) (.var 18) (.var 2)]))], .app 14 (.bi .tup [.varT 16]), .ifs (.cmp .mem (.varT 13) (.varT 12)) [.setI 15 (.var 13) (.callB "_law_hears" [.varT 1, .varT 6, .varT 13, .varT 16]), .frz 16, .setI 10 (.var 13) (.tup [.var 7, .var 16])] [], .setI 9 (.var 13) (.ite (.cmp .mem (.varT 13) (.varT 12)) (.cst (.int 0)) (.bin .add (.idx (.varT 9) (.varT 13)) (.cst (.int 1))))], .app 6 (.bi .tup [.varT 15]), .app 11 (.tup [.var 12, .bi .tup [.varT 14]])], .ret (.tup [.tup [.var 8, .bi .tup [.varT 11]], .sl (.varT 6) (.varT 2) (.no)])]
theorem c__law_stopped : cDef (cp N__law_stopped i__law_stopped) (defBody (top i__law_stopped)) = some b__law_stopped := by kernel_rfl
def N__law_spoilt : List Str := ["_law_deal", "_law_net_here", "_law_d", "_law_e", "_law_run", "_law_house", "_law_lazy", "_law_odd", "_law_great", "_law_past_here", "_law_beats", "_law_at", "_law_n", "_law_movers", "_law_lateness", "_law_row", "_law_told_here", "_law_number", "_law_one"]
abbrev i__law_spoilt : Nat := 46
def b__law_spoilt : List C := [.tgt [9, 10] (.var 4), .parF [(11, false), (12, false)] [.call "_law_any" [.hnd 0, .bi .len [.varT 10]], .bi .len [.idx (.varT 1) (.cst (.int 0))]], .tgt [13, 14] (.idx (.varT 10) (.varT 11)), .set 5 (.call "_law_any" [.hnd 0, .var 12]), .set 6 (.bin .add (.bi .tup [.lc (.tup [.bi .tup [.lcIf (.var 18) (.nm 18) (.varT 16) (.cmp .ne (.varT 18) (.varT 5))], .var 15]) (.tp [16, 15]) (.sl (.varT 10) (.no) (.varT 3))]) (.sl (.varT 10) (.varT 3) (.no))), .setF 7 (.lst [.tup [.var 9, .bi .lst [.varT 10]], .tup [.var 9], .lst [.var 9, .var 10], .cst .none, .tup [.sl (.varT 9) (.cst (.int 1)) (.no), .var 10], .tup [.var 9, .bin .add (.bin .add (.sl (.varT 10) (.no) (.varT 11)) (.tup [.tup [.bin .add (.rev (.varT 13)) (.tup [.var 12]), .var 14]])) (.sl (.varT 10) (.bin .add (.varT 11) (.cst (.int 1))) (.no))]]), .setF 7 (.bin .add (.varT 7) (.lst [.tup [.var 9, .bin .add (.bin .add (.sl (.varT 10) (.no) (.varT 11)) (.tup [.tup [.var 13, .sl (.varT 14) (.cst (.int 1)) (.no)]])) (.sl (.varT 10) (.bin .add (.varT 11) (.cst (.int 1))) (.no))], .tup [.var 9, .bin .add (.bin .add (.sl (.varT 10) (.no) (.varT 11)) (.tup [.tup [.bi .lst [.varT 13], .var 14]])) (.sl (.varT 10) (.bin .add (.varT 11) (.cst (.int 1))) (.no))], .tup [.var 9, .bin .add (.bin .add (.sl (.varT 10) (.no) (.varT 11)) (.tup [.var 13])) (.sl (.varT 10) (.bin .add (.varT 11) (.cst (.int 1))) (.no))]])), .set 8 (.bi .tup [.lc (.bi .tup [.lc (.bin .add (.varT 2) (.cst (.int 1))) (.nm 17) (.varT 15)]) (.nm 15) (.varT 14)]), .ifs (.cmp .ne (.varT 8) (.varT 14)) [.app 7 (.tup [.var 9, .bin .add (.bin .add (.sl (.varT 10) (.no) (.varT 11)) (.tup [.tup [.var 13, .var 8]])) (.sl (.varT 10) (.bin .add (.varT 11) (.cst (.int 1))) (.no))])] [], .ifs (.cmp .ge (.bi .len [.varT 10]) (.varT 3)) [.app 7 (.tup [.var 9, .var 6])] [], .frz 7, .ret (.call "_law_of" [.hnd 0, .var 7])]
theorem c__law_spoilt : cDef (cp N__law_spoilt i__law_spoilt) (defBody (top i__law_spoilt)) = some b__law_spoilt := by kernel_rfl
def N_law : List Str := ["_law_script", "_law_deal", "_law_turn", "_law_busy", "_law_gaps", "_law_house", "_law_net_here", "_law_d", "_law_e", "_law_run", "_law_states", "_law_moves", "_law_movers", "_law_lateness", "_law_at", "_law_beat"]
abbrev i_law : Nat := 47
def b_law : List C := [.for (.nm 2) (.rng1 (.cst (.int 2))) [.parF [(6, false), (7, false), (8, false)] [.call "_law_net" [.hnd 1, .cst (.int 5), .call "_law_of" [.hnd 1, .lst [.cst (.int 2), .cst (.int 9)]], .cst (.bool true)], .bin .add (.cst (.int 2)) (.call "_law_any" [.hnd 1, .cst (.int 3)]), .bin .add (.cst (.int 1)) (.call "_law_any" [.hnd 1, .cst (.int 4)])], .tgt [9, 10] (.call "_law_stopped" [.hnd 1, .var 6, .var 7, .var 8, .bin .add (.cst (.int 1)) (.call "_law_any" [.hnd 1, .cst (.int 12)])]), .ifs (.or (.cmp .isnot (.callK "is_stopped_run" [.var 9, .var 8, .var 7, .var 6] [3, 2, 1, 0]) (.cst (.bool true))) (.cmp .ne (.bi .repr [.callK "stopped_shown" [.var 9, .var 7, .var 6] [2, 1, 0]]) (.bi .repr [.bi .tup [.varT 10]]))) [.ret (.cst (.bool false))] [], .ifs (.cmp .isnot (.call "is_stopped_run" [.var 6, .var 7, .var 8, .call "_law_spoilt" [.hnd 1, .var 6, .var 7, .var 8, .var 9]]) (.cst (.bool false))) [.ret (.cst (.bool false))] [], .set 3 (.lc (.tup [.var 12, .var 13]) (.tp [12, 13]) (.idx (.varT 9) (.cst (.int 1)))), .setF 4 (.lst []), .for (.nm 5) (.rng1 (.bi .len [.idx (.varT 6) (.cst (.int 0))])) [.set 11 (.lcIf (.var 14) (.tp [14, 15]) (.enum (.varT 3)) (.cmp .mem (.varT 5) (.idx (.varT 15) (.cst (.int 0))))), .setF 4 (.bin .add (.varT 4) (.lc (.bin .sub (.idx (.varT 11) (.bin .add (.varT 14) (.cst (.int 1)))) (.idx (.varT 11) (.varT 14))) (.nm 14) (.rng1 (.bin .sub (.bi .len [.varT 11]) (.cst (.int 1)))))), .app 4 (.ite (.cmp .ne (.varT 11) (.lst [])) (.bin .add (.idx (.varT 11) (.cst (.int 0))) (.cst (.int 1))) (.bin .add (.bi .len [.varT 3]) (.cst (.int 1)))), .app 4 (.ite (.cmp .ne (.varT 11) (.lst [])) (.bin .sub (.bi .len [.varT 3]) (.idx (.varT 11) (.neg (.cst (.int 1))))) (.bin .add (.bi .len [.varT 3]) (.cst (.int 1))))], .ifs (.and (.cmp .gt (.varT 8) (.cst (.int 1))) (.cmp .ne (.bi .repr [.call "is_stopped_run" [.var 6, .var 7, .bin .sub (.varT 8) (.cst (.int 1)), .var 9]]) (.bi .repr [.or (.cmp .le (.bi .max [.varT 4]) (.bin .sub (.varT 8) (.cst (.int 1)))) (.cmp .lt (.bi .len [.varT 3]) (.bin .sub (.varT 8) (.cst (.int 1))))]))) [.ret (.cst (.bool false))] []], .ret (.cst (.bool true))]
theorem c_law : cBlk (cS (recN 30) (cp N_law i_law) (muOf N_law (defBody (top i_law)).tail) 12) (defBody (top i_law)).tail = some b_law := by kernel_rfl
end K52
set_option Elab.async false
set_option linter.all false
set_option maxRecDepth 100000
set_option maxHeartbeats 0
namespace K52
open PySem PySem.Spec PyProof.Rows L2 L2.NB
def P : Prog := ("is_integer", .code 1 1 b_is_integer) :: ("is_number", .code 1 1 b_is_number) :: ("is_index", .code 2 2 b_is_index) :: ("is_rising", .code 2 4 b_is_rising) :: ("is_worth", .code 1 1 b_is_worth) :: ("is_head", .code 1 2 b_is_head) :: ("parts_of", .code 1 1 b_parts_of) :: ("branches", .code 1 3 b_branches) :: ("made", .code 2 2 b_made) :: ("told_by", .code 3 6 b_told_by) :: ("told", .code 2 2 b_told) :: ("is_state", .code 2 4 b_is_state) :: ("wanted", .code 3 3 b_wanted) :: ("is_past", .code 3 4 b_is_past) :: ("is_house_lateness", .code 3 4 b_is_house_lateness) :: ("is_lateness", .code 3 5 b_is_lateness) :: ("shows_next", .code 3 9 b_shows_next) :: ("is_beat", .code 3 3 b_is_beat) :: ("moves_of", .code 2 4 b_moves_of) :: ("is_moving", .code 3 5 b_is_moving) :: ("is_newer", .code 3 9 b_is_newer) :: ("is_stopped_run", .code 4 8 b_is_stopped_run) :: ("stopped_shown", .code 3 10 b_stopped_shown) :: ("_law_draw", .code 2 5 b__law_draw) :: ("_law_any", .prim 2 anyP) :: ("_law_of", .code 2 2 b__law_of) :: ("_law_rule", .code 5 11 b__law_rule) :: ("_law_net", .code 4 7 b__law_net) :: ("_law_parts", .code 1 1 b__law_parts) :: ("_law_branches", .code 1 3 b__law_branches) :: ("_law_made", .code 2 4 b__law_made) :: ("_law_told", .code 2 6 b__law_told) :: ("_law_wants", .code 3 3 b__law_wants) :: ("_law_past", .code 3 5 b__law_past) :: ("_law_hears", .code 4 7 b__law_hears) :: ("_law_stopped", .code 5 19 b__law_stopped) :: ("_law_spoilt", .code 5 19 b__law_spoilt) :: []
theorem s_is_integer : FnScope N_is_integer ["value"] (defScope (top i_is_integer)) := ⟨rfl, rfl, rfl, by decide +kernel, rfl, by decide +kernel, by decide +kernel⟩
def d_is_integer : He.DefD := ⟨("is_integer", none), "is_integer", "is_integer", defArgs (top i_is_integer), defBody (top i_is_integer), defScope (top i_is_integer), [], []⟩
theorem s_is_number : FnScope N_is_number ["value"] (defScope (top i_is_number)) := ⟨rfl, rfl, rfl, by decide +kernel, rfl, by decide +kernel, by decide +kernel⟩
def d_is_number : He.DefD := ⟨("is_number", none), "is_number", "is_number", defArgs (top i_is_number), defBody (top i_is_number), defScope (top i_is_number), [], []⟩
theorem s_is_index : FnScope N_is_index ["value", "many"] (defScope (top i_is_index)) := ⟨rfl, rfl, rfl, by decide +kernel, rfl, by decide +kernel, by decide +kernel⟩
def d_is_index : He.DefD := ⟨("is_index", none), "is_index", "is_index", defArgs (top i_is_index), defBody (top i_is_index), defScope (top i_is_index), [], []⟩
theorem s_is_rising : FnScope N_is_rising ["value", "many"] (defScope (top i_is_rising)) := ⟨rfl, rfl, rfl, by decide +kernel, rfl, by decide +kernel, by decide +kernel⟩
def d_is_rising : He.DefD := ⟨("is_rising", none), "is_rising", "is_rising", defArgs (top i_is_rising), defBody (top i_is_rising), defScope (top i_is_rising), [], []⟩
theorem s_is_worth : FnScope N_is_worth ["value"] (defScope (top i_is_worth)) := ⟨rfl, rfl, rfl, by decide +kernel, rfl, by decide +kernel, by decide +kernel⟩
def d_is_worth : He.DefD := ⟨("is_worth", none), "is_worth", "is_worth", defArgs (top i_is_worth), defBody (top i_is_worth), defScope (top i_is_worth), [], []⟩
theorem s_is_head : FnScope N_is_head ["value"] (defScope (top i_is_head)) := ⟨rfl, rfl, rfl, by decide +kernel, rfl, by decide +kernel, by decide +kernel⟩
def d_is_head : He.DefD := ⟨("is_head", none), "is_head", "is_head", defArgs (top i_is_head), defBody (top i_is_head), defScope (top i_is_head), [], []⟩
theorem s_parts_of : FnScope N_parts_of ["value"] (defScope (top i_parts_of)) := ⟨rfl, rfl, rfl, by decide +kernel, rfl, by decide +kernel, by decide +kernel⟩
def d_parts_of : He.DefD := ⟨("parts_of", none), "parts_of", "parts_of", defArgs (top i_parts_of), defBody (top i_parts_of), defScope (top i_parts_of), [], []⟩
theorem s_branches : FnScope N_branches ["rule"] (defScope (top i_branches)) := ⟨rfl, rfl, rfl, by decide +kernel, rfl, by decide +kernel, by decide +kernel⟩
def d_branches : He.DefD := ⟨("branches", none), "branches", "branches", defArgs (top i_branches), defBody (top i_branches), defScope (top i_branches), [], []⟩
theorem s_made : FnScope N_made ["rule", "values"] (defScope (top i_made)) := ⟨rfl, rfl, rfl, by decide +kernel, rfl, by decide +kernel, by decide +kernel⟩
def d_made : He.DefD := ⟨("made", none), "made", "made", defArgs (top i_made), defBody (top i_made), defScope (top i_made), [], []⟩
theorem s_told_by : FnScope N_told_by ["rule", "heard", "at"] (defScope (top i_told_by)) := ⟨rfl, rfl, rfl, by decide +kernel, rfl, by decide +kernel, by decide +kernel⟩
def d_told_by : He.DefD := ⟨("told_by", none), "told_by", "told_by", defArgs (top i_told_by), defBody (top i_told_by), defScope (top i_told_by), [], []⟩
theorem s_told : FnScope N_told ["rule", "heard"] (defScope (top i_told)) := ⟨rfl, rfl, rfl, by decide +kernel, rfl, by decide +kernel, by decide +kernel⟩
def d_told : He.DefD := ⟨("told", none), "told", "told", defArgs (top i_told), defBody (top i_told), defScope (top i_told), [], []⟩
theorem s_is_state : FnScope N_is_state ["net", "value"] (defScope (top i_is_state)) := ⟨rfl, rfl, rfl, by decide +kernel, rfl, by decide +kernel, by decide +kernel⟩
def d_is_state : He.DefD := ⟨("is_state", none), "is_state", "is_state", defArgs (top i_is_state), defBody (top i_is_state), defScope (top i_is_state), [], []⟩
theorem s_wanted : FnScope N_wanted ["net", "house", "heard"] (defScope (top i_wanted)) := ⟨rfl, rfl, rfl, by decide +kernel, rfl, by decide +kernel, by decide +kernel⟩
def d_wanted : He.DefD := ⟨("wanted", none), "wanted", "wanted", defArgs (top i_wanted), defBody (top i_wanted), defScope (top i_wanted), [], []⟩
theorem s_is_past : FnScope N_is_past ["net", "d", "value"] (defScope (top i_is_past)) := ⟨rfl, rfl, rfl, by decide +kernel, rfl, by decide +kernel, by decide +kernel⟩
def d_is_past : He.DefD := ⟨("is_past", none), "is_past", "is_past", defArgs (top i_is_past), defBody (top i_is_past), defScope (top i_is_past), [], []⟩
theorem s_is_house_lateness : FnScope N_is_house_lateness ["rule", "d", "value"] (defScope (top i_is_house_lateness)) := ⟨rfl, rfl, rfl, by decide +kernel, rfl, by decide +kernel, by decide +kernel⟩
def d_is_house_lateness : He.DefD := ⟨("is_house_lateness", none), "is_house_lateness", "is_house_lateness", defArgs (top i_is_house_lateness), defBody (top i_is_house_lateness), defScope (top i_is_house_lateness), [], []⟩
theorem s_is_lateness : FnScope N_is_lateness ["net", "d", "value"] (defScope (top i_is_lateness)) := ⟨rfl, rfl, rfl, by decide +kernel, rfl, by decide +kernel, by decide +kernel⟩
def d_is_lateness : He.DefD := ⟨("is_lateness", none), "is_lateness", "is_lateness", defArgs (top i_is_lateness), defBody (top i_is_lateness), defScope (top i_is_lateness), [], []⟩
theorem s_shows_next : FnScope N_shows_next ["net", "past", "lateness"] (defScope (top i_shows_next)) := ⟨rfl, rfl, rfl, by decide +kernel, rfl, by decide +kernel, by decide +kernel⟩
def d_shows_next : He.DefD := ⟨("shows_next", none), "shows_next", "shows_next", defArgs (top i_shows_next), defBody (top i_shows_next), defScope (top i_shows_next), [], []⟩
theorem s_is_beat : FnScope N_is_beat ["net", "d", "value"] (defScope (top i_is_beat)) := ⟨rfl, rfl, rfl, by decide +kernel, rfl, by decide +kernel, by decide +kernel⟩
def d_is_beat : He.DefD := ⟨("is_beat", none), "is_beat", "is_beat", defArgs (top i_is_beat), defBody (top i_is_beat), defScope (top i_is_beat), [], []⟩
theorem s_moves_of : FnScope N_moves_of ["beats", "house"] (defScope (top i_moves_of)) := ⟨rfl, rfl, rfl, by decide +kernel, rfl, by decide +kernel, by decide +kernel⟩
def d_moves_of : He.DefD := ⟨("moves_of", none), "moves_of", "moves_of", defArgs (top i_moves_of), defBody (top i_moves_of), defScope (top i_moves_of), [], []⟩
theorem s_is_moving : FnScope N_is_moving ["beats", "e", "moves"] (defScope (top i_is_moving)) := ⟨rfl, rfl, rfl, by decide +kernel, rfl, by decide +kernel, by decide +kernel⟩
def d_is_moving : He.DefD := ⟨("is_moving", none), "is_moving", "is_moving", defArgs (top i_is_moving), defBody (top i_is_moving), defScope (top i_is_moving), [], []⟩
theorem s_is_newer : FnScope N_is_newer ["beats", "house", "moves"] (defScope (top i_is_newer)) := ⟨rfl, rfl, rfl, by decide +kernel, rfl, by decide +kernel, by decide +kernel⟩
def d_is_newer : He.DefD := ⟨("is_newer", none), "is_newer", "is_newer", defArgs (top i_is_newer), defBody (top i_is_newer), defScope (top i_is_newer), [], []⟩
theorem s_is_stopped_run : FnScope N_is_stopped_run ["net", "d", "e", "value"] (defScope (top i_is_stopped_run)) := ⟨rfl, rfl, rfl, by decide +kernel, rfl, by decide +kernel, by decide +kernel⟩
def d_is_stopped_run : He.DefD := ⟨("is_stopped_run", none), "is_stopped_run", "is_stopped_run", defArgs (top i_is_stopped_run), defBody (top i_is_stopped_run), defScope (top i_is_stopped_run), [], []⟩
theorem s_stopped_shown : FnScope N_stopped_shown ["net", "d", "run"] (defScope (top i_stopped_shown)) := ⟨rfl, rfl, rfl, by decide +kernel, rfl, by decide +kernel, by decide +kernel⟩
def d_stopped_shown : He.DefD := ⟨("stopped_shown", none), "stopped_shown", "stopped_shown", defArgs (top i_stopped_shown), defBody (top i_stopped_shown), defScope (top i_stopped_shown), [], []⟩
theorem s__law_draw : FnScope N__law_draw ["_law_script", "_law_salt"] (defScope (top i__law_draw)) := ⟨rfl, rfl, rfl, by decide +kernel, rfl, by decide +kernel, by decide +kernel⟩
def d__law_draw : He.DefD := ⟨("_law_draw", none), "_law_draw", "_law_draw", defArgs (top i__law_draw), defBody (top i__law_draw), defScope (top i__law_draw), [], []⟩
theorem s__law_any : FnScope N__law_any ["_law_deal", "_law_bound"] (defScope (top i__law_any)) := ⟨rfl, rfl, rfl, by decide +kernel, rfl, by decide +kernel, by decide +kernel⟩
def d__law_any : He.DefD := ⟨("_law_any", none), "_law_any", "_law_any", defArgs (top i__law_any), defBody (top i__law_any), defScope (top i__law_any), [], []⟩
theorem s__law_of : FnScope N__law_of ["_law_deal", "_law_some"] (defScope (top i__law_of)) := ⟨rfl, rfl, rfl, by decide +kernel, rfl, by decide +kernel, by decide +kernel⟩
def d__law_of : He.DefD := ⟨("_law_of", none), "_law_of", "_law_of", defArgs (top i__law_of), defBody (top i__law_of), defScope (top i__law_of), [], []⟩
theorem s__law_rule : FnScope N__law_rule ["_law_deal", "_law_n", "_law_top", "_law_deep", "_law_any_row"] (defScope (top i__law_rule)) := ⟨rfl, rfl, rfl, by decide +kernel, rfl, by decide +kernel, by decide +kernel⟩
def d__law_rule : He.DefD := ⟨("_law_rule", none), "_law_rule", "_law_rule", defArgs (top i__law_rule), defBody (top i__law_rule), defScope (top i__law_rule), [], []⟩
theorem s__law_net : FnScope N__law_net ["_law_deal", "_law_most", "_law_top", "_law_any_row"] (defScope (top i__law_net)) := ⟨rfl, rfl, rfl, by decide +kernel, rfl, by decide +kernel, by decide +kernel⟩
def d__law_net : He.DefD := ⟨("_law_net", none), "_law_net", "_law_net", defArgs (top i__law_net), defBody (top i__law_net), defScope (top i__law_net), [], []⟩
theorem s__law_parts : FnScope N__law_parts ["_law_rule_here"] (defScope (top i__law_parts)) := ⟨rfl, rfl, rfl, by decide +kernel, rfl, by decide +kernel, by decide +kernel⟩
def d__law_parts : He.DefD := ⟨("_law_parts", none), "_law_parts", "_law_parts", defArgs (top i__law_parts), defBody (top i__law_parts), defScope (top i__law_parts), [], []⟩
theorem s__law_branches : FnScope N__law_branches ["_law_rule_here"] (defScope (top i__law_branches)) := ⟨rfl, rfl, rfl, by decide +kernel, rfl, by decide +kernel, by decide +kernel⟩
def d__law_branches : He.DefD := ⟨("_law_branches", none), "_law_branches", "_law_branches", defArgs (top i__law_branches), defBody (top i__law_branches), defScope (top i__law_branches), [], []⟩
theorem s__law_made : FnScope N__law_made ["_law_rule_here", "_law_some"] (defScope (top i__law_made)) := ⟨rfl, rfl, rfl, by decide +kernel, rfl, by decide +kernel, by decide +kernel⟩
def d__law_made : He.DefD := ⟨("_law_made", none), "_law_made", "_law_made", defArgs (top i__law_made), defBody (top i__law_made), defScope (top i__law_made), [], []⟩
theorem s__law_told : FnScope N__law_told ["_law_rule_here", "_law_heard"] (defScope (top i__law_told)) := ⟨rfl, rfl, rfl, by decide +kernel, rfl, by decide +kernel, by decide +kernel⟩
def d__law_told : He.DefD := ⟨("_law_told", none), "_law_told", "_law_told", defArgs (top i__law_told), defBody (top i__law_told), defScope (top i__law_told), [], []⟩
theorem s__law_wants : FnScope N__law_wants ["_law_net_here", "_law_house", "_law_heard"] (defScope (top i__law_wants)) := ⟨rfl, rfl, rfl, by decide +kernel, rfl, by decide +kernel, by decide +kernel⟩
def d__law_wants : He.DefD := ⟨("_law_wants", none), "_law_wants", "_law_wants", defArgs (top i__law_wants), defBody (top i__law_wants), defScope (top i__law_wants), [], []⟩
theorem s__law_past : FnScope N__law_past ["_law_deal", "_law_net_here", "_law_d"] (defScope (top i__law_past)) := ⟨rfl, rfl, rfl, by decide +kernel, rfl, by decide +kernel, by decide +kernel⟩
def d__law_past : He.DefD := ⟨("_law_past", none), "_law_past", "_law_past", defArgs (top i__law_past), defBody (top i__law_past), defScope (top i__law_past), [], []⟩
theorem s__law_hears : FnScope N__law_hears ["_law_net_here", "_law_states", "_law_house", "_law_row"] (defScope (top i__law_hears)) := ⟨rfl, rfl, rfl, by decide +kernel, rfl, by decide +kernel, by decide +kernel⟩
def d__law_hears : He.DefD := ⟨("_law_hears", none), "_law_hears", "_law_hears", defArgs (top i__law_hears), defBody (top i__law_hears), defScope (top i__law_hears), [], []⟩
theorem s__law_stopped : FnScope N__law_stopped ["_law_deal", "_law_net_here", "_law_d", "_law_e", "_law_beats"] (defScope (top i__law_stopped)) := ⟨rfl, rfl, rfl, by decide +kernel, rfl, by decide +kernel, by decide +kernel⟩
def d__law_stopped : He.DefD := ⟨("_law_stopped", none), "_law_stopped", "_law_stopped", defArgs (top i__law_stopped), defBody (top i__law_stopped), defScope (top i__law_stopped), [], []⟩
theorem s__law_spoilt : FnScope N__law_spoilt ["_law_deal", "_law_net_here", "_law_d", "_law_e", "_law_run"] (defScope (top i__law_spoilt)) := ⟨rfl, rfl, rfl, by decide +kernel, rfl, by decide +kernel, by decide +kernel⟩
def d__law_spoilt : He.DefD := ⟨("_law_spoilt", none), "_law_spoilt", "_law_spoilt", defArgs (top i__law_spoilt), defBody (top i__law_spoilt), defScope (top i__law_spoilt), [], []⟩
theorem s_law : FnScope N_law ["_law_script"] (defScope (top i_law)) := ⟨rfl, rfl, rfl, by decide +kernel, rfl, by decide +kernel, by decide +kernel⟩
def d_law : He.DefD := ⟨("law", none), "law", "law", defArgs (top i_law), defBody (top i_law), defScope (top i_law), [], []⟩
def fnl : List He.DefD := d_is_integer :: d_is_number :: d_is_index :: d_is_rising :: d_is_worth :: d_is_head :: d_parts_of :: d_branches :: d_made :: d_told_by :: d_told :: d_is_state :: d_wanted :: d_is_past :: d_is_house_lateness :: d_is_lateness :: d_shows_next :: d_is_beat :: d_moves_of :: d_is_moving :: d_is_newer :: d_is_stopped_run :: d_stopped_shown :: d__law_draw :: d__law_any :: d__law_of :: d__law_rule :: d__law_net :: d__law_parts :: d__law_branches :: d__law_made :: d__law_told :: d__law_wants :: d__law_past :: d__law_hears :: d__law_stopped :: d__law_spoilt :: d_law :: []
def fal : List He.Fa := .glo "is_integer" :: .glo "is_number" :: .glo "is_index" :: .glo "is_rising" :: .glo "is_worth" :: .glo "is_head" :: .glo "parts_of" :: .glo "branches" :: .glo "made" :: .glo "told_by" :: .glo "told" :: .glo "is_state" :: .glo "wanted" :: .glo "is_past" :: .glo "is_house_lateness" :: .glo "is_lateness" :: .glo "shows_next" :: .glo "is_beat" :: .glo "moves_of" :: .glo "is_moving" :: .glo "is_newer" :: .glo "is_stopped_run" :: .glo "stopped_shown" :: .glo "_law_draw" :: .glo "_law_any" :: .glo "_law_of" :: .glo "_law_rule" :: .glo "_law_net" :: .glo "_law_parts" :: .glo "_law_branches" :: .glo "_law_made" :: .glo "_law_told" :: .glo "_law_wants" :: .glo "_law_past" :: .glo "_law_hears" :: .glo "_law_stopped" :: .glo "_law_spoilt" :: .glo "law" :: .free "abs" :: .free "all" :: .free "any" :: .free "bool" :: .free "enumerate" :: .free "int" :: .free "isinstance" :: .free "len" :: .free "list" :: .free "max" :: .free "min" :: .free "range" :: .free "repr" :: .free "sorted" :: .free "str" :: .free "sum" :: .free "tuple" :: .free "zip" :: .int "MOST" 1001 :: .int "MOST_ROW" 64 :: []
abbrev R : PySem.W.OpenRow := PySem.W.OpenLaw.row PySem.Challenge.rw_newsbehind_k52_stopped_runs
abbrev hk : PySem.W.Hook := He.hookD 4 fal fnl
def ob (s : PySem.W.SharedT) : He.AlD := He.obsDG 4 fal fnl (HandSHeadRun.getT s)
theorem ob_eq (s : PySem.W.SharedT) : ob s = hk.obs s.abs := He.obsDG_eq (HandSHeadRun.getT_eq s)
def loose : List Str := "__name__" :: "is_integer" :: "is_number" :: "is_index" :: "is_rising" :: "MOST" :: "MOST_ROW" :: "is_worth" :: "is_head" :: "parts_of" :: "branches" :: "made" :: "told_by" :: "told" :: "is_state" :: "wanted" :: "is_past" :: "is_house_lateness" :: "is_lateness" :: "shows_next" :: "is_beat" :: "moves_of" :: "is_moving" :: "is_newer" :: "is_stopped_run" :: "stopped_shown" :: "_law_draw" :: "_law_any" :: "_law_of" :: "_law_mixed" :: "_law_rule" :: "_law_net" :: "_law_parts" :: "_law_branches" :: "_law_made" :: "_law_told" :: "_law_wants" :: "_law_past" :: "_law_hears" :: "_law_stopped" :: "_law_spoilt" :: []
theorem run (w : World) : HandSHeadRun.RunEq R (PySem.W.view R.prog [i_law]) hk ob 4000 loose w := by
  intro os
  kernel_rfl
theorem facts {pw : Program} {w : World} {K : PySem.W.Frag} {h : Heap} {mg : Str → Option Value} {f : Addr} (X : K.In h) (G : h.Ns mainGlobals mg) (hfa : mg ("law" : Str) = some (.ref f)) (c : He.SaysD fal fnl K) (rn : Runs P 80 N_law.length 52 b_law) :
    ∃ fd : FuncData, (∀ (s : Shared) (v : Value), BindsTo s fd ⟨[v], []⟩ [("_law_script", v)]) ∧ ∀ base : Heap, K.In base → base.Ns mainGlobals mg → FnG pw w K mg base (80 + 1) f fd ["_law_script"] (spLaw K) := by
  obtain ⟨fd_is_integer, E_is_integer⟩ := c.def_ 0 (d := d_is_integer) rfl
  have F_is_integer : FunD K "is_integer" "is_integer" (defArgs (top i_is_integer)) (defBody (top i_is_integer)) (defScope (top i_is_integer)) [] [] (He.ga K "is_integer") fd_is_integer := E_is_integer
  have g_is_integer := He.glo_ok X G (c.fact 0 (f := .glo "is_integer") rfl)
  obtain ⟨fd_is_number, E_is_number⟩ := c.def_ 1 (d := d_is_number) rfl
  have F_is_number : FunD K "is_number" "is_number" (defArgs (top i_is_number)) (defBody (top i_is_number)) (defScope (top i_is_number)) [] [] (He.ga K "is_number") fd_is_number := E_is_number
  have g_is_number := He.glo_ok X G (c.fact 1 (f := .glo "is_number") rfl)
  obtain ⟨fd_is_index, E_is_index⟩ := c.def_ 2 (d := d_is_index) rfl
  have F_is_index : FunD K "is_index" "is_index" (defArgs (top i_is_index)) (defBody (top i_is_index)) (defScope (top i_is_index)) [] [] (He.ga K "is_index") fd_is_index := E_is_index
  have g_is_index := He.glo_ok X G (c.fact 2 (f := .glo "is_index") rfl)
  obtain ⟨fd_is_rising, E_is_rising⟩ := c.def_ 3 (d := d_is_rising) rfl
  have F_is_rising : FunD K "is_rising" "is_rising" (defArgs (top i_is_rising)) (defBody (top i_is_rising)) (defScope (top i_is_rising)) [] [] (He.ga K "is_rising") fd_is_rising := E_is_rising
  have g_is_rising := He.glo_ok X G (c.fact 3 (f := .glo "is_rising") rfl)
  obtain ⟨fd_is_worth, E_is_worth⟩ := c.def_ 4 (d := d_is_worth) rfl
  have F_is_worth : FunD K "is_worth" "is_worth" (defArgs (top i_is_worth)) (defBody (top i_is_worth)) (defScope (top i_is_worth)) [] [] (He.ga K "is_worth") fd_is_worth := E_is_worth
  have g_is_worth := He.glo_ok X G (c.fact 4 (f := .glo "is_worth") rfl)
  obtain ⟨fd_is_head, E_is_head⟩ := c.def_ 5 (d := d_is_head) rfl
  have F_is_head : FunD K "is_head" "is_head" (defArgs (top i_is_head)) (defBody (top i_is_head)) (defScope (top i_is_head)) [] [] (He.ga K "is_head") fd_is_head := E_is_head
  have g_is_head := He.glo_ok X G (c.fact 5 (f := .glo "is_head") rfl)
  obtain ⟨fd_parts_of, E_parts_of⟩ := c.def_ 6 (d := d_parts_of) rfl
  have F_parts_of : FunD K "parts_of" "parts_of" (defArgs (top i_parts_of)) (defBody (top i_parts_of)) (defScope (top i_parts_of)) [] [] (He.ga K "parts_of") fd_parts_of := E_parts_of
  have g_parts_of := He.glo_ok X G (c.fact 6 (f := .glo "parts_of") rfl)
  obtain ⟨fd_branches, E_branches⟩ := c.def_ 7 (d := d_branches) rfl
  have F_branches : FunD K "branches" "branches" (defArgs (top i_branches)) (defBody (top i_branches)) (defScope (top i_branches)) [] [] (He.ga K "branches") fd_branches := E_branches
  have g_branches := He.glo_ok X G (c.fact 7 (f := .glo "branches") rfl)
  obtain ⟨fd_made, E_made⟩ := c.def_ 8 (d := d_made) rfl
  have F_made : FunD K "made" "made" (defArgs (top i_made)) (defBody (top i_made)) (defScope (top i_made)) [] [] (He.ga K "made") fd_made := E_made
  have g_made := He.glo_ok X G (c.fact 8 (f := .glo "made") rfl)
  obtain ⟨fd_told_by, E_told_by⟩ := c.def_ 9 (d := d_told_by) rfl
  have F_told_by : FunD K "told_by" "told_by" (defArgs (top i_told_by)) (defBody (top i_told_by)) (defScope (top i_told_by)) [] [] (He.ga K "told_by") fd_told_by := E_told_by
  have g_told_by := He.glo_ok X G (c.fact 9 (f := .glo "told_by") rfl)
  obtain ⟨fd_told, E_told⟩ := c.def_ 10 (d := d_told) rfl
  have F_told : FunD K "told" "told" (defArgs (top i_told)) (defBody (top i_told)) (defScope (top i_told)) [] [] (He.ga K "told") fd_told := E_told
  have g_told := He.glo_ok X G (c.fact 10 (f := .glo "told") rfl)
  obtain ⟨fd_is_state, E_is_state⟩ := c.def_ 11 (d := d_is_state) rfl
  have F_is_state : FunD K "is_state" "is_state" (defArgs (top i_is_state)) (defBody (top i_is_state)) (defScope (top i_is_state)) [] [] (He.ga K "is_state") fd_is_state := E_is_state
  have g_is_state := He.glo_ok X G (c.fact 11 (f := .glo "is_state") rfl)
  obtain ⟨fd_wanted, E_wanted⟩ := c.def_ 12 (d := d_wanted) rfl
  have F_wanted : FunD K "wanted" "wanted" (defArgs (top i_wanted)) (defBody (top i_wanted)) (defScope (top i_wanted)) [] [] (He.ga K "wanted") fd_wanted := E_wanted
  have g_wanted := He.glo_ok X G (c.fact 12 (f := .glo "wanted") rfl)
  obtain ⟨fd_is_past, E_is_past⟩ := c.def_ 13 (d := d_is_past) rfl
  have F_is_past : FunD K "is_past" "is_past" (defArgs (top i_is_past)) (defBody (top i_is_past)) (defScope (top i_is_past)) [] [] (He.ga K "is_past") fd_is_past := E_is_past
  have g_is_past := He.glo_ok X G (c.fact 13 (f := .glo "is_past") rfl)
  obtain ⟨fd_is_house_lateness, E_is_house_lateness⟩ := c.def_ 14 (d := d_is_house_lateness) rfl
  have F_is_house_lateness : FunD K "is_house_lateness" "is_house_lateness" (defArgs (top i_is_house_lateness)) (defBody (top i_is_house_lateness)) (defScope (top i_is_house_lateness)) [] [] (He.ga K "is_house_lateness") fd_is_house_lateness := E_is_house_lateness
  have g_is_house_lateness := He.glo_ok X G (c.fact 14 (f := .glo "is_house_lateness") rfl)
  obtain ⟨fd_is_lateness, E_is_lateness⟩ := c.def_ 15 (d := d_is_lateness) rfl
  have F_is_lateness : FunD K "is_lateness" "is_lateness" (defArgs (top i_is_lateness)) (defBody (top i_is_lateness)) (defScope (top i_is_lateness)) [] [] (He.ga K "is_lateness") fd_is_lateness := E_is_lateness
  have g_is_lateness := He.glo_ok X G (c.fact 15 (f := .glo "is_lateness") rfl)
  obtain ⟨fd_shows_next, E_shows_next⟩ := c.def_ 16 (d := d_shows_next) rfl
  have F_shows_next : FunD K "shows_next" "shows_next" (defArgs (top i_shows_next)) (defBody (top i_shows_next)) (defScope (top i_shows_next)) [] [] (He.ga K "shows_next") fd_shows_next := E_shows_next
  have g_shows_next := He.glo_ok X G (c.fact 16 (f := .glo "shows_next") rfl)
  obtain ⟨fd_is_beat, E_is_beat⟩ := c.def_ 17 (d := d_is_beat) rfl
  have F_is_beat : FunD K "is_beat" "is_beat" (defArgs (top i_is_beat)) (defBody (top i_is_beat)) (defScope (top i_is_beat)) [] [] (He.ga K "is_beat") fd_is_beat := E_is_beat
  have g_is_beat := He.glo_ok X G (c.fact 17 (f := .glo "is_beat") rfl)
  obtain ⟨fd_moves_of, E_moves_of⟩ := c.def_ 18 (d := d_moves_of) rfl
  have F_moves_of : FunD K "moves_of" "moves_of" (defArgs (top i_moves_of)) (defBody (top i_moves_of)) (defScope (top i_moves_of)) [] [] (He.ga K "moves_of") fd_moves_of := E_moves_of
  have g_moves_of := He.glo_ok X G (c.fact 18 (f := .glo "moves_of") rfl)
  obtain ⟨fd_is_moving, E_is_moving⟩ := c.def_ 19 (d := d_is_moving) rfl
  have F_is_moving : FunD K "is_moving" "is_moving" (defArgs (top i_is_moving)) (defBody (top i_is_moving)) (defScope (top i_is_moving)) [] [] (He.ga K "is_moving") fd_is_moving := E_is_moving
  have g_is_moving := He.glo_ok X G (c.fact 19 (f := .glo "is_moving") rfl)
  obtain ⟨fd_is_newer, E_is_newer⟩ := c.def_ 20 (d := d_is_newer) rfl
  have F_is_newer : FunD K "is_newer" "is_newer" (defArgs (top i_is_newer)) (defBody (top i_is_newer)) (defScope (top i_is_newer)) [] [] (He.ga K "is_newer") fd_is_newer := E_is_newer
  have g_is_newer := He.glo_ok X G (c.fact 20 (f := .glo "is_newer") rfl)
  obtain ⟨fd_is_stopped_run, E_is_stopped_run⟩ := c.def_ 21 (d := d_is_stopped_run) rfl
  have F_is_stopped_run : FunD K "is_stopped_run" "is_stopped_run" (defArgs (top i_is_stopped_run)) (defBody (top i_is_stopped_run)) (defScope (top i_is_stopped_run)) [] [] (He.ga K "is_stopped_run") fd_is_stopped_run := E_is_stopped_run
  have g_is_stopped_run := He.glo_ok X G (c.fact 21 (f := .glo "is_stopped_run") rfl)
  obtain ⟨fd_stopped_shown, E_stopped_shown⟩ := c.def_ 22 (d := d_stopped_shown) rfl
  have F_stopped_shown : FunD K "stopped_shown" "stopped_shown" (defArgs (top i_stopped_shown)) (defBody (top i_stopped_shown)) (defScope (top i_stopped_shown)) [] [] (He.ga K "stopped_shown") fd_stopped_shown := E_stopped_shown
  have g_stopped_shown := He.glo_ok X G (c.fact 22 (f := .glo "stopped_shown") rfl)
  obtain ⟨fd__law_draw, E__law_draw⟩ := c.def_ 23 (d := d__law_draw) rfl
  have F__law_draw : FunD K "_law_draw" "_law_draw" (defArgs (top i__law_draw)) (defBody (top i__law_draw)) (defScope (top i__law_draw)) [] [] (He.ga K "_law_draw") fd__law_draw := E__law_draw
  have g__law_draw := He.glo_ok X G (c.fact 23 (f := .glo "_law_draw") rfl)
  obtain ⟨fd__law_any, E__law_any⟩ := c.def_ 24 (d := d__law_any) rfl
  have F__law_any : FunD K "_law_any" "_law_any" (defArgs (top i__law_any)) (defBody (top i__law_any)) (defScope (top i__law_any)) [] [] (He.ga K "_law_any") fd__law_any := E__law_any
  have g__law_any := He.glo_ok X G (c.fact 24 (f := .glo "_law_any") rfl)
  obtain ⟨fd__law_of, E__law_of⟩ := c.def_ 25 (d := d__law_of) rfl
  have F__law_of : FunD K "_law_of" "_law_of" (defArgs (top i__law_of)) (defBody (top i__law_of)) (defScope (top i__law_of)) [] [] (He.ga K "_law_of") fd__law_of := E__law_of
  have g__law_of := He.glo_ok X G (c.fact 25 (f := .glo "_law_of") rfl)
  obtain ⟨fd__law_rule, E__law_rule⟩ := c.def_ 26 (d := d__law_rule) rfl
  have F__law_rule : FunD K "_law_rule" "_law_rule" (defArgs (top i__law_rule)) (defBody (top i__law_rule)) (defScope (top i__law_rule)) [] [] (He.ga K "_law_rule") fd__law_rule := E__law_rule
  have g__law_rule := He.glo_ok X G (c.fact 26 (f := .glo "_law_rule") rfl)
  obtain ⟨fd__law_net, E__law_net⟩ := c.def_ 27 (d := d__law_net) rfl
  have F__law_net : FunD K "_law_net" "_law_net" (defArgs (top i__law_net)) (defBody (top i__law_net)) (defScope (top i__law_net)) [] [] (He.ga K "_law_net") fd__law_net := E__law_net
  have g__law_net := He.glo_ok X G (c.fact 27 (f := .glo "_law_net") rfl)
  obtain ⟨fd__law_parts, E__law_parts⟩ := c.def_ 28 (d := d__law_parts) rfl
  have F__law_parts : FunD K "_law_parts" "_law_parts" (defArgs (top i__law_parts)) (defBody (top i__law_parts)) (defScope (top i__law_parts)) [] [] (He.ga K "_law_parts") fd__law_parts := E__law_parts
  have g__law_parts := He.glo_ok X G (c.fact 28 (f := .glo "_law_parts") rfl)
  obtain ⟨fd__law_branches, E__law_branches⟩ := c.def_ 29 (d := d__law_branches) rfl
  have F__law_branches : FunD K "_law_branches" "_law_branches" (defArgs (top i__law_branches)) (defBody (top i__law_branches)) (defScope (top i__law_branches)) [] [] (He.ga K "_law_branches") fd__law_branches := E__law_branches
  have g__law_branches := He.glo_ok X G (c.fact 29 (f := .glo "_law_branches") rfl)
  obtain ⟨fd__law_made, E__law_made⟩ := c.def_ 30 (d := d__law_made) rfl
  have F__law_made : FunD K "_law_made" "_law_made" (defArgs (top i__law_made)) (defBody (top i__law_made)) (defScope (top i__law_made)) [] [] (He.ga K "_law_made") fd__law_made := E__law_made
  have g__law_made := He.glo_ok X G (c.fact 30 (f := .glo "_law_made") rfl)
  obtain ⟨fd__law_told, E__law_told⟩ := c.def_ 31 (d := d__law_told) rfl
  have F__law_told : FunD K "_law_told" "_law_told" (defArgs (top i__law_told)) (defBody (top i__law_told)) (defScope (top i__law_told)) [] [] (He.ga K "_law_told") fd__law_told := E__law_told
  have g__law_told := He.glo_ok X G (c.fact 31 (f := .glo "_law_told") rfl)
  obtain ⟨fd__law_wants, E__law_wants⟩ := c.def_ 32 (d := d__law_wants) rfl
  have F__law_wants : FunD K "_law_wants" "_law_wants" (defArgs (top i__law_wants)) (defBody (top i__law_wants)) (defScope (top i__law_wants)) [] [] (He.ga K "_law_wants") fd__law_wants := E__law_wants
  have g__law_wants := He.glo_ok X G (c.fact 32 (f := .glo "_law_wants") rfl)
  obtain ⟨fd__law_past, E__law_past⟩ := c.def_ 33 (d := d__law_past) rfl
  have F__law_past : FunD K "_law_past" "_law_past" (defArgs (top i__law_past)) (defBody (top i__law_past)) (defScope (top i__law_past)) [] [] (He.ga K "_law_past") fd__law_past := E__law_past
  have g__law_past := He.glo_ok X G (c.fact 33 (f := .glo "_law_past") rfl)
  obtain ⟨fd__law_hears, E__law_hears⟩ := c.def_ 34 (d := d__law_hears) rfl
  have F__law_hears : FunD K "_law_hears" "_law_hears" (defArgs (top i__law_hears)) (defBody (top i__law_hears)) (defScope (top i__law_hears)) [] [] (He.ga K "_law_hears") fd__law_hears := E__law_hears
  have g__law_hears := He.glo_ok X G (c.fact 34 (f := .glo "_law_hears") rfl)
  obtain ⟨fd__law_stopped, E__law_stopped⟩ := c.def_ 35 (d := d__law_stopped) rfl
  have F__law_stopped : FunD K "_law_stopped" "_law_stopped" (defArgs (top i__law_stopped)) (defBody (top i__law_stopped)) (defScope (top i__law_stopped)) [] [] (He.ga K "_law_stopped") fd__law_stopped := E__law_stopped
  have g__law_stopped := He.glo_ok X G (c.fact 35 (f := .glo "_law_stopped") rfl)
  obtain ⟨fd__law_spoilt, E__law_spoilt⟩ := c.def_ 36 (d := d__law_spoilt) rfl
  have F__law_spoilt : FunD K "_law_spoilt" "_law_spoilt" (defArgs (top i__law_spoilt)) (defBody (top i__law_spoilt)) (defScope (top i__law_spoilt)) [] [] (He.ga K "_law_spoilt") fd__law_spoilt := E__law_spoilt
  have g__law_spoilt := He.glo_ok X G (c.fact 36 (f := .glo "_law_spoilt") rfl)
  obtain ⟨fd_law, E_law⟩ := c.def_ 37 (d := d_law) rfl
  have F_law : FunD K "law" "law" (defArgs (top i_law)) (defBody (top i_law)) (defScope (top i_law)) [] [] (He.ga K "law") fd_law := E_law
  have g_law := He.glo_ok X G (c.fact 37 (f := .glo "law") rfl)
  have hbl : ∀ x ∈ bl, mg x = none := AllF.get (l := bl) ⟨He.free_ok X G (c.fact 38 (f := .free "abs") rfl), ⟨He.free_ok X G (c.fact 39 (f := .free "all") rfl), ⟨He.free_ok X G (c.fact 40 (f := .free "any") rfl), ⟨He.free_ok X G (c.fact 41 (f := .free "bool") rfl), ⟨He.free_ok X G (c.fact 42 (f := .free "enumerate") rfl), ⟨He.free_ok X G (c.fact 43 (f := .free "int") rfl), ⟨He.free_ok X G (c.fact 44 (f := .free "isinstance") rfl), ⟨He.free_ok X G (c.fact 45 (f := .free "len") rfl), ⟨He.free_ok X G (c.fact 46 (f := .free "list") rfl), ⟨He.free_ok X G (c.fact 47 (f := .free "max") rfl), ⟨He.free_ok X G (c.fact 48 (f := .free "min") rfl), ⟨He.free_ok X G (c.fact 49 (f := .free "range") rfl), ⟨He.free_ok X G (c.fact 50 (f := .free "repr") rfl), ⟨He.free_ok X G (c.fact 51 (f := .free "sorted") rfl), ⟨He.free_ok X G (c.fact 52 (f := .free "str") rfl), ⟨He.free_ok X G (c.fact 53 (f := .free "sum") rfl), ⟨He.free_ok X G (c.fact 54 (f := .free "tuple") rfl), ⟨He.free_ok X G (c.fact 55 (f := .free "zip") rfl), trivial⟩⟩⟩⟩⟩⟩⟩⟩⟩⟩⟩⟩⟩⟩⟩⟩⟩⟩
  have hcs : ∀ x d, (x, d) ∈ cs → ConstOk K mg x d := AllC.get (l := cs) ⟨const_int (He.int_ok X G (c.fact 56 (f := .int "MOST" 1001) rfl)), ⟨const_int (He.int_ok X G (c.fact 57 (f := .int "MOST_ROW" 64) rfl)), trivial⟩⟩
  have hfs : ∀ x ∈ fs, (P.fn x).isSome = true := fs_ok (by kernel_rfl)
  have e := hfa.symm.trans g_law
  cases e
  have b := FunD.bindsA (ps := ["_law_script"]) F_law fun _ _ _ _ _ _ us hl => match us, hl with | [_], _ => rfl
  refine ⟨fd_law, fun s v => b s [v] rfl, fun base _ _ => ?_⟩
  have D_is_integer : Def P pw w K mg base kws "is_integer" (.code 1 1 b_is_integer) _ fd_is_integer ["value"] := def_code F_is_integer s_is_integer (by kernel_rfl) c_is_integer g_is_integer (F_is_integer.bindsN fun _ _ _ _ _ _ us hl => match us, hl with | [_], _ => rfl) (no_kw (by kernel_rfl)) hcs hbl hfs
  have D_is_number : Def P pw w K mg base kws "is_number" (.code 1 1 b_is_number) _ fd_is_number ["value"] := def_code F_is_number s_is_number (by kernel_rfl) c_is_number g_is_number (F_is_number.bindsN fun _ _ _ _ _ _ us hl => match us, hl with | [_], _ => rfl) (no_kw (by kernel_rfl)) hcs hbl hfs
  have D_is_index : Def P pw w K mg base kws "is_index" (.code 2 2 b_is_index) _ fd_is_index ["value", "many"] := def_code F_is_index s_is_index (by kernel_rfl) c_is_index g_is_index (F_is_index.bindsN fun _ _ _ _ _ _ us hl => match us, hl with | [_, _], _ => rfl) (no_kw (by kernel_rfl)) hcs hbl hfs
  have D_is_rising : Def P pw w K mg base kws "is_rising" (.code 2 4 b_is_rising) _ fd_is_rising ["value", "many"] := def_code F_is_rising s_is_rising (by kernel_rfl) c_is_rising g_is_rising (F_is_rising.bindsN fun _ _ _ _ _ _ us hl => match us, hl with | [_, _], _ => rfl) (no_kw (by kernel_rfl)) hcs hbl hfs
  have D_is_worth : Def P pw w K mg base kws "is_worth" (.code 1 1 b_is_worth) _ fd_is_worth ["value"] := def_code F_is_worth s_is_worth (by kernel_rfl) c_is_worth g_is_worth (F_is_worth.bindsN fun _ _ _ _ _ _ us hl => match us, hl with | [_], _ => rfl) (no_kw (by kernel_rfl)) hcs hbl hfs
  have D_is_head : Def P pw w K mg base kws "is_head" (.code 1 2 b_is_head) _ fd_is_head ["value"] := def_code F_is_head s_is_head (by kernel_rfl) c_is_head g_is_head (F_is_head.bindsN fun _ _ _ _ _ _ us hl => match us, hl with | [_], _ => rfl) (no_kw (by kernel_rfl)) hcs hbl hfs
  have D_parts_of : Def P pw w K mg base kws "parts_of" (.code 1 1 b_parts_of) _ fd_parts_of ["value"] := def_code F_parts_of s_parts_of (by kernel_rfl) c_parts_of g_parts_of (F_parts_of.bindsN fun _ _ _ _ _ _ us hl => match us, hl with | [_], _ => rfl) (no_kw (by kernel_rfl)) hcs hbl hfs
  have D_branches : Def P pw w K mg base kws "branches" (.code 1 3 b_branches) _ fd_branches ["rule"] := def_code F_branches s_branches (by kernel_rfl) c_branches g_branches (F_branches.bindsN fun _ _ _ _ _ _ us hl => match us, hl with | [_], _ => rfl) (no_kw (by kernel_rfl)) hcs hbl hfs
  have D_made : Def P pw w K mg base kws "made" (.code 2 2 b_made) _ fd_made ["rule", "values"] := def_code F_made s_made (by kernel_rfl) c_made g_made (F_made.bindsN fun _ _ _ _ _ _ us hl => match us, hl with | [_, _], _ => rfl) (no_kw (by kernel_rfl)) hcs hbl hfs
  have D_told_by : Def P pw w K mg base kws "told_by" (.code 3 6 b_told_by) _ fd_told_by ["rule", "heard", "at"] := def_code F_told_by s_told_by (by kernel_rfl) c_told_by g_told_by (F_told_by.bindsN fun _ _ _ _ _ _ us hl => match us, hl with | [_, _, _], _ => rfl) (no_kw (by kernel_rfl)) hcs hbl hfs
  have D_told : Def P pw w K mg base kws "told" (.code 2 2 b_told) _ fd_told ["rule", "heard"] := def_code F_told s_told (by kernel_rfl) c_told g_told (F_told.bindsN fun _ _ _ _ _ _ us hl => match us, hl with | [_, _], _ => rfl) (no_kw (by kernel_rfl)) hcs hbl hfs
  have D_is_state : Def P pw w K mg base kws "is_state" (.code 2 4 b_is_state) _ fd_is_state ["net", "value"] := def_code F_is_state s_is_state (by kernel_rfl) c_is_state g_is_state (F_is_state.bindsN fun _ _ _ _ _ _ us hl => match us, hl with | [_, _], _ => rfl) (no_kw (by kernel_rfl)) hcs hbl hfs
  have D_wanted : Def P pw w K mg base kws "wanted" (.code 3 3 b_wanted) _ fd_wanted ["net", "house", "heard"] := def_code F_wanted s_wanted (by kernel_rfl) c_wanted g_wanted (F_wanted.bindsN fun _ _ _ _ _ _ us hl => match us, hl with | [_, _, _], _ => rfl) (no_kw (by kernel_rfl)) hcs hbl hfs
  have D_is_past : Def P pw w K mg base kws "is_past" (.code 3 4 b_is_past) _ fd_is_past ["net", "d", "value"] := def_code F_is_past s_is_past (by kernel_rfl) c_is_past g_is_past (F_is_past.bindsN fun _ _ _ _ _ _ us hl => match us, hl with | [_, _, _], _ => rfl) (no_kw (by kernel_rfl)) hcs hbl hfs
  have D_is_house_lateness : Def P pw w K mg base kws "is_house_lateness" (.code 3 4 b_is_house_lateness) _ fd_is_house_lateness ["rule", "d", "value"] := def_code F_is_house_lateness s_is_house_lateness (by kernel_rfl) c_is_house_lateness g_is_house_lateness (F_is_house_lateness.bindsN fun _ _ _ _ _ _ us hl => match us, hl with | [_, _, _], _ => rfl) (no_kw (by kernel_rfl)) hcs hbl hfs
  have D_is_lateness : Def P pw w K mg base kws "is_lateness" (.code 3 5 b_is_lateness) _ fd_is_lateness ["net", "d", "value"] := def_code F_is_lateness s_is_lateness (by kernel_rfl) c_is_lateness g_is_lateness (F_is_lateness.bindsN fun _ _ _ _ _ _ us hl => match us, hl with | [_, _, _], _ => rfl) (no_kw (by kernel_rfl)) hcs hbl hfs
  have D_shows_next : Def P pw w K mg base kws "shows_next" (.code 3 9 b_shows_next) _ fd_shows_next ["net", "past", "lateness"] := def_code F_shows_next s_shows_next (by kernel_rfl) c_shows_next g_shows_next (F_shows_next.bindsN fun _ _ _ _ _ _ us hl => match us, hl with | [_, _, _], _ => rfl) (no_kw (by kernel_rfl)) hcs hbl hfs
  have D_is_beat : Def P pw w K mg base kws "is_beat" (.code 3 3 b_is_beat) _ fd_is_beat ["net", "d", "value"] := def_code F_is_beat s_is_beat (by kernel_rfl) c_is_beat g_is_beat (F_is_beat.bindsN fun _ _ _ _ _ _ us hl => match us, hl with | [_, _, _], _ => rfl) (no_kw (by kernel_rfl)) hcs hbl hfs
  have D_moves_of : Def P pw w K mg base kws "moves_of" (.code 2 4 b_moves_of) _ fd_moves_of ["beats", "house"] := def_code F_moves_of s_moves_of (by kernel_rfl) c_moves_of g_moves_of (F_moves_of.bindsN fun _ _ _ _ _ _ us hl => match us, hl with | [_, _], _ => rfl) (no_kw (by kernel_rfl)) hcs hbl hfs
  have D_is_moving : Def P pw w K mg base kws "is_moving" (.code 3 5 b_is_moving) _ fd_is_moving ["beats", "e", "moves"] := def_code F_is_moving s_is_moving (by kernel_rfl) c_is_moving g_is_moving (F_is_moving.bindsN fun _ _ _ _ _ _ us hl => match us, hl with | [_, _, _], _ => rfl) (no_kw (by kernel_rfl)) hcs hbl hfs
  have D_is_newer : Def P pw w K mg base kws "is_newer" (.code 3 9 b_is_newer) _ fd_is_newer ["beats", "house", "moves"] := def_code F_is_newer s_is_newer (by kernel_rfl) c_is_newer g_is_newer (F_is_newer.bindsN fun _ _ _ _ _ _ us hl => match us, hl with | [_, _, _], _ => rfl) (no_kw (by kernel_rfl)) hcs hbl hfs
  have D_is_stopped_run : Def P pw w K mg base kws "is_stopped_run" (.code 4 8 b_is_stopped_run) _ fd_is_stopped_run ["net", "d", "e", "value"] := def_code F_is_stopped_run s_is_stopped_run (by kernel_rfl) c_is_stopped_run g_is_stopped_run (F_is_stopped_run.bindsN fun _ _ _ _ _ _ us hl => match us, hl with | [_, _, _, _], _ => rfl) (one_kw (ks := ["value", "e", "d", "net"]) (perm := [3, 2, 1, 0]) (by kernel_rfl) (kw_of F_is_stopped_run fun _ _ _ _ _ _ ws hl => match ws, hl with | [_, _, _, _], _ => rfl)) hcs hbl hfs
  have D_stopped_shown : Def P pw w K mg base kws "stopped_shown" (.code 3 10 b_stopped_shown) _ fd_stopped_shown ["net", "d", "run"] := def_code F_stopped_shown s_stopped_shown (by kernel_rfl) c_stopped_shown g_stopped_shown (F_stopped_shown.bindsN fun _ _ _ _ _ _ us hl => match us, hl with | [_, _, _], _ => rfl) (one_kw (ks := ["run", "d", "net"]) (perm := [2, 1, 0]) (by kernel_rfl) (kw_of F_stopped_shown fun _ _ _ _ _ _ ws hl => match ws, hl with | [_, _, _], _ => rfl)) hcs hbl hfs
  have D__law_draw : Def P pw w K mg base kws "_law_draw" (.code 2 5 b__law_draw) _ fd__law_draw ["_law_script", "_law_salt"] := def_code F__law_draw s__law_draw (by kernel_rfl) c__law_draw g__law_draw (F__law_draw.bindsN fun _ _ _ _ _ _ us hl => match us, hl with | [_, _], _ => rfl) (no_kw (by kernel_rfl)) hcs hbl hfs
  have D__law_any : Def P pw w K mg base kws "_law_any" (.prim 2 anyP) _ fd__law_any ["_law_deal", "_law_bound"] := def_any F__law_any (by kernel_rfl) g__law_any (F__law_any.bindsN fun _ _ _ _ _ _ us hl => match us, hl with | [_, _], _ => rfl) (no_kw (by kernel_rfl)) rfl (any_fn F__law_any s__law_any (He.free_ok X G (c.fact 43 (f := .free "int") rfl)) rfl ⟨rfl, rfl, rfl, rfl, rfl, rfl, rfl, rfl⟩ (by kernel_rfl) (by kernel_rfl) (by kernel_rfl) (by kernel_rfl) (by kernel_rfl) (by kernel_rfl))
  have D__law_of : Def P pw w K mg base kws "_law_of" (.code 2 2 b__law_of) _ fd__law_of ["_law_deal", "_law_some"] := def_code F__law_of s__law_of (by kernel_rfl) c__law_of g__law_of (F__law_of.bindsN fun _ _ _ _ _ _ us hl => match us, hl with | [_, _], _ => rfl) (no_kw (by kernel_rfl)) hcs hbl hfs
  have D__law_rule : Def P pw w K mg base kws "_law_rule" (.code 5 11 b__law_rule) _ fd__law_rule ["_law_deal", "_law_n", "_law_top", "_law_deep", "_law_any_row"] := def_code F__law_rule s__law_rule (by kernel_rfl) c__law_rule g__law_rule (F__law_rule.bindsN fun _ _ _ _ _ _ us hl => match us, hl with | [_, _, _, _, _], _ => rfl) (no_kw (by kernel_rfl)) hcs hbl hfs
  have D__law_net : Def P pw w K mg base kws "_law_net" (.code 4 7 b__law_net) _ fd__law_net ["_law_deal", "_law_most", "_law_top", "_law_any_row"] := def_code F__law_net s__law_net (by kernel_rfl) c__law_net g__law_net (F__law_net.bindsN fun _ _ _ _ _ _ us hl => match us, hl with | [_, _, _, _], _ => rfl) (no_kw (by kernel_rfl)) hcs hbl hfs
  have D__law_parts : Def P pw w K mg base kws "_law_parts" (.code 1 1 b__law_parts) _ fd__law_parts ["_law_rule_here"] := def_code F__law_parts s__law_parts (by kernel_rfl) c__law_parts g__law_parts (F__law_parts.bindsN fun _ _ _ _ _ _ us hl => match us, hl with | [_], _ => rfl) (no_kw (by kernel_rfl)) hcs hbl hfs
  have D__law_branches : Def P pw w K mg base kws "_law_branches" (.code 1 3 b__law_branches) _ fd__law_branches ["_law_rule_here"] := def_code F__law_branches s__law_branches (by kernel_rfl) c__law_branches g__law_branches (F__law_branches.bindsN fun _ _ _ _ _ _ us hl => match us, hl with | [_], _ => rfl) (no_kw (by kernel_rfl)) hcs hbl hfs
  have D__law_made : Def P pw w K mg base kws "_law_made" (.code 2 4 b__law_made) _ fd__law_made ["_law_rule_here", "_law_some"] := def_code F__law_made s__law_made (by kernel_rfl) c__law_made g__law_made (F__law_made.bindsN fun _ _ _ _ _ _ us hl => match us, hl with | [_, _], _ => rfl) (no_kw (by kernel_rfl)) hcs hbl hfs
  have D__law_told : Def P pw w K mg base kws "_law_told" (.code 2 6 b__law_told) _ fd__law_told ["_law_rule_here", "_law_heard"] := def_code F__law_told s__law_told (by kernel_rfl) c__law_told g__law_told (F__law_told.bindsN fun _ _ _ _ _ _ us hl => match us, hl with | [_, _], _ => rfl) (no_kw (by kernel_rfl)) hcs hbl hfs
  have D__law_wants : Def P pw w K mg base kws "_law_wants" (.code 3 3 b__law_wants) _ fd__law_wants ["_law_net_here", "_law_house", "_law_heard"] := def_code F__law_wants s__law_wants (by kernel_rfl) c__law_wants g__law_wants (F__law_wants.bindsN fun _ _ _ _ _ _ us hl => match us, hl with | [_, _, _], _ => rfl) (no_kw (by kernel_rfl)) hcs hbl hfs
  have D__law_past : Def P pw w K mg base kws "_law_past" (.code 3 5 b__law_past) _ fd__law_past ["_law_deal", "_law_net_here", "_law_d"] := def_code F__law_past s__law_past (by kernel_rfl) c__law_past g__law_past (F__law_past.bindsN fun _ _ _ _ _ _ us hl => match us, hl with | [_, _, _], _ => rfl) (no_kw (by kernel_rfl)) hcs hbl hfs
  have D__law_hears : Def P pw w K mg base kws "_law_hears" (.code 4 7 b__law_hears) _ fd__law_hears ["_law_net_here", "_law_states", "_law_house", "_law_row"] := def_code F__law_hears s__law_hears (by kernel_rfl) c__law_hears g__law_hears (F__law_hears.bindsN fun _ _ _ _ _ _ us hl => match us, hl with | [_, _, _, _], _ => rfl) (no_kw (by kernel_rfl)) hcs hbl hfs
  have D__law_stopped : Def P pw w K mg base kws "_law_stopped" (.code 5 19 b__law_stopped) _ fd__law_stopped ["_law_deal", "_law_net_here", "_law_d", "_law_e", "_law_beats"] := def_code F__law_stopped s__law_stopped (by kernel_rfl) c__law_stopped g__law_stopped (F__law_stopped.bindsN fun _ _ _ _ _ _ us hl => match us, hl with | [_, _, _, _, _], _ => rfl) (no_kw (by kernel_rfl)) hcs hbl hfs
  have D__law_spoilt : Def P pw w K mg base kws "_law_spoilt" (.code 5 19 b__law_spoilt) _ fd__law_spoilt ["_law_deal", "_law_net_here", "_law_d", "_law_e", "_law_run"] := def_code F__law_spoilt s__law_spoilt (by kernel_rfl) c__law_spoilt g__law_spoilt (F__law_spoilt.bindsN fun _ _ _ _ _ _ us hl => match us, hl with | [_, _, _, _, _], _ => rfl) (no_kw (by kernel_rfl)) hcs hbl hfs
  have all : AllDefs P pw w K mg base kws P := ⟨⟨_, _, _, D_is_integer⟩, ⟨⟨_, _, _, D_is_number⟩, ⟨⟨_, _, _, D_is_index⟩, ⟨⟨_, _, _, D_is_rising⟩, ⟨⟨_, _, _, D_is_worth⟩, ⟨⟨_, _, _, D_is_head⟩, ⟨⟨_, _, _, D_parts_of⟩, ⟨⟨_, _, _, D_branches⟩, ⟨⟨_, _, _, D_made⟩, ⟨⟨_, _, _, D_told_by⟩, ⟨⟨_, _, _, D_told⟩, ⟨⟨_, _, _, D_is_state⟩, ⟨⟨_, _, _, D_wanted⟩, ⟨⟨_, _, _, D_is_past⟩, ⟨⟨_, _, _, D_is_house_lateness⟩, ⟨⟨_, _, _, D_is_lateness⟩, ⟨⟨_, _, _, D_shows_next⟩, ⟨⟨_, _, _, D_is_beat⟩, ⟨⟨_, _, _, D_moves_of⟩, ⟨⟨_, _, _, D_is_moving⟩, ⟨⟨_, _, _, D_is_newer⟩, ⟨⟨_, _, _, D_is_stopped_run⟩, ⟨⟨_, _, _, D_stopped_shown⟩, ⟨⟨_, _, _, D__law_draw⟩, ⟨⟨_, _, _, D__law_any⟩, ⟨⟨_, _, _, D__law_of⟩, ⟨⟨_, _, _, D__law_rule⟩, ⟨⟨_, _, _, D__law_net⟩, ⟨⟨_, _, _, D__law_parts⟩, ⟨⟨_, _, _, D__law_branches⟩, ⟨⟨_, _, _, D__law_made⟩, ⟨⟨_, _, _, D__law_told⟩, ⟨⟨_, _, _, D__law_wants⟩, ⟨⟨_, _, _, D__law_past⟩, ⟨⟨_, _, _, D__law_hears⟩, ⟨⟨_, _, _, D__law_stopped⟩, ⟨⟨_, _, _, D__law_spoilt⟩, trivial⟩⟩⟩⟩⟩⟩⟩⟩⟩⟩⟩⟩⟩⟩⟩⟩⟩⟩⟩⟩⟩⟩⟩⟩⟩⟩⟩⟩⟩⟩⟩⟩⟩⟩⟩⟩⟩
  exact law_fn F_law s_law (by decide) rfl rfl rfl (all.fns 80) hcs hbl hfs (hb := rfl) rfl (by kernel_rfl) c_law rn
end K52
section
open PySem PySem.W PySem.Calls PyProof.Rows
theorem K52.holds_of (rn : L2.NB.Runs K52.P 80 K52.N_law.length 52 K52.b_law) : PySem.Challenge.rw_newsbehind_k52_stopped_runs.Holds := by
  w_on; o_law
  refine HandSHeadRun.head_any (r := OpenLaw.row PySem.Challenge.rw_newsbehind_k52_stopped_runs) (q := view (OpenLaw.row PySem.Challenge.rw_newsbehind_k52_stopped_runs).prog [K52.i_law]) (H := K52.hk) (ob := K52.ob) (M := 4000) (loose := K52.loose) (d := HandSHeadRun.topDef (OpenLaw.row PySem.Challenge.rw_newsbehind_k52_stopped_runs).prog K52.i_law) (kwd := []) K52.ob_eq
    (by kernel_rfl) (fun s => by kernel_rfl) K52.run (by kernel_rfl) (by kernel_rfl) (by kernel_rfl) (by rfl) (by first | assumption | decide +kernel) (by decide +kernel) ⟨rfl, rfl, rfl, rfl, rfl, by decide +kernel⟩ ?hw ?hc
  case hw => w_witness2
  case hc =>
    refine L2.NB.law_end (l := PySem.Challenge.rw_newsbehind_k52_stopped_runs) (n := 81) (x := "_law_script") rfl (by kernel_rfl) ⟨rfl, by decide, by decide⟩ ?F
    intro w mg fa h Y G hmg0
    obtain ⟨K, KX, c⟩ := Y
    have hmg : mg ("law" : PySem.Str) = some (.ref fa) := by
      have e : (HandSHeadRun.topDef (OpenLaw.row PySem.Challenge.rw_newsbehind_k52_stopped_runs).prog K52.i_law).name = ("law" : PySem.Str) := by kernel_rfl
      rw [← e]
      exact hmg0
    obtain ⟨fd, hb, hF⟩ := K52.facts (pw := (PySem.Challenge.rw_newsbehind_k52_stopped_runs).prog) (w := w) KX G hmg c rn
    exact ⟨K, fd, KX, hb, hF⟩
end
set_option Elab.async false
set_option linter.all false
set_option maxRecDepth 100000
set_option maxHeartbeats 8000000
namespace K52
open PySem PySem.Spec PyProof.Rows L2 L2.NB
theorem f_is_integer : P.fn "is_integer" = some (.code 1 1 b_is_integer) := by kernel_rfl
theorem f_is_number : P.fn "is_number" = some (.code 1 1 b_is_number) := by kernel_rfl
theorem f_is_index : P.fn "is_index" = some (.code 2 2 b_is_index) := by kernel_rfl
theorem f_is_worth : P.fn "is_worth" = some (.code 1 1 b_is_worth) := by kernel_rfl
theorem f_is_head : P.fn "is_head" = some (.code 1 2 b_is_head) := by kernel_rfl
theorem f_parts_of : P.fn "parts_of" = some (.code 1 1 b_parts_of) := by kernel_rfl
theorem f_made : P.fn "made" = some (.code 2 2 b_made) := by kernel_rfl
theorem f__law_any : P.fn "_law_any" = some (.prim 2 anyP) := by kernel_rfl
theorem f__law_of : P.fn "_law_of" = some (.code 2 2 b__law_of) := by kernel_rfl
theorem f__law_rule : P.fn "_law_rule" = some (.code 5 11 b__law_rule) := by kernel_rfl
theorem f__law_parts : P.fn "_law_parts" = some (.code 1 1 b__law_parts) := by kernel_rfl
theorem f__law_branches : P.fn "_law_branches" = some (.code 1 3 b__law_branches) := by kernel_rfl
theorem f__law_made : P.fn "_law_made" = some (.code 2 4 b__law_made) := by kernel_rfl
theorem f__law_told : P.fn "_law_told" = some (.code 2 6 b__law_told) := by kernel_rfl
theorem f__law_draw : P.fn "_law_draw" = some (.code 2 5 b__law_draw) := by kernel_rfl

/-! ### the trees -/
inductive Rl where
  | is (v : Int) | hear (h : Int) | nary (w : Nat) (ps : List Rl) | mid (a b c : Rl)
  | times (k : Int) (r : Rl) | part (k : Int) (r : Rl) | clip (a b : Int) (r : Rl) | frm (k : Int) (r : Rl) | bar (a b c : Int) (r : Rl) | row (l : List Int) (r : Rl)
def word : Nat → Str
  | 0 => "least"
  | 1 => "most"
  | _ => "add"
mutual
def toD : Rl → PyData
  | .is v => .tuple [.str "is", .int v]
  | .hear h => .tuple [.str "hear", .int h]
  | .nary w ps => .tuple [.str (word w), .tuple (toDL ps)]
  | .mid a b c => .tuple [.str "middle", toD a, toD b, toD c]
  | .times k r => .tuple [.str "times", .int k, toD r]
  | .part k r => .tuple [.str "part", .int k, toD r]
  | .clip a b r => .tuple [.str "clip", .int a, .int b, toD r]
  | .frm k r => .tuple [.str "from", .int k, toD r]
  | .bar a b c r => .tuple [.str "bar", .int a, .int b, .int c, toD r]
  | .row l r => .tuple [.str "row", .tuple (l.map .int), toD r]
def toDL : List Rl → List PyData
  | [] => []
  | r :: l => toD r :: toDL l
end
theorem toDL_map : ∀ l : List Rl, toDL l = l.map toD
  | [] => rfl
  | r :: l => by rw [toDL, toDL_map l]; rfl
def parts : Rl → List Rl
  | .is _ => []
  | .hear _ => []
  | .nary _ ps => ps
  | .mid a b c => [a, b, c]
  | .times _ r => [r]
  | .part _ r => [r]
  | .clip _ _ r => [r]
  | .frm _ r => [r]
  | .bar _ _ _ r => [r]
  | .row _ r => [r]
abbrev Wo (v : Int) : Prop := 0 ≤ v ∧ v < 1001
def Hd : Rl → Prop
  | .is v => Wo v
  | .hear h => Wo h
  | .nary w ps => w < 3 ∧ ps ≠ [] ∧ ps.length ≤ 60
  | .mid _ _ _ => True
  | .times k _ => Wo k
  | .part k _ => 0 < k ∧ k < 1001
  | .clip a b _ => Wo a ∧ Wo b ∧ a ≤ b
  | .frm k _ => Wo k
  | .bar a b c _ => Wo a ∧ Wo b ∧ Wo c
  | .row l _ => 1 ≤ l.length ∧ l.length ≤ 64 ∧ ∀ x ∈ l, Wo x
/-- well formed, at most n deep -/
def Wf : Nat → Rl → Prop
  | 0, _ => False
  | n + 1, r => Hd r ∧ ∀ p ∈ parts r, Wf n p
theorem sl2 : (2 : Nat) ≤ sizeLine := by decide
theorem sz {n : Nat} (h : n ≤ 1000) : n ≤ sizeLine := Nat.le_trans h (by decide)

/-! ### small defs -/
def isIntD : PyData → Bool
  | .int _ => true
  | _ => false
theorem p_is_integer {m : Nat} (hm : 1 ≤ m) {x : PyData} (h : noDict x = true) {s : S} : callN P m "is_integer" [.d x] s = .ok (.bool (isIntD x)) s := by
  obtain ⟨m, rfl⟩ : ∃ k, m = k + 1 := ⟨m - 1, by omega⟩
  rw [call_run f_is_integer rfl]
  cases x <;> simp [b_is_integer, NB.start, AV.slot, getT, isiD, noDict, tyD, isIntD] at h ⊢
theorem p_is_number {m : Nat} (hm : 2 ≤ m) {x : PyData} (h : noDict x = true) {s : S} : callN P m "is_number" [.d x] s = .ok (.bool (match x with | .int i => decide (0 ≤ i) | _ => false)) s := by
  obtain ⟨m, rfl⟩ : ∃ k, m = k + 1 := ⟨m - 1, by omega⟩
  rw [call_run f_is_number rfl]
  simp [b_is_number, NB.start, AV.slot, getT, getV, p_is_integer (show 1 ≤ m by omega) h]
  cases x <;> simp [isIntD]
theorem p_is_index {m : Nat} (hm : 3 ≤ m) {x : PyData} {b : Int} (h : noDict x = true) {s : S} : callN P m "is_index" [.d x, .d (.int b)] s = .ok (.bool (match x with | .int i => decide (0 ≤ i) && decide (i < b) | _ => false)) s := by
  obtain ⟨m, rfl⟩ : ∃ k, m = k + 1 := ⟨m - 1, by omega⟩
  rw [call_run f_is_index rfl]
  cases x with
  | int i => by_cases h0 : 0 ≤ i <;> simp [b_is_index, NB.start, AV.slot, getT, getV, p_is_number (show 2 ≤ m by omega) h, h0]
  | _ => simp [b_is_index, NB.start, AV.slot, getT, getV, p_is_number (show 2 ≤ m by omega) h]
theorem p_is_worth {m : Nat} (hm : 4 ≤ m) {x : PyData} (h : noDict x = true) {s : S} : callN P m "is_worth" [.d x] s = .ok (.bool (match x with | .int i => decide (0 ≤ i) && decide (i < 1001) | _ => false)) s := by
  obtain ⟨m, rfl⟩ : ∃ k, m = k + 1 := ⟨m - 1, by omega⟩
  rw [call_run f_is_worth rfl]
  simp [b_is_worth, NB.start, AV.slot, getT, getV, p_is_index (show 3 ≤ m by omega) h]
theorem p_worth {m : Nat} (hm : 4 ≤ m) {i : Int} (h : Wo i) {s : S} : callN P m "is_worth" [.d (.int i)] s = .ok (.bool true) s := by
  rw [p_is_worth hm rfl]
  simp [h.1, h.2]
theorem noDict_toD (r : Rl) : noDict (toD r) = true := by cases r <;> simp [toD, noDict]
theorem at0 {x : PyData} {l : List PyData} : atD (x :: l) 0 = some x := atD_zero x l
theorem at1 {x y : PyData} {l : List PyData} : atD (x :: y :: l) 1 = some y := by simpa using atD_at (x :: y :: l) 1
theorem at2 {x y z : PyData} {l : List PyData} : atD (x :: y :: z :: l) 2 = some z := by simpa using atD_at (x :: y :: z :: l) 2
theorem at3 {x y z u : PyData} {l : List PyData} : atD (x :: y :: z :: u :: l) 3 = some u := by simpa using atD_at (x :: y :: z :: u :: l) 3
theorem memT3 {x a b c : Str} : cmpD .mem (.str x) (.tuple [.str a, .str b, .str c]) = some (a == x || (b == x || c == x)) := by
  have e : cmpD .mem (.str x) (.tuple [.str a, .str b, .str c]) = memD (.str x) (.tuple [.str a, .str b, .str c]) := rfl
  rw [e]
  simp [memD, flatD, PyData.eqv, Bool.or_assoc]
@[simp] theorem isiT {l : List PyData} {ts : List Ty} : isiD ts (.tuple l) = some (ts.any fun t => tyD t (.tuple l)) := rfl
@[simp] theorem isiS {l : Str} {ts : List Ty} : isiD ts (.str l) = some (ts.any fun t => tyD t (.str l)) := rfl
theorem word_cases (w : Nat) (h : w < 3) : word w = "least" ∨ word w = "most" ∨ word w = "add" := by
  match w, h with
  | 0, _ => exact .inl rfl
  | 1, _ => exact .inr (.inl rfl)
  | 2, _ => exact .inr (.inr rfl)
theorem cut1 {x y z u : PyData} : cutD [x, y, z, u] (some 1) none = [y, z, u] := rfl
theorem cutm3 {x y z : PyData} : cutD [x, y, z] (some (-1)) none = [z] := rfl
theorem cutm4 {x y z u : PyData} : cutD [x, y, z, u] (some (-1)) none = [u] := rfl
theorem cutm5 {x y z u w : PyData} : cutD [x, y, z, u, w] (some (-1)) none = [w] := rfl
def isOne : Rl → Bool
  | .is _ => false
  | .hear _ => false
  | .nary _ _ => false
  | .mid _ _ _ => false
  | _ => true
theorem bools_true : ∀ xs : List Int, boolsOf (xs.map ((fun _ => PyData.bool true) ∘ PyData.int)) = some (xs.map fun _ => true)
  | [] => rfl
  | x :: xs => by rw [List.map_cons]; show (boolsOf (xs.map _)).map (true :: ·) = _; rw [bools_true xs]; rfl
theorem p_head {m : Nat} (hm : 5 ≤ m) {r : Rl} (h : Hd r) (h2 : isOne r = true) {s : S} : callN P m "is_head" [.d (toD r)] s = .ok (.bool true) s := by
  obtain ⟨m, rfl⟩ : ∃ k, m = k + 1 := ⟨m - 1, by omega⟩
  rw [call_run f_is_head rfl]
  cases r with
  | is v => cases h2
  | hear v => cases h2
  | nary w ps => cases h2
  | mid a b c => cases h2
  | times k r => simp (decide := true) [toD, b_is_head, NB.start, AV.slot, getT, getV, at0, at1, p_worth (show 4 ≤ m by omega) h]
  | part k r => simp (decide := true) [toD, b_is_head, NB.start, AV.slot, getT, getV, at0, at1, p_worth (show 4 ≤ m by omega) (show Wo k from ⟨by have := h.1; omega, h.2⟩), h.1]
  | clip a b r => simp (decide := true) [toD, b_is_head, NB.start, AV.slot, getT, getV, at0, at1, at2, p_worth (show 4 ≤ m by omega) h.1, p_worth (show 4 ≤ m by omega) h.2.1, h.2.2]
  | frm k r => simp (decide := true) [toD, b_is_head, NB.start, AV.slot, getT, getV, at0, at1, p_worth (show 4 ≤ m by omega) h]
  | bar a b c r => simp (decide := true) [toD, b_is_head, NB.start, AV.slot, getT, getV, at0, at1, at2, at3, p_worth (show 4 ≤ m by omega) h.1, p_worth (show 4 ≤ m by omega) h.2.1, p_worth (show 4 ≤ m by omega) h.2.2]
  | row l r =>
    have hl1 : 1 ≤ l.length := h.1
    have hl2 : l.length ≤ 64 := h.2.1
    have lp := lc_map (i := 1) (f := ev (callN P m) (.call "is_worth" [.var 1])) (v := [.val (.tuple [.str "row", .tuple (l.map .int), toD r]), .non]) (s := s) (fun _ => .bool true) (by simp) (xs := l.map .int) (acc := []) (fun x hx => by
      obtain ⟨y, hy, rfl⟩ := List.mem_map.mp hx
      simp [getV, p_worth (show 4 ≤ m by omega) (h.2.2 y hy)]) (by simp; exact sz (by omega))
    have h0 : l ≠ [] := fun z => by subst z; simp at hl1
    have hz1 : (1 : Int) ≤ l.length := by omega
    have hz2 : (l.length : Int) ≤ 64 := by omega
    simp (decide := true) [toD, b_is_head, NB.start, AV.slot, getT, getV, at0, at1, tyD, hl1, hl2, hz1, hz2, lp, bools_true]
theorem p_parts {m : Nat} (hm : 6 ≤ m) {r : Rl} (h : Hd r) {s : S} : callN P m "parts_of" [.d (toD r)] s = .ok (.tuple (toDL (parts r))) s := by
  obtain ⟨m, rfl⟩ : ∃ k, m = k + 1 := ⟨m - 1, by omega⟩
  have ph := fun h2 s => p_head (s := s) (show 5 ≤ m by omega) h h2
  rw [call_run f_parts_of rfl]
  cases r with
  | is v => simp (decide := true) [toD, toDL, parts, b_parts_of, NB.start, AV.slot, getT, getV, at0, at1, tyD, p_worth (show 4 ≤ m by omega) h, sz]
  | hear v => simp (decide := true) [toD, toDL, parts, b_parts_of, NB.start, AV.slot, getT, getV, at0, at1, tyD, p_worth (show 4 ≤ m by omega) h, sz]
  | nary w ps =>
    have h0 : 0 < (toDL ps).length := by
      rw [toDL_map, List.length_map]
      exact List.length_pos_iff.mpr h.2.1
    rcases word_cases w h.1 with e | e | e <;> simp (decide := true) [toD, toDL, parts, b_parts_of, NB.start, AV.slot, getT, getV, at0, at1, tyD, sz, e, memT3, h0]
  | mid a b c => simp (decide := true) [toD, toDL, parts, b_parts_of, NB.start, AV.slot, getT, getV, at0, at1, tyD, sz, memT3, cut1]
  | times k r =>
    have q := ph rfl s
    rw [toD] at q
    simp (decide := true) [toD, toDL, parts, b_parts_of, NB.start, AV.slot, getT, getV, at0, at1, tyD, sz, memT3, cutm3, q]
  | part k r =>
    have q := ph rfl s
    rw [toD] at q
    simp (decide := true) [toD, toDL, parts, b_parts_of, NB.start, AV.slot, getT, getV, at0, at1, tyD, sz, memT3, cutm3, q]
  | clip a b r =>
    have q := ph rfl s
    rw [toD] at q
    simp (decide := true) [toD, toDL, parts, b_parts_of, NB.start, AV.slot, getT, getV, at0, at1, tyD, sz, memT3, cutm4, q]
  | frm k r =>
    have q := ph rfl s
    rw [toD] at q
    simp (decide := true) [toD, toDL, parts, b_parts_of, NB.start, AV.slot, getT, getV, at0, at1, tyD, sz, memT3, cutm3, q]
  | bar a b c r =>
    have q := ph rfl s
    rw [toD] at q
    simp (decide := true) [toD, toDL, parts, b_parts_of, NB.start, AV.slot, getT, getV, at0, at1, tyD, sz, memT3, cutm5, q]
  | row l r =>
    have q := ph rfl s
    rw [toD] at q
    simp (decide := true) [toD, toDL, parts, b_parts_of, NB.start, AV.slot, getT, getV, at0, at1, tyD, sz, memT3, cutm3, q]
def hw : Rl → Str
  | .is _ => "is"
  | .hear _ => "hear"
  | .nary w _ => word w
  | .mid _ _ _ => "middle"
  | .times _ _ => "times"
  | .part _ _ => "part"
  | .clip _ _ _ => "clip"
  | .frm _ _ => "from"
  | .bar _ _ _ _ => "bar"
  | .row _ _ => "row"
def tlD : Rl → List PyData
  | .is v => [.int v]
  | .hear h => [.int h]
  | .nary _ ps => [.tuple (toDL ps)]
  | .mid a b c => [toD a, toD b, toD c]
  | .times k r => [.int k, toD r]
  | .part k r => [.int k, toD r]
  | .clip a b r => [.int a, .int b, toD r]
  | .frm k r => [.int k, toD r]
  | .bar a b c r => [.int a, .int b, .int c, toD r]
  | .row l r => [.tuple (l.map .int), toD r]
theorem toD_eq (r : Rl) : toD r = .tuple (.str (hw r) :: tlD r) := by cases r <;> simp [toD, hw, tlD]
def isH : Rl → Bool
  | .hear _ => true
  | _ => false
theorem word_ne (w : Nat) : (word w == ("hear" : Str)) = false ∧ (word w == ("is" : Str)) = false ∧ (word w == ("middle" : Str)) = false := by
  unfold word
  split <;> decide
theorem hw_hear (r : Rl) : (hw r == ("hear" : Str)) = isH r := by
  cases r with
  | nary w ps => exact (word_ne w).1
  | _ => simp only [hw, isH]; decide
def cnt : Nat → Rl → Nat
  | 0, _ => 0
  | n + 1, r => 1 + ((parts r).map (cnt n)).sum
def hrs : Nat → Rl → Nat
  | 0, _ => 0
  | n + 1, r => (if isH r = true then 1 else 0) + ((parts r).map (hrs n)).sum
theorem parts_len {r : Rl} (h : Hd r) : (parts r).length ≤ 60 := by
  cases r <;> simp [parts]
  exact h.2.2
theorem map_get {l : List Rl} {k : Nat} {x : PyData} (h : (toDL l)[k]? = some x) : ∃ p, l[k]? = some p ∧ x = toD p ∧ p ∈ l := by
  rw [toDL_map, List.getElem?_map] at h
  obtain ⟨p, e1, rfl⟩ := Option.map_eq_some_iff.mp h
  exact ⟨p, e1, rfl, List.mem_of_getElem? e1⟩
theorem sum_take {f : Rl → Nat} {l : List Rl} {k : Nat} {p : Rl} (h : l[k]? = some p) : ((l.take (k + 1)).map f).sum = ((l.take k).map f).sum + f p := by
  rw [List.take_add_one, h]
  simp
/-! ### branches -/
def brs : Nat → Rl → List Int
  | 0, _ => []
  | n + 1, r => match r with
    | .hear h => [h]
    | r => ((parts r).map (brs n)).flatten
theorem brs_len : ∀ (n : Nat) (r : Rl), (brs n r).length = hrs n r
  | 0, _ => rfl
  | n + 1, r => by
    have ih : ∀ l : List Rl, ((l.map (brs n)).flatten).length = (l.map (hrs n)).sum := fun l => by
      induction l with
      | nil => rfl
      | cons p l ih => simp [brs_len n p, ih]
    cases r with
    | hear h => simp [brs, hrs, isH, parts]
    | _ => simp [brs, hrs, isH, ih]
theorem brs_one {n : Nat} {r : Rl} (h : isH r = false) : brs (n + 1) r = ((parts r).map (brs n)).flatten := by
  cases r <;> first | rfl | (cases h; done)
theorem flat_take {f : Rl → List Int} {l : List Rl} {k : Nat} {p : Rl} (h : l[k]? = some p) : ((l.take (k + 1)).map f).flatten = ((l.take k).map f).flatten ++ f p := by
  rw [List.take_add_one, h]
  simp
theorem sum_take_le {f : Rl → Nat} (l : List Rl) (k : Nat) : ((l.take k).map f).sum ≤ (l.map f).sum := by
  conv => rhs; rw [← List.take_append_drop k l]
  rw [List.map_append, List.sum_append]
  omega
theorem le_sum {f : Rl → Nat} : ∀ {l : List Rl} {p : Rl}, p ∈ l → f p ≤ (l.map f).sum
  | q :: l, p, h => by
    rw [List.map_cons, List.sum_cons]
    rcases List.mem_cons.mp h with rfl | h
    · omega
    · have := le_sum (f := f) h
      omega
def mk : Rl → List Int → Int
  | .nary 0 _, vs => (minI vs).getD 0
  | .nary 1 _, vs => (maxI vs).getD 0
  | .nary _ _, vs => vs.sum
  | .mid _ _ _, vs => (sortI vs).getD 1 0
  | .times k _, vs => k * vs.headD 0
  | .part k _, vs => (vs.headD 0).fdiv k
  | .clip a b _, vs => if b < (if a > vs.headD 0 then a else vs.headD 0) then b else (if a > vs.headD 0 then a else vs.headD 0)
  | .frm k _, vs => if k - vs.headD 0 > 0 then k - vs.headD 0 else 0
  | .bar a b c _, vs => if a ≤ vs.headD 0 then c else b
  | .row l _, vs => l.getD (if (l.length : Int) - 1 < vs.headD 0 then (l.length : Int) - 1 else vs.headD 0).toNat 0
  | _, _ => 0
theorem insD_len (x : Int) : ∀ l : List Int, (insD x l).length = l.length + 1
  | [] => rfl
  | y :: r => by
    unfold insD
    split
    · rfl
    · simp [insD_len x r]
theorem sortI_len : ∀ l : List Int, (sortI l).length = l.length
  | [] => rfl
  | x :: r => by unfold sortI; rw [insD_len, sortI_len r]; rfl
theorem len1 {vs : List Int} (h : vs.length = 1) : ∃ x, vs = [x] := by
  match vs, h with
  | [x], _ => exact ⟨x, rfl⟩
theorem len3 {vs : List Int} (h : vs.length = 3) : ∃ x y z, vs = [x, y, z] := by
  match vs, h with
  | [x, y, z], _ => exact ⟨x, y, z, rfl⟩
def Small (vs : List Int) : Prop := ∀ x ∈ vs, 0 ≤ x ∧ x.natAbs.log2 < 2000
theorem small_k {k : Int} (h : Wo k) : k.natAbs.log2 < 10 := by
  by_cases h0 : k.natAbs = 0
  · rw [h0]; decide
  · exact (Nat.log2_lt h0).mpr (by have := h.1; have := h.2; omega)
theorem min_some {vs : List Int} (h : vs ≠ []) : ∃ a, minI vs = some a := by cases vs <;> first | exact ⟨_, rfl⟩ | exact absurd rfl h
theorem max_some {vs : List Int} (h : vs ≠ []) : ∃ a, maxI vs = some a := by cases vs <;> first | exact ⟨_, rfl⟩ | exact absurd rfl h
theorem atD_nat {l : List PyData} {i : Nat} : atD l (i : Int) = l[i]? := atD_at l i
theorem p_made {m : Nat} (hm : 1 ≤ m) {r : Rl} (h : Hd r) (hp : parts r ≠ []) {vs : List Int} (hl : vs.length = (parts r).length) (hv : Small vs) {s : S} : callN P m "made" [.d (toD r), .d (.list (vs.map .int))] s = .ok (.int (mk r vs)) s := by
  obtain ⟨m, rfl⟩ : ∃ k, m = k + 1 := ⟨m - 1, by omega⟩
  rw [call_run f_made rfl]
  have hne : vs ≠ [] := fun z => by
    subst z
    exact hp (List.length_eq_zero_iff.mp hl.symm)
  cases r with
  | is v => exact absurd rfl hp
  | hear v => exact absurd rfl hp
  | nary w ps =>
    have hw3 := h.1
    match w, hw3 with
    | 0, _ =>
      obtain ⟨a, ha⟩ := min_some hne
      simp (decide := true) [b_made, NB.start, AV.slot, getT, getV, toD, word, at0, ha, mk]
    | 1, _ =>
      obtain ⟨a, ha⟩ := max_some hne
      simp (decide := true) [b_made, NB.start, AV.slot, getT, getV, toD, word, at0, ha, mk]
    | 2, _ => simp (decide := true) [b_made, NB.start, AV.slot, getT, getV, toD, word, at0, mk]
  | mid a b c =>
    obtain ⟨x, y, z, rfl⟩ := len3 (show vs.length = 3 from hl)
    obtain ⟨u, v, w, e⟩ := len3 (show (sortI [x, y, z]).length = 3 from sortI_len _)
    have hints : intsOf [PyData.int x, PyData.int y, PyData.int z] = some [x, y, z] := ints_map [x, y, z]
    simp (decide := true) [b_made, NB.start, AV.slot, getT, getV, toD, at0, at1, mk, hints, e]
  | times k r =>
    obtain ⟨x, rfl⟩ := len1 (show vs.length = 1 from hl)
    have hx := hv x (by simp)
    have hk := small_k (show Wo k from h)
    have hmul : mulOk k x = true := by unfold mulOk; simp; omega
    have e : binD .mul (.int k) (.int x) = some (.int (k * x)) := by show (if mulOk k x = true then _ else _) = _; rw [if_pos hmul]
    simp (decide := true) [b_made, NB.start, AV.slot, getT, getV, toD, at0, at1, mk, e]
  | part k r =>
    obtain ⟨x, rfl⟩ := len1 (show vs.length = 1 from hl)
    have hk := small_k (show Wo k from ⟨by have := h.1; omega, h.2⟩)
    have hk0 : k ≠ 0 := by have := h.1; omega
    have hdiv : divOk k = true := by unfold divOk; simp [hk0]; omega
    have e : binD .fdiv (.int x) (.int k) = some (.int (x.fdiv k)) := by show (if divOk k = true then _ else _) = _; rw [if_pos hdiv]
    simp (decide := true) [b_made, NB.start, AV.slot, getT, getV, toD, at0, at1, mk, e]
  | clip a b r =>
    obtain ⟨x, rfl⟩ := len1 (show vs.length = 1 from hl)
    simp (decide := true) [b_made, NB.start, AV.slot, getT, getV, toD, at0, at1, at2, mk]
  | frm k r =>
    obtain ⟨x, rfl⟩ := len1 (show vs.length = 1 from hl)
    simp (decide := true) [b_made, NB.start, AV.slot, getT, getV, toD, at0, at1, at2, mk]
  | bar a b c r =>
    obtain ⟨x, rfl⟩ := len1 (show vs.length = 1 from hl)
    by_cases hx : a ≤ x <;> simp (decide := true) [b_made, NB.start, AV.slot, getT, getV, toD, at0, at1, at2, at3, mk, hx]
  | row l r =>
    obtain ⟨x, rfl⟩ := len1 (show vs.length = 1 from hl)
    have hx := (hv x (by simp)).1
    have hl1 := h.1
    have e : ∀ j : Int, 0 ≤ j → j < l.length → atD (l.map PyData.int) j = some (.int (l.getD j.toNat 0)) := fun j h0 h1 => by
      obtain ⟨i, rfl⟩ := Int.eq_ofNat_of_zero_le h0
      rw [atD_nat, List.getElem?_map]
      have hi : i < l.length := by omega
      simp [hi]
    have e1 := e (if (l.length : Int) - 1 < x then (l.length : Int) - 1 else x) (by split <;> omega) (by split <;> omega)
    simp (decide := true) [b_made, NB.start, AV.slot, getT, getV, toD, at0, at1, at2, at3, mk, e1]
def vals (f : Rl → List Int → Int) (c : Rl → Nat) : List Rl → List Int → List Int
  | [], _ => []
  | p :: ps, hs => f p (hs.take (c p)) :: vals f c ps (hs.drop (c p))
def val : Nat → Rl → List Int → Int
  | 0, _, _ => 0
  | n + 1, r, hs => match r with
    | .is v => v
    | .hear _ => hs.headD 0
    | r => mk r (vals (val n) (hrs n) (parts r) hs)
theorem vals_len {f : Rl → List Int → Int} {c : Rl → Nat} : ∀ (ps : List Rl) (hs : List Int), (vals f c ps hs).length = ps.length
  | [], _ => rfl
  | p :: ps, hs => by simp [vals, vals_len ps]
theorem vals_take {f : Rl → List Int → Int} {c : Rl → Nat} : ∀ (ps : List Rl) (hs : List Int) (T : Nat), (ps.map c).sum ≤ T → vals f c ps (hs.take T) = vals f c ps hs
  | [], _, _, _ => rfl
  | p :: ps, hs, T, h => by
    rw [List.map_cons, List.sum_cons] at h
    unfold vals
    rw [List.take_take, Nat.min_eq_left (by omega), List.drop_take, vals_take ps _ _ (by omega)]
theorem vals_snoc {f : Rl → List Int → Int} {c : Rl → Nat} : ∀ (ps : List Rl) (hs : List Int) (p : Rl), vals f c (ps ++ [p]) hs = vals f c ps hs ++ [f p ((hs.drop (ps.map c).sum).take (c p))]
  | [], hs, p => by simp [vals]
  | q :: ps, hs, p => by
    simp [vals, vals_snoc ps, List.drop_drop]
theorem val_one {n : Nat} {r : Rl} {hs : List Int} (h : parts r ≠ []) : val (n + 1) r hs = mk r (vals (val n) (hrs n) (parts r) hs) := by
  cases r <;> first | rfl | exact absurd rfl h
/-! bounds -/
def Bd (n : Nat) : Nat := 2 ^ (16 * n + 12)
theorem bd_pos (n : Nat) : 1001 < Bd n := Nat.lt_of_lt_of_le (show 1001 < 2 ^ 12 by decide) (Nat.pow_le_pow_right (by decide) (by omega))
theorem bd_succ (n : Nat) : 65536 * Bd n = Bd (n + 1) := by
  have e : (2 : Nat) ^ (16 * (n + 1) + 12) = 2 ^ 16 * 2 ^ (16 * n + 12) := by
    rw [← Nat.pow_add]
    congr 1
    omega
  unfold Bd
  rw [e]
theorem minI_mem : ∀ {vs : List Int} {a : Int}, minI vs = some a → a ∈ vs := by
  intro vs a h
  cases vs with
  | nil => cases h
  | cons x r =>
    unfold minI at h
    cases h
    have : ∀ (r : List Int) (x : Int), r.foldl (fun m y => if y < m then y else m) x ∈ x :: r := by
      intro r
      induction r with
      | nil => intro x; simp
      | cons y r ih =>
        intro x
        rw [List.foldl_cons]
        have := ih (if y < x then y else x)
        rcases List.mem_cons.mp this with e | e
        · rw [e]
          split <;> simp
        · simp [e]
    exact this r x
theorem maxI_mem : ∀ {vs : List Int} {a : Int}, maxI vs = some a → a ∈ vs := by
  intro vs a h
  cases vs with
  | nil => cases h
  | cons x r =>
    unfold maxI at h
    cases h
    have : ∀ (r : List Int) (x : Int), r.foldl (fun m y => if m < y then y else m) x ∈ x :: r := by
      intro r
      induction r with
      | nil => intro x; simp
      | cons y r ih =>
        intro x
        rw [List.foldl_cons]
        have := ih (if x < y then y else x)
        rcases List.mem_cons.mp this with e | e
        · rw [e]
          split <;> simp
        · simp [e]
    exact this r x
theorem insD_mem {x y : Int} : ∀ {l : List Int}, y ∈ insD x l → y = x ∨ y ∈ l
  | [], h => by simp [insD] at h; exact .inl h
  | z :: r, h => by
    unfold insD at h
    split at h
    · rcases List.mem_cons.mp h with e | e
      · exact .inl e
      · exact .inr e
    · rcases List.mem_cons.mp h with e | e
      · exact .inr (by simp [e])
      · rcases insD_mem e with e | e
        · exact .inl e
        · exact .inr (by simp [e])
theorem sortI_mem {y : Int} : ∀ {l : List Int}, y ∈ sortI l → y ∈ l
  | [], h => h
  | x :: r, h => by
    unfold sortI at h
    rcases insD_mem h with e | e
    · simp [e]
    · simp [sortI_mem e]
theorem sum_bd {B : Int} : ∀ {vs : List Int}, (∀ x ∈ vs, 0 ≤ x ∧ x < B) → 0 ≤ vs.sum ∧ vs.sum ≤ vs.length * B
  | [], _ => by simp
  | x :: r, h => by
    have h1 := h x (by simp)
    have h2 := sum_bd (vs := r) fun y hy => h y (by simp [hy])
    rw [List.sum_cons, List.length_cons]
    have : ((r.length + 1 : Nat) : Int) * B = r.length * B + B := by
      rw [Int.natCast_add, Int.add_mul]
      simp
    omega
theorem mk_bd {n : Nat} {r : Rl} (h : Hd r) (hp : parts r ≠ []) {vs : List Int} (hl : vs.length = (parts r).length) (hv : ∀ x ∈ vs, 0 ≤ x ∧ x < (Bd n : Int)) : 0 ≤ mk r vs ∧ mk r vs < (Bd (n + 1) : Int) := by
  have hb := bd_succ n
  have hb0 := bd_pos n
  have hne : vs ≠ [] := fun z => by
    subst z
    exact hp (List.length_eq_zero_iff.mp hl.symm)
  have mem : ∀ {a : Int}, a ∈ vs → 0 ≤ a ∧ a < (Bd (n + 1) : Int) := fun {a} ha => by
    have := hv a ha
    omega
  cases r with
  | is v => exact absurd rfl hp
  | hear v => exact absurd rfl hp
  | nary w ps =>
    have hw3 := h.1
    match w, hw3 with
    | 0, _ =>
      obtain ⟨a, ha⟩ := min_some hne
      simp only [mk, ha, Option.getD_some]
      exact mem (minI_mem ha)
    | 1, _ =>
      obtain ⟨a, ha⟩ := max_some hne
      simp only [mk, ha, Option.getD_some]
      exact mem (maxI_mem ha)
    | 2, _ =>
      have hs := sum_bd hv
      have hl60 : vs.length ≤ 60 := by rw [hl]; exact h.2.2
      simp only [mk]
      refine ⟨hs.1, ?_⟩
      have : (vs.length : Int) * (Bd n : Int) ≤ 60 * (Bd n : Int) := Int.mul_le_mul_of_nonneg_right (by omega) (by omega)
      omega
  | mid a b c =>
    obtain ⟨x, y, z, rfl⟩ := len3 (show vs.length = 3 from hl)
    obtain ⟨u, v, w, e⟩ := len3 (show (sortI [x, y, z]).length = 3 from sortI_len _)
    simp only [mk, e]
    exact mem (sortI_mem (by rw [e]; simp))
  | times k r =>
    obtain ⟨x, rfl⟩ := len1 (show vs.length = 1 from hl)
    have hx := hv x (by simp)
    simp only [mk, List.headD_cons]
    have hk : Wo k := h
    refine ⟨Int.mul_nonneg hk.1 hx.1, ?_⟩
    have h1 : k * x ≤ 1001 * x := Int.mul_le_mul_of_nonneg_right (by have := hk.2; omega) hx.1
    omega
  | part k r =>
    obtain ⟨x, rfl⟩ := len1 (show vs.length = 1 from hl)
    have hx := hv x (by simp)
    simp only [mk, List.headD_cons]
    have hk := h.1
    refine ⟨Int.fdiv_nonneg hx.1 (by omega), ?_⟩
    have : x.fdiv k ≤ x := by
      rw [Int.fdiv_eq_ediv_of_nonneg _ (by omega)]
      exact Int.ediv_le_self _ hx.1
    omega
  | clip a b r =>
    obtain ⟨x, rfl⟩ := len1 (show vs.length = 1 from hl)
    have hx := hv x (by simp)
    obtain ⟨⟨a1, a2⟩, ⟨b1, b2⟩, ab⟩ := h
    simp only [mk, List.headD_cons]
    refine ⟨?_, ?_⟩ <;> (repeat' split) <;> omega
  | frm k r =>
    obtain ⟨x, rfl⟩ := len1 (show vs.length = 1 from hl)
    have hx := hv x (by simp)
    obtain ⟨a1, a2⟩ := h
    simp only [mk, List.headD_cons]
    refine ⟨?_, ?_⟩ <;> (repeat' split) <;> omega
  | bar a b c r =>
    obtain ⟨x, rfl⟩ := len1 (show vs.length = 1 from hl)
    obtain ⟨⟨a1, a2⟩, ⟨b1, b2⟩, ⟨c1, c2⟩⟩ := h
    simp only [mk, List.headD_cons]
    refine ⟨?_, ?_⟩ <;> (repeat' split) <;> omega
  | row l r =>
    obtain ⟨x, rfl⟩ := len1 (show vs.length = 1 from hl)
    have hx := hv x (by simp)
    have hl1 := h.1
    simp only [mk, List.headD_cons]
    generalize hj : (if (l.length : Int) - 1 < x then (l.length : Int) - 1 else x) = j
    have hj1 : j.toNat < l.length := by split at hj <;> omega
    have hm : l.getD j.toNat 0 ∈ l := by
      rw [List.getD_eq_getElem?_getD, List.getElem?_eq_getElem hj1]
      exact List.getElem_mem hj1
    obtain ⟨w1, w2⟩ := h.2.2 _ hm
    subst hj
    exact ⟨w1, Int.lt_of_lt_of_le w2 (by omega)⟩
theorem headD_wo {hs : List Int} (h : ∀ x ∈ hs, Wo x) : Wo (hs.headD 0) := by
  cases hs with
  | nil => exact ⟨by simp, by simp⟩
  | cons x r => exact h x (by simp)
theorem vals_bd {f : Rl → List Int → Int} {c : Rl → Nat} {B : Int} : ∀ (ps : List Rl) (hs : List Int), (∀ x ∈ hs, Wo x) → (∀ p ∈ ps, ∀ hs, (∀ x ∈ hs, Wo x) → 0 ≤ f p hs ∧ f p hs < B) → ∀ x ∈ vals f c ps hs, 0 ≤ x ∧ x < B
  | [], _, _, _, x, hx => by cases hx
  | p :: ps, hs, h, hf, x, hx => by
    unfold vals at hx
    rcases List.mem_cons.mp hx with rfl | hx
    · exact hf p (by simp) _ fun y hy => h y (List.mem_of_mem_take hy)
    · exact vals_bd ps _ (fun y hy => h y (List.mem_of_mem_drop hy)) (fun q hq => hf q (by simp [hq])) x hx
theorem val_bd : ∀ (n : Nat) (r : Rl), Wf n r → ∀ hs : List Int, (∀ x ∈ hs, Wo x) → 0 ≤ val n r hs ∧ val n r hs < (Bd n : Int)
  | 0, _, h, _, _ => h.elim
  | n + 1, r, ⟨h1, h2⟩, hs, hh => by
    have hb := bd_pos (n + 1)
    cases hp : parts r with
    | nil =>
      cases r with
      | is v =>
        obtain ⟨a, b⟩ := (show Wo v from h1)
        simp only [val]
        omega
      | hear v =>
        obtain ⟨a, b⟩ := headD_wo hh
        simp only [val]
        omega
      | nary w ps => exact absurd (show ps = [] from hp) h1.2.1
      | _ => simp [parts] at hp
    | cons q qs =>
      have hne : parts r ≠ [] := by rw [hp]; simp
      rw [val_one hne]
      exact mk_bd h1 hne (vals_len _ _) (vals_bd _ _ hh fun p hp hs hh => val_bd n p (h2 p hp) hs hh)
theorem small_of {n : Nat} (hn : n ≤ 100) {vs : List Int} (h : ∀ x ∈ vs, 0 ≤ x ∧ x < (Bd n : Int)) : Small vs := fun x hx => by
  have h1 := h x hx
  refine ⟨h1.1, ?_⟩
  by_cases h0 : x.natAbs = 0
  · rw [h0]; decide
  · have : x.natAbs < 2 ^ (16 * n + 12) := by
      have e : (Bd n : Int) = ((2 ^ (16 * n + 12) : Nat) : Int) := rfl
      omega
    have := (Nat.log2_lt h0).mpr this
    omega
def isI : Rl → Bool
  | .is _ => true
  | _ => false
theorem hw_is (r : Rl) : (hw r == ("is" : Str)) = isI r := by
  cases r with
  | nary w ps => exact (word_ne w).2.1
  | _ => simp only [hw, isI]; decide
theorem parts_ne {r : Rl} (h : Hd r) (h1 : isI r = false) (h2 : isH r = false) : parts r ≠ [] := by
  cases r with
  | is v => cases h1
  | hear v => cases h2
  | nary w ps => exact h.2.1
  | _ => simp [parts]
theorem drop_at {heard : List Int} {i : Nat} (h : i < heard.length) : ((heard.drop i).take 1).headD 0 = heard[i] := by
  rw [List.drop_eq_getElem_cons h]
  rfl
theorem memL2 {x a b : Str} (hx : okEq (.str x) = true) (ha : okEq (.list [.str a, .str b]) = true) : cmpD .mem (.str x) (.list [.str a, .str b]) = some (a == x || b == x) := by
  have e : cmpD .mem (.str x) (.list [.str a, .str b]) = memD (.str x) (.list [.str a, .str b]) := rfl
  rw [e]
  simp [memD, hx, ha, PyData.eqv]
theorem memL3 {x a b c : Str} (hx : okEq (.str x) = true) (ha : okEq (.list [.str a, .str b, .str c]) = true) : cmpD .mem (.str x) (.list [.str a, .str b, .str c]) = some (a == x || (b == x || c == x)) := by
  have e : cmpD .mem (.str x) (.list [.str a, .str b, .str c]) = memD (.str x) (.list [.str a, .str b, .str c]) := rfl
  rw [e]
  simp [memD, hx, ha, PyData.eqv, Bool.or_assoc]
theorem memL4 {x a b c d : Str} (hx : okEq (.str x) = true) (ha : okEq (.list [.str a, .str b, .str c, .str d]) = true) : cmpD .mem (.str x) (.list [.str a, .str b, .str c, .str d]) = some (a == x || (b == x || (c == x || d == x))) := by
  have e : cmpD .mem (.str x) (.list [.str a, .str b, .str c, .str d]) = memD (.str x) (.list [.str a, .str b, .str c, .str d]) := rfl
  rw [e]
  simp [memD, hx, ha, PyData.eqv, Bool.or_assoc]
theorem okW (r : Rl) : okEq (.str (hw r)) = true := by
  cases r with
  | nary w ps => simp only [hw]; unfold word; split <;> decide +kernel
  | _ => simp only [hw]; decide +kernel
theorem ok_a : okEq (.list [.str "is", .str "hear"]) = true := by decide +kernel
theorem ok_b : okEq (.list [.str "least", .str "most", .str "add"]) = true := by decide +kernel
theorem ok_c : okEq (.list [.str "least", .str "most", .str "add", .str "middle"]) = true := by decide +kernel
theorem ok_d : okEq (.list [.str "times", .str "part"]) = true := by decide +kernel
theorem m1l {x y z : PyData} : atD [x, y, z] (-1) = some z := rfl
theorem m1l4 {x y z u : PyData} : atD [x, y, z, u] (-1) = some u := rfl
theorem m1l5 {x y z u w : PyData} : atD [x, y, z, u, w] (-1) = some w := rfl
theorem w0 : okEq (.str "is") = true := by decide +kernel
theorem w1 : okEq (.str "hear") = true := by decide +kernel
theorem w2 : okEq (.str "middle") = true := by decide +kernel
theorem w3 : okEq (.str "times") = true := by decide +kernel
theorem w4 : okEq (.str "part") = true := by decide +kernel
theorem w5 : okEq (.str "clip") = true := by decide +kernel
theorem w6 : okEq (.str "from") = true := by decide +kernel
theorem w7 : okEq (.str "bar") = true := by decide +kernel
theorem w8 : okEq (.str "row") = true := by decide +kernel
theorem w9 : okEq (.str "least") = true := by decide +kernel
theorem w10 : okEq (.str "most") = true := by decide +kernel
theorem w11 : okEq (.str "add") = true := by decide +kernel
theorem l_parts {m : Nat} (hm : 1 ≤ m) {r : Rl} (h : Hd r) {s : S} : callN P m "_law_parts" [.d (toD r)] s = .ok (.list (toDL (parts r))) s := by
  obtain ⟨m, rfl⟩ : ∃ k, m = k + 1 := ⟨m - 1, by omega⟩
  rw [call_run f__law_parts rfl]
  cases r with
  | is v => simp (decide := true) [toD, toDL, parts, b__law_parts, NB.start, AV.slot, getT, getV, at0, at1, sz, memL2, memL3, ok_a, ok_b, w0]
  | hear v => simp (decide := true) [toD, toDL, parts, b__law_parts, NB.start, AV.slot, getT, getV, at0, at1, sz, memL2, memL3, ok_a, ok_b, w1]
  | nary w ps => rcases word_cases w h.1 with e | e | e <;> simp (decide := true) [toD, toDL, parts, b__law_parts, NB.start, AV.slot, getT, getV, at0, at1, sz, memL2, memL3, ok_a, ok_b, e, w9, w10, w11]
  | mid a b c => simp (decide := true) [toD, toDL, parts, b__law_parts, NB.start, AV.slot, getT, getV, at0, at1, sz, memL2, memL3, ok_a, ok_b, w2, cut1]
  | times k r => simp (decide := true) [toD, toDL, parts, b__law_parts, NB.start, AV.slot, getT, getV, at0, at1, sz, memL2, memL3, ok_a, ok_b, w3, m1l]
  | part k r => simp (decide := true) [toD, toDL, parts, b__law_parts, NB.start, AV.slot, getT, getV, at0, at1, sz, memL2, memL3, ok_a, ok_b, w4, m1l]
  | clip a b r => simp (decide := true) [toD, toDL, parts, b__law_parts, NB.start, AV.slot, getT, getV, at0, at1, sz, memL2, memL3, ok_a, ok_b, w5, m1l4]
  | frm k r => simp (decide := true) [toD, toDL, parts, b__law_parts, NB.start, AV.slot, getT, getV, at0, at1, sz, memL2, memL3, ok_a, ok_b, w6, m1l]
  | bar a b c r => simp (decide := true) [toD, toDL, parts, b__law_parts, NB.start, AV.slot, getT, getV, at0, at1, sz, memL2, memL3, ok_a, ok_b, w7, m1l5]
  | row l r => simp (decide := true) [toD, toDL, parts, b__law_parts, NB.start, AV.slot, getT, getV, at0, at1, sz, memL2, memL3, ok_a, ok_b, w8, m1l]
theorem d_addL {a b : List PyData} (h : a.length + b.length ≤ sizeLine) : binD .add (.list a) (.list b) = some (.list (a ++ b)) := by
  show (if a.length + b.length ≤ sizeLine then some (PyData.list (a ++ b)) else none) = _
  rw [if_pos h]
theorem l_branches : ∀ (n : Nat) (r : Rl), Wf n r → hrs n r ≤ 1000 → ∀ (m : Nat) (s : S), n + 1 ≤ m → callN P m "_law_branches" [.d (toD r)] s = .ok (.list ((brs n r).map .int)) s
  | 0, r, h, _, _, _, _ => h.elim
  | n + 1, r, ⟨h1, h2⟩, hb, m, s, hm => by
    obtain ⟨m, rfl⟩ : ∃ k, m = k + 1 := ⟨m - 1, by omega⟩
    rw [call_run f__law_branches rfl]
    have e0 : idxD (toD r) (.int 0) = some (.str (hw r)) := by rw [toD_eq]; exact at0
    have hh := hw_hear r
    have hp := l_parts (s := s) (show 1 ≤ m by omega) h1
    cases hI : isH r with
    | true =>
      cases r <;> first | (cases hI; done) | skip
      simp (decide := true) [toD, parts, toDL] at hp
      simp (decide := true) [b__law_branches, NB.start, AV.slot, getT, getV, toD, at0, at1, sz, brs, hp, put, forM']
    | false =>
      rw [hI] at hh
      have hs0 : hrs (n + 1) r = ((parts r).map (hrs n)).sum := by simp [hrs, hI]
      have hle : ∀ p ∈ parts r, hrs n p ≤ 1000 := fun p hp => by
        have : hrs n p ≤ ((parts r).map (hrs n)).sum := le_sum hp
        omega
      obtain ⟨v', s', loop, hs', x2, hv'⟩ := for_inv (g := .nm 2) (b := exs (callN P m) [.set 1 (.bin .add (.varT 1) (.call "_law_branches" [.var 2]))])
        (fun k v s' => s' = s ∧ ∃ x2, v = [.val (toD r), .val (.list ((((parts r).take k).map (brs n)).flatten.map .int)), x2])
        (xs := toDL (parts r)) (j := 0) (v := [.val (toD r), .val (.list []), .non]) (s := s)
        (fun k x v s' hx hI => by
          obtain ⟨rfl, x2, rfl⟩ := hI
          obtain ⟨p, e1, rfl, hpm⟩ := map_get hx
          have ih := l_branches n p (h2 p hpm) (hle p hpm) m s' (by omega)
          rw [Nat.zero_add]
          refine ⟨_, by rw [putTg_nm, put_ok (by simp)], [.val (toD r), .val (.list ((((parts r).take (k + 1)).map (brs n)).flatten.map .int)), .val (toD p)], s', .inl ?_, rfl, _, rfl⟩
          have len : ((((parts r).take k).map (brs n)).flatten.map PyData.int).length + ((brs n p).map PyData.int).length ≤ sizeLine := by
            have e2 : ∀ l : List Rl, ((l.map (brs n)).flatten).length = (l.map (hrs n)).sum := fun l => by
              induction l with
              | nil => rfl
              | cons p l ih => simp [brs_len n p, ih]
            have e3 := sum_take (f := hrs n) e1
            have e4 := sum_take_le (f := hrs n) (parts r) (k + 1)
            rw [List.length_map, List.length_map, e2, brs_len]
            exact sz (by omega)
          rw [flat_take e1, List.map_append]
          generalize (((parts r).take k).map (brs n)).flatten.map PyData.int = A at len ⊢
          simp [getV, getT, put, ih, d_addL len])
        ⟨rfl, .non, by simp⟩
      rw [Nat.zero_add] at hv'
      subst hs'
      have hsum : ((parts r).take (toDL (parts r)).length) = parts r := by rw [toDL_map, List.length_map, List.take_length]
      rw [hsum] at hv'
      subst hv'
      rw [brs_one hI]
      simp [b__law_branches, NB.start, AV.slot, getT, getV, hp, put, e0, hh, sz, loop]
theorem l_made {m : Nat} (hm : 1 ≤ m) {r : Rl} (h : Hd r) (hp : parts r ≠ []) {vs : List Int} (hl : vs.length = (parts r).length) (hv : Small vs) {s : S} : callN P m "_law_made" [.d (toD r), .d (.list (vs.map .int))] s = .ok (.int (mk r vs)) s := by
  obtain ⟨m, rfl⟩ : ∃ k, m = k + 1 := ⟨m - 1, by omega⟩
  rw [call_run f__law_made rfl]
  have hne : vs ≠ [] := fun z => by
    subst z
    exact hp (List.length_eq_zero_iff.mp hl.symm)
  obtain ⟨v0, vr, hvs⟩ : ∃ v0 vr, vs = v0 :: vr := by
    cases vs with
    | nil => exact absurd rfl hne
    | cons a b => exact ⟨a, b, rfl⟩
  have hat0 : atD (vs.map PyData.int) 0 = some (.int v0) := by rw [hvs]; exact at0
  cases r with
  | is v => exact absurd rfl hp
  | hear v => exact absurd rfl hp
  | nary w ps =>
    have hw3 := h.1
    match w, hw3 with
    | 0, _ =>
      obtain ⟨a, ha⟩ := min_some hne
      simp (decide := true) [b__law_made, NB.start, AV.slot, getT, getV, toD, word, at0, ha, mk, memL4, memL2, ok_c, ok_d, w9, hat0, put, putP]
    | 1, _ =>
      obtain ⟨a, ha⟩ := max_some hne
      simp (decide := true) [b__law_made, NB.start, AV.slot, getT, getV, toD, word, at0, ha, mk, memL4, memL2, ok_c, ok_d, w10, hat0, put, putP]
    | 2, _ => simp (decide := true) [b__law_made, NB.start, AV.slot, getT, getV, toD, word, at0, mk, memL4, memL2, ok_c, ok_d, w11, hat0, put, putP]
  | mid a b c =>
    obtain ⟨x, y, z, rfl⟩ := len3 (show vs.length = 3 from hl)
    obtain ⟨u, v, w, e⟩ := len3 (show (sortI [x, y, z]).length = 3 from sortI_len _)
    have hints : intsOf [PyData.int x, PyData.int y, PyData.int z] = some [x, y, z] := ints_map [x, y, z]
    simp (decide := true) [b__law_made, NB.start, AV.slot, getT, getV, toD, at0, at1, mk, hints, e, memL4, memL2, ok_c, ok_d, w2, put, putP]
  | times k r =>
    obtain ⟨x, rfl⟩ := len1 (show vs.length = 1 from hl)
    have hx := hv x (by simp)
    have hk := small_k (show Wo k from h)
    have hmul : mulOk k x = true := by unfold mulOk; simp; omega
    have e : binD .mul (.int k) (.int x) = some (.int (k * x)) := by show (if mulOk k x = true then _ else _) = _; rw [if_pos hmul]
    simp (decide := true) [b__law_made, NB.start, AV.slot, getT, getV, toD, at0, at1, mk, e, memL4, memL2, ok_c, ok_d, w3, put, putP]
  | part k r =>
    obtain ⟨x, rfl⟩ := len1 (show vs.length = 1 from hl)
    have hk := small_k (show Wo k from ⟨by have := h.1; omega, h.2⟩)
    have hk0 : k ≠ 0 := by have := h.1; omega
    have hdiv : divOk k = true := by unfold divOk; simp [hk0]; omega
    have e : binD .fdiv (.int x) (.int k) = some (.int (x.fdiv k)) := by show (if divOk k = true then _ else _) = _; rw [if_pos hdiv]
    simp (decide := true) [b__law_made, NB.start, AV.slot, getT, getV, toD, at0, at1, mk, e, memL4, memL2, ok_c, ok_d, w4, put, putP]
  | clip a b r =>
    obtain ⟨x, rfl⟩ := len1 (show vs.length = 1 from hl)
    have hab := h.2.2
    by_cases h1 : x < a
    · have h2 : a > x := h1
      have h3 : ¬ b < a := by omega
      simp (decide := true) [b__law_made, NB.start, AV.slot, getT, getV, toD, at0, at1, at2, mk, memL4, memL2, ok_c, ok_d, w5, put, putP, h1, h2, h3]
    · have h2 : ¬ a > x := h1
      by_cases h3 : b < x <;> simp (decide := true) [b__law_made, NB.start, AV.slot, getT, getV, toD, at0, at1, at2, mk, memL4, memL2, ok_c, ok_d, w5, put, putP, h1, h2, h3]
  | frm k r =>
    obtain ⟨x, rfl⟩ := len1 (show vs.length = 1 from hl)
    by_cases h1 : x < k
    · have h2 : k - x > 0 := by omega
      simp (decide := true) [b__law_made, NB.start, AV.slot, getT, getV, toD, at0, at1, at2, mk, memL4, memL2, ok_c, ok_d, w6, put, putP, h1]
      try omega
    · have h2 : ¬ k - x > 0 := by omega
      simp (decide := true) [b__law_made, NB.start, AV.slot, getT, getV, toD, at0, at1, at2, mk, memL4, memL2, ok_c, ok_d, w6, put, putP, h1]
      try omega
  | bar a b c r =>
    obtain ⟨x, rfl⟩ := len1 (show vs.length = 1 from hl)
    by_cases hx : a ≤ x <;> simp (decide := true) [b__law_made, NB.start, AV.slot, getT, getV, toD, at0, at1, at2, at3, mk, hx, memL4, memL2, ok_c, ok_d, w7, put, putP]
  | row l r =>
    obtain ⟨x, rfl⟩ := len1 (show vs.length = 1 from hl)
    have hx := (hv x (by simp)).1
    have hl1 := h.1
    have e : ∀ j : Int, 0 ≤ j → j < l.length → atD (l.map PyData.int) j = some (.int (l.getD j.toNat 0)) := fun j h0 h1 => by
      obtain ⟨i, rfl⟩ := Int.eq_ofNat_of_zero_le h0
      rw [atD_nat, List.getElem?_map]
      have hi : i < l.length := by omega
      simp [hi]
    by_cases h1 : x < l.length
    · have h2 : ¬ (l.length : Int) - 1 < x := by omega
      have e1 := e x hx h1
      simp (decide := true) [b__law_made, NB.start, AV.slot, getT, getV, toD, at0, at1, at2, at3, mk, e1, memL4, memL2, ok_c, ok_d, w8, put, putP, h1, h2]
    · obtain ⟨ys, y, hy⟩ : ∃ ys y, l = ys ++ [y] := by
        rcases list_snoc l with z | z
        · subst z; simp at hl1
        · exact z
      have e1 : atD (l.map PyData.int) (-1) = some (.int y) := by rw [hy, List.map_append]; exact atD_last _ _
      have e2 : mk (.row l r) [x] = y := by
        show l.getD (if (l.length : Int) - 1 < x then (l.length : Int) - 1 else x).toNat 0 = y
        by_cases h2 : (l.length : Int) - 1 < x
        · rw [if_pos h2]
          rw [hy]
          simp
        · rw [if_neg h2]
          have : x.toNat = l.length - 1 := by omega
          rw [this, hy]
          simp
      rw [e2]
      simp (decide := true) [b__law_made, NB.start, AV.slot, getT, getV, toD, at0, at1, at2, at3, e1, memL4, memL2, ok_c, ok_d, w8, put, putP, h1]
theorem cutN {l : List PyData} {a b : Nat} (h : a ≤ b) (h2 : b ≤ l.length) : NB.cutD l (some (a : Int)) (some (b : Int)) = (l.drop a).take (b - a) := by
  unfold NB.cutD
  have h3 : NB.sIx l.length 0 (some (a : Int)) = a := by unfold NB.sIx; simp only; rw [if_neg (by omega)]; omega
  have h4 : NB.sIx l.length l.length (some (b : Int)) = b := by unfold NB.sIx; simp only; rw [if_neg (by omega)]; omega
  rw [h3, h4]
theorem l_told : ∀ (n : Nat) (r : Rl), Wf n r → n ≤ 100 → ∀ (heard : List Int), (∀ x ∈ heard, Wo x) → heard.length = hrs n r → heard.length ≤ 1000 → ∀ (m : Nat) (s : S), n + 2 ≤ m →
    callN P m "_law_told" [.d (toD r), .d (.list (heard.map .int))] s = .ok (.int (val n r heard)) s
  | 0, r, h, _, _, _, _, _, _, _, _ => h.elim
  | n + 1, r, ⟨h1, h2⟩, hn, heard, hw0, hlr, hlen, m, s, hm => by
    obtain ⟨m, rfl⟩ : ∃ k, m = k + 1 := ⟨m - 1, by omega⟩
    rw [call_run f__law_told rfl]
    have e0 : idxD (toD r) (.int 0) = some (.str (hw r)) := by rw [toD_eq]; exact at0
    have hh := hw_hear r
    have hs := hw_is r
    have ow := okW r
    cases hI : isI r with
    | true =>
      cases r <;> first | (cases hI; done) | skip
      simp (decide := true) [b__law_told, NB.start, AV.slot, getT, getV, toD, at0, at1, sz, val, memL2, ok_a, w0]
    | false =>
      cases hH : isH r with
      | true =>
        cases r <;> first | (cases hH; done) | skip
        have hr1 : hrs (n + 1) (.hear ‹Int›) = 1 := by simp [hrs, isH, parts]
        rw [hr1] at hlr
        obtain ⟨x, rfl⟩ := len1 hlr
        simp (decide := true) [b__law_told, NB.start, AV.slot, getT, getV, toD, at0, at1, sz, val, memL2, ok_a, w1]
      | false =>
        rw [hI] at hs
        rw [hH] at hh
        have hs' : (("is" : Str) == hw r) = false := by rw [Bool.eq_false_iff]; intro z; rw [eq_of_beq z] at hs; simp at hs
        have hh' : (("hear" : Str) == hw r) = false := by rw [Bool.eq_false_iff]; intro z; rw [eq_of_beq z] at hh; simp at hh
        have hp := l_parts (s := s) (show 1 ≤ m by omega) h1
        have hpn := parts_ne h1 hI hH
        have hs0 : hrs (n + 1) r = ((parts r).map (hrs n)).sum := by simp [hrs, hH]
        rw [hs0] at hlr
        have hpl := parts_len h1
        obtain ⟨v', s', loop, hs1, x2, x5, hv'⟩ := for_inv (g := .nm 2) (b := exs (callN P m) [.set 5 (.bi .len [.call "_law_branches" [.var 2]]), .app 3 (.call "_law_told" [.var 2, .sl (.varT 1) (.varT 4) (.bin .add (.varT 4) (.varT 5))]), .set 4 (.bin .add (.varT 4) (.varT 5))])
          (fun k v s' => s' = s ∧ ∃ x2 x5, v = [.val (toD r), .val (.list (heard.map .int)), x2, .own ((vals (val n) (hrs n) ((parts r).take k) heard).map .int), .val (.int (((((parts r).take k).map (hrs n)).sum : Nat))), x5])
          (xs := toDL (parts r)) (j := 0) (v := [.val (toD r), .val (.list (heard.map .int)), .non, .own [], .val (.int 0), .non]) (s := s)
          (fun k x v s' hx hI => by
            obtain ⟨rfl, x2, x5, rfl⟩ := hI
            obtain ⟨p, e1, rfl, hpm⟩ := map_get hx
            have e3 := sum_take (f := hrs n) e1
            have e4 := sum_take_le (f := hrs n) (parts r) (k + 1)
            have hpb : hrs n p ≤ 1000 := by omega
            have ek : (parts r).take (k + 1) = (parts r).take k ++ [p] := by rw [List.take_add_one, e1]; rfl
            have elen : (vals (val n) (hrs n) ((parts r).take k) heard).length ≤ 60 := by rw [vals_len, List.length_take]; omega
            have ib := l_branches n p (h2 p hpm) hpb m s' (by omega)
            have hsl : ((heard.drop (((parts r).take k).map (hrs n)).sum).take (hrs n p)).length = hrs n p := by rw [List.length_take, List.length_drop]; omega
            have ih := l_told n p (h2 p hpm) (by omega) ((heard.drop (((parts r).take k).map (hrs n)).sum).take (hrs n p)) (fun x hx => hw0 x (List.mem_of_mem_drop (List.mem_of_mem_take hx))) hsl (by rw [hsl]; exact hpb) m s' (by omega)
            rw [Nat.zero_add]
            refine ⟨_, by rw [putTg_nm, put_ok (by simp)], [.val (toD r), .val (.list (heard.map .int)), .val (toD p), .own ((vals (val n) (hrs n) ((parts r).take (k + 1)) heard).map .int), .val (.int (((((parts r).take (k + 1)).map (hrs n)).sum : Nat))), .val (.int (hrs n p : Nat))], s', .inl ?_, rfl, _, _, rfl⟩
            have hcut := cutN (l := heard.map PyData.int) (a := (((parts r).take k).map (hrs n)).sum) (b := (((parts r).take k).map (hrs n)).sum + hrs n p) (by omega) (by rw [List.length_map]; omega)
            rw [Nat.add_sub_cancel_left] at hcut
            rw [List.map_take, List.map_drop] at ih
            rw [e3, ek, vals_snoc, List.map_append]
            generalize (((parts r).take k).map (hrs n)).sum = T at ih hcut ⊢
            generalize vals (val n) (hrs n) ((parts r).take k) heard = W at elen ⊢
            have hz : W.length < sizeLine := Nat.lt_of_le_of_lt elen (by decide)
            rw [Int.natCast_add] at hcut
            simp [getV, getT, getO, put, ih, ib, brs_len, hz, hcut])
          ⟨rfl, .non, .non, by simp [vals]⟩
        rw [Nat.zero_add] at hv'
        subst hs1
        have hsum : ((parts r).take (toDL (parts r)).length) = parts r := by rw [toDL_map, List.length_map, List.take_length]
        rw [hsum] at hv'
        subst hv'
        have hv := vals_bd (f := val n) (c := hrs n) (B := (Bd n : Int)) (parts r) heard hw0 (fun p hp hs hh => val_bd n p (h2 p hp) hs hh)
        have hmade := l_made (s := s') (show 1 ≤ m by omega) h1 hpn (vals_len (f := val n) (c := hrs n) (parts r) heard) (small_of (by omega) hv)
        rw [val_one hpn]
        simp [b__law_told, NB.start, AV.slot, getT, getV, hp, put, e0, memL2 ow ok_a, hs', hh', sz, loop, frzS, hmade, putP]
theorem any_run {m : Nat} (hm : 1 ≤ m) {b : Int} (h0 : 0 < b) (h1 : b < 1000000000) (d : Deal) : ∃ r d', callN P m "_law_any" [.h 0, .d (.int b)] [d] = .ok (.int r) [d'] ∧ 0 ≤ r ∧ r < b := by
  obtain ⟨m, rfl⟩ : ∃ k, m = k + 1 := ⟨m - 1, by omega⟩
  have hl : b.natAbs.log2 < 9000 := by
    have : b.natAbs < 2 ^ 30 := by
      have : (2 : Nat) ^ 30 = 1073741824 := by decide
      omega
    by_cases hz : b.natAbs = 0
    · rw [hz]; decide
    · have := (Nat.log2_lt hz).mpr this
      omega
  refine ⟨(anyD d b).1, (anyD d b).2, ?_, (anyD_range d h0).1, (anyD_range d h0).2⟩
  have e : callN P (m + 1) "_law_any" [.h 0, .d (.int b)] = (match P.fn "_law_any" with
    | some (.code np ns b') => runB (callN P m) np ns b' [.h 0, .d (.int b)]
    | some (.prim np g) => if [AV.h 0, AV.d (.int b)].length = np then g [.h 0, .d (.int b)] else M.bad
    | none => M.bad) := rfl
  rw [e, f__law_any]
  show anyP [.h 0, .d (.int b)] [d] = _
  show (if 0 < b ∧ b.natAbs.log2 < 9000 then Res.ok (PyData.int (anyD d b).1) ([d].set 0 (anyD d b).2) else .bad) = _
  rw [if_pos ⟨h0, hl⟩]
  rfl
theorem of_run {m : Nat} (hm : 2 ≤ m) {l : List PyData} (h : l ≠ []) (hl : l.length ≤ 1000) (d : Deal) : ∃ x d', callN P m "_law_of" [.h 0, .d (.list l)] [d] = .ok x [d'] ∧ x ∈ l := by
  obtain ⟨m, rfl⟩ : ∃ k, m = k + 1 := ⟨m - 1, by omega⟩
  have hpos := List.length_pos_iff.mpr h
  obtain ⟨r, d', e, r0, r1⟩ := any_run (m := m) (by omega) (b := (l.length : Int)) (by omega) (by omega) d
  obtain ⟨i, rfl⟩ := Int.eq_ofNat_of_zero_le r0
  have hi : i < l.length := by omega
  refine ⟨l[i], d', ?_, List.getElem_mem hi⟩
  rw [call_run f__law_of rfl]
  have ea : atD l (i : Int) = some l[i] := by rw [atD_nat, List.getElem?_eq_getElem hi]
  simp [b__law_of, NB.start, AV.slot, getT, getV, getH, e, ea]
/-! ### the draw -/
theorem mod_small (a : Int) {b : Int} (hb : 0 < b) (h : b < 1000000000000) : 0 ≤ a.fmod b ∧ a.fmod b < 1000000000000 := ⟨Int.fmod_nonneg_of_pos _ hb, Int.lt_trans (Int.fmod_lt_of_pos _ hb) h⟩
theorem d_mod {i j : Int} (h : j ≠ 0) : binD .mod (.int i) (.int j) = some (.int (i.fmod j)) := by
  show (if j ≠ 0 then some (PyData.int (i.fmod j)) else none) = _
  rw [if_pos h]
theorem d_mul {i j : Int} (h : mulOk i j = true) : binD .mul (.int i) (.int j) = some (.int (i * j)) := by
  show (if mulOk i j = true then some (PyData.int (i * j)) else none) = _
  rw [if_pos h]
theorem draw_run {m : Nat} (hm : 1 ≤ m) {sa : Int} (s0 : 0 ≤ sa) (s1 : sa < 1000) (ns : List Int) (hl : ns.length ≤ 63) : ∃ dl : Deal, callN P m "_law_draw" [.s ns, .d (.int sa)] [] = .ok (dealD dl) [] ∧ dl.cells.length ≤ 64 ∧ (0 ≤ dl.blend ∧ dl.blend < 1099511627776) := by
  obtain ⟨m, rfl⟩ : ∃ k, m = k + 1 := ⟨m - 1, by omega⟩
  rw [call_run f__law_draw rfl]
  generalize hcs : ((ns.take 48).map fun i : Int => if i < 0 then -i else i) = cs
  have hcl : cs.length ≤ 48 := by rw [← hcs]; simp; omega
  have lc1 := lc_map (i := 4) (f := ev (callN P m) (.bi .abs [.bi .int [.varT 4]])) (v := [.scr ns, .val (.int sa), .non, .non, .non]) (s := []) (fun x => match x with | .int i => .int (if i < 0 then -i else i) | _ => .none) (by simp) (xs := (ns.take 48).map .int) (acc := []) (fun x hx => by
    obtain ⟨y, _, rfl⟩ := List.mem_map.mp hx
    simp [getT]) (by simp; exact sz (by omega))
  have hmap : ((ns.take 48).map PyData.int).map (fun x => match x with | .int i => PyData.int (if i < 0 then -i else i) | _ => .none) = cs.map .int := by
    rw [← hcs, List.map_map, List.map_map]
    rfl
  rw [List.nil_append, hmap, List.map_take] at lc1
  obtain ⟨v', s', loop, hs', b', x4, hb', hv'⟩ := for_inv (g := .nm 4) (b := exs (callN P m) [.set 3 (.bin .mod (.bi .int [.bin .add (.bin .add (.bin .mul (.varT 3) (.cst (.int 48271))) (.bin .mod (.varT 4) (.cst (.int 2147483549)))) (.cst (.int 11))]) (.cst (.int 2147483647)))])
    (fun k v s' => s' = [] ∧ ∃ (b : Int) (x4 : NB.Slot), (0 ≤ b ∧ b < 1000000000000) ∧ v = [.scr ns, .val (.int sa), .val (.list (cs.map .int)), .val (.int b), x4])
    (xs := cs.map .int) (j := 0) (v := [.scr ns, .val (.int sa), .val (.list (cs.map .int)), .val (.int (7919 + 104729 * sa)), .non]) (s := [])
    (fun k x v s' hx hI => by
      obtain ⟨rfl, b, x4, hb, rfl⟩ := hI
      rw [List.getElem?_map] at hx
      obtain ⟨y, _, rfl⟩ := Option.map_eq_some_iff.mp hx
      have hmul : mulOk b 48271 = true := by
        have h1 := log_small (b := b) ⟨hb.1, by omega⟩
        have h2 : (48271 : Int).natAbs.log2 = 15 := by decide
        unfold mulOk
        rw [h2]
        simp
        omega
      refine ⟨_, by rw [putTg_nm, put_ok (by simp)], [.scr ns, .val (.int sa), .val (.list (cs.map .int)), .val (.int ((b * 48271 + y.fmod 2147483549 + 11).fmod 2147483647)), .val (.int y)], [], .inl ?_, rfl, _, _, mod_small _ (by decide) (by decide), rfl⟩
      simp [getV, getT, put, d_mul hmul, d_mod])
    ⟨rfl, 7919 + 104729 * sa, .non, by omega, rfl⟩
  subst hs'
  subst hv'
  have lc2 := lcIf_map (i := 4) (f := ev (callN P m) (.var 4)) (c := fun u => do let y ← ev (callN P m) (.cmp .ge (.varT 4) (.bin .pow (.cst (.int 10)) (.cst (.int 18)))) u; liftO (truthD y)) (v := [.scr ns, .val (.int sa), .val (.list (cs.map .int)), .val (.int b'), x4]) (s := []) (fun x => x) (fun x => match x with | .int i => decide (1000000000000000000 ≤ i) | _ => false) (by simp) (xs := cs.map .int) (acc := []) (fun x hx => by
    obtain ⟨y, _, rfl⟩ := List.mem_map.mp hx
    have hp : binD .pow (.int 10) (.int 18) = some (.int 1000000000000000000) := by
      have h1 : powOk 10 18 = true := by decide +kernel
      show (if powOk 10 18 = true then some (PyData.int (10 ^ (18 : Int).toNat)) else none) = _
      rw [if_pos h1]
      rfl
    simp [getT, getV, hp]) (by simp; exact sz (by omega))
  have hfil : ((cs.map PyData.int).filter (fun x => match x with | .int i => decide (1000000000000000000 ≤ i) | _ => false)) = (cs.filter fun i => decide (1000000000000000000 ≤ i)).map .int := by
    rw [List.filter_map]
    rfl
  rw [List.nil_append, hfil, List.map_id'] at lc2
  refine ⟨⟨(cs.filter fun i => decide (1000000000000000000 ≤ i)).reverse, b'⟩, ?_, ?_, ?_⟩
  · have hmul : mulOk 104729 sa = true := by
      have h1 := log_small (b := sa) ⟨s0, by omega⟩
      have h2 : (104729 : Int).natAbs.log2 = 16 := by decide
      unfold mulOk
      rw [h2]
      simp
      omega
    simp only [q_bin, q_varT, q_cmp] at lc2
    simp [b__law_draw, NB.start, AV.slot, gT0, gTs, gV0, gVs, gS0, put, lc1, loop, d_mul hmul, dealD, revD, sz, lc2]
  · have := List.length_filter_le (fun i => decide (1000000000000000000 ≤ i)) cs
    show (List.filter _ cs).reverse.length ≤ 64
    rw [List.length_reverse]
    omega
  · exact ⟨hb'.1, Int.lt_trans hb'.2 (by decide)⟩
end K52
set_option Elab.async false
set_option linter.all false
set_option maxRecDepth 100000
set_option maxHeartbeats 8000000
namespace K52
open PySem PySem.Spec PyProof.Rows L2 L2.NB
theorem f__law_net : P.fn "_law_net" = some (.code 4 7 b__law_net) := by kernel_rfl
def Cb : Nat → Nat
  | 0 => 1
  | 1 => 4
  | n + 2 => 1 + 2 * Cb (n + 1)
def Hb : Nat → Nat
  | 0 => 1
  | 1 => 3
  | n + 2 => 2 * Hb (n + 1)
structure Gd (k : Int) (d : Nat) (r : Rl) : Prop where
  wf : Wf (d + 1) r
  c : cnt (d + 1) r ≤ Cb d
  h : hrs (d + 1) r ≤ Hb d
  b : ∀ x ∈ brs (d + 1) r, 0 ≤ x ∧ x < k
theorem cb_pos : ∀ d, 1 ≤ Cb d
  | 0 => by decide
  | 1 => by decide
  | n + 2 => by unfold Cb; omega
theorem hb_pos : ∀ d, 1 ≤ Hb d
  | 0 => by decide
  | 1 => by decide
  | n + 2 => by have := hb_pos (n + 1); unfold Hb; omega
theorem gd_is {k : Int} {d : Nat} {v : Int} (h : Wo v) : Gd k d (.is v) := by
  refine ⟨⟨h, fun p hm => by cases hm⟩, ?_, ?_, ?_⟩
  · simp [cnt, parts]; exact cb_pos d
  · simp [hrs, parts, isH]
  · intro x hx
    simp [brs, parts] at hx
theorem gd_hear {k : Int} {d : Nat} {v : Int} (h : Wo v) (hk : v < k) : Gd k d (.hear v) := by
  refine ⟨⟨h, fun p hm => by cases hm⟩, ?_, ?_, ?_⟩
  · simp [cnt, parts]; exact cb_pos d
  · have := hb_pos d
    simp only [hrs, parts, isH, List.map_nil, List.sum_nil]
    split <;> omega
  · intro x hx
    simp [brs] at hx
    rw [hx]
    exact ⟨h.1, hk⟩
theorem cb1 (d : Nat) : 1 + Cb d ≤ Cb (d + 1) ∧ Hb d ≤ Hb (d + 1) ∧ 1 + 2 * Cb d ≤ Cb (d + 1) ∧ 2 * Hb d ≤ Hb (d + 1) := by
  have := cb_pos d
  have := hb_pos d
  cases d with
  | zero => decide
  | succ d => simp only [Cb, Hb]; omega
theorem gd_one {k : Int} {d : Nat} {r p : Rl} (h : Hd r) (hp : parts r = [p]) (hh : isH r = false) (g : Gd k d p) : Gd k (d + 1) r := by
  have := cb1 d
  have c := g.c
  have hq := g.h
  refine ⟨⟨h, fun q hm => ?_⟩, ?_, ?_, ?_⟩
  · rw [hp] at hm
    cases List.mem_singleton.mp hm
    exact g.wf
  · show 1 + ((parts r).map (cnt (d + 1))).sum ≤ _
    rw [hp]
    simp
    omega
  · show (if isH r = true then 1 else 0) + ((parts r).map (hrs (d + 1))).sum ≤ _
    rw [hp, hh]
    simp
    omega
  · intro x hx
    rw [brs_one hh, hp] at hx
    simp at hx
    exact g.b x hx
theorem gd_nary {k : Int} {d w : Nat} {ps : List Rl} (hw : w < 3) (h1 : 1 ≤ ps.length) (h2 : ps.length ≤ 2) (g : ∀ p ∈ ps, Gd k d p) : Gd k (d + 1) (.nary w ps) := by
  have := cb1 d
  have := cb_pos d
  refine ⟨⟨⟨hw, fun z => by subst z; simp at h1, by omega⟩, fun q hm => (g q hm).wf⟩, ?_, ?_, ?_⟩
  · show 1 + (ps.map (cnt (d + 1))).sum ≤ _
    match ps, h1, h2, g with
    | [a], _, _, g => have := (g a (by simp)).c; simp; omega
    | [a, b], _, _, g => have := (g a (by simp)).c; have := (g b (by simp)).c; simp; omega
  · show 0 + (ps.map (hrs (d + 1))).sum ≤ _
    match ps, h1, h2, g with
    | [a], _, _, g => have := (g a (by simp)).h; simp; omega
    | [a, b], _, _, g => have := (g a (by simp)).h; have := (g b (by simp)).h; simp; omega
  · intro x hx
    rw [brs_one rfl] at hx
    obtain ⟨l, hl, hxl⟩ := List.mem_flatten.mp hx
    obtain ⟨p, hp, rfl⟩ := List.mem_map.mp hl
    exact (g p hp).b x hxl
theorem gd_mid {k : Int} {a b c : Rl} (ga : Gd k 0 a) (gb : Gd k 0 b) (gc : Gd k 0 c) : Gd k 1 (.mid a b c) := by
  have c1 : cnt 1 a ≤ 1 := ga.c
  have c2 : cnt 1 b ≤ 1 := gb.c
  have c3 : cnt 1 c ≤ 1 := gc.c
  have h1 : hrs 1 a ≤ 1 := ga.h
  have h2 : hrs 1 b ≤ 1 := gb.h
  have h3 : hrs 1 c ≤ 1 := gc.h
  refine ⟨⟨trivial, fun q hm => ?_⟩, ?_, ?_, ?_⟩
  · simp [parts] at hm
    rcases hm with rfl | rfl | rfl
    · exact ga.wf
    · exact gb.wf
    · exact gc.wf
  · show 1 + ([a, b, c].map (cnt 1)).sum ≤ 4
    simp
    omega
  · show 0 + ([a, b, c].map (hrs 1)).sum ≤ 3
    simp
    omega
  · intro x hx
    rw [brs_one rfl] at hx
    simp [parts] at hx
    rcases hx with hx | hx | hx
    · exact ga.b x hx
    · exact gb.b x hx
    · exact gc.b x hx
/-- a list of drawn things -/
theorem paired_rules {k : Int} {d : Nat} : ∀ {xs ys : List PyData}, Paired (fun _ y => ∃ r, y = toD r ∧ Gd k d r) xs ys → ∃ rs : List Rl, ys = toDL rs ∧ rs.length = xs.length ∧ ∀ r ∈ rs, Gd k d r
  | [], _, .nil => ⟨[], rfl, rfl, fun r h => by cases h⟩
  | x :: xs, y :: ys, .cons h t => by
    obtain ⟨r, rfl, g⟩ := h
    obtain ⟨rs, rfl, hl, gs⟩ := paired_rules t
    exact ⟨r :: rs, rfl, congrArg Nat.succ hl, fun q hq => (List.mem_cons.mp hq).elim (fun z => z ▸ g) (gs q)⟩
theorem paired_ints {B : Int} : ∀ {xs ys : List PyData}, Paired (fun _ y => ∃ i : Int, y = .int i ∧ 0 ≤ i ∧ i < B) xs ys → ∃ l : List Int, ys = l.map .int ∧ l.length = xs.length ∧ ∀ i ∈ l, 0 ≤ i ∧ i < B
  | [], _, .nil => ⟨[], rfl, rfl, fun r h => by cases h⟩
  | x :: xs, y :: ys, .cons h t => by
    obtain ⟨r, rfl, g⟩ := h
    obtain ⟨rs, rfl, hl, gs⟩ := paired_ints t
    exact ⟨r :: rs, rfl, congrArg Nat.succ hl, fun q hq => (List.mem_cons.mp hq).elim (fun z => z ▸ g) (gs q)⟩
theorem rng1_ok {n : Int} (h0 : 0 ≤ n) (h1 : n < 1000000) : rng1D (.int n) = some (.list (rngL 0 n.toNat)) := by
  have h : rngOk n = true := by
    unfold rngOk
    rw [decide_eq_true (show -(2 ^ 62 : Int) ≤ n by omega), decide_eq_true (show n < (2 ^ 62 : Int) by omega)]
    rfl
  show (if rngOk n = true then some (PyData.list (rngL 0 n.toNat)) else none) = _
  rw [if_pos h]
theorem rngL_len {a : Int} {n : Nat} : (rngL a n).length = n := by unfold rngL; simp
/-- many draws -/
theorem lc_ints {m i n : Nat} (hm : 1 ≤ m) {v : NB.Env} {e : E} {b : Int} (h0 : 0 < b) (h1 : b < 1000000000) (hi : i < v.length) (hn : n ≤ 1000) (he : ∀ x s, ev (callN P m) e (v.set i (.val x)) s = callN P m "_law_any" [.h 0, .d (.int b)] s) (xs : List PyData) (hx : xs.length = n) (d : Deal) :
    ∃ (l : List Int) (d' : Deal), lcM (.nm i) (ev (callN P m) e) v xs [] [d] = .ok (l.map .int) [d'] ∧ l.length = n ∧ ∀ x ∈ l, 0 ≤ x ∧ x < b := by
  obtain ⟨ys, s', e1, ⟨d', rfl⟩, pr⟩ := lc_any (i := i) (f := ev (callN P m) e) (v := v) (fun s => ∃ d, s = [d]) (fun _ y => ∃ i : Int, y = .int i ∧ 0 ≤ i ∧ i < b) hi (xs := xs) (acc := []) (s := [d]) (fun x _ s hs => by
    obtain ⟨d, rfl⟩ := hs
    obtain ⟨r, d', e2, r0, r1⟩ := any_run hm h0 h1 d
    exact ⟨.int r, [d'], by rw [he, e2], ⟨d', rfl⟩, r, rfl, r0, r1⟩) (by rw [hx]; exact sz (by simp; omega)) ⟨d, rfl⟩
  obtain ⟨l, rfl, hl, hb⟩ := paired_ints pr
  exact ⟨l, d', e1, hl.trans hx, hb⟩
theorem wo_of {a top : Int} (h : 0 ≤ a ∧ a < top + 1) (ht : top ≤ 900) : Wo a := ⟨h.1, by have := h.2; omega⟩
theorem addT {a b : List PyData} (h : a.length + b.length ≤ sizeLine) : binD .add (.tuple a) (.tuple b) = some (.tuple (a ++ b)) := by
  show (if a.length + b.length ≤ sizeLine then some (PyData.tuple (a ++ b)) else none) = _
  rw [if_pos h]
theorem rule_run : ∀ (deep : Nat), deep ≤ 3 → ∀ (m : Nat), deep + 3 ≤ m → ∀ (k top : Int), 1 ≤ k → k ≤ 1000 → 0 ≤ top → top ≤ 63 → ∀ (ar : Bool) (d : Deal), ∃ (r : Rl) (d' : Deal), callN P m "_law_rule" [.h 0, .d (.int k), .d (.int top), .d (.int deep), .d (.bool ar)] [d] = .ok (toD r) [d'] ∧ Gd k deep r
  | 0, _, m, hm, k, top, hk0, hk1, ht0, ht1, ar, d => by
    obtain ⟨m, rfl⟩ : ∃ k, m = k + 1 := ⟨m - 1, by omega⟩
    rw [call_run f__law_rule rfl]
    obtain ⟨f, d1, e1, f0, f1⟩ := any_run (show 1 ≤ m by omega) (b := 4) (by decide) (by decide) d
    by_cases hf : f = 0
    · subst hf
      obtain ⟨a, d2, e2, a0, a1⟩ := any_run (show 1 ≤ m by omega) (b := top + 1) (by omega) (by omega) d1
      refine ⟨.is a, d2, ?_, gd_is (wo_of ⟨a0, a1⟩ (by omega))⟩
      simp [b__law_rule, NB.start, AV.slot, gT0, gTs, gV0, gVs, gH0, gHs, put, e1, e2, sz, toD]
    · obtain ⟨a, d2, e2, a0, a1⟩ := any_run (show 1 ≤ m by omega) (b := k) (by omega) (by omega) d1
      refine ⟨.hear a, d2, ?_, gd_hear ⟨a0, by omega⟩ a1⟩
      have hf4 : f < 4 := f1
      simp [b__law_rule, NB.start, AV.slot, gT0, gTs, gV0, gVs, gH0, gHs, put, e1, e2, sz, toD, hf, hf4]
  | n + 1, hn, m, hm, k, top, hk0, hk1, ht0, ht1, ar, d => by
    obtain ⟨m, rfl⟩ : ∃ k, m = k + 1 := ⟨m - 1, by omega⟩
    rw [call_run f__law_rule rfl]
    have hd0 : (0 : Int) < (n : Int) + 1 := by omega
    have hd1 : (n : Int) + 1 - 1 = n := by omega
    obtain ⟨f, d1, e1, f0, f1⟩ := any_run (show 1 ≤ m by omega) (b := 14) (by decide) (by decide) d
    by_cases hf : f = 0
    · subst hf
      obtain ⟨a, d2, e2, a0, a1⟩ := any_run (show 1 ≤ m by omega) (b := top + 1) (by omega) (by omega) d1
      refine ⟨.is a, d2, ?_, gd_is (wo_of ⟨a0, a1⟩ (by omega))⟩
      simp [b__law_rule, NB.start, AV.slot, gT0, gTs, gV0, gVs, gH0, gHs, put, e1, e2, sz, toD, hd0]
    by_cases hf4 : f < 4
    · obtain ⟨a, d2, e2, a0, a1⟩ := any_run (show 1 ≤ m by omega) (b := k) (by omega) (by omega) d1
      refine ⟨.hear a, d2, ?_, gd_hear ⟨a0, by omega⟩ a1⟩
      simp [b__law_rule, NB.start, AV.slot, gT0, gTs, gV0, gVs, gH0, gHs, put, e1, e2, sz, toD, hf, hf4, hd0]
    have IH := rule_run n (by omega) m (by omega) k top hk0 hk1 ht0 ht1 ar
    by_cases hf8 : f < 8
    · obtain ⟨c, d2, e2, c0, c1⟩ := any_run (show 1 ≤ m by omega) (b := 2) (by decide) (by decide) d1
      have hr := rng1_ok (n := 1 + c) (by omega) (by omega)
      obtain ⟨ys, s', e3, ⟨d3, rfl⟩, pr⟩ := lc_any (i := 10) (f := ev (callN P m) (.call "_law_rule" [.hnd 0, .var 1, .var 2, .bin .sub (.varT 3) (.cst (.int 1)), .var 4])) (v := [.hnd 0, .val (.int k), .val (.int top), .val (.int ((n : Int) + 1)), .val (.bool ar), .val (.int f), .non, .non, .non, .non, .non]) (fun s => ∃ d, s = [d]) (fun _ y => ∃ r, y = toD r ∧ Gd k n r) (by simp) (xs := rngL 0 (1 + c).toNat) (acc := []) (s := [d2]) (fun x _ s hs => by
        obtain ⟨d, rfl⟩ := hs
        obtain ⟨r, d', e4, g⟩ := IH d
        refine ⟨toD r, [d'], ?_, ⟨d', rfl⟩, r, rfl, g⟩
        simp [gT0, gTs, gV0, gVs, gH0, gHs, hd1, e4]) (by rw [rngL_len]; exact sz (by simp; omega)) ⟨d2, rfl⟩
      obtain ⟨rs, rfl, hl, gs⟩ := paired_rules pr
      rw [rngL_len] at hl
      obtain ⟨x, d4, e5, hx⟩ := of_run (show 2 ≤ m by omega) (l := [.str "least", .str "most", .str "add"]) (by simp) (by simp) d3
      obtain ⟨w, hw, rfl⟩ : ∃ w, w < 3 ∧ x = .str (word w) := by
        simp at hx
        rcases hx with rfl | rfl | rfl
        · exact ⟨0, by decide, rfl⟩
        · exact ⟨1, by decide, rfl⟩
        · exact ⟨2, by decide, rfl⟩
      refine ⟨.nary w rs, d4, ?_, gd_nary hw (by omega) (by omega) gs⟩
      simp [b__law_rule, NB.start, AV.slot, gT0, gTs, gV0, gVs, gH0, gHs, put, e1, e2, sz, toD, hf, hf4, hf8, hd0, hr, e3, e5]
    by_cases hmid : f = 8 ∧ n = 0
    · obtain ⟨rfl, rfl⟩ := hmid
      have hr := rng1_ok (n := 3) (by decide) (by decide)
      obtain ⟨ys, s', e3, ⟨d3, rfl⟩, pr⟩ := lc_any (i := 10) (f := ev (callN P m) (.call "_law_rule" [.hnd 0, .var 1, .var 2, .cst (.int 0), .var 4])) (v := [.hnd 0, .val (.int k), .val (.int top), .val (.int 1), .val (.bool ar), .val (.int 8), .non, .non, .non, .non, .non]) (fun s => ∃ d, s = [d]) (fun _ y => ∃ r, y = toD r ∧ Gd k 0 r) (by simp) (xs := rngL 0 (3 : Int).toNat) (acc := []) (s := [d1]) (fun x _ s hs => by
        obtain ⟨d, rfl⟩ := hs
        obtain ⟨r, d', e4, g⟩ := IH d
        have e4' : callN P m "_law_rule" [.h 0, .d (.int k), .d (.int top), .d (.int 0), .d (.bool ar)] [d] = .ok (toD r) [d'] := e4
        refine ⟨toD r, [d'], ?_, ⟨d', rfl⟩, r, rfl, g⟩
        simp [gT0, gTs, gV0, gVs, gH0, gHs, e4']) (by rw [rngL_len]; decide) ⟨d1, rfl⟩
      obtain ⟨rs, rfl, hl, gs⟩ := paired_rules pr
      rw [rngL_len] at hl
      match rs, hl, gs, e3 with
      | [a, b, c], _, gs, e3 =>
        refine ⟨.mid a b c, d3, ?_, gd_mid (gs a (by simp)) (gs b (by simp)) (gs c (by simp))⟩
        simp [toDL] at e3
        simp [b__law_rule, NB.start, AV.slot, gT0, gTs, gV0, gVs, gH0, gHs, put, e1, sz, toD, hr, e3, addT]
    have hmid' : ¬ (f = 8 ∧ (n : Int) + 1 = 1) := fun z => hmid ⟨z.1, by omega⟩
    obtain ⟨r, d2, e2, g⟩ := IH d1
    by_cases hf9 : f = 9
    · subst hf9
      obtain ⟨a, d3, e3, a0, a1⟩ := any_run (show 1 ≤ m by omega) (b := 3) (by decide) (by decide) d2
      refine ⟨.times a r, d3, ?_, gd_one ⟨a0, by omega⟩ rfl rfl g⟩
      simp [b__law_rule, NB.start, AV.slot, gT0, gTs, gV0, gVs, gH0, gHs, put, e1, e2, e3, sz, toD, hd0, hd1]
    by_cases hf10 : f = 10
    · subst hf10
      obtain ⟨a, d3, e3, a0, a1⟩ := any_run (show 1 ≤ m by omega) (b := 3) (by decide) (by decide) d2
      refine ⟨.part (1 + a) r, d3, ?_, gd_one ⟨by omega, by omega⟩ rfl rfl g⟩
      simp [b__law_rule, NB.start, AV.slot, gT0, gTs, gV0, gVs, gH0, gHs, put, e1, e2, e3, sz, toD, hd0, hd1]
    by_cases hf11 : f = 11
    · subst hf11
      obtain ⟨a, d3, e3, a0, a1⟩ := any_run (show 1 ≤ m by omega) (b := top + 1) (by omega) (by omega) d2
      obtain ⟨b, d4, e4, b0, b1⟩ := any_run (show 1 ≤ m by omega) (b := 3) (by decide) (by decide) d3
      refine ⟨.clip a (a + b) r, d4, ?_, gd_one ⟨⟨a0, by omega⟩, ⟨by omega, by omega⟩, by omega⟩ rfl rfl g⟩
      simp [b__law_rule, NB.start, AV.slot, gT0, gTs, gV0, gVs, gH0, gHs, put, e1, e2, e3, e4, sz, toD, hd0, hd1]
    by_cases hf12 : f = 12
    · subst hf12
      obtain ⟨a, d3, e3, a0, a1⟩ := any_run (show 1 ≤ m by omega) (b := top + 2) (by omega) (by omega) d2
      obtain ⟨b, d4, e4, b0, b1⟩ := any_run (show 1 ≤ m by omega) (b := top + 1) (by omega) (by omega) d3
      obtain ⟨c, d5, e5, c0, c1⟩ := any_run (show 1 ≤ m by omega) (b := top + 1) (by omega) (by omega) d4
      refine ⟨.bar a b c r, d5, ?_, gd_one ⟨⟨a0, by omega⟩, ⟨b0, by omega⟩, ⟨c0, by omega⟩⟩ rfl rfl g⟩
      simp [b__law_rule, NB.start, AV.slot, gT0, gTs, gV0, gVs, gH0, gHs, put, e1, e2, e3, e4, e5, sz, toD, hd0, hd1]
    by_cases hf13 : f = 13
    · subst hf13
      obtain ⟨c, d3, e3, c0, c1⟩ := any_run (show 1 ≤ m by omega) (b := top + 1) (by omega) (by omega) d2
      have hr := rng1_ok (n := 1 + c) (by omega) (by omega)
      obtain ⟨l, d4, e4, hl, hb⟩ := lc_ints (m := m) (i := 10) (n := (1 + c).toNat) (show 1 ≤ m by omega) (v := [.hnd 0, .val (.int k), .val (.int top), .val (.int ((n : Int) + 1)), .val (.bool ar), .val (.int 13), .val (toD r), .non, .non, .non, .non]) (e := .call "_law_any" [.hnd 0, .bin .add (.varT 2) (.cst (.int 1))]) (b := top + 1) (by omega) (by omega) (by simp) (by omega) (fun x s => by simp [gT0, gTs, gV0, gVs, gH0, gHs]) (rngL 0 (1 + c).toNat) rngL_len d3
      have hw : ∀ x ∈ l, Wo x := fun x hx => wo_of (hb x hx) (by omega)
      cases ar with
      | true =>
        refine ⟨.row l r, d4, ?_, gd_one ⟨by omega, by omega, hw⟩ rfl rfl g⟩
        simp [b__law_rule, NB.start, AV.slot, gT0, gTs, gV0, gVs, gH0, gHs, put, e1, e2, e3, e4, sz, toD, hd0, hd1, hr]
      | false =>
        refine ⟨.row (sortI l) r, d4, ?_, gd_one ⟨by rw [sortI_len]; omega, by rw [sortI_len]; omega, fun x hx => hw x (sortI_mem hx)⟩ rfl rfl g⟩
        simp [b__law_rule, NB.start, AV.slot, gT0, gTs, gV0, gVs, gH0, gHs, put, e1, e2, e3, e4, sz, toD, hd0, hd1, hr]
    obtain ⟨a, d3, e3, a0, a1⟩ := any_run (show 1 ≤ m by omega) (b := top + 2) (by omega) (by omega) d2
    refine ⟨.frm a r, d3, ?_, gd_one ⟨a0, by omega⟩ rfl rfl g⟩
    by_cases h8 : f = 8
    · have hn0 : ¬ (n : Int) + 1 = 1 := fun z => hmid' ⟨h8, z⟩
      have hn1 : ¬ n = 0 := by omega
      subst h8
      simp [b__law_rule, NB.start, AV.slot, gT0, gTs, gV0, gVs, gH0, gHs, put, e1, e2, e3, sz, toD, hd0, hd1, hn0, hn1]
    · simp [b__law_rule, NB.start, AV.slot, gT0, gTs, gV0, gVs, gH0, gHs, put, e1, e2, e3, sz, toD, hd0, hd1, hf, hf4, hf8, h8, hf9, hf10, hf11, hf12, hf13]

/-! ### the net -/
structure Net where
  tops : List Int
  rules : List Rl
def netD (t : Net) : PyData := .tuple [.tuple (t.tops.map .int), .tuple (toDL t.rules)]
/-- a drawn net: tops from 1 to B, houses heard are its own, at most three rules within one another -/
structure NetOk (B : Int) (most : Int) (t : Net) : Prop where
  len : t.rules.length = t.tops.length
  pos : 1 ≤ t.tops.length
  most : (t.tops.length : Int) ≤ most
  tops : ∀ x ∈ t.tops, 1 ≤ x ∧ x ≤ B
  rules : ∀ r ∈ t.rules, ∃ d, d ≤ 3 ∧ Gd t.tops.length d r
theorem paired_deep {k : Int} : ∀ {xs ys : List PyData}, Paired (fun _ y => ∃ r, y = toD r ∧ ∃ d, d ≤ 3 ∧ Gd k d r) xs ys → ∃ rs : List Rl, ys = toDL rs ∧ rs.length = xs.length ∧ ∀ r ∈ rs, ∃ d, d ≤ 3 ∧ Gd k d r
  | [], _, .nil => ⟨[], rfl, rfl, fun r h => by cases h⟩
  | x :: xs, y :: ys, .cons h t => by
    obtain ⟨r, rfl, g⟩ := h
    obtain ⟨rs, rfl, hl, gs⟩ := paired_deep t
    exact ⟨r :: rs, rfl, congrArg Nat.succ hl, fun q hq => (List.mem_cons.mp hq).elim (fun z => z ▸ g) (gs q)⟩
theorem paired_tops {B : Int} : ∀ {xs ys : List PyData}, Paired (fun _ y => ∃ i : Int, y = .int i ∧ 1 ≤ i ∧ i ≤ B) xs ys → ∃ l : List Int, ys = l.map .int ∧ l.length = xs.length ∧ ∀ i ∈ l, 1 ≤ i ∧ i ≤ B
  | [], _, .nil => ⟨[], rfl, rfl, fun r h => by cases h⟩
  | x :: xs, y :: ys, .cons h t => by
    obtain ⟨r, rfl, g⟩ := h
    obtain ⟨rs, rfl, hl, gs⟩ := paired_tops t
    exact ⟨r :: rs, rfl, congrArg Nat.succ hl, fun q hq => (List.mem_cons.mp hq).elim (fun z => z ▸ g) (gs q)⟩
theorem net_run {m : Nat} (hm : 8 ≤ m) {most top : Int} (h0 : 1 ≤ most) (h1 : most ≤ 100) (ht0 : 1 ≤ top) (ht1 : top ≤ 63) (ar : Bool) (d : Deal) : ∃ (t : Net) (d' : Deal), callN P m "_law_net" [.h 0, .d (.int most), .d (.int top), .d (.bool ar)] [d] = .ok (netD t) [d'] ∧ NetOk top most t := by
  obtain ⟨m, rfl⟩ : ∃ k, m = k + 1 := ⟨m - 1, by omega⟩
  rw [call_run f__law_net rfl]
  obtain ⟨c, d1, e1, c0, c1⟩ := any_run (show 1 ≤ m by omega) (b := most) (by omega) (by omega) d
  have hr := rng1_ok (n := 1 + c) (by omega) (by omega)
  have hz : (rngL 0 (1 + c).toNat).length ≤ 1000 := by rw [rngL_len]; omega
  obtain ⟨ys, s', e2, ⟨d2, rfl⟩, pr⟩ := lc_any (i := 6) (f := ev (callN P m) (.bin .add (.cst (.int 1)) (.call "_law_any" [.hnd 0, .var 2]))) (v := [.hnd 0, .val (.int most), .val (.int top), .val (.bool ar), .val (.int (1 + c)), .non, .non]) (fun s => ∃ d, s = [d]) (fun _ y => ∃ i : Int, y = .int i ∧ 1 ≤ i ∧ i ≤ top) (by simp) (xs := rngL 0 (1 + c).toNat) (acc := []) (s := [d1]) (fun x _ s hs => by
    obtain ⟨d, rfl⟩ := hs
    obtain ⟨r, d', e3, r0, r1⟩ := any_run (show 1 ≤ m by omega) (b := top) (by omega) (by omega) d
    refine ⟨.int (1 + r), [d'], ?_, ⟨d', rfl⟩, 1 + r, rfl, by omega, by omega⟩
    simp [gT0, gTs, gV0, gVs, gH0, gHs, e3]) (by simp; exact sz hz) ⟨d1, rfl⟩
  obtain ⟨l, rfl, hl, hb⟩ := paired_tops pr
  rw [rngL_len] at hl
  obtain ⟨zs, s'', e4, ⟨d4, rfl⟩, pr2⟩ := lc_any (i := 6) (f := ev (callN P m) (.call "_law_rule" [.hnd 0, .var 4, .var 2, .call "_law_any" [.hnd 0, .cst (.int 4)], .var 3])) (v := [.hnd 0, .val (.int most), .val (.int top), .val (.bool ar), .val (.int (1 + c)), .val (.tuple (l.map .int)), .non]) (fun s => ∃ d, s = [d]) (fun _ y => ∃ r, y = toD r ∧ ∃ d, d ≤ 3 ∧ Gd (1 + c) d r) (by simp) (xs := rngL 0 (1 + c).toNat) (acc := []) (s := [d2]) (fun x _ s hs => by
    obtain ⟨d, rfl⟩ := hs
    obtain ⟨dpi, d3, e5, p0, p1⟩ := any_run (show 1 ≤ m by omega) (b := 4) (by omega) (by omega) d
    obtain ⟨dp, rfl⟩ := Int.eq_ofNat_of_zero_le p0
    have hdp : dp ≤ 3 := by omega
    obtain ⟨r, d5, e6, g⟩ := rule_run dp hdp m (by omega) (1 + c) top (by omega) (by omega) (by omega) ht1 ar d3
    refine ⟨toD r, [d5], ?_, ⟨d5, rfl⟩, r, rfl, dp, hdp, g⟩
    simp [gT0, gTs, gV0, gVs, gH0, gHs, e5, e6]) (by simp; exact sz hz) ⟨d2, rfl⟩
  obtain ⟨rs, rfl, hl2, gs⟩ := paired_deep pr2
  rw [rngL_len] at hl2
  have hk : (1 + c) = (l.length : Int) := by omega
  refine ⟨⟨l, rs⟩, d4, ?_, ⟨by show rs.length = l.length; omega, by show 1 ≤ l.length; omega, by show (l.length : Int) ≤ most; omega, hb, fun r hr => by obtain ⟨d, h3, g⟩ := gs r hr; exact ⟨d, h3, by show Gd (l.length : Int) d r; rw [← hk]; exact g⟩⟩⟩
  simp [b__law_net, NB.start, AV.slot, gT0, gTs, gV0, gVs, gH0, gHs, put, e1, e2, e4, hr, sz, netD]
end K52
set_option Elab.async false
set_option linter.all false
set_option maxRecDepth 100000
set_option maxHeartbeats 4000000
/-! K52E: branches, told, nets as they are used. -/
namespace K52
open PySem PySem.Spec PyProof.Rows L2 L2.NB
theorem f_branches : P.fn "branches" = some (.code 1 3 b_branches) := by kernel_rfl
theorem f_told_by : P.fn "told_by" = some (.code 3 6 b_told_by) := by kernel_rfl
theorem f_told : P.fn "told" = some (.code 2 2 b_told) := by kernel_rfl
theorem p_branches : ∀ (n : Nat) (r : Rl), Wf n r → hrs n r ≤ 1000 → ∀ (m : Nat) (s : S), n + 6 ≤ m → callN P m "branches" [.d (toD r)] s = .ok (.tuple ((brs n r).map .int)) s
  | 0, r, h, _, _, _, _ => h.elim
  | n + 1, r, ⟨h1, h2⟩, hb, m, s, hm => by
    obtain ⟨m, rfl⟩ : ∃ k, m = k + 1 := ⟨m - 1, by omega⟩
    rw [call_run f_branches rfl]
    have e0 : idxD (toD r) (.int 0) = some (.str (hw r)) := by rw [toD_eq]; exact at0
    have hh := hw_hear r
    cases hI : isH r with
    | true =>
      cases r <;> first | (cases hI; done) | skip
      simp (decide := true) [b_branches, NB.start, AV.slot, getT, getV, toD, at0, at1, sz, brs]
    | false =>
      rw [hI] at hh
      have hp := p_parts (s := s) (show 6 ≤ m by omega) h1
      have hs0 : hrs (n + 1) r = ((parts r).map (hrs n)).sum := by simp [hrs, hI]
      have hle : ∀ p ∈ parts r, hrs n p ≤ 1000 := fun p hp => by
        have : hrs n p ≤ ((parts r).map (hrs n)).sum := le_sum hp
        omega
      obtain ⟨v', s', loop, hs', x2, hv'⟩ := for_inv (g := .nm 2) (b := exs (callN P m) [.ext 1 (.call "branches" [.var 2])])
        (fun k v s' => s' = s ∧ ∃ x2, v = [.val (toD r), .own ((((parts r).take k).map (brs n)).flatten.map .int), x2])
        (xs := toDL (parts r)) (j := 0) (v := [.val (toD r), .own [], .non]) (s := s)
        (fun k x v s' hx hI => by
          obtain ⟨rfl, x2, rfl⟩ := hI
          obtain ⟨p, e1, rfl, hpm⟩ := map_get hx
          have ih := p_branches n p (h2 p hpm) (hle p hpm) m s' (by omega)
          rw [Nat.zero_add]
          refine ⟨_, by rw [putTg_nm, put_ok (by simp)], [.val (toD r), .own ((((parts r).take (k + 1)).map (brs n)).flatten.map .int), .val (toD p)], s', .inl ?_, rfl, _, rfl⟩
          have len : ((((parts r).take k).map (brs n)).flatten.map PyData.int).length + ((brs n p).map PyData.int).length ≤ sizeLine := by
            have e2 : ∀ l : List Rl, ((l.map (brs n)).flatten).length = (l.map (hrs n)).sum := fun l => by
              induction l with
              | nil => rfl
              | cons p l ih => simp [brs_len n p, ih]
            have e3 := sum_take (f := hrs n) e1
            have e4 := sum_take_le (f := hrs n) (parts r) (k + 1)
            rw [List.length_map, List.length_map, e2, brs_len]
            exact sz (by omega)
          rw [flat_take e1, List.map_append]
          generalize (((parts r).take k).map (brs n)).flatten.map PyData.int = A at len ⊢
          simp [getV, getO, put, ih, len]
          simp at len
          simp [len])
        ⟨rfl, .non, by simp⟩
      rw [Nat.zero_add] at hv'
      subst hs'
      have hsum : ((parts r).take (toDL (parts r)).length) = parts r := by rw [toDL_map, List.length_map, List.take_length]
      rw [hsum] at hv'
      subst hv'
      rw [brs_one hI]
      simp [b_branches, NB.start, AV.slot, getT, getV, hp, put, e0, hh, sz, loop]

theorem p_told_by : ∀ (n : Nat) (r : Rl), Wf n r → n ≤ 100 → ∀ (heard : List Int), (∀ x ∈ heard, Wo x) → heard.length ≤ 1000 → ∀ (i m : Nat) (s : S), i + hrs n r ≤ heard.length → n + 6 ≤ m →
    callN P m "told_by" [.d (toD r), .d (.tuple (heard.map .int)), .d (.int i)] s = .ok (.tuple [.int (val n r ((heard.drop i).take (hrs n r))), .int ((i + hrs n r : Nat))]) s
  | 0, r, h, _, _, _, _, _, _, _, _, _ => h.elim
  | n + 1, r, ⟨h1, h2⟩, hn, heard, hw0, hlen, i, m, s, hi, hm => by
    obtain ⟨m, rfl⟩ : ∃ k, m = k + 1 := ⟨m - 1, by omega⟩
    rw [call_run f_told_by rfl]
    have e0 : idxD (toD r) (.int 0) = some (.str (hw r)) := by rw [toD_eq]; exact at0
    have hh := hw_hear r
    have hs := hw_is r
    cases hI : isI r with
    | true =>
      cases r <;> first | (cases hI; done) | skip
      simp (decide := true) [b_told_by, NB.start, AV.slot, getT, getV, toD, at0, at1, sz, val, hrs, isH, parts]
    | false =>
      cases hH : isH r with
      | true =>
        cases r <;> first | (cases hH; done) | skip
        have hr1 : hrs (n + 1) (.hear ‹Int›) = 1 := by simp [hrs, isH, parts]
        rw [hr1] at hi ⊢
        have hlt : i < heard.length := by omega
        have e1 : atD (heard.map PyData.int) (i : Int) = some (.int heard[i]) := by
          rw [atD_nat, List.getElem?_map, List.getElem?_eq_getElem hlt]
          rfl
        simp (decide := true) [b_told_by, NB.start, AV.slot, getT, getV, toD, at0, at1, sz, val, e1]
        rw [List.drop_eq_getElem_cons hlt]
        rfl
      | false =>
        rw [hI] at hs
        rw [hH] at hh
        have hp := p_parts (s := s) (show 6 ≤ m by omega) h1
        have hpn := parts_ne h1 hI hH
        have hs0 : hrs (n + 1) r = ((parts r).map (hrs n)).sum := by simp [hrs, hH]
        rw [hs0] at hi
        have hpl := parts_len h1
        obtain ⟨v', s', loop, hs', x4, x5, hv'⟩ := for_inv (g := .nm 4) (b := exs (callN P m) [.tgt [5, 2] (.call "told_by" [.var 4, .var 1, .var 2]), .app 3 (.var 5)])
          (fun k v s' => s' = s ∧ ∃ x4 x5, v = [.val (toD r), .val (.tuple (heard.map .int)), .val (.int ((i + (((parts r).take k).map (hrs n)).sum : Nat))), .own ((vals (val n) (hrs n) ((parts r).take k) (heard.drop i)).map .int), x4, x5])
          (xs := toDL (parts r)) (j := 0) (v := [.val (toD r), .val (.tuple (heard.map .int)), .val (.int i), .own [], .non, .non]) (s := s)
          (fun k x v s' hx hI => by
            obtain ⟨rfl, x4, x5, rfl⟩ := hI
            obtain ⟨p, e1, rfl, hpm⟩ := map_get hx
            have e3 := sum_take (f := hrs n) e1
            have e4 := sum_take_le (f := hrs n) (parts r) (k + 1)
            have ih := p_told_by n p (h2 p hpm) (by omega) heard hw0 hlen (i + (((parts r).take k).map (hrs n)).sum) m s' (by omega) (by omega)
            rw [Nat.zero_add]
            have ek : (parts r).take (k + 1) = (parts r).take k ++ [p] := by rw [List.take_add_one, e1]; rfl
            have elen : (vals (val n) (hrs n) ((parts r).take k) (heard.drop i)).length ≤ 60 := by rw [vals_len, List.length_take]; omega
            refine ⟨_, by rw [putTg_nm, put_ok (by simp)], [.val (toD r), .val (.tuple (heard.map .int)), .val (.int ((i + (((parts r).take (k + 1)).map (hrs n)).sum : Nat))), .own ((vals (val n) (hrs n) ((parts r).take (k + 1)) (heard.drop i)).map .int), .val (toD p), .val (.int (val n p ((heard.drop (i + (((parts r).take k).map (hrs n)).sum)).take (hrs n p))))], s', .inl ?_, rfl, _, _, rfl⟩
            rw [e3, ek, vals_snoc, List.drop_drop, ← Nat.add_assoc, List.map_append]
            generalize i + (((parts r).take k).map (hrs n)).sum = T at ih ⊢
            generalize vals (val n) (hrs n) ((parts r).take k) (heard.drop i) = W at elen ⊢
            have hz : W.length < sizeLine := Nat.lt_of_le_of_lt elen (by decide)
            simp [getV, getO, put, ih, putTg, NB.putAll, hz])
          ⟨rfl, .non, .non, by simp [vals]⟩
        rw [Nat.zero_add] at hv'
        subst hs'
        have hsum : ((parts r).take (toDL (parts r)).length) = parts r := by rw [toDL_map, List.length_map, List.take_length]
        rw [hsum] at hv'
        subst hv'
        have hv := vals_bd (f := val n) (c := hrs n) (B := (Bd n : Int)) (parts r) (heard.drop i) (fun x hx => hw0 x (List.mem_of_mem_drop hx)) (fun p hp hs hh => val_bd n p (h2 p hp) hs hh)
        have hmade := p_made (s := s') (show 1 ≤ m by omega) h1 hpn (vals_len (f := val n) (c := hrs n) (parts r) (heard.drop i)) (small_of (by omega) hv)
        rw [val_one hpn, hs0, vals_take _ _ _ (Nat.le_refl _)]
        simp [b_told_by, NB.start, AV.slot, getT, getV, hp, put, e0, hh, hs, sz, loop, frzS, hmade]
theorem p_told {n : Nat} {r : Rl} (h : Wf n r) (hn : n ≤ 100) {heard : List Int} (h1 : ∀ x ∈ heard, Wo x) (h2 : heard.length = hrs n r) (h3 : heard.length ≤ 1000) {m : Nat} (hm : n + 7 ≤ m) {s : S} : callN P m "told" [.d (toD r), .d (.tuple (heard.map .int))] s = .ok (.int (val n r heard)) s := by
  obtain ⟨m, rfl⟩ : ∃ k, m = k + 1 := ⟨m - 1, by omega⟩
  rw [call_run f_told rfl]
  have e := p_told_by n r h hn heard h1 h3 0 m s (by omega) (by omega)
  rw [List.drop_zero, ← h2, List.take_length] at e
  have e' : callN P m "told_by" [.d (toD r), .d (.tuple (heard.map .int)), .d (.int 0)] s = .ok (.tuple [.int (val n r heard), .int ((0 + heard.length : Nat))]) s := e
  simp [b_told, NB.start, AV.slot, getT, getV, e', at0]

theorem wf_mono : ∀ (n : Nat) (r : Rl), Wf n r → ∀ m, n ≤ m → Wf m r ∧ brs m r = brs n r
  | 0, _, h, _, _ => h.elim
  | n + 1, r, ⟨h1, h2⟩, m, hm => by
    obtain ⟨m, rfl⟩ : ∃ k, m = k + 1 := ⟨m - 1, by omega⟩
    refine ⟨⟨h1, fun p hp => (wf_mono n p (h2 p hp) m (by omega)).1⟩, ?_⟩
    cases hH : isH r with
    | true =>
      cases r <;> first | (cases hH; done) | skip
      rfl
    | false =>
      rw [brs_one hH, brs_one hH]
      congr 1
      apply List.map_congr_left
      intro p hp
      exact (wf_mono n p (h2 p hp) m (by omega)).2
theorem hb12 : ∀ d, d ≤ 3 → Hb d ≤ 12
  | 0, _ => by decide
  | 1, _ => by decide
  | 2, _ => by decide
  | 3, _ => by decide
def ru (t : Net) (i : Nat) : Rl := t.rules.getD i (.is 0)
/-- the houses that house i hears, branch by branch -/
def br (t : Net) (i : Nat) : List Int := brs 4 (ru t i)
structure NetH (t : Net) : Prop where
  pos : 1 ≤ t.tops.length
  le : t.tops.length ≤ 5
  len : t.rules.length = t.tops.length
  wo : ∀ x ∈ t.tops, Wo x
  one : ∀ x ∈ t.tops, 1 ≤ x
  wf : ∀ i, i < t.tops.length → Wf 4 (ru t i)
  rule : ∀ i, i < t.tops.length → t.rules[i]? = some (ru t i)
  hb : ∀ i, i < t.tops.length → ∀ b ∈ br t i, 0 ≤ b ∧ b < t.tops.length
  hc : ∀ i, i < t.tops.length → hrs 4 (ru t i) ≤ 12
theorem netH {B most : Int} (hB : B ≤ 1000) (hm : most ≤ 5) {t : Net} (h : NetOk B most t) : NetH t := by
  have hw : ∀ x ∈ t.tops, Wo x := fun x hx => by have := h.tops x hx; exact ⟨by omega, by omega⟩
  have key : ∀ i, i < t.tops.length → Wf 4 (ru t i) ∧ t.rules[i]? = some (ru t i) ∧ (∀ b ∈ br t i, 0 ≤ b ∧ b < t.tops.length) ∧ hrs 4 (ru t i) ≤ 12 := fun i hi => by
    have hr : i < t.rules.length := by rw [h.len]; exact hi
    have er : t.rules[i]? = some t.rules[i] := List.getElem?_eq_getElem hr
    have e : ru t i = t.rules[i] := by
      unfold ru
      rw [List.getD_eq_getElem?_getD, er]
      rfl
    obtain ⟨d, hd, g⟩ := h.rules t.rules[i] (List.getElem_mem hr)
    obtain ⟨w1, w2⟩ := wf_mono (d + 1) t.rules[i] g.wf 4 (by omega)
    unfold br
    rw [e]
    have gh := g.h
    have := hb12 d hd
    exact ⟨w1, er, fun b hb => g.b b (by rw [← w2]; exact hb), by rw [← brs_len, w2, brs_len]; omega⟩
  exact ⟨h.pos, by have := h.most; omega, h.len, hw, fun x hx => (h.tops x hx).1, fun i hi => (key i hi).1, fun i hi => (key i hi).2.1, fun i hi => (key i hi).2.2.1, fun i hi => (key i hi).2.2.2⟩
theorem br_len {t : Net} {i : Nat} : (br t i).length = hrs 4 (ru t i) := brs_len 4 (ru t i)
theorem br_le {t : Net} (h : NetH t) {i : Nat} (hi : i < t.tops.length) : (br t i).length ≤ 12 := by rw [br_len]; exact h.hc i hi
theorem net_ix0 {t : Net} : idxD (netD t) (.int 0) = some (.tuple (t.tops.map .int)) := at0
theorem net_ix1 {t : Net} : idxD (netD t) (.int 1) = some (.tuple (toDL t.rules)) := at1
theorem top_at {l : List Int} {h : Nat} (h1 : h < l.length) : atD (l.map PyData.int) (h : Int) = some (.int (l.getD h 0)) := by
  rw [atD_nat, List.getElem?_map, List.getD_eq_getElem?_getD, List.getElem?_eq_getElem h1]
  rfl
theorem rules_at {t : Net} (h : NetH t) {i : Nat} (hi : i < t.tops.length) : atD (toDL t.rules) (i : Int) = some (toD (ru t i)) := by
  rw [toDL_map, atD_nat, List.getElem?_map, h.rule i hi]
  rfl
theorem f_wanted : P.fn "wanted" = some (.code 3 3 b_wanted) := by kernel_rfl
theorem f__law_wants : P.fn "_law_wants" = some (.code 3 3 b__law_wants) := by kernel_rfl
/-- what house i wants that hears hs -/
def wn (t : Net) (i : Nat) (hs : List Int) : Int := if val 4 (ru t i) hs < t.tops.getD i 0 then val 4 (ru t i) hs else t.tops.getD i 0
theorem getD_wo {t : List Int} (ht : ∀ x ∈ t, Wo x) (k : Nat) : Wo (t.getD k 0) := by
  rw [List.getD_eq_getElem?_getD]
  cases e : t[k]? with
  | none => exact ⟨Int.le_refl 0, by decide⟩
  | some x => exact ht x (List.mem_of_getElem? e)
theorem wn_bd {t : Net} (h : NetH t) {i : Nat} (hi : i < t.tops.length) {hs : List Int} (hw : ∀ x ∈ hs, Wo x) : 0 ≤ wn t i hs ∧ wn t i hs ≤ t.tops.getD i 0 := by
  have b := val_bd 4 (ru t i) (h.wf i hi) hs hw
  have w := getD_wo h.wo i
  unfold wn
  have := w.1
  split <;> omega
theorem p_wanted {t : Net} (h : NetH t) {i : Nat} (hi : i < t.tops.length) {hs : List Int} (hl : hs.length = (br t i).length) (hw : ∀ x ∈ hs, Wo x) {m : Nat} (hm : 12 ≤ m) {s : S} : callN P m "wanted" [.d (netD t), .d (.int (i : Nat)), .d (.tuple (hs.map .int))] s = .ok (.int (wn t i hs)) s := by
  obtain ⟨m, rfl⟩ : ∃ k, m = k + 1 := ⟨m - 1, by omega⟩
  rw [call_run f_wanted rfl]
  have hl2 := br_le h hi
  have e1 := p_told (h.wf i hi) (by decide) hw (by rw [hl, br_len]) (by omega) (show 4 + 7 ≤ m by omega) (s := s)
  have e2 := rules_at h hi
  have e3 := top_at hi
  unfold wn
  simp [b_wanted, NB.start, AV.slot, gT0, gTs, gV0, gVs, net_ix0, net_ix1, e1, e2, e3]
theorem l_wants {t : Net} (h : NetH t) {i : Nat} (hi : i < t.tops.length) {hs : List Int} (hl : hs.length = (br t i).length) (hw : ∀ x ∈ hs, Wo x) {m : Nat} (hm : 12 ≤ m) {s : S} : callN P m "_law_wants" [.d (netD t), .d (.int (i : Nat)), .d (.list (hs.map .int))] s = .ok (.int (wn t i hs)) s := by
  obtain ⟨m, rfl⟩ : ∃ k, m = k + 1 := ⟨m - 1, by omega⟩
  rw [call_run f__law_wants rfl]
  have hl2 := br_le h hi
  have e1 := l_told 4 (ru t i) (h.wf i hi) (by decide) hs hw (by rw [hl, br_len]) (by omega) m s (show 4 + 2 ≤ m by omega)
  have e2 := rules_at h hi
  have e3 := top_at hi
  unfold wn
  simp [b__law_wants, NB.start, AV.slot, gT0, gTs, gV0, gVs, net_ix0, net_ix1, e1, e2, e3]
end K52
set_option Elab.async false
set_option linter.all false
set_option maxRecDepth 100000
set_option maxHeartbeats 4000000
/-! K52F: what is a state, a past, a lateness, a run: for any value. -/
namespace K52
open PySem PySem.Spec PyProof.Rows L2 L2.NB
theorem f_is_state : P.fn "is_state" = some (.code 2 4 b_is_state) := by kernel_rfl
theorem f_is_past : P.fn "is_past" = some (.code 3 4 b_is_past) := by kernel_rfl
theorem f_is_house_lateness : P.fn "is_house_lateness" = some (.code 3 4 b_is_house_lateness) := by kernel_rfl
theorem f_is_lateness : P.fn "is_lateness" = some (.code 3 5 b_is_lateness) := by kernel_rfl
/-- no dict so far down -/
def ND : Nat → PyData → Prop
  | 0, x => noDict x = true
  | k + 1, x => noDict x = true ∧ ∀ xs, x = .tuple xs → ∀ y ∈ xs, ND k y
theorem ND.nd : ∀ {k : Nat} {x : PyData}, ND k x → noDict x = true
  | 0, _, h => h
  | _ + 1, _, h => h.1
theorem ND.item {k : Nat} {xs : List PyData} (h : ND (k + 1) (.tuple xs)) {y : PyData} (hy : y ∈ xs) : ND k y := h.2 xs rfl y hy
def isN (b : Int) : PyData → Bool
  | .int i => decide (0 ≤ i) && decide (i < b)
  | _ => false
theorem p_index {m : Nat} (hm : 3 ≤ m) {x : PyData} {b : Int} (h : noDict x = true) {s : S} : callN P m "is_index" [.d x, .d (.int b)] s = .ok (.bool (isN b x)) s := by
  rw [p_is_index hm h]
  cases x <;> rfl
def isT : PyData → Bool
  | .tuple _ => true
  | _ => false
theorem isi_tup {x : PyData} (h : noDict x = true) : isiD [.tuple] x = some (isT x) := by
  cases x <;> first | rfl | (cases h; done)
theorem isT_no {x : PyData} (h : isT x = false) : ∀ xs, x ≠ .tuple xs := fun xs z => by rw [z] at h; cases h
theorem all_map {α : Type} (f : α → Bool) (l : List α) : boolsOf (l.map fun p => PyData.bool (f p)) = some (l.map f) := by
  have := bools_map (l.map f)
  rw [List.map_map] at this
  exact this
theorem all_id {α : Type} (f : α → Bool) (l : List α) : (l.map f).all id = l.all f := by rw [List.all_map]; rfl
/-! ### states -/
def stB (ts : List Int) : PyData → Bool
  | .tuple xs => decide (xs.length = ts.length) && (xs.zip ts).all fun p => isN (p.2 + 1) p.1
  | _ => false
theorem p_is_state {t : Net} (h : NetH t) {x : PyData} (hx : ND 1 x) {m : Nat} (hm : 5 ≤ m) {s : S} : callN P m "is_state" [.d (netD t), .d x] s = .ok (.bool (stB t.tops x)) s := by
  obtain ⟨m, rfl⟩ : ∃ k, m = k + 1 := ⟨m - 1, by omega⟩
  rw [call_run f_is_state rfl]
  have hi := isi_tup hx.1
  cases hT : isT x with
  | false =>
    have hs : stB t.tops x = false := by cases x <;> first | rfl | (cases hT; done)
    rw [hT] at hi
    rw [hs]
    simp [b_is_state, NB.start, AV.slot, gT0, gTs, hi]
  | true =>
    rw [hT] at hi
    obtain ⟨xs, rfl⟩ : ∃ xs, x = .tuple xs := by cases x <;> first | exact ⟨_, rfl⟩ | (cases hT; done)
    by_cases hl : xs.length = t.tops.length
    · have hle := h.le
      have lp := lc_pure (tg := .tp [2, 3]) (f := ev (callN P m) (.call "is_index" [.var 2, .bin .add (.varT 3) (.cst (.int 1))])) (v := [.val (netD t), .val (.tuple xs), .non, .non]) (s := s) (g := fun p : PyData × Int => .tuple [p.1, .int p.2]) (F := fun p => .bool (isN (p.2 + 1) p.1)) (ps := xs.zip t.tops) (acc := []) (fun p hp => ⟨_, rfl, by
        have hd := (hx.item (List.of_mem_zip hp).1).nd
        simp [gV0, gVs, gT0, gTs, p_index (show 3 ≤ m by omega) hd]⟩) (by rw [List.length_zip]; simp only [List.length_nil]; exact sz (by omega))
      have hz := zip_mapR PyData.int xs t.tops
      simp [b_is_state, NB.start, AV.slot, gT0, gTs, net_ix0, hi, hl, zipD_TT, hz, lp, all_map, stB]
    · have hs : stB t.tops (.tuple xs) = false := by simp [stB, hl]
      have hl' : ¬ ((xs.length : Int) = (t.tops.length : Int)) := by omega
      rw [hs]
      simp [b_is_state, NB.start, AV.slot, gT0, gTs, net_ix0, hi, hl, hl']
end K52
set_option Elab.async false
set_option linter.all false
set_option maxRecDepth 100000
set_option maxHeartbeats 4000000
/-! K52G: pasts, latenesses, what is a run: for any value. -/
namespace K52
open PySem PySem.Spec PyProof.Rows L2 L2.NB
def paB (ts : List Int) (d : Nat) : PyData → Bool
  | .tuple xs => decide (xs.length = d) && xs.all (stB ts)
  | _ => false
theorem p_is_past {t : Net} (h : NetH t) {d : Nat} (hd : d ≤ 100) {x : PyData} (hx : ND 2 x) {m : Nat} (hm : 6 ≤ m) {s : S} : callN P m "is_past" [.d (netD t), .d (.int (d : Nat)), .d x] s = .ok (.bool (paB t.tops d x)) s := by
  obtain ⟨m, rfl⟩ : ∃ k, m = k + 1 := ⟨m - 1, by omega⟩
  rw [call_run f_is_past rfl]
  have hi := isi_tup hx.1
  cases hT : isT x with
  | false =>
    have hs : paB t.tops d x = false := by cases x <;> first | rfl | (cases hT; done)
    rw [hT] at hi
    rw [hs]
    simp [b_is_past, NB.start, AV.slot, gT0, gTs, hi]
  | true =>
    rw [hT] at hi
    obtain ⟨xs, rfl⟩ : ∃ xs, x = .tuple xs := by cases x <;> first | exact ⟨_, rfl⟩ | (cases hT; done)
    by_cases hl : xs.length = d
    · have lp := lc_pure (tg := .nm 3) (f := ev (callN P m) (.call "is_state" [.var 0, .var 3])) (v := [.val (netD t), .val (.int (d : Nat)), .val (.tuple xs), .non]) (s := s) (g := fun p : PyData => p) (F := fun p => .bool (stB t.tops p)) (ps := xs) (acc := []) (fun p hp => ⟨_, rfl, by
        have hp1 := hx.item hp
        simp [gV0, gVs, gT0, gTs, p_is_state h hp1 (show 5 ≤ m by omega)]⟩) (by simp only [List.length_nil]; exact sz (by omega))
      rw [List.map_id'] at lp
      have hl' : (xs.length : Int) = (d : Nat) := by omega
      simp [b_is_past, NB.start, AV.slot, gT0, gTs, hi, hl, hl', lp, all_map, paB]
    · have hs : paB t.tops d (.tuple xs) = false := by simp [paB, hl]
      have hl' : ¬ ((xs.length : Int) = (d : Nat)) := by omega
      rw [hs]
      simp [b_is_past, NB.start, AV.slot, gT0, gTs, hi, hl, hl']
/-- a number from 1 to d -/
def isL (d : Nat) : PyData → Bool
  | .int i => decide (0 ≤ i) && decide (i < (d : Int) + 1) && decide (0 < i)
  | _ => false
def hlB (n d : Nat) : PyData → Bool
  | .tuple xs => decide (xs.length = n) && xs.all (isL d)
  | _ => false
theorem p_house_late {t : Net} (h : NetH t) {i : Nat} (hi0 : i < t.tops.length) {d : Nat} (hd : d ≤ 100) {x : PyData} (hx : ND 1 x) {m : Nat} (hm : 12 ≤ m) {s : S} : callN P m "is_house_lateness" [.d (toD (ru t i)), .d (.int (d : Nat)), .d x] s = .ok (.bool (hlB (br t i).length d x)) s := by
  obtain ⟨m, rfl⟩ : ∃ k, m = k + 1 := ⟨m - 1, by omega⟩
  rw [call_run f_is_house_lateness rfl]
  have hi := isi_tup hx.1
  have hb := br_le h hi0
  have e1 := p_branches 4 (ru t i) (h.wf i hi0) (by have := h.hc i hi0; omega) m s (by omega)
  have e1' : callN P m "branches" [.d (toD (ru t i))] s = .ok (.tuple ((br t i).map .int)) s := e1
  generalize toD (ru t i) = R at e1' ⊢
  cases hT : isT x with
  | false =>
    have hs : hlB (br t i).length d x = false := by cases x <;> first | rfl | (cases hT; done)
    rw [hT] at hi
    rw [hs]
    simp [b_is_house_lateness, NB.start, AV.slot, gT0, gTs, hi]
  | true =>
    rw [hT] at hi
    obtain ⟨xs, rfl⟩ : ∃ xs, x = .tuple xs := by cases x <;> first | exact ⟨_, rfl⟩ | (cases hT; done)
    by_cases hl : xs.length = (br t i).length
    · have lp := lc_pure (tg := .nm 3) (f := ev (callN P m) (.and (.call "is_index" [.var 3, .bin .add (.varT 1) (.cst (.int 1))]) (.cmp .gt (.varT 3) (.cst (.int 0))))) (v := [.val R, .val (.int (d : Nat)), .val (.tuple xs), .non]) (s := s) (g := fun p : PyData => p) (F := fun p => .bool (isL d p)) (ps := xs) (acc := []) (fun p hp => ⟨_, rfl, by
        have hp1 := (hx.item hp).nd
        have e := p_index (s := s) (b := (d : Int) + 1) (show 3 ≤ m by omega) hp1
        cases hN : isN ((d : Int) + 1) p with
        | false =>
          have : isL d p = false := by
            cases p <;> first | rfl | skip
            simp only [isN] at hN
            simp only [isL, hN, Bool.false_and]
          rw [hN] at e
          rw [this]
          simp [gV0, gVs, gT0, gTs, e]
        | true =>
          cases p <;> first | (cases hN; done) | skip
          rename_i j
          rw [hN] at e
          have hN' : (decide (0 ≤ j) && decide (j < (d : Int) + 1)) = true := hN
          simp only [isL, hN', Bool.true_and]
          simp [gV0, gVs, gT0, gTs, e]⟩) (by simp only [List.length_nil]; exact sz (by omega))
      rw [List.map_id'] at lp
      simp [b_is_house_lateness, NB.start, AV.slot, gT0, gTs, gV0, gVs, hi, hl, e1', lp, all_map, hlB]
    · have hs : hlB (br t i).length d (.tuple xs) = false := by simp [hlB, hl]
      have hl' : ¬ ((xs.length : Int) = ((br t i).length : Nat)) := by omega
      rw [hs]
      simp [b_is_house_lateness, NB.start, AV.slot, gT0, gTs, gV0, gVs, hi, hl, hl', e1']
def laB (t : Net) (d : Nat) : PyData → Bool
  | .tuple xs => decide (xs.length = t.tops.length) && ((List.range t.tops.length).zip xs).all fun p => hlB (br t p.1).length d p.2
  | _ => false
theorem rules_eq {t : Net} (h : NetH t) : toDL t.rules = (List.range t.tops.length).map fun i => toD (ru t i) := by
  rw [toDL_map]
  apply List.ext_getElem?
  intro k
  rw [List.getElem?_map, List.getElem?_map]
  by_cases hk : k < t.tops.length
  · rw [h.rule k hk, List.getElem?_range hk]
    rfl
  · rw [List.getElem?_eq_none (by rw [h.len]; omega), List.getElem?_eq_none (by rw [List.length_range]; omega)]
    rfl
theorem p_is_lateness {t : Net} (h : NetH t) {d : Nat} (hd : d ≤ 100) {x : PyData} (hx : ND 2 x) {m : Nat} (hm : 13 ≤ m) {s : S} : callN P m "is_lateness" [.d (netD t), .d (.int (d : Nat)), .d x] s = .ok (.bool (laB t d x)) s := by
  obtain ⟨m, rfl⟩ : ∃ k, m = k + 1 := ⟨m - 1, by omega⟩
  rw [call_run f_is_lateness rfl]
  have hi := isi_tup hx.1
  have hle := h.le
  have hre := rules_eq h
  have hrl : (toDL t.rules).length = t.tops.length := by rw [hre, List.length_map, List.length_range]
  cases hT : isT x with
  | false =>
    have hs : laB t d x = false := by cases x <;> first | rfl | (cases hT; done)
    rw [hT] at hi
    rw [hs]
    simp [b_is_lateness, NB.start, AV.slot, gT0, gTs, hi]
  | true =>
    rw [hT] at hi
    obtain ⟨xs, rfl⟩ : ∃ xs, x = .tuple xs := by cases x <;> first | exact ⟨_, rfl⟩ | (cases hT; done)
    by_cases hl : xs.length = t.tops.length
    · have lp := lc_pure (tg := .tp [3, 4]) (f := ev (callN P m) (.call "is_house_lateness" [.var 3, .var 1, .var 4])) (v := [.val (netD t), .val (.int (d : Nat)), .val (.tuple xs), .non, .non]) (s := s) (g := fun p : Nat × PyData => .tuple [toD (ru t p.1), p.2]) (F := fun p => .bool (hlB (br t p.1).length d p.2)) (ps := (List.range t.tops.length).zip xs) (acc := []) (fun p hp => ⟨_, rfl, by
        have hp0 := List.mem_range.mp (List.of_mem_zip hp).1
        have hp1 := hx.item (List.of_mem_zip hp).2
        simp [gV0, gVs, gT0, gTs, p_house_late h hp0 hd hp1 (show 12 ≤ m by omega)]⟩) (by rw [List.length_zip]; simp only [List.length_nil]; exact sz (by omega))
      have hz := zip_mapL (fun i => toD (ru t i)) (List.range t.tops.length) xs
      rw [← hre] at hz
      simp [b_is_lateness, NB.start, AV.slot, gT0, gTs, net_ix1, hi, hl, hrl, zipD_TT, hz, lp, all_map, laB]
    · have hs : laB t d (.tuple xs) = false := by simp [laB, hl]
      have hl' : ¬ ((xs.length : Int) = (t.tops.length : Int)) := by omega
      rw [hs]
      simp [b_is_lateness, NB.start, AV.slot, gT0, gTs, net_ix1, hi, hl, hrl, hl']
end K52
set_option Elab.async false
set_option linter.all false
set_option maxRecDepth 100000
set_option maxHeartbeats 4000000
/-! K52H: can_follow, fault_of. -/
namespace K52
open PySem PySem.Spec PyProof.Rows L2 L2.NB
def roD (r : List Int) : PyData := .tuple (r.map .int)
def ltD (L : List (List Int)) : PyData := .tuple (L.map roD)
structure LtOk (t : Net) (d : Nat) (L : List (List Int)) : Prop where
  len : L.length = t.tops.length
  row : ∀ i, i < t.tops.length → (L.getD i []).length = (br t i).length
  num : ∀ i, i < t.tops.length → ∀ o ∈ L.getD i [], 1 ≤ o ∧ o ≤ (d : Int)
theorem getD_at {α : Type} {l : List α} {i : Nat} {x d : α} (h : l[i]? = some x) : l.getD i d = x := by rw [List.getD_eq_getElem?_getD, h]; rfl
theorem isL_ints {d : Nat} : ∀ {xs : List PyData}, xs.all (isL d) = true → ∃ r : List Int, xs = r.map .int ∧ ∀ o ∈ r, 1 ≤ o ∧ o ≤ (d : Int)
  | [], _ => ⟨[], rfl, fun o h => by cases h⟩
  | x :: xs, h => by
    rw [List.all_cons, Bool.and_eq_true] at h
    obtain ⟨r, rfl, hr⟩ := isL_ints h.2
    have h1 := h.1
    cases x <;> first | (cases h1; done) | skip
    rename_i j
    simp only [isL, Bool.and_eq_true, decide_eq_true_eq] at h1
    exact ⟨j :: r, rfl, fun o ho => (List.mem_cons.mp ho).elim (fun z => by rw [z]; omega) (hr o)⟩
theorem isL_of {d : Nat} {r : List Int} (h : ∀ o ∈ r, 1 ≤ o ∧ o ≤ (d : Int)) : (r.map PyData.int).all (isL d) = true := by
  rw [List.all_map, List.all_eq_true]
  intro o ho
  have := h o ho
  simp only [Function.comp, isL, Bool.and_eq_true, decide_eq_true_eq]
  omega
theorem hlB_ints {n d : Nat} {x : PyData} (h : hlB n d x = true) : ∃ r : List Int, x = roD r ∧ r.length = n ∧ ∀ o ∈ r, 1 ≤ o ∧ o ≤ (d : Int) := by
  cases x <;> first | (cases h; done) | skip
  simp only [hlB, Bool.and_eq_true, decide_eq_true_eq] at h
  obtain ⟨r, rfl, hr⟩ := isL_ints h.2
  exact ⟨r, rfl, by have := h.1; rwa [List.length_map] at this, hr⟩
theorem zip_at {α β : Type} {p : α × β} : ∀ {xs : List α} {ys : List β} {i : Nat} {x : α} {y : β}, xs[i]? = some x → ys[i]? = some y → (x, y) ∈ xs.zip ys
  | [], _, _, _, _, h, _ => by cases h
  | _ :: _, [], _, _, _, _, h => by cases h
  | a :: xs, b :: ys, 0, x, y, h, h2 => by
    cases h
    cases h2
    exact List.mem_cons_self
  | a :: xs, b :: ys, i + 1, x, y, h, h2 => List.mem_cons_of_mem _ (zip_at (p := (x, y).1 |> fun z => p) (by simpa using h) (by simpa using h2))
theorem mapped {f : PyData → Option (List Int)} : ∀ (xs : List PyData), (∀ x ∈ xs, ∃ r, x = roD r) → ∃ L : List (List Int), xs = L.map roD
  | [], _ => ⟨[], rfl⟩
  | x :: xs, h => by
    obtain ⟨r, rfl⟩ := h x List.mem_cons_self
    obtain ⟨L, rfl⟩ := mapped (f := f) xs fun y hy => h y (List.mem_cons_of_mem _ hy)
    exact ⟨r :: L, rfl⟩
theorem map_inj {α β : Type} {f : α → β} (hf : ∀ x y, f x = f y → x = y) : ∀ {a b : List α}, a.map f = b.map f → a = b
  | [], [], _ => rfl
  | [], _ :: _, h => by cases h
  | _ :: _, [], h => by cases h
  | x :: a, y :: b, h => by
    rw [List.map_cons, List.map_cons] at h
    injection h with h1 h2
    rw [hf x y h1, map_inj hf h2]
theorem roD_inj {a b : List Int} (h : roD a = roD b) : a = b := by
  unfold roD at h
  have h' : a.map PyData.int = b.map PyData.int := by injection h
  exact map_inj (fun x y z => by injection z) h'
theorem ltD_inj {a b : List (List Int)} (h : ltD a = ltD b) : a = b := by
  unfold ltD at h
  have h' : a.map roD = b.map roD := by injection h
  exact map_inj (fun x y z => roD_inj z) h'
theorem laB_ok {t : Net} {d : Nat} {x : PyData} (h : laB t d x = true) : ∃ L, x = ltD L ∧ LtOk t d L := by
  cases x <;> first | (cases h; done) | skip
  rename_i xs
  simp only [laB, Bool.and_eq_true, decide_eq_true_eq, List.all_eq_true] at h
  obtain ⟨hl, ha⟩ := h
  have key : ∀ i, i < t.tops.length → ∃ r, xs[i]? = some (roD r) ∧ r.length = (br t i).length ∧ ∀ o ∈ r, 1 ≤ o ∧ o ≤ (d : Int) := fun i hi => by
    have e1 : xs[i]? = some xs[i] := List.getElem?_eq_getElem (by omega)
    obtain ⟨r, er, h1, h2⟩ := hlB_ints (ha (i, xs[i]) (zip_at (p := (i, xs[i])) (List.getElem?_range hi) e1))
    refine ⟨r, ?_, h1, h2⟩
    rw [e1]
    exact congrArg some er
  obtain ⟨L, rfl⟩ := mapped (f := fun _ => none) xs fun x hx => by
    obtain ⟨i, hi⟩ := List.mem_iff_getElem?.mp hx
    obtain ⟨r, e, _, _⟩ := key i (by have := (List.getElem?_eq_some_iff.mp hi).1; omega)
    rw [hi] at e
    cases e
    exact ⟨r, rfl⟩
  rw [List.length_map] at hl
  have get : ∀ i, i < t.tops.length → (L.getD i []).length = (br t i).length ∧ ∀ o ∈ L.getD i [], 1 ≤ o ∧ o ≤ (d : Int) := fun i hi => by
    obtain ⟨r, e, h1, h2⟩ := key i hi
    rw [List.getElem?_map] at e
    obtain ⟨r', e1, e2⟩ := Option.map_eq_some_iff.mp e
    rw [getD_at e1, roD_inj e2]
    exact ⟨h1, h2⟩
  exact ⟨L, rfl, hl, fun i hi => (get i hi).1, fun i hi => (get i hi).2⟩
theorem laB_of {t : Net} {d : Nat} {L : List (List Int)} (h : LtOk t d L) : laB t d (ltD L) = true := by
  simp only [laB, ltD, Bool.and_eq_true, decide_eq_true_eq, List.all_eq_true, List.length_map]
  refine ⟨h.len, fun p hp => ?_⟩
  obtain ⟨k, hk⟩ := List.mem_iff_getElem?.mp hp
  rw [List.getElem?_zip_eq_some] at hk
  obtain ⟨h1, h2⟩ := hk
  obtain ⟨hk0, e1⟩ := List.getElem?_eq_some_iff.mp h1
  rw [List.length_range] at hk0
  rw [List.getElem_range] at e1
  rw [List.getElem?_map] at h2
  obtain ⟨r, e2, e3⟩ := Option.map_eq_some_iff.mp h2
  have hr := h.row k hk0
  have hn := h.num k hk0
  rw [getD_at e2] at hr hn
  rw [← e1, ← e3]
  simp only [hlB, roD, Bool.and_eq_true, decide_eq_true_eq, List.length_map]
  exact ⟨hr, isL_of hn⟩
def ltOf : PyData → List (List Int)
  | .tuple xs => xs.map fun x => match x with | .tuple ys => ys.filterMap (fun y => match y with | .int i => some i | _ => none) | _ => []
  | _ => []
theorem ltOf_ltD (L : List (List Int)) : ltOf (ltD L) = L := by
  unfold ltD ltOf
  simp only [List.map_map]
  conv => rhs; rw [← List.map_id L]
  apply List.map_congr_left
  intro r hr
  clear hr
  simp only [Function.comp, roD, List.filterMap_map, id]
  induction r with
  | nil => rfl
  | cons a r ih => rw [List.filterMap_cons]; simp only [Function.comp]; rw [ih]
def folB (A B : List (List Int)) : Bool := (A.zip B).all fun p => (p.1.zip p.2).all fun q => decide (q.2 ≤ q.1 + 1)
end K52
set_option Elab.async false
set_option linter.all false
set_option maxRecDepth 100000
set_option maxHeartbeats 4000000
/-! K52J: what is shown next. -/
namespace K52
open PySem PySem.Spec PyProof.Rows L2 L2.NB
theorem f_shows_next : P.fn "shows_next" = some (.code 3 9 b_shows_next) := by kernel_rfl
structure StOk (t : Net) (st : List Int) : Prop where
  len : st.length = t.tops.length
  num : ∀ i, i < t.tops.length → 0 ≤ st.getD i 0 ∧ st.getD i 0 ≤ t.tops.getD i 0
def paD (ss : List (List Int)) : PyData := .tuple (ss.map roD)
def hear (bs row : List Int) (ss : List (List Int)) : List Int := (bs.zip row).map fun p => (ss.getD (ss.length - p.2.toNat) []).getD p.1.toNat 0
def nextH (t : Net) (ss : List (List Int)) (L : List (List Int)) (i : Nat) : Int := wn t i (hear (br t i) (L.getD i []) ss)
def nextL (t : Net) (ss : List (List Int)) (L : List (List Int)) : List Int := (List.range t.tops.length).map (nextH t ss L)
theorem hear_len {bs row : List Int} {ss : List (List Int)} (h : row.length = bs.length) : (hear bs row ss).length = bs.length := by
  unfold hear
  rw [List.length_map, List.length_zip, h, Nat.min_self]
theorem hear_wo {t : Net} (h : NetH t) {i : Nat} (hi : i < t.tops.length) {row : List Int} {ss : List (List Int)} {d : Nat} (hs : ∀ st ∈ ss, StOk t st) : ∀ x ∈ hear (br t i) row ss, Wo x := fun x hx => by
  obtain ⟨p, hp, rfl⟩ := List.mem_map.mp hx
  have hb := h.hb i hi p.1 (List.of_mem_zip hp).1
  generalize ss.length - p.2.toNat = k
  cases e : ss[k]? with
  | none =>
    have g : ss.getD k [] = [] := by rw [List.getD_eq_getElem?_getD, e]; rfl
    rw [g]
    exact ⟨Int.le_refl 0, by show (0 : Int) < 1001; decide⟩
  | some st =>
    rw [getD_at e]
    have hst := (hs st (List.mem_of_getElem? e)).num p.1.toNat (by omega)
    have hw := getD_wo h.wo p.1.toNat
    exact ⟨hst.1, Int.lt_of_le_of_lt hst.2 hw.2⟩
theorem next_ok {t : Net} (h : NetH t) {ss : List (List Int)} {L : List (List Int)} (hs : ∀ st ∈ ss, StOk t st) : StOk t (nextL t ss L) := by
  refine ⟨by unfold nextL; rw [List.length_map, List.length_range], fun i hi => ?_⟩
  have e : (nextL t ss L).getD i 0 = nextH t ss L i := by
    unfold nextL
    apply getD_at
    rw [List.getElem?_map, List.getElem?_range hi]
    rfl
  rw [e]
  exact wn_bd h hi (hear_wo h hi (d := 0) hs)
/-- one news: the state so many beats ago, the house heard -/
theorem news_at {t : Net} (h : NetH t) {i : Nat} (hi : i < t.tops.length) {ss : List (List Int)} (hs : ∀ st ∈ ss, StOk t st) {b o : Int} (hb : b ∈ br t i) {d : Nat} (ho : 1 ≤ o ∧ o ≤ (d : Int)) (hd : d ≤ ss.length) : ∃ st, atD (ss.map roD) ((ss.length : Int) - o) = some (roD st) ∧ atD (st.map PyData.int) b = some (.int ((ss.getD (ss.length - o.toNat) []).getD b.toNat 0)) := by
  have hk : ss.length - o.toNat < ss.length := by omega
  have e1 : (ss.length : Int) - o = ((ss.length - o.toNat : Nat) : Int) := by omega
  have e2 : ss[ss.length - o.toNat]? = some ss[ss.length - o.toNat] := List.getElem?_eq_getElem hk
  refine ⟨ss[ss.length - o.toNat], ?_, ?_⟩
  · rw [e1, atD_nat, List.getElem?_map, e2]
    rfl
  · rw [getD_at e2]
    have hst := hs _ (List.getElem_mem hk)
    have hbb := h.hb i hi b hb
    have e3 : b = ((b.toNat : Nat) : Int) := by omega
    have := top_at (l := ss[ss.length - o.toNat]) (h := b.toNat) (by rw [hst.len]; omega)
    rw [← e3] at this
    exact this
theorem p_shows_next {t : Net} (h : NetH t) {d : Nat} {ss : List (List Int)} (hs : ∀ st ∈ ss, StOk t st) (hd : d ≤ ss.length) {L : List (List Int)} (hL : LtOk t d L) {m : Nat} (hm : 14 ≤ m) {s : S} : callN P m "shows_next" [.d (netD t), .d (paD ss), .d (ltD L)] s = .ok (roD (nextL t ss L)) s := by
  obtain ⟨m, rfl⟩ : ∃ k, m = k + 1 := ⟨m - 1, by omega⟩
  rw [call_run f_shows_next rfl]
  have hle := h.le
  obtain ⟨v', s', loop, rfl, x4, x5, x6, rfl⟩ := for_inv (g := .tp [4, 5]) (b := exs (callN P m) [.set 6 (.lc (.idx (.idx (.varT 1) (.bin .sub (.bi .len [.varT 1]) (.varT 8))) (.varT 7)) (.tp [7, 8]) (.zip (.call "branches" [.idx (.idx (.varT 0) (.cst (.int 1))) (.varT 4)]) (.varT 5))), .app 3 (.call "wanted" [.var 0, .var 4, .bi .tup [.varT 6]])])
    (fun k v s' => s' = s ∧ ∃ x4 x5 x6, v = [.val (netD t), .val (paD ss), .val (ltD L), .own (((List.range k).map (nextH t ss L)).map .int), x4, x5, x6, .non, .non])
    (xs := enumL (L.map roD)) (j := 0) (v := [.val (netD t), .val (paD ss), .val (ltD L), .own [], .non, .non, .non, .non, .non]) (s := s)
    (fun k x v s' hx hI => by
      obtain ⟨rfl, x4, x5, x6, rfl⟩ := hI
      obtain ⟨y, hy, rfl⟩ := enum_get hx
      rw [List.getElem?_map] at hy
      obtain ⟨row, hrow, rfl⟩ := Option.map_eq_some_iff.mp hy
      have hk : k < t.tops.length := by rw [← hL.len]; exact (List.getElem?_eq_some_iff.mp hrow).1
      have gr : L.getD k [] = row := getD_at hrow
      have r1 := hL.row k hk
      have r2 := hL.num k hk
      rw [gr] at r1 r2
      rw [Nat.zero_add]
      have hb := br_le h hk
      have e1 : callN P m "branches" [.d (toD (ru t k))] s' = .ok (.tuple ((br t k).map .int)) s' := p_branches 4 (ru t k) (h.wf k hk) (by have := h.hc k hk; omega) m s' (by omega)
      have e2 := rules_at h hk
      have hz : zipD (.tuple ((br t k).map .int)) (roD row) = some (.list (((br t k).zip row).map fun p => PyData.tuple [.int p.1, .int p.2])) := by
        show some (PyData.list (zipL ((br t k).map .int) (row.map .int))) = _
        rw [zip_mapB]
      have hlen : ((hear (br t k) row ss).map PyData.int) = ((br t k).zip row).map fun p => PyData.int ((ss.getD (ss.length - p.2.toNat) []).getD p.1.toNat 0) := by
        unfold hear
        rw [List.map_map]
        rfl
      have lp := lc_pure (tg := .tp [7, 8]) (f := ev (callN P m) (.idx (.idx (.varT 1) (.bin .sub (.bi .len [.varT 1]) (.varT 8))) (.varT 7))) (v := [.val (netD t), .val (paD ss), .val (ltD L), .own (((List.range k).map (nextH t ss L)).map .int), .val (.int (k : Nat)), .val (roD row), x6, .non, .non]) (s := s') (g := fun p : Int × Int => PyData.tuple [.int p.1, .int p.2]) (F := fun p => PyData.int ((ss.getD (ss.length - p.2.toNat) []).getD p.1.toNat 0)) (ps := (br t k).zip row) (acc := []) (fun p hp => ⟨_, rfl, by
        obtain ⟨st, n1, n2⟩ := news_at h hk hs (List.of_mem_zip hp).1 (r2 p.2 (List.of_mem_zip hp).2) hd
        simp [gT0, gTs, paD, n1, roD, n2]⟩) (by rw [List.length_zip]; simp only [List.length_nil]; exact sz (by omega))
      rw [List.nil_append, ← hlen] at lp
      have e3 := p_wanted h hk (hs := hear (br t k) row ss) (hear_len r1) (hear_wo h hk (d := 0) hs) (show 12 ≤ m by omega) (s := s')
      have hnx : nextH t ss L k = wn t k (hear (br t k) row ss) := by unfold nextH; rw [gr]
      refine ⟨_, rfl, [.val (netD t), .val (paD ss), .val (ltD L), .own (((List.range (k + 1)).map (nextH t ss L)).map .int), .val (.int (k : Nat)), .val (roD row), .val (.list ((hear (br t k) row ss).map .int)), .non, .non], s', .inl ?_, rfl, _, _, _, rfl⟩
      rw [List.range_succ, List.map_append, List.map_append, List.map_singleton, List.map_singleton, hnx]
      have hz2 : ((List.range k).map (nextH t ss L)).length < sizeLine := by
        rw [List.length_map, List.length_range]
        exact Nat.lt_of_lt_of_le hk (sz (by omega))
      generalize (List.range k).map (nextH t ss L) = W at hz2 lp ⊢
      generalize paD ss = PS at lp ⊢
      generalize ltD L = LL at lp ⊢
      simp [gT0, gTs, gV0, gVs, gO0, gOs, put, net_ix1, e2, e1, hz, lp, e3, hz2])
    ⟨rfl, .non, .non, .non, rfl⟩
  have hn : (enumL (L.map roD)).length = t.tops.length := by rw [enum_len, List.length_map, hL.len]
  rw [Nat.zero_add, hn] at loop
  have he : enumD (ltD L) = some (.list (enumL (L.map roD))) := rfl
  have hr : roD (nextL t ss L) = .tuple (((List.range t.tops.length).map (nextH t ss L)).map .int) := rfl
  have hz3 : ((List.range t.tops.length).map (nextH t ss L)).length ≤ sizeLine := by rw [List.length_map, List.length_range]; exact sz (by omega)
  rw [hr]
  generalize (List.range t.tops.length).map (nextH t ss L) = W at hz3 loop ⊢
  generalize paD ss = PS at loop ⊢
  generalize ltD L = LL at loop he ⊢
  simp [b_shows_next, NB.start, AV.slot, gT0, gTs, gV0, gVs, gT0o, put, he, loop]
end K52
set_option Elab.async false
set_option linter.all false
set_option maxRecDepth 100000
set_option maxHeartbeats 4000000
/-! K52K: runs, what they show. -/
namespace K52
open PySem PySem.Spec PyProof.Rows L2 L2.NB
theorem nd_int {i : Int} : ∀ k, ND k (.int i)
  | 0 => rfl
  | k + 1 => ⟨rfl, fun xs z => by cases z⟩
theorem nd_tup {xs : List PyData} {k : Nat} (h : ∀ y ∈ xs, ND k y) : ND (k + 1) (.tuple xs) := ⟨rfl, fun ys z y hy => by cases z; exact h y hy⟩
theorem nd_ro {r : List Int} : ∀ k, ND k (roD r)
  | 0 => rfl
  | k + 1 => nd_tup fun y hy => by obtain ⟨i, _, rfl⟩ := List.mem_map.mp hy; exact nd_int k
theorem nd_lt {L : List (List Int)} : ∀ k, ND k (ltD L)
  | 0 => rfl
  | k + 1 => nd_tup fun y hy => by obtain ⟨i, _, rfl⟩ := List.mem_map.mp hy; exact nd_ro k
theorem stB_of {t : Net} {st : List Int} (h : StOk t st) : stB t.tops (roD st) = true := by
  simp only [stB, roD, Bool.and_eq_true, decide_eq_true_eq, List.length_map, List.all_eq_true]
  refine ⟨h.len, fun p hp => ?_⟩
  obtain ⟨k, hk⟩ := List.mem_iff_getElem?.mp hp
  rw [List.getElem?_zip_eq_some] at hk
  obtain ⟨h1, h2⟩ := hk
  have hk0 := (List.getElem?_eq_some_iff.mp h2).1
  rw [List.getElem?_map] at h1
  obtain ⟨x, e2, e3⟩ := Option.map_eq_some_iff.mp h1
  have hn := h.num k hk0
  rw [getD_at e2, getD_at h2] at hn
  rw [← e3]
  simp only [isN, Bool.and_eq_true, decide_eq_true_eq]
  omega
theorem paB_of {t : Net} {d : Nat} {ss : List (List Int)} (hl : ss.length = d) (h : ∀ st ∈ ss, StOk t st) : paB t.tops d (paD ss) = true := by
  simp only [paB, paD, Bool.and_eq_true, decide_eq_true_eq, List.length_map, List.all_eq_true]
  refine ⟨hl, fun x hx => ?_⟩
  obtain ⟨st, hst, rfl⟩ := List.mem_map.mp hx
  exact stB_of (h st hst)
theorem cut_neg {α : Type} {l : List α} {d : Nat} (h1 : 1 ≤ d) (h2 : d ≤ l.length) : NB.cutD l (some (-(d : Int))) none = l.drop (l.length - d) := by
  have e : NB.sIx l.length 0 (some (-(d : Int))) = l.length - d := by unfold NB.sIx; simp only; rw [if_pos (by omega)]; omega
  unfold NB.cutD
  rw [e]
  show (l.drop (l.length - d)).take (l.length - (l.length - d)) = _
  rw [List.take_of_length_le (by rw [List.length_drop]; omega)]
theorem cut_pos {α : Type} {l : List α} {d : Nat} : NB.cutD l (some (d : Int)) none = l.drop d := by
  have e : NB.sIx l.length 0 (some (d : Int)) = min d l.length := by unfold NB.sIx; simp only; rw [if_neg (by omega)]; omega
  unfold NB.cutD
  rw [e]
  show (l.drop (min d l.length)).take (l.length - (min d l.length)) = _
  by_cases h : d ≤ l.length
  · rw [Nat.min_eq_left h, List.take_of_length_le (by rw [List.length_drop]; omega)]
  · rw [Nat.min_eq_right (by omega), Nat.sub_self, List.take_zero, List.drop_eq_nil_of_le (by omega)]
theorem hear_drop {bs row : List Int} {ss : List (List Int)} {d : Nat} (hr : ∀ o ∈ row, 1 ≤ o ∧ o ≤ (d : Int)) (hd : d ≤ ss.length) : hear bs row (ss.drop (ss.length - d)) = hear bs row ss := by
  unfold hear
  apply List.map_congr_left
  intro p hp
  have ho := hr p.2 (List.of_mem_zip hp).2
  congr 1
  rw [List.getD_eq_getElem?_getD, List.getD_eq_getElem?_getD, List.getElem?_drop, List.length_drop]
  congr 2
  omega
theorem next_drop {t : Net} {ss : List (List Int)} {d : Nat} {L : List (List Int)} (hL : LtOk t d L) (hd : d ≤ ss.length) : nextL t (ss.drop (ss.length - d)) L = nextL t ss L := by
  unfold nextL nextH
  apply List.map_congr_left
  intro i hi
  rw [hear_drop (hL.num i (List.mem_range.mp hi)) hd]
end K52
set_option Elab.async false
set_option linter.all false
set_option maxRecDepth 100000
set_option maxHeartbeats 4000000
/-! K52L: drawn states and latenesses. -/
namespace K52
open PySem PySem.Spec PyProof.Rows L2 L2.NB
theorem nice_ro {r : List Int} (h : ∀ x ∈ r, Wo x) : Nice 1 (r.length * 6 + 3) (roD r) := by
  have := Nice.tup (k := 0) (w := 4) (xs := r.map PyData.int) fun x hx => by
    obtain ⟨i, hi, rfl⟩ := List.mem_map.mp hx
    exact Nice.int (h i hi).1 (h i hi).2
  rw [List.length_map] at this
  exact this
theorem eqv_ro {a b : List Int} : PyData.eqv (roD a) (roD b) = decide (a = b) := eqv_ints a b
theorem eqv_pa {a b : List (List Int)} : PyData.eqv (paD a) (paD b) = decide (a = b) := by
  unfold paD
  rw [PyData.eqv]
  exact eqvAll_map roD (fun i j => eqv_ro) a b
theorem st_wo {t : Net} (h : NetH t) {st : List Int} (hs : StOk t st) : ∀ x ∈ st, Wo x := fun x hx => by
  obtain ⟨i, hi⟩ := List.mem_iff_getElem?.mp hx
  have hk := (List.getElem?_eq_some_iff.mp hi).1
  rw [hs.len] at hk
  have := hs.num i hk
  rw [getD_at hi] at this
  exact ⟨this.1, Int.lt_of_le_of_lt this.2 (getD_wo h.wo i).2⟩
theorem lt_wo {t : Net} {d : Nat} (hd : d ≤ 100) {L : List (List Int)} (hL : LtOk t d L) : ∀ r ∈ L, ∀ x ∈ r, Wo x := fun r hr x hx => by
  obtain ⟨i, hi⟩ := List.mem_iff_getElem?.mp hr
  have hk := (List.getElem?_eq_some_iff.mp hi).1
  rw [hL.len] at hk
  have := hL.num i hk
  rw [getD_at hi] at this
  have := this x hx
  exact ⟨by omega, by omega⟩
theorem nice_st {t : Net} (h : NetH t) {st : List Int} (hs : StOk t st) : Nice 1 33 (roD st) := (nice_ro (st_wo h hs)).mono (Nat.le_refl _) (by rw [hs.len]; have := h.le; omega)
theorem nice_pa {t : Net} (h : NetH t) {ss : List (List Int)} (hs : ∀ st ∈ ss, StOk t st) : Nice 2 (ss.length * 35 + 3) (paD ss) := by
  have := Nice.tup (k := 1) (w := 33) (xs := ss.map roD) fun x hx => by
    obtain ⟨i, hi, rfl⟩ := List.mem_map.mp hx
    exact nice_st h (hs i hi)
  rw [List.length_map] at this
  exact this
theorem nice_la {t : Net} (h : NetH t) {d : Nat} (hd : d ≤ 100) {L : List (List Int)} (hL : LtOk t d L) : Nice 2 400 (ltD L) := by
  have := Nice.tup (k := 1) (w := 75) (xs := L.map roD) fun x hx => by
    obtain ⟨r, hr, rfl⟩ := List.mem_map.mp hx
    refine (nice_ro (lt_wo hd hL r hr)).mono (Nat.le_refl _) ?_
    obtain ⟨i, hi⟩ := List.mem_iff_getElem?.mp hr
    have hk := (List.getElem?_eq_some_iff.mp hi).1
    rw [hL.len] at hk
    have := hL.row i hk
    rw [getD_at hi] at this
    have := br_le h hk
    omega
  refine this.mono (Nat.le_refl _) ?_
  rw [List.length_map, hL.len]
  have := h.le
  omega
end K52
set_option Elab.async false
set_option linter.all false
set_option maxRecDepth 100000
set_option maxHeartbeats 4000000
/-! K52M: stopped runs: the program's looks. -/
namespace K52
open PySem PySem.Spec PyProof.Rows L2 L2.NB
theorem f_is_rising : P.fn "is_rising" = some (.code 2 4 b_is_rising) := by kernel_rfl
theorem f_is_beat : P.fn "is_beat" = some (.code 3 3 b_is_beat) := by kernel_rfl
theorem f_moves_of : P.fn "moves_of" = some (.code 2 4 b_moves_of) := by kernel_rfl
theorem f_is_moving : P.fn "is_moving" = some (.code 3 5 b_is_moving) := by kernel_rfl
theorem f_is_newer : P.fn "is_newer" = some (.code 3 9 b_is_newer) := by kernel_rfl
abbrev Bt := List Nat × List (List Int)
def nD (k : Nat) : PyData := .int (k : Nat)
def moD (ms : List Nat) : PyData := .tuple (ms.map nD)
def btD (b : Bt) : PyData := .tuple [moD b.1, ltD b.2]
def bt0 : Bt := ([], [])
def rnD (ss : List (List Int)) (B : List Bt) : PyData := .tuple [paD ss, .tuple (B.map btD)]
structure MoOk (n : Nat) (ms : List Nat) : Prop where
  lt : ∀ k ∈ ms, k < n
  asc : ∀ i, i + 1 < ms.length → ms.getD i 0 < ms.getD (i + 1) 0
  len : ms.length ≤ n
theorem ev_isi {k : CallT} {a : E} {v : NB.Env} {s s1 : S} {x : PyData} (ha : ev k a v s = .ok x s1) (hn : noDict x = true) : ev k (.isi a [.tuple]) v s = .ok (.bool (isT x)) s1 := by
  rw [q_isi, run_bind, ha]
  show (do let t ← liftO (isiD [.tuple] x); M.pure (PyData.bool t)) s1 = _
  rw [isi_tup hn]
  rfl
theorem ix0 {x : PyData} {xs : List PyData} : idxD (.tuple (x :: xs)) (.int 0) = some x := at0
theorem ix1 {a x : PyData} {xs : List PyData} : idxD (.tuple (a :: x :: xs)) (.int 1) = some x := at1
theorem some_getD {α : Type} {l : List α} {i : Nat} {d : α} (h : i < l.length) : l[i]? = some (l.getD i d) := by
  rw [List.getElem?_eq_getElem h, getD_at (List.getElem?_eq_getElem h)]
theorem at_map {α : Type} {f : α → PyData} {l : List α} {i : Nat} {d : α} (h : i < l.length) : atD (l.map f) (i : Int) = some (f (l.getD i d)) := by
  rw [atD_nat, List.getElem?_map, some_getD (d := d) h]
  rfl
theorem mem_mo {h : Nat} {ms : List Nat} : memD (.int (h : Nat)) (moD ms) = some (decide (h ∈ ms)) := by
  have h1 : (ms.map nD).all flatD = true := by
    rw [List.all_eq_true]
    intro x hx
    obtain ⟨k, _, rfl⟩ := List.mem_map.mp hx
    rfl
  show (if flatD (.int (h : Nat)) = true ∧ (ms.map nD).all flatD = true then some ((ms.map nD).any fun y => PyData.eqv y (.int (h : Nat))) else none) = _
  rw [if_pos ⟨rfl, h1⟩]
  congr 1
  rw [Bool.eq_iff_iff, List.any_eq_true, decide_eq_true_eq]
  constructor
  · rintro ⟨x, hx, e⟩
    obtain ⟨k, hk, rfl⟩ := List.mem_map.mp hx
    unfold nD at e
    rw [PyData.eqv] at e
    have : (k : Int) = (h : Int) := by simpa using e
    have : k = h := by omega
    rw [← this]
    exact hk
  · intro hk
    refine ⟨_, List.mem_map.mpr ⟨h, hk, rfl⟩, ?_⟩
    unfold nD
    rw [PyData.eqv]
    simp
/-! ### ascending -/
def risI : C := .ifs (.or (.not (.isi (.varT 0) [.tuple])) (.not (.bi .all [.lc (.call "is_index" [.var 3, .var 1]) (.nm 3) (.varT 0)]))) [.ret (.cst (.bool false))] []
theorem ris_split : b_is_rising = [risI, .ret (.bi .all [.lc (.cmp .lt (.idx (.varT 0) (.varT 2)) (.idx (.varT 0) (.bin .add (.varT 2) (.cst (.int 1))))) (.nm 2) (.rng1 (.bin .sub (.bi .len [.varT 0]) (.cst (.int 1))))])] := rfl
theorem ris_all {α : Type} {f : α → PyData} {l : List α} {n : Int} (hf : ∀ a, noDict (f a) = true) (hl : l.length ≤ 1000) {m : Nat} (hm : 3 ≤ m) {s : S} : ev (callN P m) (.bi .all [.lc (.call "is_index" [.var 3, .var 1]) (.nm 3) (.varT 0)]) [.val (.tuple (l.map f)), .val (.int n), .non, .non] s = .ok (.bool (l.all fun a => isN n (f a))) s :=
  ev_all (ps := l) (G := f) (fun a => isN n (f a)) (ev_varT rfl) rfl (fun a _ => ⟨_, rfl, ev_call (evA_nx rfl (ev_var rfl) (evA_nx rfl (ev_var rfl) q_Anil)) (p_index hm (hf a))⟩) (sz hl)
theorem p_rising_ok {n : Nat} (hn : n ≤ 900) {ms : List Nat} (h : MoOk n ms) {m : Nat} (hm : 4 ≤ m) {s : S} : callN P m "is_rising" [.d (moD ms), .d (.int (n : Nat))] s = .ok (.bool true) s := by
  obtain ⟨m, rfl⟩ : ∃ k, m = k + 1 := ⟨m - 1, by omega⟩
  have hl := h.len
  have c1 : ev (callN P m) (.isi (.varT 0) [.tuple]) [.val (moD ms), .val (.int (n : Nat)), .non, .non] s = .ok (.bool true) s := ev_isi (x := moD ms) (ev_varT rfl) rfl
  have c2 := ris_all (f := nD) (l := ms) (n := (n : Int)) (fun a => rfl) (by omega) (show 3 ≤ m by omega) (s := s)
  have e2 : (ms.all fun a => isN (n : Int) (nD a)) = true := by
    rw [List.all_eq_true]
    intro k hk
    have := h.lt k hk
    simp only [nD, isN, Bool.and_eq_true, decide_eq_true_eq]
    omega
  rw [e2] at c2
  have s1 : ex (callN P m) risI [.val (moD ms), .val (.int (n : Nat)), .non, .non] s = .ok (.nx, [.val (moD ms), .val (.int (n : Nat)), .non, .non]) s := ex_ifs_no (ev_or_no (ev_not c1) (ev_not c2))
  have e0 : ev (callN P m) (.rng1 (.bin .sub (.bi .len [.varT 0]) (.cst (.int 1)))) [.val (moD ms), .val (.int (n : Nat)), .non, .non] s = .ok (.list (rL (ms.length - 1))) s := by
    have := ev_rng1 (k := callN P m) (e := .bin .sub (.bi .len [.varT 0]) (.cst (.int 1))) (v := [.val (moD ms), .val (.int (n : Nat)), .non, .non]) (s := s) (s' := s) (n := (ms.length : Int) - 1) (ev_bin (ev_bi1 rfl (ev_varT rfl) d_lenT) ev_cst (by rw [List.length_map]; rfl)) (rI_ok (by omega) (by omega))
    rw [show ((ms.length : Int) - 1).toNat = ms.length - 1 by omega] at this
    exact this
  have c3 := ev_all (k := callN P m) (e := .cmp .lt (.idx (.varT 0) (.varT 2)) (.idx (.varT 0) (.bin .add (.varT 2) (.cst (.int 1))))) (g := .nm 2) (ps := List.range (ms.length - 1)) (G := nD) (fun _ => true) e0 (by rw [rL_map]; rfl) (fun i hi => ⟨_, rfl, by
    have hi := List.mem_range.mp hi
    have a1 : idxD (moD ms) (.int (i : Nat)) = some (nD (ms.getD i 0)) := at_map (by omega)
    have a2 : idxD (moD ms) (.int ((i + 1 : Nat) : Int)) = some (nD (ms.getD (i + 1) 0)) := at_map (by omega)
    have a3 := h.asc i (by omega)
    exact ev_cmp (ev_idx (ev_varT (i := 0) rfl) (ev_varT (i := 2) rfl) a1) (ev_idx (ev_varT (i := 0) rfl) (ev_bin (ev_varT (i := 2) rfl) ev_cst rfl) a2) (by
      show some (decide (((ms.getD i 0 : Nat) : Int) < ((ms.getD (i + 1) 0 : Nat) : Int))) = _
      rw [decide_eq_true (by omega)])⟩) (by rw [List.length_range]; exact sz (by omega))
  rw [show ((List.range (ms.length - 1)).all fun _ => true) = true by simp] at c3
  have b : exs (callN P m) b_is_rising [.val (moD ms), .val (.int (n : Nat)), .non, .non] s = .ok (.rt (.bool true), [.val (moD ms), .val (.int (n : Nat)), .non, .non]) s := by
    rw [ris_split]
    exact xs_nx s1 (exs_ret c3)
  exact call_ret f_is_rising rfl rfl b
theorem p_rising_not {x : PyData} (hn : noDict x = true) (hT : isT x = false) {n : Int} {m : Nat} (hm : 4 ≤ m) {s : S} : callN P m "is_rising" [.d x, .d (.int n)] s = .ok (.bool false) s := by
  obtain ⟨m, rfl⟩ : ∃ k, m = k + 1 := ⟨m - 1, by omega⟩
  have c1 := ev_isi (k := callN P m) (a := .varT 0) (v := [.val x, .val (.int n), .non, .non]) (s := s) (ev_varT rfl) hn
  rw [hT] at c1
  have b : exs (callN P m) b_is_rising [.val x, .val (.int n), .non, .non] s = .ok (.rt (.bool false), [.val x, .val (.int n), .non, .non]) s := by
    rw [ris_split]
    exact xs_rt (ex_ifs_yes (ev_or_yes (ev_not c1)) (exs_ret ev_cst))
  exact call_ret f_is_rising rfl rfl b
theorem p_rising_big {l : List Nat} {n : Nat} (hl : l.length ≤ 1000) (hb : ∃ k ∈ l, n ≤ k) {m : Nat} (hm : 4 ≤ m) {s : S} : callN P m "is_rising" [.d (moD l), .d (.int (n : Nat))] s = .ok (.bool false) s := by
  obtain ⟨m, rfl⟩ : ∃ k, m = k + 1 := ⟨m - 1, by omega⟩
  have c1 : ev (callN P m) (.isi (.varT 0) [.tuple]) [.val (moD l), .val (.int (n : Nat)), .non, .non] s = .ok (.bool true) s := ev_isi (x := moD l) (ev_varT rfl) rfl
  have c2 := ris_all (f := nD) (l := l) (n := (n : Int)) (fun a => rfl) hl (show 3 ≤ m by omega) (s := s)
  have e2 : (l.all fun a => isN (n : Int) (nD a)) = false := by
    rw [Bool.eq_false_iff]
    intro z
    obtain ⟨k, hk, hnk⟩ := hb
    have := List.all_eq_true.mp z k hk
    simp only [nD, isN, Bool.and_eq_true, decide_eq_true_eq] at this
    omega
  rw [e2] at c2
  have b : exs (callN P m) b_is_rising [.val (moD l), .val (.int (n : Nat)), .non, .non] s = .ok (.rt (.bool false), [.val (moD l), .val (.int (n : Nat)), .non, .non]) s := by
    rw [ris_split]
    exact xs_rt (ex_ifs_yes (ev_or_then (ev_not c1) (ev_not c2)) (exs_ret ev_cst))
  exact call_ret f_is_rising rfl rfl b
/-! ### a beat -/
theorem beat_split : b_is_beat = [.ifs (.or (.not (.isi (.varT 2) [.tuple])) (.or (.cmp .ne (.bi .len [.varT 2]) (.cst (.int 2))) (.not (.call "is_rising" [.idx (.varT 2) (.cst (.int 0)), .bi .len [.idx (.varT 0) (.cst (.int 0))]])))) [.ret (.cst (.bool false))] [], .ret (.call "is_lateness" [.var 0, .var 1, .idx (.varT 2) (.cst (.int 1))])] := rfl
theorem len_net {t : Net} : biD .len [.tuple (t.tops.map PyData.int)] = some (.int (t.tops.length : Nat)) := by rw [d_lenT, List.length_map]
theorem p_beat {t : Net} {d : Nat} {a l : PyData} {m : Nat} {r q : Bool} {s : S} (hr : callN P m "is_rising" [.d a, .d (.int (t.tops.length : Nat))] s = .ok (.bool r) s) (hq : r = true → callN P m "is_lateness" [.d (netD t), .d (.int (d : Nat)), .d l] s = .ok (.bool q) s) :
    callN P (m + 1) "is_beat" [.d (netD t), .d (.int (d : Nat)), .d (.tuple [a, l])] s = .ok (.bool (r && q)) s := by
  have c1 : ev (callN P m) (.isi (.varT 2) [.tuple]) [.val (netD t), .val (.int (d : Nat)), .val (.tuple [a, l])] s = .ok (.bool true) s := ev_isi (x := .tuple [a, l]) (ev_varT rfl) rfl
  have c2 : ev (callN P m) (.cmp .ne (.bi .len [.varT 2]) (.cst (.int 2))) [.val (netD t), .val (.int (d : Nat)), .val (.tuple [a, l])] s = .ok (.bool false) s := ev_cmp (ev_bi1 rfl (ev_varT rfl) d_lenT) ev_cst rfl
  have c3 : ev (callN P m) (.call "is_rising" [.idx (.varT 2) (.cst (.int 0)), .bi .len [.idx (.varT 0) (.cst (.int 0))]]) [.val (netD t), .val (.int (d : Nat)), .val (.tuple [a, l])] s = .ok (.bool r) s := ev_call (evA_nx rfl (ev_idx (ev_varT rfl) ev_cst ix0) (evA_nx rfl (ev_bi1 rfl (ev_idx (ev_varT rfl) ev_cst net_ix0) len_net) q_Anil)) hr
  cases r with
  | false =>
    have b : exs (callN P m) b_is_beat [.val (netD t), .val (.int (d : Nat)), .val (.tuple [a, l])] s = .ok (.rt (.bool false), [.val (netD t), .val (.int (d : Nat)), .val (.tuple [a, l])]) s := by
      rw [beat_split]
      exact xs_rt (ex_ifs_yes (ev_or_then (ev_not c1) (ev_or_then c2 (ev_not c3))) (exs_ret ev_cst))
    exact call_ret f_is_beat rfl rfl b
  | true =>
    have b : exs (callN P m) b_is_beat [.val (netD t), .val (.int (d : Nat)), .val (.tuple [a, l])] s = .ok (.rt (.bool q), [.val (netD t), .val (.int (d : Nat)), .val (.tuple [a, l])]) s := by
      rw [beat_split]
      exact xs_nx (ex_ifs_no (ev_or_no (ev_not c1) (ev_or_no c2 (ev_not c3)))) (exs_ret (ev_call (evA_nx rfl (ev_var rfl) (evA_nx rfl (ev_var rfl) (evA_nx rfl (ev_idx (ev_varT rfl) ev_cst ix1) q_Anil))) (hq rfl)))
    exact call_ret f_is_beat rfl rfl b
theorem p_beat_mo {t : Net} {d : Nat} {ms : List Nat} {m : Nat} (hm : 5 ≤ m) {s : S} : callN P m "is_beat" [.d (netD t), .d (.int (d : Nat)), .d (moD ms)] s = .ok (.bool false) s := by
  obtain ⟨m, rfl⟩ : ∃ k, m = k + 1 := ⟨m - 1, by omega⟩
  by_cases hl : ms.length = 2
  · obtain ⟨a, b, rfl⟩ : ∃ a b, ms = [a, b] := match ms, hl with | [a, b], _ => ⟨a, b, rfl⟩
    exact p_beat (r := false) (q := false) (p_rising_not rfl rfl (by omega)) fun z => by cases z
  · have c1 : ev (callN P m) (.isi (.varT 2) [.tuple]) [.val (netD t), .val (.int (d : Nat)), .val (moD ms)] s = .ok (.bool true) s := ev_isi (x := moD ms) (ev_varT rfl) rfl
    have c2 : ev (callN P m) (.cmp .ne (.bi .len [.varT 2]) (.cst (.int 2))) [.val (netD t), .val (.int (d : Nat)), .val (moD ms)] s = .ok (.bool true) s := by
      have := ev_cmp (k := callN P m) (o := .ne) (v := [.val (netD t), .val (.int (d : Nat)), .val (moD ms)]) (s := s) (ev_bi1 (e := .varT 2) rfl (ev_varT rfl) d_lenT) (ev_cst (d := .int 2)) d_neI
      rw [List.length_map, show (!(((ms.length : Nat) : Int) == (2 : Int))) = true by rw [beq_eq_false_iff_ne.mpr (by omega)]; rfl] at this
      exact this
    have b : exs (callN P m) b_is_beat [.val (netD t), .val (.int (d : Nat)), .val (moD ms)] s = .ok (.rt (.bool false), [.val (netD t), .val (.int (d : Nat)), .val (moD ms)]) s := by
      rw [beat_split]
      exact xs_rt (ex_ifs_yes (ev_or_then (ev_not c1) (ev_or_yes c2)) (exs_ret ev_cst))
    exact call_ret f_is_beat rfl rfl b
/-! ### when a house moves -/
def mvs (B : List Bt) (h : Nat) : List Nat := (List.range B.length).filter fun k => decide (h ∈ (B.getD k bt0).1)
def mvB (len e : Nat) (ms : List Nat) : Bool := (List.range (len + 1 - e)).all fun a => ms.any fun k => decide (a ≤ k) && decide (k < a + e)
theorem enum_bt {B : List Bt} : enumL (B.map btD) = (List.range B.length).map fun k : Nat => .tuple [.int (k : Nat), btD (B.getD k bt0)] := by
  rw [enum_map, List.length_map]
  apply List.map_congr_left
  intro k hk
  have hk := List.mem_range.mp hk
  congr 3
  apply getD_at
  rw [List.getElem?_map, some_getD (d := bt0) hk]
  rfl
theorem moves_ev {k : CallT} {B : List Bt} {h : Nat} {v : NB.Env} {s : S} {i j c : Nat} {x : PyData} {it : E} (hB : B.length ≤ 1000) (hit : ev k it v s = .ok x s) (hx : enumD x = some (.list (enumL (B.map btD))))
    (hp : ∀ q : Nat, ∃ v1, putTg (.tp [i, j]) (.tuple [.int (q : Nat), btD (B.getD q bt0)]) v = some v1 ∧ getV i v1 = some (.int (q : Nat)) ∧ getT j v1 = some (btD (B.getD q bt0)) ∧ getT c v1 = some (.int (h : Nat))) :
    ev k (.lcIf (.var i) (.tp [i, j]) (.enum it) (.cmp .mem (.varT c) (.idx (.varT j) (.cst (.int 0))))) v s = .ok (.list ((mvs B h).map nD)) s := by
  have lp := lcIf_pure (tg := .tp [i, j]) (f := ev k (.var i)) (c := fun u => do let y ← ev k (.cmp .mem (.varT c) (.idx (.varT j) (.cst (.int 0)))) u; liftO (truthD y)) (v := v) (s := s) (g := fun q : Nat => PyData.tuple [.int (q : Nat), btD (B.getD q bt0)]) (F := nD) (fun q => decide (h ∈ (B.getD q bt0).1)) (ps := List.range B.length) (acc := []) (fun q _ => by
    obtain ⟨v1, e1, e2, e3, e4⟩ := hp q
    exact ⟨v1, e1, truth_run (ev_cmp (ev_varT e4) (ev_idx (ev_varT e3) ev_cst ix0) mem_mo), fun _ => ev_var e2⟩) (by rw [List.length_range, List.length_nil]; exact sz (by omega))
  rw [List.nil_append, ← enum_bt] at lp
  exact ev_lcIf (ev_enum hit hx) rfl lp
theorem p_moves_of {B : List Bt} (hB : B.length ≤ 1000) {h : Nat} {m : Nat} (hm : 1 ≤ m) {s : S} : callN P m "moves_of" [.d (.tuple (B.map btD)), .d (.int (h : Nat))] s = .ok (.list ((mvs B h).map nD)) s := by
  obtain ⟨m, rfl⟩ : ∃ k, m = k + 1 := ⟨m - 1, by omega⟩
  exact call_ret f_moves_of rfl rfl (exs_ret (moves_ev (v := [.val (.tuple (B.map btD)), .val (.int (h : Nat)), .non, .non]) hB (ev_varT rfl) rfl fun q => ⟨_, rfl, rfl, rfl, rfl⟩))
theorem p_is_moving {xs : List PyData} (hx : xs.length ≤ 500) {e : Nat} (he : e ≤ 100) {ms : List Nat} (hms : ms.length ≤ 1000) {m : Nat} (hm : 1 ≤ m) {s : S} : callN P m "is_moving" [.d (.tuple xs), .d (.int (e : Nat)), .d (.list (ms.map nD))] s = .ok (.bool (mvB xs.length e ms)) s := by
  obtain ⟨m, rfl⟩ : ∃ k, m = k + 1 := ⟨m - 1, by omega⟩
  have e0 : ev (callN P m) (.rng1 (.bin .add (.bin .sub (.bi .len [.varT 0]) (.varT 1)) (.cst (.int 1)))) [.val (.tuple xs), .val (.int (e : Nat)), .val (.list (ms.map nD)), .non, .non] s = .ok (.list (rL (xs.length + 1 - e))) s := by
    have := ev_rng1 (k := callN P m) (e := .bin .add (.bin .sub (.bi .len [.varT 0]) (.varT 1)) (.cst (.int 1))) (v := [.val (.tuple xs), .val (.int (e : Nat)), .val (.list (ms.map nD)), .non, .non]) (s := s) (s' := s) (n := (xs.length : Int) - (e : Int) + 1) (ev_bin (ev_bin (ev_bi1 rfl (ev_varT rfl) d_lenT) (ev_varT rfl) rfl) ev_cst rfl) (rI_ok (by omega) (by omega))
    rw [show ((xs.length : Int) - (e : Int) + 1).toNat = xs.length + 1 - e by omega] at this
    exact this
  refine call_ret f_is_moving rfl rfl (exs_ret (ev_all (ps := List.range (xs.length + 1 - e)) (G := nD) (fun a => ms.any fun k => decide (a ≤ k) && decide (k < a + e)) e0 (by rw [rL_map]; rfl) (fun a _ => ⟨_, rfl, ?_⟩) (by rw [List.length_range]; exact sz (by omega))))
  refine ev_any (ps := ms) (G := nD) (fun k => decide (a ≤ k) && decide (k < a + e)) (ev_varT rfl) rfl (fun k _ => ⟨_, rfl, ?_⟩) (sz hms)
  have := ev_chain_int (k := callN P m) (a := .varT 3) (b := .varT 4) (c := .bin .add (.varT 3) (.varT 1)) (v := [.val (.tuple xs), .val (.int (e : Nat)), .val (.list (ms.map nD)), .val (nD a), .val (nD k)]) (s := s) (i := (a : Int)) (j := (k : Int)) (l := (a : Int) + (e : Int)) (ev_varT rfl) (ev_varT rfl) (ev_bin (ev_varT rfl) (ev_varT rfl) rfl)
  rw [show (decide ((a : Int) ≤ (k : Int)) && decide ((k : Int) < (a : Int) + (e : Int))) = (decide (a ≤ k) && decide (k < a + e)) by rw [Bool.eq_iff_iff]; simp only [Bool.and_eq_true, decide_eq_true_eq]; omega] at this
  exact this
/-! ### no older news -/
def rowAt (B : List Bt) (k h : Nat) : List Int := ((B.getD k bt0).2).getD h []
def nwP (B : List Bt) (h a b : Nat) : Bool := ((rowAt B a h).zip (rowAt B b h)).all fun q => decide (q.2 ≤ q.1 + ((b : Int) - (a : Int)))
def nwB (B : List Bt) (h : Nat) (ms : List Nat) : Bool := (List.range (ms.length - 1)).all fun i => nwP B h (ms.getD i 0) (ms.getD (i + 1) 0)
def nwI : List C := [.parF [(5, false), (6, false)] [.idx (.idx (.idx (.varT 0) (.idx (.varT 2) (.varT 3))) (.cst (.int 1))) (.varT 1), .idx (.idx (.idx (.varT 0) (.idx (.varT 2) (.bin .add (.varT 3) (.cst (.int 1))))) (.cst (.int 1))) (.varT 1)], .set 4 (.bin .sub (.idx (.varT 2) (.bin .add (.varT 3) (.cst (.int 1)))) (.idx (.varT 2) (.varT 3))), .ifs (.not (.bi .all [.lc (.cmp .le (.varT 8) (.bin .add (.varT 7) (.varT 4))) (.tp [7, 8]) (.zip (.varT 5) (.varT 6))])) [.ret (.cst (.bool false))] []]
theorem newer_split : b_is_newer = [.for (.nm 3) (.rng1 (.bin .sub (.bi .len [.varT 2]) (.cst (.int 1)))) nwI, .ret (.cst (.bool true))] := rfl
theorem zip_ro {a b : List Int} : zipD (roD a) (roD b) = some (.list ((a.zip b).map fun p => PyData.tuple [.int p.1, .int p.2])) := by
  show some (PyData.list (zipL (a.map .int) (b.map .int))) = _
  rw [zip_mapB]
theorem p_is_newer {t : Net} (ht : NetH t) {d : Nat} {B : List Bt} (hB : ∀ b ∈ B, LtOk t d b.2) {h : Nat} (hh : h < t.tops.length) {ms : List Nat} (hms : ∀ k ∈ ms, k < B.length) (hml : ms.length ≤ 500) {m : Nat} (hm : 1 ≤ m) {s : S} : callN P m "is_newer" [.d (.tuple (B.map btD)), .d (.int (h : Nat)), .d (.list (ms.map nD))] s = .ok (.bool (nwB B h ms)) s := by
  obtain ⟨m, rfl⟩ : ∃ k, m = k + 1 := ⟨m - 1, by omega⟩
  have row : ∀ k, k < B.length → LtOk t d (B.getD k bt0).2 := fun k hk => hB _ (by rw [← Option.some_inj.mp ((List.getElem?_eq_getElem hk).symm.trans (some_getD (d := bt0) hk))]; exact List.getElem_mem hk)
  have get : ∀ i, i < ms.length → ms.getD i 0 < B.length := fun i hi => hms _ (by rw [← Option.some_inj.mp ((List.getElem?_eq_getElem hi).symm.trans (some_getD (d := 0) hi))]; exact List.getElem_mem hi)
  obtain ⟨v', loop, x3, x4, x5, x6, x7, x8, rfl⟩ := for_all (tg := .nm 3) (b := exs (callN P m) nwI) (s := s) nD (fun i => nwP B h (ms.getD i 0) (ms.getD (i + 1) 0)) (fun v => ∃ x3 x4 x5 x6 x7 x8, v = [.val (.tuple (B.map btD)), .val (.int (h : Nat)), .val (.list (ms.map nD)), x3, x4, x5, x6, x7, x8]) (.bool false) (ps := List.range (ms.length - 1)) (v := [.val (.tuple (B.map btD)), .val (.int (h : Nat)), .val (.list (ms.map nD)), .non, .non, .non, .non, .non, .non])
    (fun i hi v hI => by
      obtain ⟨x3, x4, x5, x6, x7, x8, rfl⟩ := hI
      have hi := List.mem_range.mp hi
      have hi1 : i < ms.length := by omega
      have hi2 : i + 1 < ms.length := by omega
      have a1 : idxD (.list (ms.map nD)) (.int (i : Nat)) = some (nD (ms.getD i 0)) := at_map hi1
      have a2 : idxD (.list (ms.map nD)) (.int ((i + 1 : Nat) : Int)) = some (nD (ms.getD (i + 1) 0)) := at_map hi2
      have g1 := get i hi1
      have g2 := get (i + 1) hi2
      unfold nwP rowAt
      generalize ms.getD i 0 = a at a1 g1 ⊢
      generalize ms.getD (i + 1) 0 = b at a2 g2 ⊢
      have l1 := row a g1
      have l2 := row b g2
      have b1 : idxD (.tuple (B.map btD)) (nD a) = some (btD (B.getD a bt0)) := at_map g1
      have b2 : idxD (.tuple (B.map btD)) (nD b) = some (btD (B.getD b bt0)) := at_map g2
      generalize B.getD a bt0 = ba at b1 l1 ⊢
      generalize B.getD b bt0 = bb at b2 l2 ⊢
      have r1 : idxD (ltD ba.2) (.int (h : Nat)) = some (roD (ba.2.getD h [])) := at_map (by rw [l1.len]; exact hh)
      have r2 : idxD (ltD bb.2) (.int (h : Nat)) = some (roD (bb.2.getD h [])) := at_map (by rw [l2.len]; exact hh)
      have w1 := l1.row h hh
      have w2 := br_le ht hh
      generalize ba.2.getD h [] = ra at r1 w1 ⊢
      generalize bb.2.getD h [] = rb at r2 ⊢
      refine ⟨_, rfl, [.val (.tuple (B.map btD)), .val (.int (h : Nat)), .val (.list (ms.map nD)), .val (nD i), .val (.int ((b : Int) - (a : Int))), .val (roD ra), .val (roD rb), x7, x8], ?_, _, _, _, _, _, _, rfl⟩
      have s1 : ex (callN P m) (.parF [(5, false), (6, false)] [.idx (.idx (.idx (.varT 0) (.idx (.varT 2) (.varT 3))) (.cst (.int 1))) (.varT 1), .idx (.idx (.idx (.varT 0) (.idx (.varT 2) (.bin .add (.varT 3) (.cst (.int 1))))) (.cst (.int 1))) (.varT 1)]) [.val (.tuple (B.map btD)), .val (.int (h : Nat)), .val (.list (ms.map nD)), .val (nD i), x4, x5, x6, x7, x8] s = .ok (.nx, [.val (.tuple (B.map btD)), .val (.int (h : Nat)), .val (.list (ms.map nD)), .val (nD i), x4, .val (roD ra), .val (roD rb), x7, x8]) s :=
        x_parF_run (evL_nx rfl (ev_idx (ev_idx (ev_idx (ev_varT rfl) (ev_idx (ev_varT rfl) (ev_varT rfl) a1) b1) ev_cst ix1) (ev_varT rfl) r1) (evL_nx rfl (ev_idx (ev_idx (ev_idx (ev_varT rfl) (ev_idx (ev_varT rfl) (ev_bin (ev_varT rfl) ev_cst rfl) a2) b2) ev_cst ix1) (ev_varT rfl) r2) q_Lnil)) rfl
      have s2 : ex (callN P m) (.set 4 (.bin .sub (.idx (.varT 2) (.bin .add (.varT 3) (.cst (.int 1)))) (.idx (.varT 2) (.varT 3)))) [.val (.tuple (B.map btD)), .val (.int (h : Nat)), .val (.list (ms.map nD)), .val (nD i), x4, .val (roD ra), .val (roD rb), x7, x8] s = .ok (.nx, [.val (.tuple (B.map btD)), .val (.int (h : Nat)), .val (.list (ms.map nD)), .val (nD i), .val (.int ((b : Int) - (a : Int))), .val (roD ra), .val (roD rb), x7, x8]) s :=
        x_set_run (ev_bin (ev_idx (ev_varT rfl) (ev_bin (ev_varT rfl) ev_cst rfl) a2) (ev_idx (ev_varT rfl) (ev_varT rfl) a1) rfl) (by simp)
      have c1 := ev_all (k := callN P m) (e := .cmp .le (.varT 8) (.bin .add (.varT 7) (.varT 4))) (it := .zip (.varT 5) (.varT 6)) (g := .tp [7, 8]) (v := [.val (.tuple (B.map btD)), .val (.int (h : Nat)), .val (.list (ms.map nD)), .val (nD i), .val (.int ((b : Int) - (a : Int))), .val (roD ra), .val (roD rb), x7, x8]) (s := s) (ps := ra.zip rb) (G := fun p => PyData.tuple [.int p.1, .int p.2]) (fun q => decide (q.2 ≤ q.1 + ((b : Int) - (a : Int)))) (ev_zip (ev_varT rfl) (ev_varT rfl) zip_ro) rfl
        (fun q _ => ⟨_, rfl, ev_cmp (ev_varT rfl) (ev_bin (o := .add) (ev_varT (i := 7) rfl) (ev_varT (i := 4) rfl) (z := .int (q.1 + ((b : Int) - (a : Int)))) rfl) rfl⟩) (by rw [List.length_zip]; exact sz (by omega))
      cases hc : (ra.zip rb).all fun q => decide (q.2 ≤ q.1 + ((b : Int) - (a : Int))) with
      | true =>
        rw [hc] at c1
        exact xs_nx s1 (xs_nx s2 (xs_nx (ex_ifs_no (ev_not c1)) xs_nil))
      | false =>
        rw [hc] at c1
        exact xs_nx s1 (xs_nx s2 (xs_rt (ex_ifs_yes (ev_not c1) (exs_ret ev_cst)))))
    ⟨_, _, _, _, _, _, rfl⟩
  have e0 : ev (callN P m) (.rng1 (.bin .sub (.bi .len [.varT 2]) (.cst (.int 1)))) [.val (.tuple (B.map btD)), .val (.int (h : Nat)), .val (.list (ms.map nD)), .non, .non, .non, .non, .non, .non] s = .ok (.list ((List.range (ms.length - 1)).map nD)) s := by
    have := ev_rng1 (k := callN P m) (e := .bin .sub (.bi .len [.varT 2]) (.cst (.int 1))) (v := [.val (.tuple (B.map btD)), .val (.int (h : Nat)), .val (.list (ms.map nD)), .non, .non, .non, .non, .non, .non]) (s := s) (s' := s) (n := (ms.length : Int) - 1) (ev_bin (ev_bi1 rfl (ev_varT rfl) d_lenL) ev_cst (by rw [List.length_map]; rfl)) (rI_ok (by omega) (by omega))
    rw [show ((ms.length : Int) - 1).toNat = ms.length - 1 by omega, rL_map] at this
    exact this
  have hb : nwB B h ms = (List.range (ms.length - 1)).all fun i => nwP B h (ms.getD i 0) (ms.getD (i + 1) 0) := rfl
  rw [hb]
  cases hc : (List.range (ms.length - 1)).all fun i => nwP B h (ms.getD i 0) (ms.getD (i + 1) 0) with
  | true =>
    rw [hc, if_pos rfl] at loop
    have b : exs (callN P m) b_is_newer [.val (.tuple (B.map btD)), .val (.int (h : Nat)), .val (.list (ms.map nD)), .non, .non, .non, .non, .non, .non] s = .ok (.rt (.bool true), [.val (.tuple (B.map btD)), .val (.int (h : Nat)), .val (.list (ms.map nD)), x3, x4, x5, x6, x7, x8]) s := by
      rw [newer_split]
      exact xs_nx (x_for_run e0 rfl loop) (exs_ret ev_cst)
    exact call_ret f_is_newer rfl rfl b
  | false =>
    rw [hc] at loop
    simp only [Bool.false_eq_true, if_false] at loop
    have b : exs (callN P m) b_is_newer [.val (.tuple (B.map btD)), .val (.int (h : Nat)), .val (.list (ms.map nD)), .non, .non, .non, .non, .non, .non] s = .ok (.rt (.bool false), [.val (.tuple (B.map btD)), .val (.int (h : Nat)), .val (.list (ms.map nD)), x3, x4, x5, x6, x7, x8]) s := by
      rw [newer_split]
      exact xs_rt (x_for_run e0 rfl loop)
    exact call_ret f_is_newer rfl rfl b
end K52
set_option Elab.async false
set_option linter.all false
set_option maxRecDepth 100000
set_option maxHeartbeats 4000000
/-! K52N: what is a stopped run, what it shows. -/
namespace K52
open PySem PySem.Spec PyProof.Rows L2 L2.NB
theorem f_is_stopped_run : P.fn "is_stopped_run" = some (.code 4 8 b_is_stopped_run) := by kernel_rfl
theorem f_stopped_shown : P.fn "stopped_shown" = some (.code 3 10 b_stopped_shown) := by kernel_rfl
structure BtOk (t : Net) (d : Nat) (b : Bt) : Prop where
  mo : MoOk t.tops.length b.1
  la : LtOk t d b.2
def i1 : C := .ifs (.or (.not (.isi (.varT 3) [.tuple])) (.or (.cmp .ne (.bi .len [.varT 3]) (.cst (.int 2))) (.not (.call "is_past" [.var 0, .var 1, .idx (.varT 3) (.cst (.int 0))])))) [.ret (.cst (.bool false))] []
def i2 : C := .ifs (.not (.isi (.idx (.varT 3) (.cst (.int 1))) [.tuple])) [.ret (.cst (.bool false))] []
def i3 : C := .set 4 (.idx (.varT 3) (.cst (.int 1)))
def i4 : C := .ifs (.not (.bi .all [.lc (.call "is_beat" [.var 0, .var 1, .var 7]) (.nm 7) (.varT 4)])) [.ret (.cst (.bool false))] []
def i5 : List C := [.set 6 (.call "moves_of" [.var 4, .var 5]), .ifs (.or (.not (.call "is_moving" [.var 4, .var 2, .var 6])) (.not (.call "is_newer" [.var 4, .var 5, .var 6]))) [.ret (.cst (.bool false))] []]
theorem sr_split : b_is_stopped_run = [i1, i2, i3, i4, .for (.nm 5) (.rng1 (.bi .len [.idx (.varT 0) (.cst (.int 0))])) i5, .ret (.cst (.bool true))] := rfl
section
variable {t : Net} {d e : Nat} {m : Nat} {s : S}
abbrev en (t : Net) (d e : Nat) (x : PyData) (y4 y5 y6 : NB.Slot) : NB.Env := [.val (netD t), .val (.int (d : Nat)), .val (.int (e : Nat)), .val x, y4, y5, y6, .non]
theorem sr_not {x : PyData} (hn : noDict x = true) (hT : isT x = false) : callN P (m + 1) "is_stopped_run" [.d (netD t), .d (.int (d : Nat)), .d (.int (e : Nat)), .d x] s = .ok (.bool false) s := by
  have c1 := ev_isi (k := callN P m) (a := .varT 3) (v := en t d e x .non .non .non) (s := s) (ev_varT rfl) hn
  rw [hT] at c1
  have b : exs (callN P m) b_is_stopped_run (en t d e x .non .non .non) s = .ok (.rt (.bool false), en t d e x .non .non .non) s := by
    rw [sr_split]
    exact xs_rt (ex_ifs_yes (ev_or_yes (ev_not c1)) (exs_ret ev_cst))
  exact call_ret f_is_stopped_run rfl rfl b
theorem sr_one {a : PyData} : callN P (m + 1) "is_stopped_run" [.d (netD t), .d (.int (d : Nat)), .d (.int (e : Nat)), .d (.tuple [a])] s = .ok (.bool false) s := by
  have c1 : ev (callN P m) (.isi (.varT 3) [.tuple]) (en t d e (.tuple [a]) .non .non .non) s = .ok (.bool true) s := ev_isi (x := .tuple [a]) (ev_varT rfl) rfl
  have c2 : ev (callN P m) (.cmp .ne (.bi .len [.varT 3]) (.cst (.int 2))) (en t d e (.tuple [a]) .non .non .non) s = .ok (.bool true) s := ev_cmp (ev_bi1 rfl (ev_varT rfl) d_lenT) ev_cst rfl
  have b : exs (callN P m) b_is_stopped_run (en t d e (.tuple [a]) .non .non .non) s = .ok (.rt (.bool false), en t d e (.tuple [a]) .non .non .non) s := by
    rw [sr_split]
    exact xs_rt (ex_ifs_yes (ev_or_then (ev_not c1) (ev_or_yes c2)) (exs_ret ev_cst))
  exact call_ret f_is_stopped_run rfl rfl b
theorem sr_head (h : NetH t) (hd : d ≤ 100) (hm : 6 ≤ m) {a x : PyData} (hn : ND 2 a) : ev (callN P m) (.or (.not (.isi (.varT 3) [.tuple])) (.or (.cmp .ne (.bi .len [.varT 3]) (.cst (.int 2))) (.not (.call "is_past" [.var 0, .var 1, .idx (.varT 3) (.cst (.int 0))])))) (en t d e (.tuple [a, x]) .non .non .non) s = .ok (.bool (!paB t.tops d a)) s := by
  have c1 : ev (callN P m) (.isi (.varT 3) [.tuple]) (en t d e (.tuple [a, x]) .non .non .non) s = .ok (.bool true) s := ev_isi (x := .tuple [a, x]) (ev_varT rfl) rfl
  have c2 : ev (callN P m) (.cmp .ne (.bi .len [.varT 3]) (.cst (.int 2))) (en t d e (.tuple [a, x]) .non .non .non) s = .ok (.bool false) s := ev_cmp (ev_bi1 rfl (ev_varT rfl) d_lenT) ev_cst rfl
  have e1 := p_is_past h hd hn hm (s := s)
  exact ev_or_then (ev_not c1) (ev_or_then c2 (ev_not (ev_call (evA_nx rfl (ev_var rfl) (evA_nx rfl (ev_var rfl) (evA_nx rfl (ev_idx (ev_varT rfl) ev_cst ix0) q_Anil))) e1)))
theorem sr_past (h : NetH t) (hd : d ≤ 100) (hm : 6 ≤ m) {a x : PyData} (hn : ND 2 a) (hp : paB t.tops d a = false) : callN P (m + 1) "is_stopped_run" [.d (netD t), .d (.int (d : Nat)), .d (.int (e : Nat)), .d (.tuple [a, x])] s = .ok (.bool false) s := by
  have c := sr_head h hd hm hn (e := e) (x := x) (s := s)
  rw [hp] at c
  have b : exs (callN P m) b_is_stopped_run (en t d e (.tuple [a, x]) .non .non .non) s = .ok (.rt (.bool false), en t d e (.tuple [a, x]) .non .non .non) s := by
    rw [sr_split]
    exact xs_rt (ex_ifs_yes c (exs_ret ev_cst))
  exact call_ret f_is_stopped_run rfl rfl b
theorem sr_s1 (h : NetH t) (hd : d ≤ 100) (hm : 6 ≤ m) {a x : PyData} (hn : ND 2 a) (hp : paB t.tops d a = true) : ex (callN P m) i1 (en t d e (.tuple [a, x]) .non .non .non) s = .ok (.nx, en t d e (.tuple [a, x]) .non .non .non) s := by
  have c := sr_head h hd hm hn (e := e) (x := x) (s := s)
  rw [hp] at c
  exact ex_ifs_no c
theorem sr_list (h : NetH t) (hd : d ≤ 100) (hm : 6 ≤ m) {a x : PyData} (hn : ND 2 a) (hp : paB t.tops d a = true) (hx : noDict x = true) (hT : isT x = false) : callN P (m + 1) "is_stopped_run" [.d (netD t), .d (.int (d : Nat)), .d (.int (e : Nat)), .d (.tuple [a, x])] s = .ok (.bool false) s := by
  have c2 := ev_isi (k := callN P m) (a := .idx (.varT 3) (.cst (.int 1))) (v := en t d e (.tuple [a, x]) .non .non .non) (s := s) (ev_idx (ev_varT rfl) ev_cst ix1) hx
  rw [hT] at c2
  have b : exs (callN P m) b_is_stopped_run (en t d e (.tuple [a, x]) .non .non .non) s = .ok (.rt (.bool false), en t d e (.tuple [a, x]) .non .non .non) s := by
    rw [sr_split]
    exact xs_nx (sr_s1 h hd hm hn hp) (xs_rt (ex_ifs_yes (ev_not c2) (exs_ret ev_cst)))
  exact call_ret f_is_stopped_run rfl rfl b
theorem sr_s23 {a : PyData} {xs : List PyData} {cs : List C} {r : Res (Out × NB.Env)} (hr : exs (callN P m) cs (en t d e (.tuple [a, .tuple xs]) (.val (.tuple xs)) .non .non) s = r) : exs (callN P m) (i2 :: i3 :: cs) (en t d e (.tuple [a, .tuple xs]) .non .non .non) s = r := by
  have c2 : ev (callN P m) (.isi (.idx (.varT 3) (.cst (.int 1))) [.tuple]) (en t d e (.tuple [a, .tuple xs]) .non .non .non) s = .ok (.bool true) s := ev_isi (x := .tuple xs) (ev_idx (ev_varT rfl) ev_cst ix1) rfl
  have s2 : ex (callN P m) i2 (en t d e (.tuple [a, .tuple xs]) .non .non .non) s = .ok (.nx, en t d e (.tuple [a, .tuple xs]) .non .non .non) s := ex_ifs_no (ev_not c2)
  have s3 : ex (callN P m) i3 (en t d e (.tuple [a, .tuple xs]) .non .non .non) s = .ok (.nx, en t d e (.tuple [a, .tuple xs]) (.val (.tuple xs)) .non .non) s := x_set_run (ev_idx (ev_varT rfl) ev_cst ix1) (by simp [en])
  exact xs_nx s2 (xs_nx s3 hr)
theorem sr_all {a : PyData} {α : Type} {ps : List α} {G : α → PyData} (c : α → Bool) (hl : ps.length ≤ 1000) (hc : ∀ p ∈ ps, callN P m "is_beat" [.d (netD t), .d (.int (d : Nat)), .d (G p)] s = .ok (.bool (c p)) s) :
    ev (callN P m) (.bi .all [.lc (.call "is_beat" [.var 0, .var 1, .var 7]) (.nm 7) (.varT 4)]) (en t d e (.tuple [a, .tuple (ps.map G)]) (.val (.tuple (ps.map G))) .non .non) s = .ok (.bool (ps.all c)) s :=
  ev_all (ps := ps) (G := G) c (ev_varT rfl) rfl (fun p hp => ⟨_, rfl, ev_call (evA_nx rfl (ev_var rfl) (evA_nx rfl (ev_var rfl) (evA_nx rfl (ev_var rfl) q_Anil))) (hc p hp)⟩) (sz hl)
theorem sr_beat (h : NetH t) (hd : d ≤ 100) (hm : 6 ≤ m) {a : PyData} (hn : ND 2 a) (hp : paB t.tops d a = true) {α : Type} {ps : List α} {G : α → PyData} (c : α → Bool) (hl : ps.length ≤ 1000) (hc : ∀ p ∈ ps, callN P m "is_beat" [.d (netD t), .d (.int (d : Nat)), .d (G p)] s = .ok (.bool (c p)) s) (hf : ps.all c = false) :
    callN P (m + 1) "is_stopped_run" [.d (netD t), .d (.int (d : Nat)), .d (.int (e : Nat)), .d (.tuple [a, .tuple (ps.map G)])] s = .ok (.bool false) s := by
  have c4 := sr_all (a := a) (e := e) c hl hc
  rw [hf] at c4
  have b : exs (callN P m) b_is_stopped_run (en t d e (.tuple [a, .tuple (ps.map G)]) .non .non .non) s = .ok (.rt (.bool false), en t d e (.tuple [a, .tuple (ps.map G)]) (.val (.tuple (ps.map G))) .non .non) s := by
    rw [sr_split]
    exact xs_nx (sr_s1 h hd hm hn hp) (sr_s23 (xs_rt (ex_ifs_yes (ev_not c4) (exs_ret ev_cst))))
  exact call_ret f_is_stopped_run rfl rfl b
theorem p_beat_ok (h : NetH t) (hd : d ≤ 100) {b : Bt} (hb : BtOk t d b) (hm : 14 ≤ m) : callN P m "is_beat" [.d (netD t), .d (.int (d : Nat)), .d (btD b)] s = .ok (.bool true) s := by
  obtain ⟨m, rfl⟩ : ∃ k, m = k + 1 := ⟨m - 1, by omega⟩
  have hle := h.le
  have e1 := p_is_lateness h hd (nd_lt (L := b.2) 2) (show 13 ≤ m by omega) (s := s)
  rw [laB_of hb.la] at e1
  exact p_beat (r := true) (q := true) (p_rising_ok (by omega) hb.mo (by omega)) fun _ => e1
theorem nd_pa {ss : List (List Int)} : ND 2 (paD ss) := nd_tup fun z hz => by obtain ⟨i, _, rfl⟩ := List.mem_map.mp hz; exact nd_ro 1
theorem mvs_lt {B : List Bt} {h : Nat} : ∀ k ∈ mvs B h, k < B.length := fun k hk => List.mem_range.mp (List.mem_filter.mp hk).1
theorem mvs_len {B : List Bt} {h : Nat} : (mvs B h).length ≤ B.length := by
  have := List.length_filter_le (fun k => decide (h ∈ (B.getD k bt0).1)) (List.range B.length)
  rw [List.length_range] at this
  exact this
def spB (t : Net) (e : Nat) (B : List Bt) : Bool := (List.range t.tops.length).all fun h => mvB B.length e (mvs B h) && nwB B h (mvs B h)
theorem sr_ok (h : NetH t) (hd : d ≤ 100) (he : e ≤ 100) (hm : 14 ≤ m) {ss : List (List Int)} {B : List Bt} (hp : paB t.tops d (paD ss) = true) (hB : ∀ b ∈ B, BtOk t d b) (hl : B.length ≤ 400) : callN P (m + 1) "is_stopped_run" [.d (netD t), .d (.int (d : Nat)), .d (.int (e : Nat)), .d (rnD ss B)] s = .ok (.bool (spB t e B)) s := by
  have hle := h.le
  have c4 := sr_all (t := t) (d := d) (a := paD ss) (e := e) (G := btD) (ps := B) (fun _ => true) (by omega) fun b hb => p_beat_ok h hd (hB b hb) hm (s := s)
  rw [show (B.all fun _ => true) = true by simp] at c4
  have s4 : ex (callN P m) i4 (en t d e (rnD ss B) (.val (.tuple (B.map btD))) .non .non) s = .ok (.nx, en t d e (rnD ss B) (.val (.tuple (B.map btD))) .non .non) s := ex_ifs_no (ev_not c4)
  obtain ⟨v', loop, x5, x6, rfl⟩ := for_all (tg := .nm 5) (b := exs (callN P m) i5) (s := s) nD (fun q => mvB B.length e (mvs B q) && nwB B q (mvs B q)) (fun v => ∃ x5 x6, v = en t d e (rnD ss B) (.val (.tuple (B.map btD))) x5 x6) (.bool false) (ps := List.range t.tops.length) (v := en t d e (rnD ss B) (.val (.tuple (B.map btD))) .non .non)
    (fun q hq v hI => by
      obtain ⟨x5, x6, rfl⟩ := hI
      have hq := List.mem_range.mp hq
      have ml := mvs_len (B := B) (h := q)
      have e1 := p_moves_of (B := B) (by omega) (h := q) (m := m) (by omega) (s := s)
      have e2 := p_is_moving (xs := B.map btD) (by rw [List.length_map]; omega) he (ms := mvs B q) (by omega) (m := m) (by omega) (s := s)
      have e3 := p_is_newer h (fun b hb => (hB b hb).la) hq (mvs_lt (h := q)) (by omega) (m := m) (by omega) (s := s)
      rw [List.length_map] at e2
      refine ⟨_, rfl, en t d e (rnD ss B) (.val (.tuple (B.map btD))) (.val (nD q)) (.val (.list ((mvs B q).map nD))), ?_, _, _, rfl⟩
      have s1 : ex (callN P m) (.set 6 (.call "moves_of" [.var 4, .var 5])) (en t d e (rnD ss B) (.val (.tuple (B.map btD))) (.val (nD q)) x6) s = .ok (.nx, en t d e (rnD ss B) (.val (.tuple (B.map btD))) (.val (nD q)) (.val (.list ((mvs B q).map nD)))) s := x_set_run (ev_call (evA_nx rfl (ev_var rfl) (evA_nx rfl (ev_var rfl) q_Anil)) e1) (by simp [en])
      have c1 : ev (callN P m) (.call "is_moving" [.var 4, .var 2, .var 6]) (en t d e (rnD ss B) (.val (.tuple (B.map btD))) (.val (nD q)) (.val (.list ((mvs B q).map nD)))) s = .ok (.bool (mvB B.length e (mvs B q))) s := ev_call (evA_nx rfl (ev_var rfl) (evA_nx rfl (ev_var rfl) (evA_nx rfl (ev_var rfl) q_Anil))) e2
      have c2 : ev (callN P m) (.call "is_newer" [.var 4, .var 5, .var 6]) (en t d e (rnD ss B) (.val (.tuple (B.map btD))) (.val (nD q)) (.val (.list ((mvs B q).map nD)))) s = .ok (.bool (nwB B q (mvs B q))) s := ev_call (evA_nx rfl (ev_var rfl) (evA_nx rfl (ev_var rfl) (evA_nx rfl (ev_var rfl) q_Anil))) e3
      generalize mvB B.length e (mvs B q) = a at c1 ⊢
      generalize nwB B q (mvs B q) = b at c2 ⊢
      cases a with
      | false => exact xs_nx s1 (xs_rt (ex_ifs_yes (ev_or_yes (ev_not c1)) (exs_ret ev_cst)))
      | true =>
        cases b with
        | false => exact xs_nx s1 (xs_rt (ex_ifs_yes (ev_or_then (ev_not c1) (ev_not c2)) (exs_ret ev_cst)))
        | true => exact xs_nx s1 (xs_nx (ex_ifs_no (ev_or_no (ev_not c1) (ev_not c2))) xs_nil))
    ⟨_, _, rfl⟩
  have e0 : ev (callN P m) (.rng1 (.bi .len [.idx (.varT 0) (.cst (.int 0))])) (en t d e (rnD ss B) (.val (.tuple (B.map btD))) .non .non) s = .ok (.list ((List.range t.tops.length).map nD)) s := by
    have := ev_rng1 (k := callN P m) (e := .bi .len [.idx (.varT 0) (.cst (.int 0))]) (v := en t d e (rnD ss B) (.val (.tuple (B.map btD))) .non .non) (s := s) (s' := s) (n := (t.tops.length : Nat)) (ev_bi1 rfl (ev_idx (ev_varT rfl) ev_cst net_ix0) len_net) (rL_ok (by omega))
    rw [rL_map] at this
    exact this
  have hb : spB t e B = (List.range t.tops.length).all fun q => mvB B.length e (mvs B q) && nwB B q (mvs B q) := rfl
  rw [hb]
  cases hc : (List.range t.tops.length).all fun q => mvB B.length e (mvs B q) && nwB B q (mvs B q) with
  | true =>
    rw [hc, if_pos rfl] at loop
    have b : exs (callN P m) b_is_stopped_run (en t d e (rnD ss B) .non .non .non) s = .ok (.rt (.bool true), en t d e (rnD ss B) (.val (.tuple (B.map btD))) x5 x6) s := by
      rw [sr_split]
      exact xs_nx (sr_s1 h hd (by omega) nd_pa hp) (sr_s23 (xs_nx s4 (xs_nx (x_for_run e0 rfl loop) (exs_ret ev_cst))))
    exact call_ret f_is_stopped_run rfl rfl b
  | false =>
    rw [hc] at loop
    simp only [Bool.false_eq_true, if_false] at loop
    have b : exs (callN P m) b_is_stopped_run (en t d e (rnD ss B) .non .non .non) s = .ok (.rt (.bool false), en t d e (rnD ss B) (.val (.tuple (B.map btD))) x5 x6) s := by
      rw [sr_split]
      exact xs_nx (sr_s1 h hd (by omega) nd_pa hp) (sr_s23 (xs_nx s4 (xs_rt (x_for_run e0 rfl loop))))
    exact call_ret f_is_stopped_run rfl rfl b
end
/-! ### what is shown -/
theorem evL_star {k : CallT} {a : E} {es : List E} {v : NB.Env} {s s1 s2 : S} {x : PyData} {xs ys : List PyData} (h : ev k a v s = .ok x s1) (hi : itemsOf x = some xs) (h2 : evL k es v s1 = .ok ys s2) : evL k (.star a :: es) v s = .ok (xs ++ ys) s2 := by
  rw [q_Lstar, run_bind, h]
  show (do let xs ← liftO (itemsOf x); let ys ← evL k es v; M.pure (xs ++ ys)) s1 = _
  rw [hi]
  show (do let ys ← evL k es v; M.pure (xs ++ ys)) s1 = _
  rw [run_bind, h2]
  rfl
def lastL (X : List (List Int)) : List Int := X.getD (X.length - 1) []
def stepT (t : Net) (X : List (List Int)) (b : Bt) : List Int := (List.range t.tops.length).map fun i => if i ∈ b.1 then nextH t X b.2 i else (lastL X).getD i 0
def runT (t : Net) (ss : List (List Int)) (B : List Bt) : List (List Int) := B.foldl (fun X b => X ++ [stepT t X b]) ss
theorem runT_snoc {t : Net} {ss : List (List Int)} {B : List Bt} {b : Bt} : runT t ss (B ++ [b]) = runT t ss B ++ [stepT t (runT t ss B) b] := by
  unfold runT
  rw [List.foldl_append]
  rfl
theorem runT_len {t : Net} {ss : List (List Int)} : ∀ {B : List Bt}, (runT t ss B).length = ss.length + B.length := by
  intro B
  suffices h : ∀ X : List (List Int), (B.foldl (fun X b => X ++ [stepT t X b]) X).length = X.length + B.length from h ss
  induction B with
  | nil => intro X; rfl
  | cons b B ih =>
    intro X
    rw [List.foldl_cons, ih, List.length_append, List.length_singleton, List.length_cons]
    omega
theorem step_ok {t : Net} (h : NetH t) {X : List (List Int)} (hX : ∀ st ∈ X, StOk t st) (h1 : X ≠ []) {b : Bt} : StOk t (stepT t X b) := by
  refine ⟨by unfold stepT; rw [List.length_map, List.length_range], fun i hi => ?_⟩
  have e : (stepT t X b).getD i 0 = if i ∈ b.1 then nextH t X b.2 i else (lastL X).getD i 0 := by
    unfold stepT
    apply getD_at
    rw [List.getElem?_map, List.getElem?_range hi]
    rfl
  rw [e]
  split
  · exact wn_bd h hi (hear_wo h hi (d := 0) hX)
  · have hl : X.length - 1 < X.length := by
      have := List.length_pos_iff.mpr h1
      omega
    have : lastL X ∈ X := by
      unfold lastL
      rw [getD_at (List.getElem?_eq_getElem hl)]
      exact List.getElem_mem hl
    exact (hX _ this).num i hi
theorem runT_ok {t : Net} (h : NetH t) {ss : List (List Int)} (hs : ∀ st ∈ ss, StOk t st) (h1 : ss ≠ []) : ∀ {B : List Bt}, ∀ st ∈ runT t ss B, StOk t st := by
  intro B
  suffices g : ∀ X : List (List Int), (∀ st ∈ X, StOk t st) → X ≠ [] → ∀ st ∈ B.foldl (fun X b => X ++ [stepT t X b]) X, StOk t st from g ss hs h1
  induction B with
  | nil => intro X hX _; exact hX
  | cons b B ih =>
    intro X hX h0
    rw [List.foldl_cons]
    refine ih _ (fun st hst => ?_) (by simp)
    rcases List.mem_append.mp hst with hst | hst
    · exact hX st hst
    · rw [List.mem_singleton.mp hst]
      exact step_ok h hX h0
theorem last_drop {X : List (List Int)} {k : Nat} (h : k < X.length) : lastL (X.drop k) = lastL X := by
  unfold lastL
  rw [List.getD_eq_getElem?_getD, List.getD_eq_getElem?_getD, List.getElem?_drop, List.length_drop]
  congr 2
  omega
theorem step_drop {t : Net} {X : List (List Int)} {d : Nat} {b : Bt} (hb : LtOk t d b.2) (h1 : 1 ≤ d) (hd : d ≤ X.length) : stepT t (X.drop (X.length - d)) b = stepT t X b := by
  unfold stepT
  apply List.map_congr_left
  intro i hi
  rw [last_drop (by omega)]
  unfold nextH
  rw [hear_drop (hb.num i (List.mem_range.mp hi)) hd]
theorem at_lastL {X : List (List Int)} (h : X ≠ []) : atD (X.map roD) (-1) = some (roD (lastL X)) := by
  obtain ⟨l, y, rfl⟩ : ∃ l y, X = l ++ [y] := ⟨X.dropLast, X.getLast h, (List.dropLast_concat_getLast h).symm⟩
  rw [List.map_append]
  have e : lastL (l ++ [y]) = y := by
    unfold lastL
    rw [List.length_append, List.length_singleton, Nat.add_sub_cancel, List.getD_eq_getElem?_getD, List.getElem?_append_right (Nat.le_refl _), Nat.sub_self]
    rfl
  rw [e]
  exact atD_last _ _
def h1 : C := .set 7 (.call "shows_next" [.var 0, .var 3, .var 6])
def h2 : C := .set 8 (.bi .tup [.lc (.ite (.cmp .mem (.varT 9) (.varT 5)) (.idx (.varT 7) (.varT 9)) (.idx (.idx (.varT 3) (.neg (.cst (.int 1)))) (.varT 9))) (.nm 9) (.rng1 (.bi .len [.idx (.varT 0) (.cst (.int 0))]))])
def h4 : C := .set 3 (.tup [.star (.sl (.varT 3) (.cst (.int 1)) (.no)), .var 8])
theorem ss_split : b_stopped_shown = [.parF [(3, false), (4, true)] [.idx (.varT 2) (.cst (.int 0)), .lst []], .for (.tp [5, 6]) (.idx (.varT 2) (.cst (.int 1))) [h1, h2, .app 4 (.var 8), h4], .ret (.bi .tup [.varT 4])] := rfl
theorem sl_from {xs : List PyData} {a : Nat} : sliceD (.tuple xs) (some (a : Int)) none = some (.tuple (xs.drop a)) := by
  show some (PyData.tuple (NB.cutD xs (some (a : Int)) none)) = _
  rw [cut_pos]
theorem p_stopped_shown {t : Net} (h : NetH t) {d : Nat} (hd1 : 1 ≤ d) (hd : d ≤ 100) {ss : List (List Int)} (hs : ∀ st ∈ ss, StOk t st) (hl : ss.length = d) {B : List Bt} (hB : ∀ b ∈ B, BtOk t d b) (hBl : B.length ≤ 400) {m : Nat} (hm : 15 ≤ m) {s : S} :
    callN P m "stopped_shown" [.d (netD t), .d (.int (d : Nat)), .d (rnD ss B)] s = .ok (paD ((runT t ss B).drop d)) s := by
  obtain ⟨m, rfl⟩ : ∃ k, m = k + 1 := ⟨m - 1, by omega⟩
  have hle := h.le
  have h0 : ss ≠ [] := fun z => by rw [z] at hl; simp at hl; omega
  obtain ⟨v', s', loop, rfl, x5, x6, x7, x8, rfl⟩ := for_inv (g := .tp [5, 6]) (b := exs (callN P m) [h1, h2, .app 4 (.var 8), h4])
    (fun k v s' => s' = s ∧ ∃ x5 x6 x7 x8, v = [.val (netD t), .val (.int (d : Nat)), .val (rnD ss B), .val (paD ((runT t ss (B.take k)).drop k)), .own (((runT t ss (B.take k)).drop d).map roD), x5, x6, x7, x8, .non])
    (xs := B.map btD) (j := 0) (v := [.val (netD t), .val (.int (d : Nat)), .val (rnD ss B), .val (paD ss), .own [], .non, .non, .non, .non, .non]) (s := s)
    (fun k x v s' hx hI => by
      obtain ⟨rfl, x5, x6, x7, x8, rfl⟩ := hI
      rw [Nat.zero_add]
      rw [List.getElem?_map] at hx
      obtain ⟨b, hb, rfl⟩ := Option.map_eq_some_iff.mp hx
      have hk := (List.getElem?_eq_some_iff.mp hb).1
      have hbo := hB b (List.mem_of_getElem? hb)
      have ek : B.take (k + 1) = B.take k ++ [b] := by rw [List.take_add_one, hb, Option.toList]
      have tl : (B.take k).length = k := by rw [List.length_take]; omega
      have Xl : (runT t ss (B.take k)).length = d + k := by rw [runT_len, hl, tl]
      have hX := runT_ok h hs h0 (B := B.take k)
      have hXd : ∀ st ∈ (runT t ss (B.take k)).drop k, StOk t st := fun st hst => hX st (List.mem_of_mem_drop hst)
      have e2 := step_drop (t := t) (X := runT t ss (B.take k)) hbo.la hd1 (by omega)
      rw [ek, runT_snoc]
      have so := step_ok h hX (fun z => by rw [z] at Xl; simp at Xl; omega) (b := b)
      generalize runT t ss (B.take k) = X at Xl hX hXd e2 so ⊢
      rw [show X.length - d = k by omega] at e2
      have e1 := p_shows_next h hXd (by rw [List.length_drop]; omega) hbo.la (show 14 ≤ m by omega) (s := s')
      have hWl : (X.drop k).length = d := by rw [List.length_drop]; omega
      have eW : (X.drop k).drop 1 ++ [stepT t X b] = (X ++ [stepT t X b]).drop (k + 1) := by rw [List.drop_drop, List.drop_append_of_le_length (by omega)]
      have eF : (X ++ [stepT t X b]).drop d = X.drop d ++ [stepT t X b] := List.drop_append_of_le_length (by omega)
      have hW0 : X.drop k ≠ [] := fun z => by rw [z] at hWl; simp at hWl; omega
      rw [← eW, eF]
      have hFl : (X.drop d).length < sizeLine := Nat.lt_of_lt_of_le (show _ < 1000 by rw [List.length_drop]; omega) (sz (Nat.le_refl _))
      generalize X.drop d = F at hFl ⊢
      rw [← e2] at so ⊢
      generalize X.drop k = W at e1 hXd hWl hW0 so ⊢
      have a1 : idxD (paD W) (.int (-1)) = some (roD (lastL W)) := at_lastL hW0
      have hLm : StOk t (lastL W) := by
        have hq : W.length - 1 < W.length := by omega
        unfold lastL
        rw [getD_at (List.getElem?_eq_getElem hq)]
        exact hXd _ (List.getElem_mem hq)
      refine ⟨_, rfl, [.val (netD t), .val (.int (d : Nat)), .val (rnD ss B), .val (paD (W.drop 1 ++ [stepT t W b])), .own ((F ++ [stepT t W b]).map roD), .val (moD b.1), .val (ltD b.2), .val (roD (nextL t W b.2)), .val (roD (stepT t W b)), .non], s', .inl ?_, rfl, _, _, _, _, rfl⟩
      have s1 : ex (callN P m) h1 [.val (netD t), .val (.int (d : Nat)), .val (rnD ss B), .val (paD W), .own (F.map roD), .val (moD b.1), .val (ltD b.2), x7, x8, .non] s' = .ok (.nx, [.val (netD t), .val (.int (d : Nat)), .val (rnD ss B), .val (paD W), .own (F.map roD), .val (moD b.1), .val (ltD b.2), .val (roD (nextL t W b.2)), x8, .non]) s' := x_set_run (ev_call (evA_nx rfl (ev_var rfl) (evA_nx rfl (ev_var rfl) (evA_nx rfl (ev_var rfl) q_Anil))) e1) (by simp)
      have lp := lc_pure (tg := .nm 9) (f := ev (callN P m) (.ite (.cmp .mem (.varT 9) (.varT 5)) (.idx (.varT 7) (.varT 9)) (.idx (.idx (.varT 3) (.neg (.cst (.int 1)))) (.varT 9)))) (v := [.val (netD t), .val (.int (d : Nat)), .val (rnD ss B), .val (paD W), .own (F.map roD), .val (moD b.1), .val (ltD b.2), .val (roD (nextL t W b.2)), x8, .non]) (s := s') (g := nD) (F := fun i => PyData.int (if i ∈ b.1 then nextH t W b.2 i else (lastL W).getD i 0)) (ps := List.range t.tops.length) (acc := []) (fun i hi => ⟨_, rfl, by
        have hi := List.mem_range.mp hi
        have n1 : (nextL t W b.2).getD i 0 = nextH t W b.2 i := by
          unfold nextL
          apply getD_at
          rw [List.getElem?_map, List.getElem?_range hi]
          rfl
        have a2 : idxD (roD (nextL t W b.2)) (.int (i : Nat)) = some (.int (nextH t W b.2 i)) := by rw [← n1]; exact at_map (f := PyData.int) (by unfold nextL; rw [List.length_map, List.length_range]; exact hi)
        have a3 : idxD (roD (lastL W)) (.int (i : Nat)) = some (.int ((lastL W).getD i 0)) := at_map (f := PyData.int) (by rw [hLm.len]; exact hi)
        have hm := mem_mo (h := i) (ms := b.1)
        by_cases hib : i ∈ b.1
        · rw [decide_eq_true hib] at hm
          rw [if_pos hib]
          exact ev_ite_yes (ev_cmp (ev_varT rfl) (ev_varT rfl) hm) (ev_idx (ev_varT rfl) (ev_varT rfl) a2)
        · rw [decide_eq_false hib] at hm
          rw [if_neg hib]
          exact ev_ite_no (ev_cmp (ev_varT rfl) (ev_varT rfl) hm) (ev_idx (ev_idx (ev_varT rfl) (ev_neg ev_cst) a1) (ev_varT rfl) a3)⟩) (by rw [List.length_range, List.length_nil]; exact sz (by omega))
      have e0 : ev (callN P m) (.rng1 (.bi .len [.idx (.varT 0) (.cst (.int 0))])) [.val (netD t), .val (.int (d : Nat)), .val (rnD ss B), .val (paD W), .own (F.map roD), .val (moD b.1), .val (ltD b.2), .val (roD (nextL t W b.2)), x8, .non] s' = .ok (.list ((List.range t.tops.length).map nD)) s' := by
        have := ev_rng1 (k := callN P m) (e := .bi .len [.idx (.varT 0) (.cst (.int 0))]) (v := [.val (netD t), .val (.int (d : Nat)), .val (rnD ss B), .val (paD W), .own (F.map roD), .val (moD b.1), .val (ltD b.2), .val (roD (nextL t W b.2)), x8, .non]) (s := s') (s' := s') (n := (t.tops.length : Nat)) (ev_bi1 rfl (ev_idx (ev_varT rfl) ev_cst net_ix0) len_net) (rL_ok (by omega))
        rw [rL_map] at this
        exact this
      have hst : PyData.list ([] ++ (List.range t.tops.length).map fun i => PyData.int (if i ∈ b.1 then nextH t W b.2 i else (lastL W).getD i 0)) = .list ((stepT t W b).map .int) := by
        unfold stepT
        rw [List.nil_append, List.map_map]
        rfl
      have lc := ev_lc e0 rfl lp
      rw [hst] at lc
      have s2 : ex (callN P m) h2 [.val (netD t), .val (.int (d : Nat)), .val (rnD ss B), .val (paD W), .own (F.map roD), .val (moD b.1), .val (ltD b.2), .val (roD (nextL t W b.2)), x8, .non] s' = .ok (.nx, [.val (netD t), .val (.int (d : Nat)), .val (rnD ss B), .val (paD W), .own (F.map roD), .val (moD b.1), .val (ltD b.2), .val (roD (nextL t W b.2)), .val (roD (stepT t W b)), .non]) s' := x_set_run (ev_bi1 rfl lc d_tupL) (by simp)
      have s3 : ex (callN P m) (.app 4 (.var 8)) [.val (netD t), .val (.int (d : Nat)), .val (rnD ss B), .val (paD W), .own (F.map roD), .val (moD b.1), .val (ltD b.2), .val (roD (nextL t W b.2)), .val (roD (stepT t W b)), .non] s' = .ok (.nx, [.val (netD t), .val (.int (d : Nat)), .val (rnD ss B), .val (paD W), .own ((F ++ [stepT t W b]).map roD), .val (moD b.1), .val (ltD b.2), .val (roD (nextL t W b.2)), .val (roD (stepT t W b)), .non]) s' := x_app_run (ev_var rfl) rfl (by rw [List.length_map]; exact hFl) (by rw [List.map_append]; rfl)
      have tu : evL (callN P m) [.star (.sl (.varT 3) (.cst (.int 1)) (.no)), .var 8] [.val (netD t), .val (.int (d : Nat)), .val (rnD ss B), .val (paD W), .own ((F ++ [stepT t W b]).map roD), .val (moD b.1), .val (ltD b.2), .val (roD (nextL t W b.2)), .val (roD (stepT t W b)), .non] s' = .ok ((W.drop 1 ++ [stepT t W b]).map roD) s' := by
        have sl : ev (callN P m) (.sl (.varT 3) (.cst (.int 1)) (.no)) [.val (netD t), .val (.int (d : Nat)), .val (rnD ss B), .val (paD W), .own ((F ++ [stepT t W b]).map roD), .val (moD b.1), .val (ltD b.2), .val (roD (nextL t W b.2)), .val (roD (stepT t W b)), .non] s' = .ok (.tuple ((W.map roD).drop 1)) s' := ev_sl1 (ev_varT rfl) rfl ev_cst (sl_from (a := 1))
        have r8 : evL (callN P m) [.var 8] [.val (netD t), .val (.int (d : Nat)), .val (rnD ss B), .val (paD W), .own ((F ++ [stepT t W b]).map roD), .val (moD b.1), .val (ltD b.2), .val (roD (nextL t W b.2)), .val (roD (stepT t W b)), .non] s' = .ok [roD (stepT t W b)] s' := evL_nx rfl (ev_var rfl) q_Lnil
        have eL : (W.drop 1 ++ [stepT t W b]).map roD = (W.map roD).drop 1 ++ [roD (stepT t W b)] := by rw [List.map_append, List.map_drop]; rfl
        rw [eL]
        exact evL_star sl rfl r8
      have s4 : ex (callN P m) h4 [.val (netD t), .val (.int (d : Nat)), .val (rnD ss B), .val (paD W), .own ((F ++ [stepT t W b]).map roD), .val (moD b.1), .val (ltD b.2), .val (roD (nextL t W b.2)), .val (roD (stepT t W b)), .non] s' = .ok (.nx, [.val (netD t), .val (.int (d : Nat)), .val (rnD ss B), .val (paD (W.drop 1 ++ [stepT t W b])), .own ((F ++ [stepT t W b]).map roD), .val (moD b.1), .val (ltD b.2), .val (roD (nextL t W b.2)), .val (roD (stepT t W b)), .non]) s' := x_set_run (ev_tup tu (by rw [List.length_map, List.length_append, List.length_drop, List.length_singleton]; exact sz (by omega))) (by simp)
      exact xs_nx s1 (xs_nx s2 (xs_nx s3 (xs_nx s4 xs_nil))))
    ⟨rfl, _, _, _, _, by
      have : (runT t ss (B.take 0)) = ss := rfl
      rw [this, List.drop_zero, List.drop_eq_nil_of_le (by omega)]
      rfl⟩
  rw [Nat.zero_add, List.length_map, List.take_length] at loop
  have i0 : idxD (rnD ss B) (.int 0) = some (paD ss) := ix0
  have i1 : idxD (rnD ss B) (.int 1) = some (.tuple (B.map btD)) := ix1
  have s0 : ex (callN P m) (.parF [(3, false), (4, true)] [.idx (.varT 2) (.cst (.int 0)), .lst []]) [.val (netD t), .val (.int (d : Nat)), .val (rnD ss B), .non, .non, .non, .non, .non, .non, .non] s' = .ok (.nx, [.val (netD t), .val (.int (d : Nat)), .val (rnD ss B), .val (paD ss), .own [], .non, .non, .non, .non, .non]) s' := x_parF_run (evL_nx rfl (ev_idx (ev_varT rfl) ev_cst i0) (evL_nx rfl (ev_lst q_Lnil (by decide)) q_Lnil)) rfl
  have b := xs_nx (cs := [.for (.tp [5, 6]) (.idx (.varT 2) (.cst (.int 1))) [h1, h2, .app 4 (.var 8), h4], .ret (.bi .tup [.varT 4])]) s0 (xs_nx (x_for_run (ev_idx (ev_varT rfl) ev_cst i1) rfl loop) (exs_ret (ev_bi1 rfl (ev_varT rfl) d_tupL)))
  rw [← ss_split] at b
  exact call_ret f_stopped_shown rfl rfl b
end K52
set_option Elab.async false
set_option linter.all false
set_option maxRecDepth 100000
set_option maxHeartbeats 4000000
/-! K52O: drawn pasts, what the law hears, drawn rows. -/
namespace K52
open PySem PySem.Spec PyProof.Rows L2 L2.NB
theorem f__law_past : P.fn "_law_past" = some (.code 3 5 b__law_past) := by kernel_rfl
theorem f__law_hears : P.fn "_law_hears" = some (.code 4 7 b__law_hears) := by kernel_rfl
theorem f__law_stopped : P.fn "_law_stopped" = some (.code 5 19 b__law_stopped) := by kernel_rfl
theorem x_setI_run {k : CallT} {i j : Nat} {a e : E} {v v' : NB.Env} {s s1 s2 : S} {x : PyData} {xs : List PyData} (h1 : ev k e v s = .ok x s1) (h2 : ev k a v s1 = .ok (.int (j : Nat)) s2) (ho : getO i v = some xs) (hj : j < xs.length) (hp : put i (.own (xs.set j x)) v = some v') : ex k (.setI i a e) v s = .ok (.nx, v') s2 := by
  have hi : ixD xs.length (j : Int) = some j := by
    unfold ixD
    rw [if_pos (by omega), if_pos (by omega)]
    rfl
  rw [x_setI, run_bind, h1]
  show (do
    let y ← ev k a v; let xs ← liftO (getO i v); let n ← liftO (isInt y); let j ← liftO (ixD xs.length n)
    let v' ← liftO (put i (.own (xs.set j x)) v); nx v') s1 = _
  rw [run_bind, h2]
  show (do
    let xs ← liftO (getO i v); let n ← liftO (isInt (.int (j : Nat))); let j ← liftO (ixD xs.length n)
    let v' ← liftO (put i (.own (xs.set j x)) v); nx v') s2 = _
  rw [ho]
  show (do
    let j ← liftO (ixD xs.length (j : Int))
    let v' ← liftO (put i (.own (xs.set j x)) v); nx v') s2 = _
  rw [hi]
  show (do let v' ← liftO (put i (.own (xs.set j x)) v); nx v') s2 = _
  rw [hp]
  rfl
/-! ### pasts -/
theorem conv {ts : List Int} {ys : List PyData} : Paired (fun x y => ∃ top i : Int, x = PyData.int top ∧ y = PyData.int i ∧ 0 ≤ i ∧ i ≤ top) (ts.map .int) ys → ∃ st : List Int, ys = st.map .int ∧ st.length = ts.length ∧ ∀ i, i < ts.length → 0 ≤ st.getD i 0 ∧ st.getD i 0 ≤ ts.getD i 0 := by
  induction ts generalizing ys with
  | nil => intro pr; cases pr; exact ⟨[], rfl, rfl, fun i hi => absurd hi (Nat.not_lt_zero i)⟩
  | cons a ts ih =>
    intro pr
    cases pr with
    | cons hh tt =>
      obtain ⟨top, i, e1, rfl, i0, i1⟩ := hh
      cases e1
      obtain ⟨st, rfl, hl, hn⟩ := ih tt
      refine ⟨i :: st, rfl, congrArg Nat.succ hl, fun k hk => ?_⟩
      cases k with
      | zero => exact ⟨i0, i1⟩
      | succ k => exact hn k (Nat.lt_of_succ_lt_succ hk)
theorem paired_st {t : Net} : ∀ {xs ys : List PyData}, Paired (fun _ y => ∃ st, y = roD st ∧ StOk t st) xs ys → ∃ ss : List (List Int), ys = ss.map roD ∧ ss.length = xs.length ∧ ∀ st ∈ ss, StOk t st
  | [], ys, h => by cases h; exact ⟨[], rfl, rfl, fun _ h => by cases h⟩
  | x :: xs, ys, h => by
    cases h with | cons hd tl =>
    obtain ⟨st, rfl, g⟩ := hd
    obtain ⟨ss, rfl, hl, gs⟩ := paired_st tl
    exact ⟨st :: ss, rfl, congrArg Nat.succ hl, fun q hq => (List.mem_cons.mp hq).elim (fun z => z ▸ g) (gs q)⟩
theorem past_run {t : Net} (h : NetH t) {D : Nat} (hD : D ≤ 100) {m : Nat} (hm : 2 ≤ m) (dl : Deal) : ∃ (ss : List (List Int)) (d' : Deal), callN P m "_law_past" [.h 0, .d (netD t), .d (.int (D : Nat))] [dl] = .ok (paD ss) [d'] ∧ ss.length = D ∧ ∀ st ∈ ss, StOk t st := by
  obtain ⟨m, rfl⟩ : ∃ k, m = k + 1 := ⟨m - 1, by omega⟩
  have hle := h.le
  obtain ⟨ys, s', e, ⟨d1, rfl⟩, pr⟩ := lc_any (i := 3) (f := ev (callN P m) (.bi .tup [.lc (.call "_law_any" [.hnd 0, .bin .add (.varT 4) (.cst (.int 1))]) (.nm 4) (.idx (.varT 1) (.cst (.int 0)))])) (v := [.hnd 0, .val (netD t), .val (.int (D : Nat)), .non, .non])
    (fun s => ∃ d, s = [d]) (fun _ y => ∃ st, y = roD st ∧ StOk t st) (by simp) (xs := rL D) (acc := []) (s := [dl]) (fun x hx s hs => by
      obtain ⟨d, rfl⟩ := hs
      obtain ⟨ys, s', e, ⟨d1, rfl⟩, pr⟩ := lc_any (i := 4) (f := ev (callN P m) (.call "_law_any" [.hnd 0, .bin .add (.varT 4) (.cst (.int 1))])) (v := [.hnd 0, .val (netD t), .val (.int (D : Nat)), .val x, .non])
        (fun s => ∃ d, s = [d]) (fun x y => ∃ top i : Int, x = PyData.int top ∧ y = PyData.int i ∧ 0 ≤ i ∧ i ≤ top) (by simp) (xs := t.tops.map .int) (acc := []) (s := [d]) (fun y hy s hs => by
          obtain ⟨d, rfl⟩ := hs
          obtain ⟨top, ht, rfl⟩ := List.mem_map.mp hy
          have w := h.wo top ht
          have w1 := h.one top ht
          have w2 := w.2
          obtain ⟨r1, d1, e1, a1, b1⟩ := any_run (show 1 ≤ m by omega) (b := top + 1) (by omega) (by omega) d
          exact ⟨.int r1, [d1], ev_call (evA_hnd rfl (evA_nx rfl (ev_bin (ev_varT rfl) ev_cst rfl) q_Anil)) e1, ⟨d1, rfl⟩, top, r1, rfl, rfl, a1, by omega⟩) (by simp; exact sz (by omega)) ⟨d, rfl⟩
      obtain ⟨st, rfl, hl, hn⟩ := conv pr
      rw [List.nil_append] at e
      refine ⟨roD st, [d1], ?_, ⟨d1, rfl⟩, st, rfl, hl, hn⟩
      have c := ev_lc (k := callN P m) (e := .call "_law_any" [.hnd 0, .bin .add (.varT 4) (.cst (.int 1))]) (it := .idx (.varT 1) (.cst (.int 0))) (g := .nm 4) (v := [.hnd 0, .val (netD t), .val (.int (D : Nat)), .val x, .non]) (s := [d]) (ev_idx (ev_varT rfl) ev_cst net_ix0) rfl e
      exact ev_bi1 rfl c d_tupL) (by rw [rL_len]; exact sz (by simp; omega)) ⟨dl, rfl⟩
  obtain ⟨ss, rfl, hl, hs⟩ := paired_st pr
  rw [rL_len] at hl
  rw [List.nil_append] at e
  exact ⟨ss, d1, call_ret f__law_past rfl rfl (exs_ret (ev_bi1 rfl (ev_lc (ev_rng1 (ev_varT rfl) (rL_ok (by omega))) rfl e) d_tupL)), hl, hs⟩
/-! ### hearing -/
theorem l_hears {t : Net} (h : NetH t) {i : Nat} (hi : i < t.tops.length) {X : List (List Int)} (hX : ∀ st ∈ X, StOk t st) {d : Nat} (hd : d ≤ X.length) (hXl : X.length ≤ 900) {r : List Int} (hr : r.length = (br t i).length) (hn : ∀ o ∈ r, 1 ≤ o ∧ o ≤ (d : Int)) {m : Nat} (hm : 13 ≤ m) {s : S} :
    callN P m "_law_hears" [.d (netD t), .d (.list (X.map roD)), .d (.int (i : Nat)), .d (.list (r.map .int))] s = .ok (.int (wn t i (hear (br t i) r X))) s := by
  obtain ⟨m, rfl⟩ : ∃ k, m = k + 1 := ⟨m - 1, by omega⟩
  have hb := br_le h hi
  have e1 : callN P m "_law_branches" [.d (toD (ru t i))] s = .ok (.list ((br t i).map .int)) s := l_branches 4 (ru t i) (h.wf i hi) (by have := h.hc i hi; omega) m s (by omega)
  have i0 : idxD (.tuple (toDL t.rules)) (.int (i : Nat)) = some (toD (ru t i)) := rules_at h hi
  have hz : zipD (.list ((br t i).map .int)) (.list (r.map .int)) = some (.list (((br t i).zip r).map fun p => PyData.tuple [.int p.1, .int p.2])) := by
    show some (PyData.list (zipL ((br t i).map .int) (r.map .int))) = _
    rw [zip_mapB]
  have zl : ((br t i).zip r).length = (br t i).length := by rw [List.length_zip, hr, Nat.min_self]
  have hhl : (hear (br t i) r X).length = (br t i).length := hear_len hr
  obtain ⟨v', s', loop, rfl, x5, x6, rfl⟩ := for_inv (g := .tp [5, 6]) (b := exs (callN P m) [.app 4 (.idx (.idx (.varT 1) (.bin .sub (.bi .len [.varT 1]) (.varT 6))) (.varT 5))])
    (fun k v s' => s' = s ∧ ∃ x5 x6, v = [.val (netD t), .val (.list (X.map roD)), .val (.int (i : Nat)), .val (.list (r.map .int)), .own (((hear (br t i) r X).take k).map .int), x5, x6])
    (xs := ((br t i).zip r).map fun p => PyData.tuple [.int p.1, .int p.2]) (j := 0) (v := [.val (netD t), .val (.list (X.map roD)), .val (.int (i : Nat)), .val (.list (r.map .int)), .own [], .non, .non]) (s := s)
    (fun k x v s' hx hI => by
      obtain ⟨rfl, x5, x6, rfl⟩ := hI
      rw [Nat.zero_add]
      rw [List.getElem?_map] at hx
      obtain ⟨p, hp, rfl⟩ := Option.map_eq_some_iff.mp hx
      have hk := (List.getElem?_eq_some_iff.mp hp).1
      rw [zl] at hk
      have hm := List.mem_of_getElem? hp
      obtain ⟨st, n1, n2⟩ := news_at h hi hX (List.of_mem_zip hm).1 (hn p.2 (List.of_mem_zip hm).2) hd
      have hek : (hear (br t i) r X).take (k + 1) = (hear (br t i) r X).take k ++ [(X.getD (X.length - p.2.toNat) []).getD p.1.toNat 0] := by
        have : (hear (br t i) r X)[k]? = some ((X.getD (X.length - p.2.toNat) []).getD p.1.toNat 0) := by
          unfold hear
          rw [List.getElem?_map, hp]
          rfl
        rw [List.take_add_one, this]
        rfl
      have hz2 : ((hear (br t i) r X).take k).length < sizeLine := Nat.lt_of_lt_of_le (show _ < 1000 by rw [List.length_take]; omega) (sz (Nat.le_refl _))
      have n1' : idxD (.list (X.map roD)) (.int ((X.length : Int) - p.2)) = some (roD st) := n1
      have n2' : idxD (roD st) (.int p.1) = some (.int ((X.getD (X.length - p.2.toNat) []).getD p.1.toNat 0)) := n2
      refine ⟨_, rfl, [.val (netD t), .val (.list (X.map roD)), .val (.int (i : Nat)), .val (.list (r.map .int)), .own (((hear (br t i) r X).take (k + 1)).map .int), .val (.int p.1), .val (.int p.2)], s', .inl ?_, rfl, _, _, rfl⟩
      rw [hek]
      generalize (hear (br t i) r X).take k = W at hz2 ⊢
      generalize (X.getD (X.length - p.2.toNat) []).getD p.1.toNat 0 = y at n2' ⊢
      have s1 : ex (callN P m) (.app 4 (.idx (.idx (.varT 1) (.bin .sub (.bi .len [.varT 1]) (.varT 6))) (.varT 5))) [.val (netD t), .val (.list (X.map roD)), .val (.int (i : Nat)), .val (.list (r.map .int)), .own (W.map .int), .val (.int p.1), .val (.int p.2)] s' = .ok (.nx, [.val (netD t), .val (.list (X.map roD)), .val (.int (i : Nat)), .val (.list (r.map .int)), .own ((W ++ [y]).map .int), .val (.int p.1), .val (.int p.2)]) s' :=
        x_app_run (ev_idx (ev_idx (ev_varT rfl) (ev_bin (ev_bi1 rfl (ev_varT rfl) d_lenL) (ev_varT rfl) (by rw [List.length_map]; rfl)) n1') (ev_varT rfl) n2') rfl (by rw [List.length_map]; exact hz2) (by rw [List.map_append]; rfl)
      exact xs_nx s1 xs_nil)
    ⟨rfl, .non, .non, rfl⟩
  rw [Nat.zero_add, List.length_map, zl, List.take_of_length_le (by omega)] at loop
  have e3 := l_wants h hi (hs := hear (br t i) r X) hhl (hear_wo h hi (d := 0) hX) (show 12 ≤ m by omega) (s := s')
  have s1 : ex (callN P m) (.setF 4 (.lst [])) [.val (netD t), .val (.list (X.map roD)), .val (.int (i : Nat)), .val (.list (r.map .int)), .non, .non, .non] s' = .ok (.nx, [.val (netD t), .val (.list (X.map roD)), .val (.int (i : Nat)), .val (.list (r.map .int)), .own [], .non, .non]) s' := x_setF_run (ev_lst q_Lnil (by decide)) rfl
  have it : ev (callN P m) (.zip (.call "_law_branches" [.idx (.idx (.varT 0) (.cst (.int 1))) (.varT 2)]) (.var 3)) [.val (netD t), .val (.list (X.map roD)), .val (.int (i : Nat)), .val (.list (r.map .int)), .own [], .non, .non] s' = .ok (.list (((br t i).zip r).map fun p => PyData.tuple [.int p.1, .int p.2])) s' :=
    ev_zip (ev_call (evA_nx rfl (ev_idx (ev_idx (ev_varT rfl) ev_cst net_ix1) (ev_varT rfl) i0) q_Anil) e1) (ev_var rfl) hz
  have s3 : ex (callN P m) (.frz 4) [.val (netD t), .val (.list (X.map roD)), .val (.int (i : Nat)), .val (.list (r.map .int)), .own ((hear (br t i) r X).map .int), x5, x6] s' = .ok (.nx, [.val (netD t), .val (.list (X.map roD)), .val (.int (i : Nat)), .val (.list (r.map .int)), .val (.list ((hear (br t i) r X).map .int)), x5, x6]) s' := x_frz
  have b := xs_nx (cs := [.for (.tp [5, 6]) (.zip (.call "_law_branches" [.idx (.idx (.varT 0) (.cst (.int 1))) (.varT 2)]) (.var 3)) [.app 4 (.idx (.idx (.varT 1) (.bin .sub (.bi .len [.varT 1]) (.varT 6))) (.varT 5))], .frz 4, .ret (.call "_law_wants" [.var 0, .var 2, .var 4])]) s1 (xs_nx (x_for_run it rfl loop) (xs_nx s3 (exs_ret (ev_call (evA_nx rfl (ev_var rfl) (evA_nx rfl (ev_var rfl) (evA_nx rfl (ev_var rfl) q_Anil))) e3))))
  exact call_ret f__law_hears rfl rfl b
/-! ### one row -/
def laD : Option (Nat × List Int) → PyData
  | none => .none
  | some p => .tuple [nD p.1, .list (p.2.map .int)]
abbrev V (t : Net) (d e nb : Nat) (ss : List (List Int)) (y6 y7 y9 y10 y11 y12 y13 y14 y15 y16 y17 y18 : NB.Slot) : NB.Env :=
  [.hnd 0, .val (netD t), .val (.int (d : Nat)), .val (.int (e : Nat)), .val (.int (nb : Nat)), .val (.int (t.tops.length : Nat)), y6, y7, .val (paD ss), y9, y10, y11, y12, y13, y14, y15, y16, y17, y18]
def mostE : E := .ite (.cmp .is (.idx (.varT 10) (.varT 13)) (.cst .none)) (.var 2) (.bi .min2 [.varT 2, .bin .sub (.bin .add (.idx (.idx (.idx (.varT 10) (.varT 13)) (.cst (.int 1))) (.varT 17)) (.varT 7)) (.idx (.idx (.varT 10) (.varT 13)) (.cst (.int 0)))])
def rowI : List C := [.set 18 mostE, .app 16 (.bin .add (.cst (.int 1)) (.call "_law_any" [.hnd 0, .ite (.cmp .mem (.varT 13) (.varT 12)) (.var 18) (.var 2)]))]
/-- a row that may follow -/
structure RowOk (d j : Nat) (lim : Option (Nat × List Int)) (mv : Prop) (k : Nat) (r : List Int) : Prop where
  len : r.length = k
  num : ∀ p, p < k → 1 ≤ r.getD p 0 ∧ r.getD p 0 ≤ (d : Int)
  fol : mv → ∀ k0 r0, lim = some (k0, r0) → ∀ p, p < k → r.getD p 0 ≤ r0.getD p 0 + ((j : Int) - (k0 : Int))
theorem row_run {t : Net} (h : NetH t) {d e nb : Nat} (hd : 1 ≤ d) (hd2 : d ≤ 100) {ss : List (List Int)} {j i n : Nat} (hn : n ≤ 12) {Z : List (Option (Nat × List Int))} (hi : i < Z.length) {ms : List Nat} (hlim : ∀ k0 r0, Z.getD i none = some (k0, r0) → k0 < j ∧ r0.length = n ∧ ∀ p, p < n → 1 ≤ r0.getD p 0) (hj : j ≤ 1000) (hr : ∀ k0 r0, Z.getD i none = some (k0, r0) → ∀ p, p < n → r0.getD p 0 ≤ (d : Int))
    (y6 y9 y11 y14 y15 x17 x18 : NB.Slot) {m : Nat} (hm : 1 ≤ m) (dl : Deal) : ∃ (r : List Int) (d' : Deal) (y17 y18 : NB.Slot), forM' (.nm 17) (exs (callN P m) rowI) (rL n) (V t d e nb ss y6 (.val (nD j)) y9 (.own (Z.map laD)) y11 (.val (moD ms)) (.val (nD i)) y14 y15 (.own []) x17 x18) [dl] =
      .ok (.nx, V t d e nb ss y6 (.val (nD j)) y9 (.own (Z.map laD)) y11 (.val (moD ms)) (.val (nD i)) y14 y15 (.own (r.map .int)) y17 y18) [d'] ∧ RowOk d j (Z.getD i none) (i ∈ ms) n r := by
  obtain ⟨v', s', loop, ⟨d', rfl⟩, r, y17, y18, ok, rfl⟩ := for_inv (g := .nm 17) (b := exs (callN P m) rowI)
    (fun k v s' => (∃ d', s' = [d']) ∧ ∃ (r : List Int) (y17 y18 : NB.Slot), RowOk d j (Z.getD i none) (i ∈ ms) k r ∧ v = V t d e nb ss y6 (.val (nD j)) y9 (.own (Z.map laD)) y11 (.val (moD ms)) (.val (nD i)) y14 y15 (.own (r.map .int)) y17 y18)
    (xs := rL n) (j := 0) (v := V t d e nb ss y6 (.val (nD j)) y9 (.own (Z.map laD)) y11 (.val (moD ms)) (.val (nD i)) y14 y15 (.own []) x17 x18) (s := [dl])
    (fun k x v s' hx hI => by
      obtain ⟨⟨d1, rfl⟩, r, y17, y18, ok, rfl⟩ := hI
      rw [Nat.zero_add] at ok ⊢
      obtain ⟨hk, rfl⟩ := rL_get hx
      have a1 : idxD (.list (Z.map laD)) (nD i) = some (laD (Z.getD i none)) := at_map hi
      have hc : ∃ c : Int, ev (callN P m) mostE (V t d e nb ss y6 (.val (nD j)) y9 (.own (Z.map laD)) y11 (.val (moD ms)) (.val (nD i)) y14 y15 (.own (r.map .int)) (.val (nD k)) y18) [d1] = .ok (.int c) [d1] ∧ 1 ≤ c ∧ c ≤ (d : Int) ∧ ∀ k0 r0, Z.getD i none = some (k0, r0) → c ≤ r0.getD k 0 + ((j : Int) - (k0 : Int)) := by
        cases hz : Z.getD i none with
        | none =>
          rw [hz] at a1
          exact ⟨(d : Int), ev_ite_yes (ev_cmp (ev_idx (ev_varT rfl) (ev_varT rfl) a1) ev_cst d_isN) (ev_var rfl), by omega, by omega, fun k0 r0 z => by cases z⟩
        | some q =>
          obtain ⟨k0, r0⟩ := q
          rw [hz] at a1
          obtain ⟨l1, l2, l3⟩ := hlim k0 r0 hz
          have l3k := l3 k hk
          have l4k := hr k0 r0 hz k hk
          have a2 : idxD (laD (some (k0, r0))) (.int 1) = some (.list (r0.map .int)) := ix1
          have a3 : idxD (laD (some (k0, r0))) (.int 0) = some (nD k0) := ix0
          have a4 : idxD (.list (r0.map .int)) (nD k) = some (.int (r0.getD k 0)) := at_map (f := PyData.int) (by omega)
          have b1 : ev (callN P m) (.cmp .is (.idx (.varT 10) (.varT 13)) (.cst .none)) (V t d e nb ss y6 (.val (nD j)) y9 (.own (Z.map laD)) y11 (.val (moD ms)) (.val (nD i)) y14 y15 (.own (r.map .int)) (.val (nD k)) y18) [d1] = .ok (.bool false) [d1] := ev_cmp (ev_idx (ev_varT rfl) (ev_varT rfl) a1) ev_cst d_isN
          have b2 : ev (callN P m) (.bin .sub (.bin .add (.idx (.idx (.idx (.varT 10) (.varT 13)) (.cst (.int 1))) (.varT 17)) (.varT 7)) (.idx (.idx (.varT 10) (.varT 13)) (.cst (.int 0)))) (V t d e nb ss y6 (.val (nD j)) y9 (.own (Z.map laD)) y11 (.val (moD ms)) (.val (nD i)) y14 y15 (.own (r.map .int)) (.val (nD k)) y18) [d1] = .ok (.int (r0.getD k 0 + (j : Int) - (k0 : Int))) [d1] :=
            ev_bin (ev_bin (ev_idx (ev_idx (ev_idx (ev_varT rfl) (ev_varT rfl) a1) ev_cst a2) (ev_varT rfl) a4) (ev_varT rfl) rfl) (ev_idx (ev_idx (ev_varT rfl) (ev_varT rfl) a1) ev_cst a3) rfl
          refine ⟨if r0.getD k 0 + (j : Int) - (k0 : Int) < (d : Int) then r0.getD k 0 + (j : Int) - (k0 : Int) else (d : Int), ev_ite_no b1 (ev_bi2 rfl rfl (ev_varT rfl) b2 rfl), by split <;> omega, by split <;> omega, fun k1 r1 z => ?_⟩
          cases z
          split <;> omega
      obtain ⟨c, ec, c1, c2, c3⟩ := hc
      have s1 : ex (callN P m) (.set 18 mostE) (V t d e nb ss y6 (.val (nD j)) y9 (.own (Z.map laD)) y11 (.val (moD ms)) (.val (nD i)) y14 y15 (.own (r.map .int)) (.val (nD k)) y18) [d1] = .ok (.nx, V t d e nb ss y6 (.val (nD j)) y9 (.own (Z.map laD)) y11 (.val (moD ms)) (.val (nD i)) y14 y15 (.own (r.map .int)) (.val (nD k)) (.val (.int c))) [d1] := x_set_run ec (by simp [V])
      have hm2 := mem_mo (h := i) (ms := ms)
      obtain ⟨b, eb, b1, b2, b3⟩ : ∃ b : Int, ev (callN P m) (.ite (.cmp .mem (.varT 13) (.varT 12)) (.var 18) (.var 2)) (V t d e nb ss y6 (.val (nD j)) y9 (.own (Z.map laD)) y11 (.val (moD ms)) (.val (nD i)) y14 y15 (.own (r.map .int)) (.val (nD k)) (.val (.int c))) [d1] = .ok (.int b) [d1] ∧ 1 ≤ b ∧ b ≤ (d : Int) ∧ (i ∈ ms → b = c) := by
        by_cases him : i ∈ ms
        · rw [decide_eq_true him] at hm2
          exact ⟨c, ev_ite_yes (ev_cmp (ev_varT rfl) (ev_varT rfl) hm2) (ev_var rfl), c1, c2, fun _ => rfl⟩
        · rw [decide_eq_false him] at hm2
          exact ⟨(d : Int), ev_ite_no (ev_cmp (ev_varT rfl) (ev_varT rfl) hm2) (ev_var rfl), by omega, by omega, fun z => absurd z him⟩
      obtain ⟨q, d2, e2, q0, q1⟩ := any_run hm (b := b) (by omega) (by omega) d1
      have hz2 : r.length < sizeLine := by rw [ok.len]; exact Nat.lt_of_lt_of_le (show k < 1000 by omega) (sz (Nat.le_refl _))
      have s2 : ex (callN P m) (.app 16 (.bin .add (.cst (.int 1)) (.call "_law_any" [.hnd 0, .ite (.cmp .mem (.varT 13) (.varT 12)) (.var 18) (.var 2)]))) (V t d e nb ss y6 (.val (nD j)) y9 (.own (Z.map laD)) y11 (.val (moD ms)) (.val (nD i)) y14 y15 (.own (r.map .int)) (.val (nD k)) (.val (.int c))) [d1] = .ok (.nx, V t d e nb ss y6 (.val (nD j)) y9 (.own (Z.map laD)) y11 (.val (moD ms)) (.val (nD i)) y14 y15 (.own ((r ++ [1 + q]).map .int)) (.val (nD k)) (.val (.int c))) [d2] :=
        x_app_run (ev_bin ev_cst (ev_call (evA_hnd rfl (evA_nx rfl eb q_Anil)) e2) rfl) rfl (by rw [List.length_map]; exact hz2) (by rw [List.map_append]; rfl)
      refine ⟨_, rfl, _, [d2], .inl (xs_nx s1 (xs_nx s2 xs_nil)), ⟨d2, rfl⟩, r ++ [1 + q], _, _, ?_, rfl⟩
      refine ⟨by rw [List.length_append, ok.len]; rfl, fun p hp => ?_, fun hmv k0 r0 hz p hp => ?_⟩
      · by_cases hpk : p < k
        · rw [getD_appL (by rw [ok.len]; exact hpk)]
          exact ok.num p hpk
        · have : p = r.length := by rw [ok.len]; omega
          subst this
          rw [getD_appR (Nat.le_refl _), Nat.sub_self]
          show 1 ≤ 1 + q ∧ 1 + q ≤ (d : Int)
          omega
      · by_cases hpk : p < k
        · rw [getD_appL (by rw [ok.len]; exact hpk)]
          exact ok.fol hmv k0 r0 hz p hpk
        · have hpr : p = r.length := by rw [ok.len]; omega
          have g := c3 k0 r0 hz
          have bc := b3 hmv
          rw [hpr, getD_appR (Nat.le_refl _), Nat.sub_self, ok.len]
          show 1 + q ≤ _
          omega)
    ⟨⟨dl, rfl⟩, [], x17, x18, ⟨rfl, fun p hp => absurd hp (Nat.not_lt_zero p), fun _ _ _ _ p hp => absurd hp (Nat.not_lt_zero p)⟩, rfl⟩
  rw [Nat.zero_add, rL_len] at ok
  exact ⟨r, d', y17, y18, loop, ok⟩
end K52
set_option Elab.async false
set_option linter.all false
set_option maxRecDepth 100000
set_option maxHeartbeats 4000000
/-! K52P: drawn stopped runs. -/
namespace K52
open PySem PySem.Spec PyProof.Rows L2 L2.NB
theorem getD_set {α : Type} {l : List α} {i q : Nat} {a d : α} (h : i < l.length) : (l.set i a).getD q d = if q = i then a else l.getD q d := by
  rw [List.getD_eq_getElem?_getD, List.getD_eq_getElem?_getD]
  by_cases hq : q = i
  · subst hq
    rw [List.getElem?_set_self h, if_pos rfl]
    rfl
  · rw [List.getElem?_set_ne (Ne.symm hq), if_neg hq]
def hearI : List C := [.setI 15 (.var 13) (.callB "_law_hears" [.varT 1, .varT 6, .varT 13, .varT 16]), .frz 16, .setI 10 (.var 13) (.tup [.var 7, .var 16])]
def sinI : C := .setI 9 (.var 13) (.ite (.cmp .mem (.varT 13) (.varT 12)) (.cst (.int 0)) (.bin .add (.idx (.varT 9) (.varT 13)) (.cst (.int 1))))
def houI : List C := [.setF 16 (.lst []), .for (.nm 17) (.rng1 (.bi .len [.call "_law_branches" [.idx (.idx (.varT 1) (.cst (.int 1))) (.varT 13)]])) rowI, .app 14 (.bi .tup [.varT 16]), .ifs (.cmp .mem (.varT 13) (.varT 12)) hearI [], sinI]
theorem getT_row {r : List Int} : biD .tup [.list (r.map .int)] = some (roD r) := rfl
theorem house_one {t : Net} (h : NetH t) {d e nb : Nat} (hd : 1 ≤ d) (hd2 : d ≤ 100) {ss X : List (List Int)} (hX : ∀ st ∈ X, StOk t st) (hX1 : d ≤ X.length) (hX2 : X.length ≤ 900) {j i : Nat} (hi : i < t.tops.length) (hj : j ≤ 1000) {ms : List Nat} {S : List Nat} {Z : List (Option (Nat × List Int))} {N : List Int} {L : List (List Int)}
    (hS : S.length = t.tops.length) (hZ : Z.length = t.tops.length) (hN : N.length = t.tops.length) (hL : L.length ≤ 100) (hlim : ∀ k0 r0, Z.getD i none = some (k0, r0) → k0 < j ∧ r0.length = (br t i).length ∧ ∀ p, p < (br t i).length → 1 ≤ r0.getD p 0 ∧ r0.getD p 0 ≤ (d : Int))
    (y11 x16 x17 x18 : NB.Slot) {m : Nat} (hm : 13 ≤ m) (dl : Deal) :
    ∃ (r : List Int) (d' : Deal) (y16 y17 y18 : NB.Slot), exs (callN P m) houI (V t d e nb ss (.own (X.map roD)) (.val (nD j)) (.own (S.map nD)) (.own (Z.map laD)) y11 (.val (moD ms)) (.val (nD i)) (.own (L.map roD)) (.own (N.map .int)) x16 x17 x18) [dl] =
      .ok (.nx, V t d e nb ss (.own (X.map roD)) (.val (nD j)) (.own ((S.set i (if i ∈ ms then 0 else S.getD i 0 + 1)).map nD)) (.own ((if i ∈ ms then Z.set i (some (j, r)) else Z).map laD)) y11 (.val (moD ms)) (.val (nD i)) (.own ((L ++ [r]).map roD)) (.own ((if i ∈ ms then N.set i (wn t i (hear (br t i) r X)) else N).map .int)) y16 y17 y18) [d'] ∧ RowOk d j (Z.getD i none) (i ∈ ms) (br t i).length r := by
  have hb := br_le h hi
  have e1 : callN P m "_law_branches" [.d (toD (ru t i))] [dl] = .ok (.list ((br t i).map .int)) [dl] := l_branches 4 (ru t i) (h.wf i hi) (by have := h.hc i hi; omega) m [dl] (by omega)
  have i0 : idxD (.tuple (toDL t.rules)) (nD i) = some (toD (ru t i)) := rules_at h hi
  obtain ⟨r, d1, y17, y18, lp, ok⟩ := row_run h (d := d) (e := e) (nb := nb) hd hd2 (ss := ss) (j := j) (i := i) (n := (br t i).length) hb (Z := Z) (by omega) (ms := ms) (fun k0 r0 z => ⟨(hlim k0 r0 z).1, (hlim k0 r0 z).2.1, fun p hp => ((hlim k0 r0 z).2.2 p hp).1⟩) hj (fun k0 r0 z p hp => ((hlim k0 r0 z).2.2 p hp).2) (.own (X.map roD)) (.own (S.map nD)) y11 (.own (L.map roD)) (.own (N.map .int)) x17 x18 (show 1 ≤ m by omega) dl
  have hrn : ∀ o ∈ r, 1 ≤ o ∧ o ≤ (d : Int) := fun o ho => by
    obtain ⟨p, hp⟩ := List.mem_iff_getElem?.mp ho
    have hpl := (List.getElem?_eq_some_iff.mp hp).1
    rw [ok.len] at hpl
    have := ok.num p hpl
    rw [getD_at hp] at this
    exact this
  have e2 := l_hears h hi hX hX1 hX2 ok.len hrn (show 13 ≤ m by omega) (s := [d1])
  have s1 : ex (callN P m) (.setF 16 (.lst [])) (V t d e nb ss (.own (X.map roD)) (.val (nD j)) (.own (S.map nD)) (.own (Z.map laD)) y11 (.val (moD ms)) (.val (nD i)) (.own (L.map roD)) (.own (N.map .int)) x16 x17 x18) [dl] = .ok (.nx, V t d e nb ss (.own (X.map roD)) (.val (nD j)) (.own (S.map nD)) (.own (Z.map laD)) y11 (.val (moD ms)) (.val (nD i)) (.own (L.map roD)) (.own (N.map .int)) (.own []) x17 x18) [dl] := x_setF_run (ev_lst q_Lnil (by decide)) rfl
  have s2 := x_for_run (k := callN P m) (g := .nm 17) (b := rowI) (it := .rng1 (.bi .len [.call "_law_branches" [.idx (.idx (.varT 1) (.cst (.int 1))) (.varT 13)]])) (v := V t d e nb ss (.own (X.map roD)) (.val (nD j)) (.own (S.map nD)) (.own (Z.map laD)) y11 (.val (moD ms)) (.val (nD i)) (.own (L.map roD)) (.own (N.map .int)) (.own []) x17 x18) (ev_rng1 (ev_bi1 rfl (ev_call (evA_nx rfl (ev_idx (ev_idx (ev_varT rfl) ev_cst net_ix1) (ev_varT rfl) i0) q_Anil) e1) (by rw [d_lenL, List.length_map])) (rL_ok (by omega))) rfl lp
  have hz2 : L.length < sizeLine := Nat.lt_of_lt_of_le (show L.length < 1000 by omega) (sz (Nat.le_refl _))
  have s3 : ex (callN P m) (.app 14 (.bi .tup [.varT 16])) (V t d e nb ss (.own (X.map roD)) (.val (nD j)) (.own (S.map nD)) (.own (Z.map laD)) y11 (.val (moD ms)) (.val (nD i)) (.own (L.map roD)) (.own (N.map .int)) (.own (r.map .int)) y17 y18) [d1] = .ok (.nx, V t d e nb ss (.own (X.map roD)) (.val (nD j)) (.own (S.map nD)) (.own (Z.map laD)) y11 (.val (moD ms)) (.val (nD i)) (.own ((L ++ [r]).map roD)) (.own (N.map .int)) (.own (r.map .int)) y17 y18) [d1] :=
    x_app_run (ev_bi1 rfl (ev_varT rfl) getT_row) rfl (by rw [List.length_map]; exact hz2) (by rw [List.map_append]; rfl)
  have hm2 := mem_mo (h := i) (ms := ms)
  by_cases him : i ∈ ms
  · rw [decide_eq_true him] at hm2
    simp only [if_pos him]
    have c : ∀ y16 z9 z10 z15, ev (callN P m) (.cmp .mem (.varT 13) (.varT 12)) (V t d e nb ss (.own (X.map roD)) (.val (nD j)) z9 z10 y11 (.val (moD ms)) (.val (nD i)) (.own ((L ++ [r]).map roD)) z15 y16 y17 y18) [d1] = .ok (.bool true) [d1] := fun y16 z9 z10 z15 => ev_cmp (ev_varT rfl) (ev_varT rfl) hm2
    have s4 : ex (callN P m) (.setI 15 (.var 13) (.callB "_law_hears" [.varT 1, .varT 6, .varT 13, .varT 16])) (V t d e nb ss (.own (X.map roD)) (.val (nD j)) (.own (S.map nD)) (.own (Z.map laD)) y11 (.val (moD ms)) (.val (nD i)) (.own ((L ++ [r]).map roD)) (.own (N.map .int)) (.own (r.map .int)) y17 y18) [d1] = .ok (.nx, V t d e nb ss (.own (X.map roD)) (.val (nD j)) (.own (S.map nD)) (.own (Z.map laD)) y11 (.val (moD ms)) (.val (nD i)) (.own ((L ++ [r]).map roD)) (.own ((N.set i (wn t i (hear (br t i) r X))).map .int)) (.own (r.map .int)) y17 y18) [d1] :=
      x_setI_run (ev_callB (evA_nx rfl (ev_varT rfl) (evA_nx rfl (ev_varT rfl) (evA_nx rfl (ev_varT rfl) (evA_nx rfl (ev_varT rfl) q_Anil)))) e2 rfl) (ev_var rfl) rfl (by rw [List.length_map, hN]; exact hi) (by rw [List.map_set (f := PyData.int)]; rfl)
    have s5 : ex (callN P m) (.frz 16) (V t d e nb ss (.own (X.map roD)) (.val (nD j)) (.own (S.map nD)) (.own (Z.map laD)) y11 (.val (moD ms)) (.val (nD i)) (.own ((L ++ [r]).map roD)) (.own ((N.set i (wn t i (hear (br t i) r X))).map .int)) (.own (r.map .int)) y17 y18) [d1] = .ok (.nx, V t d e nb ss (.own (X.map roD)) (.val (nD j)) (.own (S.map nD)) (.own (Z.map laD)) y11 (.val (moD ms)) (.val (nD i)) (.own ((L ++ [r]).map roD)) (.own ((N.set i (wn t i (hear (br t i) r X))).map .int)) (.val (.list (r.map .int))) y17 y18) [d1] := x_frz
    have s6 : ex (callN P m) (.setI 10 (.var 13) (.tup [.var 7, .var 16])) (V t d e nb ss (.own (X.map roD)) (.val (nD j)) (.own (S.map nD)) (.own (Z.map laD)) y11 (.val (moD ms)) (.val (nD i)) (.own ((L ++ [r]).map roD)) (.own ((N.set i (wn t i (hear (br t i) r X))).map .int)) (.val (.list (r.map .int))) y17 y18) [d1] = .ok (.nx, V t d e nb ss (.own (X.map roD)) (.val (nD j)) (.own (S.map nD)) (.own ((Z.set i (some (j, r))).map laD)) y11 (.val (moD ms)) (.val (nD i)) (.own ((L ++ [r]).map roD)) (.own ((N.set i (wn t i (hear (br t i) r X))).map .int)) (.val (.list (r.map .int))) y17 y18) [d1] :=
      x_setI_run (x := laD (some (j, r))) (ev_tup (evL_nx rfl (ev_var rfl) (evL_nx rfl (ev_var rfl) q_Lnil)) (sz (by simp))) (ev_var rfl) rfl (by rw [List.length_map, hZ]; exact hi) (by rw [List.map_set (f := laD)]; rfl)
    have s7 : ex (callN P m) sinI (V t d e nb ss (.own (X.map roD)) (.val (nD j)) (.own (S.map nD)) (.own ((Z.set i (some (j, r))).map laD)) y11 (.val (moD ms)) (.val (nD i)) (.own ((L ++ [r]).map roD)) (.own ((N.set i (wn t i (hear (br t i) r X))).map .int)) (.val (.list (r.map .int))) y17 y18) [d1] = .ok (.nx, V t d e nb ss (.own (X.map roD)) (.val (nD j)) (.own ((S.set i 0).map nD)) (.own ((Z.set i (some (j, r))).map laD)) y11 (.val (moD ms)) (.val (nD i)) (.own ((L ++ [r]).map roD)) (.own ((N.set i (wn t i (hear (br t i) r X))).map .int)) (.val (.list (r.map .int))) y17 y18) [d1] :=
      x_setI_run (ev_ite_yes (c _ _ _ _) (ev_cst (d := .int 0))) (ev_var rfl) rfl (by rw [List.length_map, hS]; exact hi) (by rw [List.map_set (f := nD)]; rfl)
    exact ⟨r, d1, _, _, _, xs_nx s1 (xs_nx s2 (xs_nx s3 (xs_nx (ex_ifs_yes (c _ _ _ _) (xs_nx s4 (xs_nx s5 (xs_nx s6 xs_nil)))) (xs_nx s7 xs_nil)))), ok⟩
  · rw [decide_eq_false him] at hm2
    simp only [if_neg him]
    have c : ev (callN P m) (.cmp .mem (.varT 13) (.varT 12)) (V t d e nb ss (.own (X.map roD)) (.val (nD j)) (.own (S.map nD)) (.own (Z.map laD)) y11 (.val (moD ms)) (.val (nD i)) (.own ((L ++ [r]).map roD)) (.own (N.map .int)) (.own (r.map .int)) y17 y18) [d1] = .ok (.bool false) [d1] := ev_cmp (ev_varT rfl) (ev_varT rfl) hm2
    have a1 : idxD (.list (S.map nD)) (nD i) = some (nD (S.getD i 0)) := at_map (by omega)
    have s7 : ex (callN P m) sinI (V t d e nb ss (.own (X.map roD)) (.val (nD j)) (.own (S.map nD)) (.own (Z.map laD)) y11 (.val (moD ms)) (.val (nD i)) (.own ((L ++ [r]).map roD)) (.own (N.map .int)) (.own (r.map .int)) y17 y18) [d1] = .ok (.nx, V t d e nb ss (.own (X.map roD)) (.val (nD j)) (.own ((S.set i (S.getD i 0 + 1)).map nD)) (.own (Z.map laD)) y11 (.val (moD ms)) (.val (nD i)) (.own ((L ++ [r]).map roD)) (.own (N.map .int)) (.own (r.map .int)) y17 y18) [d1] :=
      x_setI_run (x := nD (S.getD i 0 + 1)) (ev_ite_no c (ev_bin (ev_idx (ev_varT rfl) (ev_varT rfl) a1) ev_cst rfl)) (ev_var rfl) rfl (by rw [List.length_map, hS]; exact hi) (by rw [List.map_set (f := nD)]; rfl)
    exact ⟨r, d1, _, _, _, xs_nx s1 (xs_nx s2 (xs_nx s3 (xs_nx (ex_ifs_no c) (xs_nx s7 xs_nil)))), ok⟩
/-- behind i houses of a beat -/
structure HI (t : Net) (d j i : Nat) (X : List (List Int)) (ms : List Nat) (S : List Nat) (Z : List (Option (Nat × List Int))) (S' : List Nat) (Z' : List (Option (Nat × List Int))) (N : List Int) (L : List (List Int)) : Prop where
  sl : S'.length = t.tops.length
  zl : Z'.length = t.tops.length
  nl : N.length = t.tops.length
  ll : L.length = i
  s : ∀ q, q < t.tops.length → S'.getD q 0 = if q < i then (if q ∈ ms then 0 else S.getD q 0 + 1) else S.getD q 0
  z : ∀ q, q < t.tops.length → Z'.getD q none = if q < i ∧ q ∈ ms then some (j, L.getD q []) else Z.getD q none
  n : ∀ q, q < t.tops.length → N.getD q 0 = if q < i ∧ q ∈ ms then wn t q (hear (br t q) (L.getD q []) X) else (lastL X).getD q 0
  l : ∀ q, q < i → RowOk d j (Z.getD q none) (q ∈ ms) (br t q).length (L.getD q [])
theorem HI.next {t : Net} {d j i : Nat} {X : List (List Int)} {ms S : List Nat} {Z : List (Option (Nat × List Int))} {S' : List Nat} {Z' : List (Option (Nat × List Int))} {N : List Int} {L : List (List Int)} (I : HI t d j i X ms S Z S' Z' N L) (hi : i < t.tops.length) {r : List Int} (ok : RowOk d j (Z.getD i none) (i ∈ ms) (br t i).length r) :
    HI t d j (i + 1) X ms S Z (S'.set i (if i ∈ ms then 0 else S'.getD i 0 + 1)) (if i ∈ ms then Z'.set i (some (j, r)) else Z') (if i ∈ ms then N.set i (wn t i (hear (br t i) r X)) else N) (L ++ [r]) := by
  have old : ∀ q, q < i → (L ++ [r]).getD q [] = L.getD q [] := fun q hq => getD_appL (by rw [I.ll]; exact hq)
  have new : (L ++ [r]).getD i [] = r := by rw [getD_appR (by rw [I.ll]; exact Nat.le_refl _), I.ll, Nat.sub_self]; rfl
  refine ⟨by rw [List.length_set]; exact I.sl, by split; rw [List.length_set]; exact I.zl; exact I.zl, by split; rw [List.length_set]; exact I.nl; exact I.nl, by rw [List.length_append, I.ll]; rfl, fun q hq => ?_, fun q hq => ?_, fun q hq => ?_, fun q hq => ?_⟩
  · rw [getD_set (by rw [I.sl]; exact hi)]
    by_cases hqi : q = i
    · subst hqi
      have := I.s q hq
      rw [if_neg (Nat.lt_irrefl q)] at this
      rw [if_pos rfl, if_pos (Nat.lt_succ_self q), this]
    · rw [if_neg hqi, I.s q hq]
      by_cases hlt : q < i
      · rw [if_pos hlt, if_pos (show q < i + 1 by omega)]
      · rw [if_neg hlt, if_neg (show ¬ q < i + 1 by omega)]
  · by_cases him : i ∈ ms
    · rw [if_pos him, getD_set (by rw [I.zl]; exact hi)]
      by_cases hqi : q = i
      · subst hqi
        rw [if_pos rfl, if_pos ⟨Nat.lt_succ_self q, him⟩, new]
      · rw [if_neg hqi, I.z q hq]
        by_cases hlt : q < i ∧ q ∈ ms
        · rw [if_pos hlt, if_pos ⟨by omega, hlt.2⟩, old q hlt.1]
        · rw [if_neg hlt, if_neg fun z => hlt ⟨by omega, z.2⟩]
    · rw [if_neg him, I.z q hq]
      by_cases hlt : q < i ∧ q ∈ ms
      · rw [if_pos hlt, if_pos ⟨by omega, hlt.2⟩, old q hlt.1]
      · rw [if_neg hlt, if_neg fun z => hlt ⟨by
          have : q ≠ i := fun e => him (e ▸ z.2)
          omega, z.2⟩]
  · by_cases him : i ∈ ms
    · rw [if_pos him, getD_set (by rw [I.nl]; exact hi)]
      by_cases hqi : q = i
      · subst hqi
        rw [if_pos rfl, if_pos ⟨Nat.lt_succ_self q, him⟩, new]
      · rw [if_neg hqi, I.n q hq]
        by_cases hlt : q < i ∧ q ∈ ms
        · rw [if_pos hlt, if_pos ⟨by omega, hlt.2⟩, old q hlt.1]
        · rw [if_neg hlt, if_neg fun z => hlt ⟨by omega, z.2⟩]
    · rw [if_neg him, I.n q hq]
      by_cases hlt : q < i ∧ q ∈ ms
      · rw [if_pos hlt, if_pos ⟨by omega, hlt.2⟩, old q hlt.1]
      · rw [if_neg hlt, if_neg fun z => hlt ⟨by
          have : q ≠ i := fun e => him (e ▸ z.2)
          omega, z.2⟩]
  · by_cases hqi : q = i
    · subst hqi
      rw [new]
      exact ok
    · rw [old q (by omega)]
      exact I.l q (by omega)
theorem houses_run {t : Net} (h : NetH t) {d e nb : Nat} (hd : 1 ≤ d) (hd2 : d ≤ 100) {ss X : List (List Int)} (hX : ∀ st ∈ X, StOk t st) (hX1 : d ≤ X.length) (hX2 : X.length ≤ 900) {j : Nat} (hj : j ≤ 1000) {ms : List Nat} {S : List Nat} {Z : List (Option (Nat × List Int))}
    (hS : S.length = t.tops.length) (hZ : Z.length = t.tops.length) (hlim : ∀ i, i < t.tops.length → ∀ k0 r0, Z.getD i none = some (k0, r0) → k0 < j ∧ r0.length = (br t i).length ∧ ∀ p, p < (br t i).length → 1 ≤ r0.getD p 0 ∧ r0.getD p 0 ≤ (d : Int))
    (hlast : (lastL X).length = t.tops.length) (y11 y13 y16 y17 y18 : NB.Slot) {m : Nat} (hm : 13 ≤ m) (dl : Deal) :
    ∃ (S' : List Nat) (Z' : List (Option (Nat × List Int))) (N : List Int) (L : List (List Int)) (d' : Deal) (x13 x16 x17 x18 : NB.Slot), forM' (.nm 13) (exs (callN P m) houI) (rL t.tops.length) (V t d e nb ss (.own (X.map roD)) (.val (nD j)) (.own (S.map nD)) (.own (Z.map laD)) y11 (.val (moD ms)) y13 (.own []) (.own ((lastL X).map .int)) y16 y17 y18) [dl] =
      .ok (.nx, V t d e nb ss (.own (X.map roD)) (.val (nD j)) (.own (S'.map nD)) (.own (Z'.map laD)) y11 (.val (moD ms)) x13 (.own (L.map roD)) (.own (N.map .int)) x16 x17 x18) [d'] ∧ HI t d j t.tops.length X ms S Z S' Z' N L := by
  have hle := h.le
  obtain ⟨v', s', loop, ⟨d', rfl⟩, S', Z', N, L, x13, x16, x17, x18, I, rfl⟩ := for_inv (g := .nm 13) (b := exs (callN P m) houI)
    (fun k v s' => (∃ d', s' = [d']) ∧ ∃ (S' : List Nat) (Z' : List (Option (Nat × List Int))) (N : List Int) (L : List (List Int)) (x13 x16 x17 x18 : NB.Slot), HI t d j k X ms S Z S' Z' N L ∧ v = V t d e nb ss (.own (X.map roD)) (.val (nD j)) (.own (S'.map nD)) (.own (Z'.map laD)) y11 (.val (moD ms)) x13 (.own (L.map roD)) (.own (N.map .int)) x16 x17 x18)
    (xs := rL t.tops.length) (j := 0) (v := V t d e nb ss (.own (X.map roD)) (.val (nD j)) (.own (S.map nD)) (.own (Z.map laD)) y11 (.val (moD ms)) y13 (.own []) (.own ((lastL X).map .int)) y16 y17 y18) (s := [dl])
    (fun k x v s' hx hI => by
      obtain ⟨⟨d1, rfl⟩, S', Z', N, L, x13, x16, x17, x18, I, rfl⟩ := hI
      rw [Nat.zero_add] at I ⊢
      obtain ⟨hk, rfl⟩ := rL_get hx
      have ez : Z'.getD k none = Z.getD k none := by
        rw [I.z k hk, if_neg fun z => Nat.lt_irrefl _ z.1]
      obtain ⟨r, d2, z16, z17, z18, e1, ok⟩ := house_one h (e := e) (nb := nb) hd hd2 (ss := ss) hX hX1 hX2 (j := j) (i := k) hk hj (ms := ms) (S := S') (Z := Z') (N := N) (L := L) I.sl I.zl I.nl (by rw [I.ll]; omega) (fun k0 r0 z => hlim k hk k0 r0 (by rw [← ez]; exact z)) y11 x16 x17 x18 hm d1
      rw [ez] at ok
      exact ⟨_, rfl, _, [d2], .inl e1, ⟨d2, rfl⟩, _, _, _, _, _, _, _, _, I.next hk ok, rfl⟩)
    ⟨⟨dl, rfl⟩, S, Z, lastL X, [], y13, y16, y17, y18, ⟨hS, hZ, hlast, rfl, fun q hq => by rw [if_neg (Nat.not_lt_zero q)], fun q hq => by rw [if_neg fun z => Nat.not_lt_zero q z.1], fun q hq => by rw [if_neg fun z => Nat.not_lt_zero q z.1], fun q hq => absurd hq (Nat.not_lt_zero q)⟩, rfl⟩
  rw [Nat.zero_add, rL_len] at I
  exact ⟨S', Z', N, L, d', x13, x16, x17, x18, loop, I⟩
/-! ### what is kept from beat to beat -/
def mvAt (B : List Bt) (k : Nat) : List Nat := (B.getD k bt0).1
structure SI (t : Net) (d e : Nat) (B : List Bt) (S : List Nat) (Z : List (Option (Nat × List Int))) : Prop where
  sl : S.length = t.tops.length
  zl : Z.length = t.tops.length
  ok : ∀ b ∈ B, BtOk t d b
  s0 : ∀ h, h < t.tops.length → S.getD h 0 < B.length → h ∈ mvAt B (B.length - 1 - S.getD h 0)
  z1 : ∀ h, h < t.tops.length → Z.getD h none = none → ∀ j, j < B.length → h ∉ mvAt B j
  z2 : ∀ h, h < t.tops.length → ∀ k r, Z.getD h none = some (k, r) → k < B.length ∧ h ∈ mvAt B k ∧ r = rowAt B k h ∧ ∀ j, k < j → j < B.length → h ∉ mvAt B j
  mv : ∀ h, h < t.tops.length → ∀ a, a + e ≤ B.length → ∃ k, a ≤ k ∧ k < a + e ∧ h ∈ mvAt B k
  nw : ∀ h, h < t.tops.length → ∀ a b, a < b → b < B.length → h ∈ mvAt B a → h ∈ mvAt B b → (∀ j, a < j → j < b → h ∉ mvAt B j) → nwP B h a b = true
section
variable {B : List Bt} {b : Bt}
theorem at_old {k : Nat} (hk : k < B.length) : (B ++ [b]).getD k bt0 = B.getD k bt0 := getD_appL hk
theorem at_new : (B ++ [b]).getD B.length bt0 = b := by rw [getD_appR (Nat.le_refl _), Nat.sub_self]; rfl
theorem mv_old {k : Nat} (hk : k < B.length) : mvAt (B ++ [b]) k = mvAt B k := by unfold mvAt; rw [at_old hk]
theorem mv_new : mvAt (B ++ [b]) B.length = b.1 := by unfold mvAt; rw [at_new]
theorem row_old {k h : Nat} (hk : k < B.length) : rowAt (B ++ [b]) k h = rowAt B k h := by unfold rowAt; rw [at_old hk]
theorem row_new {h : Nat} : rowAt (B ++ [b]) B.length h = b.2.getD h [] := by unfold rowAt; rw [at_new]
end
theorem SI.next {t : Net} {d e : Nat} (he : 1 ≤ e) {B : List Bt} {S : List Nat} {Z : List (Option (Nat × List Int))} (I : SI t d e B S Z) {X : List (List Int)} {ms : List Nat} {S' : List Nat} {Z' : List (Option (Nat × List Int))} {N : List Int} {L : List (List Int)} (H : HI t d B.length t.tops.length X ms S Z S' Z' N L) (hms : MoOk t.tops.length ms) (hf : ∀ h, h < t.tops.length → e ≤ S.getD h 0 + 1 → h ∈ ms) : SI t d e (B ++ [(ms, L)]) S' Z' := by
  have lo : LtOk t d L := ⟨H.ll, fun i hi => (H.l i hi).len, fun i hi o ho => by
    obtain ⟨p, hp⟩ := List.mem_iff_getElem?.mp ho
    have hpl := (List.getElem?_eq_some_iff.mp hp).1
    rw [(H.l i hi).len] at hpl
    have := (H.l i hi).num p hpl
    rw [getD_at hp] at this
    exact this⟩
  have hs : ∀ q, q < t.tops.length → S'.getD q 0 = if q ∈ ms then 0 else S.getD q 0 + 1 := fun q hq => by rw [H.s q hq, if_pos hq]
  have hz : ∀ q, q < t.tops.length → Z'.getD q none = if q ∈ ms then some (B.length, L.getD q []) else Z.getD q none := fun q hq => by
    rw [H.z q hq]
    by_cases hm : q ∈ ms
    · rw [if_pos ⟨hq, hm⟩, if_pos hm]
    · rw [if_neg fun z => hm z.2, if_neg hm]
  have ln : (B ++ [(ms, L)]).length = B.length + 1 := by rw [List.length_append]; rfl
  refine ⟨H.sl, H.zl, fun b hb => ?_, fun h hh hlt => ?_, fun h hh hn j hj => ?_, fun h hh k r hzr => ?_, fun h hh a ha => ?_, fun h hh a b hab hb ma mb no => ?_⟩
  · rcases List.mem_append.mp hb with hb | hb
    · exact I.ok b hb
    · rw [List.mem_singleton.mp hb]
      exact ⟨hms, lo⟩
  · rw [ln] at hlt ⊢
    rw [hs h hh] at hlt ⊢
    by_cases hm : h ∈ ms
    · rw [if_pos hm, show B.length + 1 - 1 - 0 = B.length by omega, mv_new]
      exact hm
    · rw [if_neg hm] at hlt ⊢
      rw [show B.length + 1 - 1 - (S.getD h 0 + 1) = B.length - 1 - S.getD h 0 by omega, mv_old (by omega)]
      exact I.s0 h hh (by omega)
  · rw [hz h hh] at hn
    by_cases hm : h ∈ ms
    · rw [if_pos hm] at hn; cases hn
    · rw [if_neg hm] at hn
      rw [ln] at hj
      by_cases hjl : j < B.length
      · rw [mv_old hjl]
        exact I.z1 h hh hn j hjl
      · rw [show j = B.length by omega, mv_new]
        exact hm
  · rw [hz h hh] at hzr
    rw [ln]
    by_cases hm : h ∈ ms
    · rw [if_pos hm] at hzr
      cases hzr
      exact ⟨Nat.lt_succ_self _, by rw [mv_new]; exact hm, (row_new (B := B) (b := (ms, L)) (h := h)).symm, fun j h1 h2 => by omega⟩
    · rw [if_neg hm] at hzr
      obtain ⟨k1, k2, k3, k4⟩ := I.z2 h hh k r hzr
      refine ⟨by omega, by rw [mv_old k1]; exact k2, by rw [row_old k1]; exact k3, fun j h1 h2 => ?_⟩
      by_cases hjl : j < B.length
      · rw [mv_old hjl]
        exact k4 j h1 hjl
      · rw [show j = B.length by omega, mv_new]
        exact hm
  · rw [ln] at ha
    by_cases hle : a + e ≤ B.length
    · obtain ⟨k, k1, k2, k3⟩ := I.mv h hh a hle
      exact ⟨k, k1, k2, by rw [mv_old (by omega)]; exact k3⟩
    · by_cases hm : h ∈ ms
      · exact ⟨B.length, by omega, by omega, by rw [mv_new]; exact hm⟩
      · have hc : ¬ e ≤ S.getD h 0 + 1 := fun z => hm (hf h hh z)
        have := I.s0 h hh (by omega)
        exact ⟨B.length - 1 - S.getD h 0, by omega, by omega, by rw [mv_old (by omega)]; exact this⟩
  · rw [ln] at hb
    by_cases hbl : b < B.length
    · rw [mv_old (by omega)] at ma
      rw [mv_old hbl] at mb
      have := I.nw h hh a b hab hbl ma mb fun j h1 h2 => by
        have := no j h1 h2
        rw [mv_old (by omega)] at this
        exact this
      unfold nwP at this ⊢
      rw [row_old (by omega), row_old hbl]
      exact this
    · have hbe : b = B.length := by omega
      subst hbe
      rw [mv_old hab] at ma
      rw [mv_new] at mb
      have no' : ∀ j, a < j → j < B.length → h ∉ mvAt B j := fun j h1 h2 => by
        have := no j h1 h2
        rw [mv_old h2] at this
        exact this
      cases hzz : Z.getD h none with
      | none => exact absurd ma (I.z1 h hh hzz a hab)
      | some q =>
        obtain ⟨k, r⟩ := q
        obtain ⟨k1, k2, k3, k4⟩ := I.z2 h hh k r hzz
        have hka : k = a := by
          rcases Nat.lt_trichotomy k a with z | z | z
          · exact absurd ma (k4 a z hab)
          · exact z
          · exact absurd k2 (no' k z k1)
        subst hka
        have ro := H.l h hh
        unfold nwP
        rw [row_old hab, row_new, ← k3, List.all_eq_true]
        intro p hp
        obtain ⟨x, hx⟩ := List.mem_iff_getElem?.mp hp
        rw [List.getElem?_zip_eq_some] at hx
        have hxl := (List.getElem?_eq_some_iff.mp hx.2).1
        have hxl2 : x < (br t h).length := by rw [← ro.len]; exact hxl
        have := ro.fol mb k r hzz x hxl2
        have g1 : (L.getD h []).getD x 0 = p.2 := getD_at hx.2
        rw [g1, getD_at hx.1] at this
        rw [decide_eq_true_eq]
        exact this
end K52
set_option Elab.async false
set_option linter.all false
set_option maxRecDepth 100000
set_option maxHeartbeats 4000000
/-! K52Q: drawn stopped runs, beat by beat. -/
namespace K52
open PySem PySem.Spec PyProof.Rows L2 L2.NB
def testE : E := .or (.cmp .ge (.idx (.varT 9) (.varT 13)) (.bin .sub (.varT 3) (.cst (.int 1)))) (.cmp .eq (.call "_law_any" [.hnd 0, .cst (.int 2)]) (.cst (.int 0)))
theorem mo_filter {n : Nat} {p : Nat → Bool} : MoOk n ((List.range n).filter p) := by
  refine ⟨fun k hk => List.mem_range.mp (List.mem_filter.mp hk).1, fun i hi => ?_, ?_⟩
  · exact frn_mono (p := p) (n := n) (i := i) (j := i + 1) (some_getD (by omega)) (some_getD hi) (Nat.lt_succ_self i)
  · have := List.length_filter_le p (List.range n)
    rw [List.length_range] at this
    exact this
theorem movers_run {t : Net} (h : NetH t) {d e nb : Nat} (he : 1 ≤ e) {ss : List (List Int)} {S : List Nat} (hS : S.length = t.tops.length) (y6 y7 y10 y11 y12 y13 y14 y15 y16 y17 y18 : NB.Slot) {m : Nat} (hm : 1 ≤ m) (dl : Deal) :
    ∃ (p : Nat → Bool) (d' : Deal), ev (callN P m) (.bi .tup [.lcIf (.var 13) (.nm 13) (.rng1 (.varT 5)) testE]) (V t d e nb ss y6 y7 (.own (S.map nD)) y10 y11 y12 y13 y14 y15 y16 y17 y18) [dl] = .ok (moD ((List.range t.tops.length).filter p)) [d'] ∧ ∀ k, k < t.tops.length → e ≤ S.getD k 0 + 1 → p k = true := by
  have hle := h.le
  obtain ⟨p, s', lp, ⟨d', rfl⟩, hp⟩ := lcIf_some (i := 13) (f := ev (callN P m) (.var 13)) (c := fun u => do let y ← ev (callN P m) testE u; liftO (truthD y)) (v := V t d e nb ss y6 y7 (.own (S.map nD)) y10 y11 y12 y13 y14 y15 y16 y17 y18)
    (fun s => ∃ d, s = [d]) (fun k b => e ≤ S.getD k 0 + 1 → b = true) nD (by simp [V]) (ps := List.range t.tops.length) (acc := []) (s := [dl]) List.nodup_range (fun k hk s hs => by
      obtain ⟨d1, rfl⟩ := hs
      have hk := List.mem_range.mp hk
      have a1 : idxD (.list (S.map nD)) (nD k) = some (nD (S.getD k 0)) := at_map (by omega)
      have c1 : ev (callN P m) (.cmp .ge (.idx (.varT 9) (.varT 13)) (.bin .sub (.varT 3) (.cst (.int 1)))) (V t d e nb ss y6 y7 (.own (S.map nD)) y10 y11 y12 (.val (nD k)) y14 y15 y16 y17 y18) [d1] = .ok (.bool (decide ((e : Int) - 1 ≤ (S.getD k 0 : Nat)))) [d1] := ev_cmp (ev_idx (ev_varT rfl) (ev_varT rfl) a1) (ev_bin (ev_varT rfl) ev_cst rfl) rfl
      by_cases hf : e ≤ S.getD k 0 + 1
      · rw [decide_eq_true (by omega)] at c1
        exact ⟨true, [d1], truth_run (ev_or_yes c1), ⟨d1, rfl⟩, fun _ => rfl, ev_var rfl⟩
      · rw [decide_eq_false (by omega)] at c1
        obtain ⟨q, d2, e2, q0, q1⟩ := any_run hm (b := 2) (by decide) (by decide) d1
        have c2 : ev (callN P m) (.cmp .eq (.call "_law_any" [.hnd 0, .cst (.int 2)]) (.cst (.int 0))) (V t d e nb ss y6 y7 (.own (S.map nD)) y10 y11 y12 (.val (nD k)) y14 y15 y16 y17 y18) [d1] = .ok (.bool (q == 0)) [d2] := ev_cmp (ev_call (evA_hnd rfl (evA_nx rfl ev_cst q_Anil)) e2) ev_cst d_eqI
        exact ⟨q == 0, [d2], truth_run (ev_or_then c1 c2), ⟨d2, rfl⟩, fun z => absurd z hf, ev_var rfl⟩) (by rw [List.length_range, List.length_nil]; exact sz (by omega)) ⟨dl, rfl⟩
  rw [List.nil_append] at lp
  have e0 : ev (callN P m) (.rng1 (.varT 5)) (V t d e nb ss y6 y7 (.own (S.map nD)) y10 y11 y12 y13 y14 y15 y16 y17 y18) [dl] = .ok (.list ((List.range t.tops.length).map nD)) [dl] := by
    have := ev_rng1 (k := callN P m) (e := .varT 5) (v := V t d e nb ss y6 y7 (.own (S.map nD)) y10 y11 y12 y13 y14 y15 y16 y17 y18) (s := [dl]) (s' := [dl]) (n := (t.tops.length : Nat)) (ev_varT rfl) (rL_ok (by omega))
    rw [rL_map] at this
    exact this
  exact ⟨p, d', ev_bi1 rfl (ev_lcIf e0 rfl lp) d_tupL, fun k hk => hp k (List.mem_range.mpr hk)⟩
theorem step_at {t : Net} {X : List (List Int)} {b : Bt} {i : Nat} (hi : i < t.tops.length) : (stepT t X b).getD i 0 = if i ∈ b.1 then nextH t X b.2 i else (lastL X).getD i 0 := by
  unfold stepT
  apply getD_at
  rw [List.getElem?_map, List.getElem?_range hi]
  rfl
theorem HI.step {t : Net} {d j : Nat} {X : List (List Int)} {ms S : List Nat} {Z : List (Option (Nat × List Int))} {S' : List Nat} {Z' : List (Option (Nat × List Int))} {N : List Int} {L : List (List Int)} (I : HI t d j t.tops.length X ms S Z S' Z' N L) : N = stepT t X (ms, L) := by
  apply List.ext_getElem
  · rw [I.nl]
    unfold stepT
    rw [List.length_map, List.length_range]
  · intro q h1 h2
    have hq : q < t.tops.length := by rw [← I.nl]; exact h1
    have e1 : N[q] = N.getD q 0 := (getD_at (List.getElem?_eq_getElem h1)).symm
    have e2 : (stepT t X (ms, L))[q] = (stepT t X (ms, L)).getD q 0 := (getD_at (List.getElem?_eq_getElem h2)).symm
    rw [e1, e2, I.n q hq, step_at hq]
    by_cases hm : q ∈ ms
    · rw [if_pos ⟨hq, hm⟩, if_pos hm]
      rfl
    · rw [if_neg fun z => hm z.2, if_neg hm]
def beI : List C := [.set 12 (.bi .tup [.lcIf (.var 13) (.nm 13) (.rng1 (.varT 5)) testE]), .parF [(14, true), (15, true)] [.lst [], .bi .lst [.idx (.varT 6) (.neg (.cst (.int 1)))]], .for (.nm 13) (.rng1 (.varT 5)) houI, .app 6 (.bi .tup [.varT 15]), .app 11 (.tup [.var 12, .bi .tup [.varT 14]])]
theorem SI.lim {t : Net} {d e : Nat} {B : List Bt} {S : List Nat} {Z : List (Option (Nat × List Int))} (I : SI t d e B S Z) : ∀ i, i < t.tops.length → ∀ k0 r0, Z.getD i none = some (k0, r0) → k0 < B.length ∧ r0.length = (br t i).length ∧ ∀ p, p < (br t i).length → 1 ≤ r0.getD p 0 ∧ r0.getD p 0 ≤ (d : Int) := fun i hi k0 r0 hz => by
  obtain ⟨k1, k2, k3, k4⟩ := I.z2 i hi k0 r0 hz
  have hb := I.ok (B.getD k0 bt0) (by rw [← Option.some_inj.mp ((List.getElem?_eq_getElem k1).symm.trans (some_getD (d := bt0) k1))]; exact List.getElem_mem k1)
  have hl := hb.la.row i hi
  have hn := hb.la.num i hi
  subst k3
  unfold rowAt
  refine ⟨k1, hl, fun p hp => hn _ ?_⟩
  have hpl : p < ((B.getD k0 bt0).2.getD i []).length := by rw [hl]; exact hp
  rw [← Option.some_inj.mp ((List.getElem?_eq_getElem hpl).symm.trans (some_getD (d := 0) hpl))]
  exact List.getElem_mem hpl
theorem beat_run {t : Net} (h : NetH t) {d e nb : Nat} (hd : 1 ≤ d) (hd2 : d ≤ 100) (he : 1 ≤ e) {ss : List (List Int)} (hs : ∀ st ∈ ss, StOk t st) (hl : ss.length = d) {B : List Bt} (hB : B.length ≤ 100) {S : List Nat} {Z : List (Option (Nat × List Int))} (I : SI t d e B S Z) (y12 y13 y14 y15 y16 y17 y18 : NB.Slot) {m : Nat} (hm : 13 ≤ m) (dl : Deal) :
    ∃ (b : Bt) (S' : List Nat) (Z' : List (Option (Nat × List Int))) (d' : Deal) (x12 x13 x14 x15 x16 x17 x18 : NB.Slot), exs (callN P m) beI (V t d e nb ss (.own ((runT t ss B).map roD)) (.val (nD B.length)) (.own (S.map nD)) (.own (Z.map laD)) (.own (B.map btD)) y12 y13 y14 y15 y16 y17 y18) [dl] =
      .ok (.nx, V t d e nb ss (.own ((runT t ss (B ++ [b])).map roD)) (.val (nD B.length)) (.own (S'.map nD)) (.own (Z'.map laD)) (.own ((B ++ [b]).map btD)) x12 x13 x14 x15 x16 x17 x18) [d'] ∧ SI t d e (B ++ [b]) S' Z' := by
  have hle := h.le
  have h0 : ss ≠ [] := fun z => by rw [z] at hl; simp at hl; omega
  have hX := runT_ok h hs h0 (B := B)
  have Xl : (runT t ss B).length = d + B.length := by rw [runT_len, hl]
  have hX0 : runT t ss B ≠ [] := fun z => by rw [z] at Xl; simp at Xl; omega
  have hlm : StOk t (lastL (runT t ss B)) := by
    have hq : (runT t ss B).length - 1 < (runT t ss B).length := by omega
    unfold lastL
    rw [getD_at (List.getElem?_eq_getElem hq)]
    exact hX _ (List.getElem_mem hq)
  have a1 : idxD (.list ((runT t ss B).map roD)) (.int (-1)) = some (roD (lastL (runT t ss B))) := at_lastL hX0
  obtain ⟨p, d1, e1, hp⟩ := movers_run h (d := d) (e := e) (nb := nb) he (ss := ss) I.sl (.own ((runT t ss B).map roD)) (.val (nD B.length)) (.own (Z.map laD)) (.own (B.map btD)) y12 y13 y14 y15 y16 y17 y18 (show 1 ≤ m by omega) dl
  have hmo : MoOk t.tops.length ((List.range t.tops.length).filter p) := mo_filter
  have hpm : ∀ q, q < t.tops.length → e ≤ S.getD q 0 + 1 → q ∈ (List.range t.tops.length).filter p := fun q hq he => List.mem_filter.mpr ⟨List.mem_range.mpr hq, hp q hq he⟩
  generalize (List.range t.tops.length).filter p = ms at e1 hmo hpm
  obtain ⟨S', Z', N, L, d2, x13, x16, x17, x18, e2, H⟩ := houses_run h (d := d) (e := e) (nb := nb) hd hd2 (ss := ss) (X := runT t ss B) hX (by omega) (by omega) (j := B.length) (by omega) (ms := ms) (S := S) (Z := Z) I.sl I.zl I.lim hlm.len (.own (B.map btD)) y13 y16 y17 y18 hm d1
  have hN := H.step
  have I' := I.next he H hmo hpm
  refine ⟨(ms, L), S', Z', d2, .val (moD ms), x13, .own (L.map roD), .own (N.map .int), x16, x17, x18, ?_, I'⟩
  rw [runT_snoc, ← hN]
  have hz1 : (runT t ss B).length < sizeLine := Nat.lt_of_lt_of_le (show _ < 1000 by omega) (sz (Nat.le_refl _))
  have hz2 : B.length < sizeLine := Nat.lt_of_lt_of_le (show _ < 1000 by omega) (sz (Nat.le_refl _))
  generalize runT t ss B = X at a1 e1 e2 hz1 ⊢
  have s1 : ex (callN P m) (.set 12 (.bi .tup [.lcIf (.var 13) (.nm 13) (.rng1 (.varT 5)) testE])) (V t d e nb ss (.own (X.map roD)) (.val (nD B.length)) (.own (S.map nD)) (.own (Z.map laD)) (.own (B.map btD)) y12 y13 y14 y15 y16 y17 y18) [dl] = .ok (.nx, V t d e nb ss (.own (X.map roD)) (.val (nD B.length)) (.own (S.map nD)) (.own (Z.map laD)) (.own (B.map btD)) (.val (moD ms)) y13 y14 y15 y16 y17 y18) [d1] := x_set_run e1 (by simp [V])
  have s2 : ex (callN P m) (.parF [(14, true), (15, true)] [.lst [], .bi .lst [.idx (.varT 6) (.neg (.cst (.int 1)))]]) (V t d e nb ss (.own (X.map roD)) (.val (nD B.length)) (.own (S.map nD)) (.own (Z.map laD)) (.own (B.map btD)) (.val (moD ms)) y13 y14 y15 y16 y17 y18) [d1] = .ok (.nx, V t d e nb ss (.own (X.map roD)) (.val (nD B.length)) (.own (S.map nD)) (.own (Z.map laD)) (.own (B.map btD)) (.val (moD ms)) y13 (.own []) (.own ((lastL X).map .int)) y16 y17 y18) [d1] :=
    x_parF_run (xs := [.list [], .list ((lastL X).map .int)]) (evL_nx rfl (ev_lst q_Lnil (by decide)) (evL_nx rfl (ev_bi1 rfl (ev_idx (ev_varT rfl) (ev_neg ev_cst) a1) rfl) q_Lnil)) rfl
  have s3 : ex (callN P m) (.for (.nm 13) (.rng1 (.varT 5)) houI) (V t d e nb ss (.own (X.map roD)) (.val (nD B.length)) (.own (S.map nD)) (.own (Z.map laD)) (.own (B.map btD)) (.val (moD ms)) y13 (.own []) (.own ((lastL X).map .int)) y16 y17 y18) [d1] = .ok (.nx, V t d e nb ss (.own (X.map roD)) (.val (nD B.length)) (.own (S'.map nD)) (.own (Z'.map laD)) (.own (B.map btD)) (.val (moD ms)) x13 (.own (L.map roD)) (.own (N.map .int)) x16 x17 x18) [d2] := by
    have e0 : ev (callN P m) (.rng1 (.varT 5)) (V t d e nb ss (.own (X.map roD)) (.val (nD B.length)) (.own (S.map nD)) (.own (Z.map laD)) (.own (B.map btD)) (.val (moD ms)) y13 (.own []) (.own ((lastL X).map .int)) y16 y17 y18) [d1] = .ok (.list (rL t.tops.length)) [d1] := ev_rng1 (ev_varT rfl) (rL_ok (n := t.tops.length) (by omega))
    exact x_for_run e0 rfl e2
  have s4 : ex (callN P m) (.app 6 (.bi .tup [.varT 15])) (V t d e nb ss (.own (X.map roD)) (.val (nD B.length)) (.own (S'.map nD)) (.own (Z'.map laD)) (.own (B.map btD)) (.val (moD ms)) x13 (.own (L.map roD)) (.own (N.map .int)) x16 x17 x18) [d2] = .ok (.nx, V t d e nb ss (.own ((X ++ [N]).map roD)) (.val (nD B.length)) (.own (S'.map nD)) (.own (Z'.map laD)) (.own (B.map btD)) (.val (moD ms)) x13 (.own (L.map roD)) (.own (N.map .int)) x16 x17 x18) [d2] :=
    x_app_run (ev_bi1 rfl (ev_varT rfl) getT_row) rfl (by rw [List.length_map]; exact hz1) (by rw [List.map_append]; rfl)
  have s5 : ex (callN P m) (.app 11 (.tup [.var 12, .bi .tup [.varT 14]])) (V t d e nb ss (.own ((X ++ [N]).map roD)) (.val (nD B.length)) (.own (S'.map nD)) (.own (Z'.map laD)) (.own (B.map btD)) (.val (moD ms)) x13 (.own (L.map roD)) (.own (N.map .int)) x16 x17 x18) [d2] = .ok (.nx, V t d e nb ss (.own ((X ++ [N]).map roD)) (.val (nD B.length)) (.own (S'.map nD)) (.own (Z'.map laD)) (.own ((B ++ [(ms, L)]).map btD)) (.val (moD ms)) x13 (.own (L.map roD)) (.own (N.map .int)) x16 x17 x18) [d2] :=
    x_app_run (x := btD (ms, L)) (ev_tup (evL_nx rfl (ev_var rfl) (evL_nx rfl (ev_bi1 rfl (ev_varT rfl) rfl) q_Lnil)) (sz (by simp))) rfl (by rw [List.length_map]; exact hz2) (by rw [List.map_append (f := btD)]; rfl)
  have b5 := xs_nx (cs := []) s5 xs_nil
  have b4 := xs_nx s4 b5
  have b3 := xs_nx s3 b4
  have b2 := xs_nx s2 b3
  have b1 := xs_nx s1 b2
  exact b1
theorem stopped_split : b__law_stopped = [.set 5 (.bi .len [.idx (.varT 1) (.cst (.int 0))]), .parF [(8, false), (9, true), (10, true), (11, true)] [.call "_law_past" [.hnd 0, .var 1, .var 2], .bin .mul (.lst [.cst (.int 0)]) (.varT 5), .bin .mul (.lst [.cst .none]) (.varT 5), .lst []], .setF 6 (.bi .lst [.varT 8]), .for (.nm 7) (.rng1 (.varT 4)) beI, .ret (.tup [.tup [.var 8, .bi .tup [.varT 11]], .sl (.varT 6) (.varT 2) (.no)])] := rfl
theorem mulL {x : PyData} {k : Nat} (hk : k ≤ 1000) : binD .mul (.list [x]) (.int (k : Nat)) = some (.list (List.replicate k x)) := by
  have e : ∀ n, (List.replicate n [x]).flatten = List.replicate n x := by
    intro n
    induction n with
    | zero => rfl
    | succ n ih => rw [List.replicate_succ, List.flatten_cons, ih, List.replicate_succ]; rfl
  unfold binD
  dsimp only
  rw [if_pos ⟨by omega, by omega, by rw [List.length_singleton, Nat.one_mul]; exact sz (by omega)⟩, show (k : Int).toNat = k from rfl, e]
theorem li_from {T : List (List Int)} {a : Nat} : sliceD (.list (T.map roD)) (some (a : Int)) none = some (.list ((T.drop a).map roD)) := by
  have := cut_pos (l := T.map roD) (d := a)
  show some (PyData.list (NB.cutD (T.map roD) (some (a : Int)) none)) = _
  rw [this, List.map_drop]
/-- a stopped run -/
structure SR (t : Net) (d e : Nat) (ss : List (List Int)) (B : List Bt) : Prop where
  len : ss.length = d
  st : ∀ st ∈ ss, StOk t st
  ok : ∀ b ∈ B, BtOk t d b
  mv : ∀ h, h < t.tops.length → ∀ a, a + e ≤ B.length → ∃ k, a ≤ k ∧ k < a + e ∧ h ∈ mvAt B k
  nw : ∀ h, h < t.tops.length → ∀ a b, a < b → b < B.length → h ∈ mvAt B a → h ∈ mvAt B b → (∀ j, a < j → j < b → h ∉ mvAt B j) → nwP B h a b = true
theorem stopped_run {t : Net} (h : NetH t) {d e nb : Nat} (hd : 1 ≤ d) (hd2 : d ≤ 100) (he : 1 ≤ e) (hnb : nb ≤ 100) {m : Nat} (hm : 14 ≤ m) (dl : Deal) : ∃ (ss : List (List Int)) (B : List Bt) (d' : Deal), callN P m "_law_stopped" [.h 0, .d (netD t), .d (.int (d : Nat)), .d (.int (e : Nat)), .d (.int (nb : Nat))] [dl] = .ok (.tuple [rnD ss B, .list (((runT t ss B).drop d).map roD)]) [d'] ∧ SR t d e ss B ∧ B.length = nb := by
  obtain ⟨m, rfl⟩ : ∃ k, m = k + 1 := ⟨m - 1, by omega⟩
  have hle := h.le
  obtain ⟨ss, d1, e1, hl, hs⟩ := past_run h (D := d) hd2 (show 2 ≤ m by omega) dl
  have I0 : SI t d e [] (List.replicate t.tops.length 0) (List.replicate t.tops.length none) := by
    refine ⟨List.length_replicate, List.length_replicate, fun b hb => (by cases hb), fun h hh hlt => absurd hlt (Nat.not_lt_zero _), fun h hh _ j hj => absurd hj (Nat.not_lt_zero j), fun h hh k r hz => ?_, fun h hh a ha => ?_, fun h hh a b _ hb => absurd hb (Nat.not_lt_zero b)⟩
    · rw [List.getD_eq_getElem?_getD, List.getElem?_replicate] at hz
      split at hz <;> cases hz
    · have : a + e ≤ 0 := ha
      omega
  obtain ⟨v', s', loop, ⟨d2, rfl⟩, B, S, Z, x7, x12, x13, x14, x15, x16, x17, x18, hBl, I, rfl⟩ := for_inv (g := .nm 7) (b := exs (callN P m) beI)
    (fun k v s' => (∃ d', s' = [d']) ∧ ∃ (B : List Bt) (S : List Nat) (Z : List (Option (Nat × List Int))) (x7 x12 x13 x14 x15 x16 x17 x18 : NB.Slot), B.length = k ∧ SI t d e B S Z ∧ v = V t d e nb ss (.own ((runT t ss B).map roD)) x7 (.own (S.map nD)) (.own (Z.map laD)) (.own (B.map btD)) x12 x13 x14 x15 x16 x17 x18)
    (xs := rL nb) (j := 0) (v := V t d e nb ss (.own (ss.map roD)) .non (.own ((List.replicate t.tops.length 0).map nD)) (.own ((List.replicate t.tops.length none).map laD)) (.own []) .non .non .non .non .non .non .non) (s := [d1])
    (fun k x v s' hx hI => by
      obtain ⟨⟨d2, rfl⟩, B, S, Z, x7, x12, x13, x14, x15, x16, x17, x18, hBl, I, rfl⟩ := hI
      rw [Nat.zero_add] at hBl ⊢
      obtain ⟨hk, rfl⟩ := rL_get hx
      subst hBl
      obtain ⟨b, S', Z', d3, y12, y13, y14, y15, y16, y17, y18, e2, I'⟩ := beat_run h (nb := nb) hd hd2 he hs hl (B := B) (by omega) I x12 x13 x14 x15 x16 x17 x18 (show 13 ≤ m by omega) d2
      exact ⟨_, rfl, _, [d3], .inl e2, ⟨d3, rfl⟩, B ++ [b], S', Z', _, _, _, _, _, _, _, _, by rw [List.length_append]; rfl, I', rfl⟩)
    ⟨⟨d1, rfl⟩, [], _, _, _, _, _, _, _, _, _, _, rfl, I0, rfl⟩
  rw [Nat.zero_add, rL_len] at hBl
  refine ⟨ss, B, d2, ?_, ⟨hl, hs, I.ok, I.mv, I.nw⟩, hBl⟩
  have s1 : ex (callN P m) (.set 5 (.bi .len [.idx (.varT 1) (.cst (.int 0))])) [.hnd 0, .val (netD t), .val (.int (d : Nat)), .val (.int (e : Nat)), .val (.int (nb : Nat)), .non, .non, .non, .non, .non, .non, .non, .non, .non, .non, .non, .non, .non, .non] [dl] = .ok (.nx, [.hnd 0, .val (netD t), .val (.int (d : Nat)), .val (.int (e : Nat)), .val (.int (nb : Nat)), .val (.int (t.tops.length : Nat)), .non, .non, .non, .non, .non, .non, .non, .non, .non, .non, .non, .non, .non]) [dl] := x_set_run (ev_bi1 rfl (ev_idx (ev_varT rfl) ev_cst net_ix0) len_net) (by simp)
  have s2 : ex (callN P m) (.parF [(8, false), (9, true), (10, true), (11, true)] [.call "_law_past" [.hnd 0, .var 1, .var 2], .bin .mul (.lst [.cst (.int 0)]) (.varT 5), .bin .mul (.lst [.cst .none]) (.varT 5), .lst []]) [.hnd 0, .val (netD t), .val (.int (d : Nat)), .val (.int (e : Nat)), .val (.int (nb : Nat)), .val (.int (t.tops.length : Nat)), .non, .non, .non, .non, .non, .non, .non, .non, .non, .non, .non, .non, .non] [dl] = .ok (.nx, V t d e nb ss .non .non (.own ((List.replicate t.tops.length 0).map nD)) (.own ((List.replicate t.tops.length none).map laD)) (.own []) .non .non .non .non .non .non .non) [d1] :=
    x_parF_run (xs := [paD ss, .list (List.replicate t.tops.length (.int 0)), .list (List.replicate t.tops.length .none), .list []]) (evL_nx rfl (ev_call (evA_hnd rfl (evA_nx rfl (ev_var rfl) (evA_nx rfl (ev_var rfl) q_Anil))) e1) (evL_nx rfl (ev_bin (ev_lst (evL_nx rfl ev_cst q_Lnil) (sz (by simp))) (ev_varT rfl) (mulL (by omega))) (evL_nx rfl (ev_bin (ev_lst (evL_nx rfl ev_cst q_Lnil) (sz (by simp))) (ev_varT rfl) (mulL (by omega))) (evL_nx rfl (ev_lst q_Lnil (by decide)) q_Lnil)))) (by rw [List.map_replicate, List.map_replicate]; rfl)
  have s3 : ex (callN P m) (.setF 6 (.bi .lst [.varT 8])) (V t d e nb ss .non .non (.own ((List.replicate t.tops.length 0).map nD)) (.own ((List.replicate t.tops.length none).map laD)) (.own []) .non .non .non .non .non .non .non) [d1] = .ok (.nx, V t d e nb ss (.own (ss.map roD)) .non (.own ((List.replicate t.tops.length 0).map nD)) (.own ((List.replicate t.tops.length none).map laD)) (.own []) .non .non .non .non .non .non .non) [d1] := x_setF_run (xs := ss.map roD) (ev_bi1 rfl (ev_varT rfl) rfl) rfl
  have b := xs_nx (cs := [.parF [(8, false), (9, true), (10, true), (11, true)] [.call "_law_past" [.hnd 0, .var 1, .var 2], .bin .mul (.lst [.cst (.int 0)]) (.varT 5), .bin .mul (.lst [.cst .none]) (.varT 5), .lst []], .setF 6 (.bi .lst [.varT 8]), .for (.nm 7) (.rng1 (.varT 4)) beI, .ret (.tup [.tup [.var 8, .bi .tup [.varT 11]], .sl (.varT 6) (.varT 2) (.no)])]) s1 (xs_nx s2 (xs_nx s3 (xs_nx (x_for_run (ev_rng1 (ev_varT rfl) (rL_ok (by omega))) rfl loop) (exs_ret (ev_tup (evL_nx rfl (ev_tup (evL_nx rfl (ev_var rfl) (evL_nx rfl (ev_bi1 rfl (ev_varT rfl) d_tupL) q_Lnil)) (sz (by simp))) (evL_nx rfl (ev_sl1 (ev_varT rfl) rfl (ev_varT rfl) li_from) q_Lnil)) (sz (by simp)))))))
  rw [← stopped_split] at b
  exact call_ret f__law_stopped rfl rfl b
/-! ### it is one -/
theorem mvs_mem {B : List Bt} {h k : Nat} : k ∈ mvs B h ↔ k < B.length ∧ h ∈ mvAt B k := by
  unfold mvs mvAt
  rw [List.mem_filter, List.mem_range, decide_eq_true_eq]
theorem mvs_not {B : List Bt} {h k : Nat} (hf : decide (h ∈ (B.getD k bt0).1) = false) : h ∉ mvAt B k := of_decide_eq_false hf
theorem SR.mvB {t : Net} {d e : Nat} {ss : List (List Int)} {B : List Bt} (I : SR t d e ss B) {h : Nat} (hh : h < t.tops.length) : K52.mvB B.length e (mvs B h) = true := by
  unfold K52.mvB
  rw [List.all_eq_true]
  intro a ha
  have ha := List.mem_range.mp ha
  obtain ⟨k, k1, k2, k3⟩ := I.mv h hh a (by omega)
  rw [List.any_eq_true]
  exact ⟨k, mvs_mem.mpr ⟨by omega, k3⟩, by rw [decide_eq_true k1, decide_eq_true k2]; rfl⟩
theorem SR.nwB {t : Net} {d e : Nat} {ss : List (List Int)} {B : List Bt} (I : SR t d e ss B) {h : Nat} (hh : h < t.tops.length) : K52.nwB B h (mvs B h) = true := by
  unfold K52.nwB
  rw [List.all_eq_true]
  intro i hi
  have hi := List.mem_range.mp hi
  have e1 : (mvs B h)[i]? = some ((mvs B h).getD i 0) := some_getD (by omega)
  have e2 : (mvs B h)[i + 1]? = some ((mvs B h).getD (i + 1) 0) := some_getD (by omega)
  have m1 := mvs_mem.mp (List.mem_of_getElem? e1)
  have m2 := mvs_mem.mp (List.mem_of_getElem? e2)
  exact I.nw h hh _ _ (frn_mono e1 e2 (Nat.lt_succ_self i)) m2.1 m1.2 m2.2 fun j h1 h2 => mvs_not (frn_next e1 e2 h1 h2)
theorem SR.spB {t : Net} {d e : Nat} {ss : List (List Int)} {B : List Bt} (I : SR t d e ss B) : K52.spB t e B = true := by
  unfold K52.spB
  rw [List.all_eq_true]
  intro h hh
  have hh := List.mem_range.mp hh
  rw [I.mvB hh, I.nwB hh]
  rfl
theorem SR.spB' {t : Net} {d e e' : Nat} {ss : List (List Int)} {B : List Bt} (I : SR t d e ss B) : K52.spB t e' B = (List.range t.tops.length).all fun h => K52.mvB B.length e' (mvs B h) := by
  unfold K52.spB
  rw [Bool.eq_iff_iff, List.all_eq_true, List.all_eq_true]
  constructor
  · intro z h hh
    have := z h hh
    rw [Bool.and_eq_true] at this
    exact this.1
  · intro z h hh
    rw [z h hh, I.nwB (List.mem_range.mp hh)]
    rfl
end K52
set_option Elab.async false
set_option linter.all false
set_option maxRecDepth 100000
set_option maxHeartbeats 4000000
/-! K52R: what is no stopped run. -/
namespace K52
open PySem PySem.Spec PyProof.Rows L2 L2.NB
theorem f__law_spoilt : P.fn "_law_spoilt" = some (.code 5 19 b__law_spoilt) := by kernel_rfl
theorem x_tgt_run {k : CallT} {is : List Nat} {e : E} {v v' : NB.Env} {s s1 : S} {x : PyData} (h : ev k e v s = .ok x s1) (hp : putTg (.tp is) x v = some v') : ex k (.tgt is e) v s = .ok (.nx, v') s1 := by
  rw [x_tgt, run_bind, h]
  show (do let v' ← liftO (putTg (.tp is) x v); nx v') s1 = _
  rw [hp]
  rfl
theorem cut_to {α : Type} {l : List α} {a : Nat} : NB.cutD l none (some (a : Int)) = l.take a := by
  have e : NB.sIx l.length l.length (some (a : Int)) = min a l.length := by unfold NB.sIx; simp only; rw [if_neg (by omega)]; omega
  unfold NB.cutD
  rw [e]
  show (l.drop 0).take (min a l.length - 0) = _
  rw [List.drop_zero, Nat.sub_zero]
  by_cases h : a ≤ l.length
  · rw [Nat.min_eq_left h]
  · rw [Nat.min_eq_right (by omega), List.take_of_length_le (Nat.le_refl _), List.take_of_length_le (by omega)]
theorem sl_to {xs : List PyData} {a : Nat} : sliceD (.tuple xs) none (some (a : Int)) = some (.tuple (xs.take a)) := by
  show some (PyData.tuple (NB.cutD xs none (some (a : Int)))) = _
  rw [cut_to]
/-! ### fewer movers -/
theorem pw_of_asc : ∀ {ms : List Nat}, (∀ i, i + 1 < ms.length → ms.getD i 0 < ms.getD (i + 1) 0) → ms.Pairwise (· < ·)
  | [], _ => List.Pairwise.nil
  | [a], _ => List.pairwise_singleton _ _
  | a :: b :: r, h => by
    have ih := pw_of_asc (ms := b :: r) fun i hi => h (i + 1) (Nat.succ_lt_succ hi)
    have hab : a < b := h 0 (by simp)
    refine List.Pairwise.cons (fun x hx => ?_) ih
    rcases List.mem_cons.mp hx with rfl | hx
    · exact hab
    · exact Nat.lt_trans hab (List.rel_of_pairwise_cons ih hx)
theorem MoOk.filter {n : Nat} {ms : List Nat} (h : MoOk n ms) (p : Nat → Bool) : MoOk n (ms.filter p) := by
  refine ⟨fun k hk => h.lt k (List.mem_filter.mp hk).1, fun i hi => ?_, Nat.le_trans (List.length_filter_le p ms) h.len⟩
  have pw := List.Pairwise.filter p (pw_of_asc h.asc)
  have := List.pairwise_iff_getElem.mp pw i (i + 1) (by omega) hi (Nat.lt_succ_self i)
  rw [getD_at (List.getElem?_eq_getElem (show i < (ms.filter p).length by omega)), getD_at (List.getElem?_eq_getElem hi)]
  exact this
def lz (q : Nat) (b : Bt) : Bt := (b.1.filter fun k => decide (k ≠ q), b.2)
def lazyB (e q : Nat) (B : List Bt) : List Bt := (B.take e).map (lz q) ++ B.drop e
theorem lazy_len {e q : Nat} {B : List Bt} : (lazyB e q B).length = B.length := by
  unfold lazyB
  rw [List.length_append, List.length_map, List.length_take, List.length_drop]
  omega
theorem lazy_ok {t : Net} {d e q : Nat} {B : List Bt} (h : ∀ b ∈ B, BtOk t d b) : ∀ b ∈ lazyB e q B, BtOk t d b := fun b hb => by
  rcases List.mem_append.mp hb with hb | hb
  · obtain ⟨b', hb', rfl⟩ := List.mem_map.mp hb
    have := h b' (List.mem_of_mem_take hb')
    exact ⟨this.mo.filter _, this.la⟩
  · exact h b (List.mem_of_mem_drop hb)
theorem lazy_not {t : Net} {e q : Nat} {B : List Bt} (hq : q < t.tops.length) (hl : e ≤ B.length) : spB t e (lazyB e q B) = false := by
  rw [Bool.eq_false_iff]
  intro z
  unfold spB at z
  have z1 := List.all_eq_true.mp z q (List.mem_range.mpr hq)
  rw [Bool.and_eq_true] at z1
  have z2 := z1.1
  unfold mvB at z2
  have z3 := List.all_eq_true.mp z2 0 (List.mem_range.mpr (by rw [lazy_len]; omega))
  obtain ⟨k, hk, hc⟩ := List.any_eq_true.mp z3
  obtain ⟨k1, k2⟩ := mvs_mem.mp hk
  rw [Bool.and_eq_true, decide_eq_true_eq, decide_eq_true_eq] at hc
  have hke : k < e := by omega
  have hm : (lazyB e q B).getD k bt0 = lz q (B.getD k bt0) := by
    unfold lazyB
    rw [getD_appL (by rw [List.length_map, List.length_take]; omega)]
    apply getD_at
    rw [List.getElem?_map, List.getElem?_take_of_lt hke, some_getD (d := bt0) (show k < B.length by omega)]
    rfl
  unfold mvAt at k2
  rw [hm] at k2
  have := (List.mem_filter.mp k2).2
  rw [decide_eq_true_eq] at this
  exact this rfl
/-! ### one beat otherwise -/
def Bad (t : Net) (d e : Nat) (x : PyData) : Prop := ∀ (m : Nat) (s : S), 16 ≤ m → callN P m "is_stopped_run" [.d (netD t), .d (.int (d : Nat)), .d (.int (e : Nat)), .d x] s = .ok (.bool false) s
def otD (B : List Bt) (a : Nat) (y : PyData) : PyData := .tuple ((B.map btD).take a ++ [y] ++ (B.map btD).drop (a + 1))
theorem bad_beat {t : Net} (h : NetH t) {d e : Nat} (hd : d ≤ 100) {ss : List (List Int)} {B : List Bt} (I : SR t d e ss B) (hB : B.length ≤ 400) {a : Nat} {y : PyData} (hy : ∀ (m : Nat) (s : S), 15 ≤ m → callN P m "is_beat" [.d (netD t), .d (.int (d : Nat)), .d y] s = .ok (.bool false) s) : Bad t d e (.tuple [paD ss, otD B a y]) := fun m s hm => by
  obtain ⟨m, rfl⟩ : ∃ k, m = k + 1 := ⟨m - 1, by omega⟩
  have hp : paB t.tops d (paD ss) = true := paB_of I.len I.st
  have e1 : (B.map btD).take a ++ [y] ++ (B.map btD).drop (a + 1) = ((B.take a).map some ++ [none] ++ (B.drop (a + 1)).map some).map fun o : Option Bt => match o with | none => y | some b => btD b := by
    rw [List.map_append, List.map_append, List.map_map, List.map_map, ← List.map_take, ← List.map_drop]
    rfl
  unfold otD
  rw [e1]
  exact sr_beat h hd (by omega) nd_pa hp (fun o : Option Bt => match o with | none => false | some _ => true) (by simp; omega) (fun o ho => by
    cases o with
    | none => exact hy m s (by omega)
    | some b =>
      refine p_beat_ok h hd (I.ok b ?_) (by omega)
      rcases List.mem_append.mp ho with ho | ho
      · rcases List.mem_append.mp ho with ho | ho
        · obtain ⟨b', hb', e⟩ := List.mem_map.mp ho
          cases e
          exact List.mem_of_mem_take hb'
        · have := List.mem_singleton.mp ho
          cases this
      · obtain ⟨b', hb', e⟩ := List.mem_map.mp ho
        cases e
        exact List.mem_of_mem_drop hb') (by simp)
theorem beat_rising {t : Net} {d : Nat} {a l : PyData} (hr : ∀ (m : Nat) (s : S), 4 ≤ m → callN P m "is_rising" [.d a, .d (.int (t.tops.length : Nat))] s = .ok (.bool false) s) : ∀ (m : Nat) (s : S), 15 ≤ m → callN P m "is_beat" [.d (netD t), .d (.int (d : Nat)), .d (.tuple [a, l])] s = .ok (.bool false) s := fun m s hm => by
  obtain ⟨m, rfl⟩ : ∃ k, m = k + 1 := ⟨m - 1, by omega⟩
  exact p_beat (r := false) (q := false) (hr m s (by omega)) fun z => by cases z
theorem beat_late {t : Net} (h : NetH t) {d : Nat} (hd : d ≤ 100) {ms : List Nat} (hm : MoOk t.tops.length ms) {l : PyData} (hn : ND 2 l) (hl : laB t d l = false) : ∀ (m : Nat) (s : S), 15 ≤ m → callN P m "is_beat" [.d (netD t), .d (.int (d : Nat)), .d (.tuple [moD ms, l])] s = .ok (.bool false) s := fun m s hm' => by
  obtain ⟨m, rfl⟩ : ∃ k, m = k + 1 := ⟨m - 1, by omega⟩
  have hle := h.le
  have e1 := p_is_lateness h hd hn (show 13 ≤ m by omega) (s := s)
  rw [hl] at e1
  exact p_beat (r := true) (q := false) (p_rising_ok (by omega) hm (by omega)) fun _ => e1
def great (d : Nat) (L : List (List Int)) : List (List Int) := L.map fun r => r.map fun _ => (d : Int) + 1
theorem great_not {t : Net} {d : Nat} {L : List (List Int)} (hne : great d L ≠ L) : laB t d (ltD (great d L)) = false := by
  rw [Bool.eq_false_iff]
  intro z
  obtain ⟨L', e, hL'⟩ := laB_ok z
  have e := ltD_inj e
  subst e
  apply hne
  unfold great
  conv => rhs; rw [← List.map_id L]
  apply List.map_congr_left
  intro r hr
  obtain ⟨i, hi⟩ := List.mem_iff_getElem?.mp hr
  have hil := (List.getElem?_eq_some_iff.mp hi).1
  have g : (great d L)[i]? = some (r.map fun _ => (d : Int) + 1) := by
    unfold great
    rw [List.getElem?_map, hi]
    rfl
  have hlen := hL'.len
  unfold great at hlen
  rw [List.length_map] at hlen
  have hn := hL'.num i (by omega)
  rw [getD_at g] at hn
  cases r with
  | nil => rfl
  | cons x r =>
    have := hn ((d : Int) + 1) (by simp)
    omega
end K52
set_option Elab.async false
set_option linter.all false
set_option maxRecDepth 100000
set_option maxHeartbeats 8000000
/-! K52S: a value near a stopped run. -/
namespace K52
open PySem PySem.Spec PyProof.Rows L2 L2.NB
abbrev U (t : Net) (d e : Nat) (ss : List (List Int)) (B : List Bt) (y5 y6 y7 y8 y9 y10 y11 y12 y13 y14 : NB.Slot) : NB.Env :=
  [.hnd 0, .val (netD t), .val (.int (d : Nat)), .val (.int (e : Nat)), .val (rnD ss B), y5, y6, y7, y8, y9, y10, y11, y12, y13, y14, .non, .non, .non, .non]
def putE (y : E) : E := .bin .add (.bin .add (.sl (.varT 10) (.no) (.varT 11)) (.tup [y])) (.sl (.varT 10) (.bin .add (.varT 11) (.cst (.int 1))) (.no))
theorem lay_all {xs : List PyData} (h : ∀ x ∈ xs, x.canLay0 = true) : PyData.canLayAll0 xs = true := by
  induction xs with
  | nil => rfl
  | cons x r ih => rw [PyData.canLayAll0, h x (by simp), ih fun y hy => h y (by simp [hy])]; rfl
theorem depth_all {xs : List PyData} {k : Nat} (h : ∀ x ∈ xs, x.depth ≤ k) : PyData.depthAll xs ≤ k := by
  induction xs with
  | nil => exact Nat.zero_le _
  | cons x r ih =>
    rw [PyData.depthAll]
    have h1 := h x (by simp)
    have h2 := ih fun y hy => h y (by simp [hy])
    omega
theorem lay_ro {r : List Int} : (roD r).canLay0 = true := by
  unfold roD
  rw [PyData.canLay0]
  exact lay_all fun x hx => by obtain ⟨i, _, rfl⟩ := List.mem_map.mp hx; rfl
theorem dep_ro {r : List Int} : (roD r).depth ≤ 1 := by
  unfold roD
  rw [PyData.depth]
  have := depth_all (xs := r.map PyData.int) (k := 0) fun x hx => by obtain ⟨i, _, rfl⟩ := List.mem_map.mp hx; exact Nat.le_refl _
  omega
theorem lay_lt {L : List (List Int)} : (ltD L).canLay0 = true := by
  unfold ltD
  rw [PyData.canLay0]
  exact lay_all fun x hx => by obtain ⟨i, _, rfl⟩ := List.mem_map.mp hx; exact lay_ro
theorem dep_lt {L : List (List Int)} : (ltD L).depth ≤ 2 := by
  unfold ltD
  rw [PyData.depth]
  have := depth_all (xs := L.map roD) (k := 1) fun x hx => by obtain ⟨i, _, rfl⟩ := List.mem_map.mp hx; exact dep_ro
  omega
theorem addL {a b : List PyData} (h : a.length + b.length ≤ sizeLine) : binD .add (.list a) (.list b) = some (.list (a ++ b)) := by
  show (if a.length + b.length ≤ sizeLine then some (PyData.list (a ++ b)) else none) = _
  rw [if_pos h]
def a1 : C := .tgt [9, 10] (.var 4)
def a2 : C := .parF [(11, false), (12, false)] [.call "_law_any" [.hnd 0, .bi .len [.varT 10]], .bi .len [.idx (.varT 1) (.cst (.int 0))]]
def a3 : C := .tgt [13, 14] (.idx (.varT 10) (.varT 11))
def a4 : C := .set 5 (.call "_law_any" [.hnd 0, .var 12])
def lzE : E := .tup [.bi .tup [.lcIf (.var 18) (.nm 18) (.varT 16) (.cmp .ne (.varT 18) (.varT 5))], .var 15]
def a5 : C := .set 6 (.bin .add (.bi .tup [.lc lzE (.tp [16, 15]) (.sl (.varT 10) (.no) (.varT 3))]) (.sl (.varT 10) (.varT 3) (.no)))
def a6 : C := .setF 7 (.lst [.tup [.var 9, .bi .lst [.varT 10]], .tup [.var 9], .lst [.var 9, .var 10], .cst .none, .tup [.sl (.varT 9) (.cst (.int 1)) (.no), .var 10], .tup [.var 9, putE (.tup [.bin .add (.rev (.varT 13)) (.tup [.var 12]), .var 14])]])
def a7 : C := .setF 7 (.bin .add (.varT 7) (.lst [.tup [.var 9, putE (.tup [.var 13, .sl (.varT 14) (.cst (.int 1)) (.no)])], .tup [.var 9, putE (.tup [.bi .lst [.varT 13], .var 14])], .tup [.var 9, putE (.var 13)]]))
def a8 : C := .set 8 (.bi .tup [.lc (.bi .tup [.lc (.bin .add (.varT 2) (.cst (.int 1))) (.nm 17) (.varT 15)]) (.nm 15) (.varT 14)])
def a9 : C := .ifs (.cmp .ne (.varT 8) (.varT 14)) [.app 7 (.tup [.var 9, putE (.tup [.var 13, .var 8])])] []
def a10 : C := .ifs (.cmp .ge (.bi .len [.varT 10]) (.varT 3)) [.app 7 (.tup [.var 9, .var 6])] []
theorem spoilt_split : b__law_spoilt = [a1, a2, a3, a4, a5, a6, a7, a8, a9, a10, .frz 7, .ret (.call "_law_of" [.hnd 0, .var 7])] := rfl
def odd1 (t : Net) (ss : List (List Int)) (B : List Bt) (a : Nat) (b : Bt) : List PyData := [.tuple [paD ss, .list (B.map btD)], .tuple [paD ss], .list [paD ss, .tuple (B.map btD)], .none, .tuple [paD (ss.drop 1), .tuple (B.map btD)], .tuple [paD ss, otD B a (.tuple [moD (b.1.reverse ++ [t.tops.length]), ltD b.2])]]
def odd2 (ss : List (List Int)) (B : List Bt) (a : Nat) (b : Bt) : List PyData := [.tuple [paD ss, otD B a (.tuple [moD b.1, .tuple ((b.2.map roD).drop 1)])], .tuple [paD ss, otD B a (.tuple [.list (b.1.map nD), ltD b.2])], .tuple [paD ss, otD B a (moD b.1)]]
theorem put_ev {k : CallT} {B : List Bt} (hB : B.length ≤ 400) {a : Nat} {y : E} {Y : PyData} {v : NB.Env} {s : S} (h10 : getT 10 v = some (.tuple (B.map btD))) (h11 : getT 11 v = some (nD a)) (hy : evL k [y] v s = .ok [Y] s) : ev k (putE y) v s = .ok (otD B a Y) s :=
  ev_bin (ev_bin (ev_sl0 (ev_varT h10) rfl (ev_varT h11) (sl_to (a := a))) (ev_tup hy (sz (by simp))) (addT (by rw [List.length_take, List.length_map, List.length_singleton]; exact sz (by omega)))) (ev_sl1 (ev_varT h10) rfl (ev_bin (ev_varT h11) ev_cst (z := .int ((a + 1 : Nat) : Int)) rfl) sl_from) (addT (by rw [List.length_append, List.length_take, List.length_drop, List.length_map, List.length_singleton]; exact sz (by omega)))
theorem lz_ev {k : CallT} {q : Nat} {b : Bt} (hb : b.1.length ≤ 900) {v : NB.Env} {s : S} (h5 : getT 5 v = some (nD q)) (h15 : getV 15 v = some (ltD b.2)) (h16 : getT 16 v = some (moD b.1)) (hl : 18 < v.length) : ev k lzE v s = .ok (btD (lz q b)) s := by
  have lp := lcIf_pure (tg := .nm 18) (f := ev k (.var 18)) (c := fun u => do let y ← ev k (.cmp .ne (.varT 18) (.varT 5)) u; liftO (truthD y)) (v := v) (s := s) (g := nD) (F := nD) (fun i => decide (i ≠ q)) (ps := b.1) (acc := []) (fun i _ => by
    have g18 : (v.set 18 (.val (nD i)))[18]? = some (.val (nD i)) := List.getElem?_set_self hl
    have g5 : (v.set 18 (.val (nD i)))[5]? = v[5]? := List.getElem?_set_ne (by decide)
    have t18 : getT 18 (v.set 18 (.val (nD i))) = some (nD i) := by unfold getT; rw [g18]
    have t5 : getT 5 (v.set 18 (.val (nD i))) = some (nD q) := by
      unfold getT at h5 ⊢
      rw [g5]
      exact h5
    have e : (!(((i : Nat) : Int) == ((q : Nat) : Int))) = decide (i ≠ q) := by
      by_cases hiq : i = q
      · subst hiq
        simp
      · rw [decide_eq_true hiq, beq_eq_false_iff_ne.mpr (by omega)]
        rfl
    have c : ev k (.cmp .ne (.varT 18) (.varT 5)) (v.set 18 (.val (nD i))) s = .ok (.bool (decide (i ≠ q))) s := by
      rw [← e]
      exact ev_cmp (ev_varT t18) (ev_varT t5) d_neI
    exact ⟨v.set 18 (.val (nD i)), by rw [putTg_nm, put_ok hl], truth_run c, fun _ => ev_var (by unfold getV; rw [g18])⟩) (by rw [List.length_nil]; exact sz (by omega))
  rw [List.nil_append] at lp
  exact ev_tup (evL_nx rfl (ev_bi1 rfl (ev_lcIf (ev_varT h16) rfl lp) d_tupL) (evL_nx rfl (ev_var h15) q_Lnil)) (sz (by simp))
theorem spoilt_run {t : Net} (h : NetH t) {d e : Nat} (hd1 : 1 ≤ d) (hd : d ≤ 100) {ss : List (List Int)} {B : List Bt} (I : SR t d e ss B) (he : e ≤ 100) (hB0 : 1 ≤ B.length) (hB : B.length ≤ 100) {m : Nat} (hm : 3 ≤ m) (dl : Deal) : ∃ (x : PyData) (d' : Deal), callN P m "_law_spoilt" [.h 0, .d (netD t), .d (.int (d : Nat)), .d (.int (e : Nat)), .d (rnD ss B)] [dl] = .ok x [d'] ∧ Bad t d e x := by
  obtain ⟨m, rfl⟩ : ∃ k, m = k + 1 := ⟨m - 1, by omega⟩
  have hle := h.le
  have hpos := h.pos
  have hp : paB t.tops d (paD ss) = true := paB_of I.len I.st
  obtain ⟨a, d1, e1, a0, a1⟩ := any_run (show 1 ≤ m by omega) (b := (B.length : Nat)) (by omega) (by omega) dl
  obtain ⟨a, rfl⟩ := Int.eq_ofNat_of_zero_le a0
  have ha : a < B.length := by omega
  obtain ⟨q, d2, e2, q0, q1⟩ := any_run (show 1 ≤ m by omega) (b := (t.tops.length : Nat)) (by omega) (by omega) d1
  obtain ⟨q, rfl⟩ := Int.eq_ofNat_of_zero_le q0
  have hq : q < t.tops.length := by omega
  have hbm : B.getD a bt0 ∈ B := by
    rw [← Option.some_inj.mp ((List.getElem?_eq_getElem ha).symm.trans (some_getD (d := bt0) ha))]
    exact List.getElem_mem ha
  have hbo := I.ok _ hbm
  have i1 : idxD (.tuple (B.map btD)) (nD a) = some (btD (B.getD a bt0)) := at_map ha
  generalize B.getD a bt0 = b at hbm hbo i1
  have hbl : b.1.length ≤ t.tops.length := hbo.mo.len
  have hll := hbo.la.len
  have s1 : ex (callN P m) K52.a1 (U t d e ss B .non .non .non .non .non .non .non .non .non .non) [dl] = .ok (.nx, (U t d e ss B .non .non .non .non (.val (paD ss)) (.val (.tuple (B.map btD))) .non .non .non .non)) [dl] := x_tgt_run (ev_var rfl) rfl
  have s2 : ex (callN P m) K52.a2 (U t d e ss B .non .non .non .non (.val (paD ss)) (.val (.tuple (B.map btD))) .non .non .non .non) [dl] = .ok (.nx, (U t d e ss B .non .non .non .non (.val (paD ss)) (.val (.tuple (B.map btD))) (.val (nD a)) (.val (.int (t.tops.length : Nat))) .non .non)) [d1] := x_parF_run (evL_nx rfl (ev_call (evA_hnd rfl (evA_nx rfl (ev_bi1 rfl (ev_varT rfl) (by rw [d_lenT, List.length_map])) q_Anil)) e1) (evL_nx rfl (ev_bi1 rfl (ev_idx (ev_varT rfl) ev_cst net_ix0) len_net) q_Lnil)) rfl
  have s3 : ex (callN P m) K52.a3 (U t d e ss B .non .non .non .non (.val (paD ss)) (.val (.tuple (B.map btD))) (.val (nD a)) (.val (.int (t.tops.length : Nat))) .non .non) [d1] = .ok (.nx, (U t d e ss B .non .non .non .non (.val (paD ss)) (.val (.tuple (B.map btD))) (.val (nD a)) (.val (.int (t.tops.length : Nat))) (.val (moD b.1)) (.val (ltD b.2)))) [d1] := x_tgt_run (ev_idx (ev_varT rfl) (ev_varT rfl) i1) rfl
  have s4 : ex (callN P m) K52.a4 (U t d e ss B .non .non .non .non (.val (paD ss)) (.val (.tuple (B.map btD))) (.val (nD a)) (.val (.int (t.tops.length : Nat))) (.val (moD b.1)) (.val (ltD b.2))) [d1] = .ok (.nx, (U t d e ss B (.val (nD q)) .non .non .non (.val (paD ss)) (.val (.tuple (B.map btD))) (.val (nD a)) (.val (.int (t.tops.length : Nat))) (.val (moD b.1)) (.val (ltD b.2)))) [d2] := x_set_run (ev_call (evA_hnd rfl (evA_nx rfl (ev_var rfl) q_Anil)) e2) (by simp [U])
  have lp := lc_pure (tg := .tp [16, 15]) (f := ev (callN P m) lzE) (v := (U t d e ss B (.val (nD q)) .non .non .non (.val (paD ss)) (.val (.tuple (B.map btD))) (.val (nD a)) (.val (.int (t.tops.length : Nat))) (.val (moD b.1)) (.val (ltD b.2)))) (s := [d2]) (g := btD) (F := fun c => btD (lz q c)) (ps := B.take e) (acc := []) (fun c hc => ⟨_, rfl, lz_ev (by have := (I.ok c (List.mem_of_mem_take hc)).mo.len; omega) rfl rfl rfl (by simp [U])⟩) (by rw [List.length_take, List.length_nil]; exact sz (by omega))
  rw [List.nil_append, List.map_take] at lp
  have lE : PyData.tuple ((B.take e).map (fun c => btD (lz q c)) ++ (B.map btD).drop e) = .tuple ((lazyB e q B).map btD) := by
    unfold lazyB
    rw [List.map_append, List.map_map, List.map_drop]
    rfl
  have lv := ev_bin (o := .add) (ev_bi1 rfl (ev_lc (ev_sl0 (ev_varT (i := 10) rfl) rfl (ev_varT (i := 3) rfl) sl_to) rfl lp) d_tupL) (ev_sl1 (ev_varT (i := 10) rfl) rfl (ev_varT (i := 3) rfl) (sl_from (a := e))) (addT (by rw [List.length_map, List.length_take, List.length_drop, List.length_map]; exact sz (by omega)))
  rw [lE] at lv
  have s5 : ex (callN P m) K52.a5 (U t d e ss B (.val (nD q)) .non .non .non (.val (paD ss)) (.val (.tuple (B.map btD))) (.val (nD a)) (.val (.int (t.tops.length : Nat))) (.val (moD b.1)) (.val (ltD b.2))) [d2] = .ok (.nx, (U t d e ss B (.val (nD q)) (.val (.tuple ((lazyB e q B).map btD))) .non .non (.val (paD ss)) (.val (.tuple (B.map btD))) (.val (nD a)) (.val (.int (t.tops.length : Nat))) (.val (moD b.1)) (.val (ltD b.2)))) [d2] := x_set_run lv (by simp [U])
  have rv : ev (callN P m) (.rev (.varT 13)) (U t d e ss B (.val (nD q)) (.val (.tuple ((lazyB e q B).map btD))) .non .non (.val (paD ss)) (.val (.tuple (B.map btD))) (.val (nD a)) (.val (.int (t.tops.length : Nat))) (.val (moD b.1)) (.val (ltD b.2))) [d2] = .ok (.tuple (b.1.map nD).reverse) [d2] := by
    rw [q_rev, run_bind, ev_varT (i := 13) rfl]
    rfl
  have rE : PyData.tuple ((b.1.map nD).reverse ++ [.int (t.tops.length : Nat)]) = moD (b.1.reverse ++ [t.tops.length]) := by
    unfold moD
    rw [List.map_append, List.map_reverse]
    rfl
  have rb := ev_bin (o := .add) rv (ev_tup (es := [.var 12]) (evL_nx rfl (ev_var rfl) q_Lnil) (sz (by simp))) (addT (by rw [List.length_reverse, List.length_map, List.length_singleton]; exact sz (by omega)))
  rw [rE] at rb
  have t5 : sliceD (paD ss) (some (1 : Int)) none = some (paD (ss.drop 1)) := by
    have := sl_from (xs := ss.map roD) (a := 1)
    rw [← List.map_drop] at this
    exact this
  have s6 : ex (callN P m) K52.a6 (U t d e ss B (.val (nD q)) (.val (.tuple ((lazyB e q B).map btD))) .non .non (.val (paD ss)) (.val (.tuple (B.map btD))) (.val (nD a)) (.val (.int (t.tops.length : Nat))) (.val (moD b.1)) (.val (ltD b.2))) [d2] = .ok (.nx, (U t d e ss B (.val (nD q)) (.val (.tuple ((lazyB e q B).map btD))) (.own (odd1 t ss B a b)) .non (.val (paD ss)) (.val (.tuple (B.map btD))) (.val (nD a)) (.val (.int (t.tops.length : Nat))) (.val (moD b.1)) (.val (ltD b.2)))) [d2] := x_setF_run (xs := odd1 t ss B a b) (ev_lst (evL_nx rfl (ev_tup (evL_nx rfl (ev_var rfl) (evL_nx rfl (ev_bi1 rfl (ev_varT rfl) d_lstT) q_Lnil)) (sz (by simp)))
    (evL_nx rfl (ev_tup (evL_nx rfl (ev_var rfl) q_Lnil) (sz (by simp))) (evL_nx rfl (ev_lst (evL_nx rfl (ev_var rfl) (evL_nx rfl (ev_var rfl) q_Lnil)) (sz (by simp))) (evL_nx rfl ev_cst
    (evL_nx rfl (ev_tup (evL_nx rfl (ev_sl1 (ev_varT rfl) rfl ev_cst t5) (evL_nx rfl (ev_var rfl) q_Lnil)) (sz (by simp)))
    (evL_nx rfl (ev_tup (evL_nx rfl (ev_var rfl) (evL_nx rfl (put_ev (by omega) rfl rfl (evL_nx rfl (ev_tup (evL_nx rfl rb (evL_nx rfl (ev_var rfl) q_Lnil)) (sz (by simp))) q_Lnil)) q_Lnil)) (sz (by simp))) q_Lnil)))))) (sz (by simp [odd1]))) rfl
  have t7 : sliceD (ltD b.2) (some (1 : Int)) none = some (.tuple ((b.2.map roD).drop 1)) := sl_from (a := 1)
  have s7 : ex (callN P m) K52.a7 (U t d e ss B (.val (nD q)) (.val (.tuple ((lazyB e q B).map btD))) (.own (odd1 t ss B a b)) .non (.val (paD ss)) (.val (.tuple (B.map btD))) (.val (nD a)) (.val (.int (t.tops.length : Nat))) (.val (moD b.1)) (.val (ltD b.2))) [d2] = .ok (.nx, (U t d e ss B (.val (nD q)) (.val (.tuple ((lazyB e q B).map btD))) (.own (odd1 t ss B a b ++ odd2 ss B a b)) .non (.val (paD ss)) (.val (.tuple (B.map btD))) (.val (nD a)) (.val (.int (t.tops.length : Nat))) (.val (moD b.1)) (.val (ltD b.2)))) [d2] := x_setF_run (xs := odd1 t ss B a b ++ odd2 ss B a b) (ev_bin (ev_varT rfl) (ev_lst (xs := odd2 ss B a b)
    (evL_nx rfl (ev_tup (evL_nx rfl (ev_var rfl) (evL_nx rfl (put_ev (by omega) rfl rfl (evL_nx rfl (ev_tup (evL_nx rfl (ev_var rfl) (evL_nx rfl (ev_sl1 (ev_varT rfl) rfl ev_cst t7) q_Lnil)) (sz (by simp))) q_Lnil)) q_Lnil)) (sz (by simp)))
    (evL_nx rfl (ev_tup (evL_nx rfl (ev_var rfl) (evL_nx rfl (put_ev (by omega) rfl rfl (evL_nx rfl (ev_tup (evL_nx rfl (ev_bi1 rfl (ev_varT rfl) d_lstT) (evL_nx rfl (ev_var rfl) q_Lnil)) (sz (by simp))) q_Lnil)) q_Lnil)) (sz (by simp)))
    (evL_nx rfl (ev_tup (evL_nx rfl (ev_var rfl) (evL_nx rfl (put_ev (by omega) rfl rfl (evL_nx rfl (ev_var rfl) q_Lnil)) q_Lnil)) (sz (by simp))) q_Lnil))) (sz (by simp [odd2]))) (addL (sz (by simp [odd1, odd2])))) rfl
  have gp := lc_pure (tg := .nm 15) (f := ev (callN P m) (.bi .tup [.lc (.bin .add (.varT 2) (.cst (.int 1))) (.nm 17) (.varT 15)])) (v := (U t d e ss B (.val (nD q)) (.val (.tuple ((lazyB e q B).map btD))) (.own (odd1 t ss B a b ++ odd2 ss B a b)) .non (.val (paD ss)) (.val (.tuple (B.map btD))) (.val (nD a)) (.val (.int (t.tops.length : Nat))) (.val (moD b.1)) (.val (ltD b.2)))) (s := [d2]) (g := roD) (F := fun r => roD (r.map fun _ => (d : Int) + 1)) (ps := b.2) (acc := []) (fun r hr => ⟨_, rfl, by
    obtain ⟨i, hi⟩ := List.mem_iff_getElem?.mp hr
    have hil := (List.getElem?_eq_some_iff.mp hi).1
    have hrl := hbo.la.row i (by omega)
    rw [getD_at hi] at hrl
    have hb12 := br_le h (show i < t.tops.length by omega)
    have lp2 := lc_pure (tg := .nm 17) (f := ev (callN P m) (.bin .add (.varT 2) (.cst (.int 1)))) (v := [.hnd 0, .val (netD t), .val (.int (d : Nat)), .val (.int (e : Nat)), .val (rnD ss B), .val (nD q), .val (.tuple ((lazyB e q B).map btD)), .own (odd1 t ss B a b ++ odd2 ss B a b), .non, .val (paD ss), .val (.tuple (B.map btD)), .val (nD a), .val (.int (t.tops.length : Nat)), .val (moD b.1), .val (ltD b.2), .val (roD r), .non, .non, .non]) (s := [d2]) (g := PyData.int) (F := fun _ => PyData.int ((d : Int) + 1)) (ps := r) (acc := []) (fun z hz => ⟨_, rfl, ev_bin (ev_varT rfl) ev_cst rfl⟩) (by rw [List.length_nil]; exact sz (by omega))
    rw [List.nil_append] at lp2
    have e9 : PyData.tuple (r.map fun _ => PyData.int ((d : Int) + 1)) = roD (r.map fun _ => (d : Int) + 1) := by
      unfold roD
      rw [List.map_map]
      rfl
    rw [← e9]
    exact ev_bi1 rfl (ev_lc (ev_varT rfl) rfl lp2) d_tupL⟩) (by rw [List.length_nil]; exact sz (by omega))
  rw [List.nil_append] at gp
  have gE : PyData.tuple (b.2.map fun r => roD (r.map fun _ => (d : Int) + 1)) = ltD (great d b.2) := by
    unfold ltD great
    rw [List.map_map]
    rfl
  have gv := ev_bi1 (b := .tup) rfl (ev_lc (it := .varT 14) (ev_varT rfl) rfl gp) d_tupL
  rw [gE] at gv
  have s8 : ex (callN P m) K52.a8 (U t d e ss B (.val (nD q)) (.val (.tuple ((lazyB e q B).map btD))) (.own (odd1 t ss B a b ++ odd2 ss B a b)) .non (.val (paD ss)) (.val (.tuple (B.map btD))) (.val (nD a)) (.val (.int (t.tops.length : Nat))) (.val (moD b.1)) (.val (ltD b.2))) [d2] = .ok (.nx, (U t d e ss B (.val (nD q)) (.val (.tuple ((lazyB e q B).map btD))) (.own (odd1 t ss B a b ++ odd2 ss B a b)) (.val (ltD (great d b.2))) (.val (paD ss)) (.val (.tuple (B.map btD))) (.val (nD a)) (.val (.int (t.tops.length : Nat))) (.val (moD b.1)) (.val (ltD b.2)))) [d2] := x_set_run gv (by simp [U])
  have s9 : ∃ l : List PyData, ex (callN P m) K52.a9 (U t d e ss B (.val (nD q)) (.val (.tuple ((lazyB e q B).map btD))) (.own (odd1 t ss B a b ++ odd2 ss B a b)) (.val (ltD (great d b.2))) (.val (paD ss)) (.val (.tuple (B.map btD))) (.val (nD a)) (.val (.int (t.tops.length : Nat))) (.val (moD b.1)) (.val (ltD b.2))) [d2] = .ok (.nx, (U t d e ss B (.val (nD q)) (.val (.tuple ((lazyB e q B).map btD))) (.own l) (.val (ltD (great d b.2))) (.val (paD ss)) (.val (.tuple (B.map btD))) (.val (nD a)) (.val (.int (t.tops.length : Nat))) (.val (moD b.1)) (.val (ltD b.2)))) [d2] ∧ l.length ≤ 10 ∧ l ≠ [] ∧ ∀ x ∈ l, x ∈ odd1 t ss B a b ++ odd2 ss B a b ∨ (great d b.2 ≠ b.2 ∧ x = .tuple [paD ss, otD B a (.tuple [moD b.1, ltD (great d b.2)])]) := by
    have hok : ∀ L : List (List Int), L.length ≤ 5 → (∀ r ∈ L, r.length ≤ 12) → okEq (ltD L) = true := fun L _ _ => by
      show ((ltD L).canLay0 && decide ((ltD L).depth ≤ 64)) = true
      rw [lay_lt, decide_eq_true (Nat.le_trans dep_lt (by decide))]
      rfl
    have hr12 : ∀ r ∈ b.2, r.length ≤ 12 := fun r hr => by
      obtain ⟨i, hi⟩ := List.mem_iff_getElem?.mp hr
      have hil := (List.getElem?_eq_some_iff.mp hi).1
      have hrl := hbo.la.row i (by omega)
      rw [getD_at hi] at hrl
      have := br_le h (show i < t.tops.length by omega)
      omega
    have c : ev (callN P m) (.cmp .ne (.varT 8) (.varT 14)) (U t d e ss B (.val (nD q)) (.val (.tuple ((lazyB e q B).map btD))) (.own (odd1 t ss B a b ++ odd2 ss B a b)) (.val (ltD (great d b.2))) (.val (paD ss)) (.val (.tuple (B.map btD))) (.val (nD a)) (.val (.int (t.tops.length : Nat))) (.val (moD b.1)) (.val (ltD b.2))) [d2] = .ok (.bool (!decide (great d b.2 = b.2))) [d2] := ev_cmp (ev_varT rfl) (ev_varT rfl) (by
      rw [cmp_ne (hok _ (by unfold great; rw [List.length_map]; omega) (fun r hr => by
        unfold great at hr
        obtain ⟨r', hr', rfl⟩ := List.mem_map.mp hr
        rw [List.length_map]
        exact hr12 r' hr')) (hok _ (by omega) hr12)]
      rw [show PyData.eqv (ltD (great d b.2)) (ltD b.2) = decide (great d b.2 = b.2) from eqv_pa])
    by_cases hg : great d b.2 = b.2
    · rw [decide_eq_true hg] at c
      exact ⟨odd1 t ss B a b ++ odd2 ss B a b, ex_ifs_no c, by simp [odd1, odd2], by simp [odd1], fun x hx => .inl hx⟩
    · rw [decide_eq_false hg] at c
      refine ⟨odd1 t ss B a b ++ odd2 ss B a b ++ [.tuple [paD ss, otD B a (.tuple [moD b.1, ltD (great d b.2)])]], ex_ifs_yes c (xs_nx (x_app_run (ev_tup (evL_nx rfl (ev_var rfl) (evL_nx rfl (put_ev (by omega) rfl rfl (evL_nx rfl (ev_tup (evL_nx rfl (ev_var rfl) (evL_nx rfl (ev_var rfl) q_Lnil)) (sz (by simp))) q_Lnil)) q_Lnil)) (sz (by simp))) rfl (Nat.lt_of_lt_of_le (show _ < 1000 by simp [odd1, odd2]) (sz (Nat.le_refl _))) rfl) xs_nil), by simp [odd1, odd2], by simp [odd1], fun x hx => ?_⟩
      rcases List.mem_append.mp hx with hx | hx
      · exact .inl hx
      · exact .inr ⟨hg, List.mem_singleton.mp hx⟩
  obtain ⟨l, s9, l1, l2, l3⟩ := s9
  have s10 : ∃ l' : List PyData, ex (callN P m) K52.a10 (U t d e ss B (.val (nD q)) (.val (.tuple ((lazyB e q B).map btD))) (.own l) (.val (ltD (great d b.2))) (.val (paD ss)) (.val (.tuple (B.map btD))) (.val (nD a)) (.val (.int (t.tops.length : Nat))) (.val (moD b.1)) (.val (ltD b.2))) [d2] = .ok (.nx, (U t d e ss B (.val (nD q)) (.val (.tuple ((lazyB e q B).map btD))) (.own l') (.val (ltD (great d b.2))) (.val (paD ss)) (.val (.tuple (B.map btD))) (.val (nD a)) (.val (.int (t.tops.length : Nat))) (.val (moD b.1)) (.val (ltD b.2)))) [d2] ∧ l'.length ≤ 11 ∧ l' ≠ [] ∧ ∀ x ∈ l', x ∈ l ∨ (e ≤ B.length ∧ x = rnD ss (lazyB e q B)) := by
    have c : ev (callN P m) (.cmp .ge (.bi .len [.varT 10]) (.varT 3)) (U t d e ss B (.val (nD q)) (.val (.tuple ((lazyB e q B).map btD))) (.own l) (.val (ltD (great d b.2))) (.val (paD ss)) (.val (.tuple (B.map btD))) (.val (nD a)) (.val (.int (t.tops.length : Nat))) (.val (moD b.1)) (.val (ltD b.2))) [d2] = .ok (.bool (decide ((e : Int) ≤ (B.length : Nat)))) [d2] := ev_cmp (ev_bi1 rfl (ev_varT rfl) (by rw [d_lenT, List.length_map])) (ev_varT rfl) rfl
    by_cases hg : e ≤ B.length
    · rw [decide_eq_true (by omega)] at c
      refine ⟨l ++ [rnD ss (lazyB e q B)], ex_ifs_yes c (xs_nx (x_app_run (x := rnD ss (lazyB e q B)) (ev_tup (evL_nx rfl (ev_var rfl) (evL_nx rfl (ev_var rfl) q_Lnil)) (sz (by simp))) rfl (Nat.lt_of_lt_of_le (show _ < 1000 by omega) (sz (Nat.le_refl _))) rfl) xs_nil), by simp; omega, by simp, fun x hx => ?_⟩
      rcases List.mem_append.mp hx with hx | hx
      · exact .inl hx
      · exact .inr ⟨hg, List.mem_singleton.mp hx⟩
    · rw [decide_eq_false (by omega)] at c
      exact ⟨l, ex_ifs_no c, by omega, l2, fun x hx => .inl hx⟩
  obtain ⟨l', s10, m1, m2, m3⟩ := s10
  have s11 : ex (callN P m) (.frz 7) (U t d e ss B (.val (nD q)) (.val (.tuple ((lazyB e q B).map btD))) (.own l') (.val (ltD (great d b.2))) (.val (paD ss)) (.val (.tuple (B.map btD))) (.val (nD a)) (.val (.int (t.tops.length : Nat))) (.val (moD b.1)) (.val (ltD b.2))) [d2] = .ok (.nx, (U t d e ss B (.val (nD q)) (.val (.tuple ((lazyB e q B).map btD))) (.val (.list l')) (.val (ltD (great d b.2))) (.val (paD ss)) (.val (.tuple (B.map btD))) (.val (nD a)) (.val (.int (t.tops.length : Nat))) (.val (moD b.1)) (.val (ltD b.2)))) [d2] := x_frz
  obtain ⟨x, d3, e3, hx⟩ := of_run (show 2 ≤ m by omega) m2 (by omega) d2
  have bd : exs (callN P m) b__law_spoilt (U t d e ss B .non .non .non .non .non .non .non .non .non .non) [dl] = .ok (.rt x, (U t d e ss B (.val (nD q)) (.val (.tuple ((lazyB e q B).map btD))) (.val (.list l')) (.val (ltD (great d b.2))) (.val (paD ss)) (.val (.tuple (B.map btD))) (.val (nD a)) (.val (.int (t.tops.length : Nat))) (.val (moD b.1)) (.val (ltD b.2)))) [d3] := by
    rw [spoilt_split]
    exact xs_nx s1 (xs_nx s2 (xs_nx s3 (xs_nx s4 (xs_nx s5 (xs_nx s6 (xs_nx s7 (xs_nx s8 (xs_nx s9 (xs_nx s10 (xs_nx s11 (exs_ret (ev_call (evA_hnd rfl (evA_nx rfl (ev_var rfl) q_Anil)) e3))))))))))))
  refine ⟨x, d3, call_ret f__law_spoilt rfl rfl bd, ?_⟩
  rcases m3 x hx with hx | ⟨hel, rfl⟩
  · rcases l3 x hx with hx | ⟨hg, rfl⟩
    · simp only [odd1, odd2, List.mem_append, List.mem_cons, List.not_mem_nil, or_false] at hx
      rcases hx with (rfl | rfl | rfl | rfl | rfl | rfl) | (rfl | rfl | rfl)
      · intro m s hm
        obtain ⟨m, rfl⟩ : ∃ k, m = k + 1 := ⟨m - 1, by omega⟩
        exact sr_list h hd (by omega) nd_pa hp rfl rfl
      · intro m s hm
        obtain ⟨m, rfl⟩ : ∃ k, m = k + 1 := ⟨m - 1, by omega⟩
        exact sr_one
      · intro m s hm
        obtain ⟨m, rfl⟩ : ∃ k, m = k + 1 := ⟨m - 1, by omega⟩
        exact sr_not rfl rfl
      · intro m s hm
        obtain ⟨m, rfl⟩ : ∃ k, m = k + 1 := ⟨m - 1, by omega⟩
        exact sr_not rfl rfl
      · intro m s hm
        obtain ⟨m, rfl⟩ : ∃ k, m = k + 1 := ⟨m - 1, by omega⟩
        refine sr_past h hd (by omega) nd_pa ?_
        have : ¬ (ss.drop 1).length = d := by rw [List.length_drop, I.len]; omega
        simp only [paB, paD, List.length_map, decide_eq_false this, Bool.false_and]
      · exact bad_beat h hd I (by omega) (beat_rising fun m s hm => p_rising_big (by rw [List.length_append, List.length_reverse, List.length_singleton]; omega) ⟨t.tops.length, by simp, Nat.le_refl _⟩ hm)
      · refine bad_beat h hd I (by omega) (beat_late h hd hbo.mo (nd_tup fun y hy => ?_) ?_)
        · obtain ⟨r, _, rfl⟩ := List.mem_map.mp (List.mem_of_mem_drop hy)
          exact nd_ro 1
        · have : ¬ ((b.2.map roD).drop 1).length = t.tops.length := by rw [List.length_drop, List.length_map]; omega
          simp only [laB, decide_eq_false this, Bool.false_and]
      · exact bad_beat h hd I (by omega) (beat_rising fun m s hm => p_rising_not rfl rfl hm)
      · exact bad_beat h hd I (by omega) fun m s hm => p_beat_mo (by omega)
    · exact bad_beat h hd I (by omega) (beat_late h hd hbo.mo (nd_lt 2) (great_not hg))
  · intro m s hm
    obtain ⟨m, rfl⟩ : ∃ k, m = k + 1 := ⟨m - 1, by omega⟩
    have := sr_ok (t := t) (d := d) (e := e) (m := m) (s := s) h hd he (by omega) hp (lazy_ok I.ok (e := e) (q := q)) (by rw [lazy_len]; omega)
    rw [lazy_not hq hel] at this
    exact this
end K52
set_option Elab.async false
set_option linter.all false
set_option maxRecDepth 100000
set_option maxHeartbeats 8000000
/-! K52T: gaps; the law's body. -/
namespace K52
open PySem PySem.Spec PyProof.Rows L2 L2.NB
/-! ### gaps -/
def gapF (B : List Bt) (h : Nat) : Int := if mvs B h = [] then (B.length : Int) + 1 else ((mvs B h).getD 0 0 : Nat) + 1
def gapL (B : List Bt) (h : Nat) : Int := if mvs B h = [] then (B.length : Int) + 1 else (B.length : Int) - ((mvs B h).getD ((mvs B h).length - 1) 0 : Nat)
def gapM (B : List Bt) (h : Nat) : List Int := (List.range ((mvs B h).length - 1)).map fun i => (((mvs B h).getD (i + 1) 0 : Nat) : Int) - (((mvs B h).getD i 0 : Nat) : Int)
def gaps (B : List Bt) (h : Nat) : List Int := gapM B h ++ [gapF B h] ++ [gapL B h]
theorem gaps_len {B : List Bt} {h : Nat} : (gaps B h).length ≤ B.length + 2 := by
  have := mvs_len (B := B) (h := h)
  unfold gaps gapM
  rw [List.length_append, List.length_append, List.length_map, List.length_range]
  simp only [List.length_singleton]
  omega
theorem win_of {B : List Bt} {e h : Nat} (z : mvB B.length e (mvs B h) = true) {a : Nat} (ha : a + e ≤ B.length) : ∃ k ∈ mvs B h, a ≤ k ∧ k < a + e := by
  unfold mvB at z
  obtain ⟨k, hk, hc⟩ := List.any_eq_true.mp (List.all_eq_true.mp z a (List.mem_range.mpr (by omega)))
  rw [Bool.and_eq_true, decide_eq_true_eq, decide_eq_true_eq] at hc
  exact ⟨k, hk, hc⟩
theorem gaps_iff {B : List Bt} {e h : Nat} (he : 1 ≤ e) : mvB B.length e (mvs B h) = true ↔ (B.length < e ∨ ∀ g ∈ gaps B h, g ≤ (e : Int)) := by
  have hp : ∀ k, k ∈ mvs B h → decide (h ∈ (B.getD k bt0).1) = true := fun k hk => (List.mem_filter.mp hk).2
  constructor
  · intro z
    by_cases hl : B.length < e
    · exact .inl hl
    · refine .inr fun g hg => ?_
      obtain ⟨k0, hk0, c0, c1⟩ := win_of z (a := 0) (by omega)
      have hne : mvs B h ≠ [] := fun z => by rw [z] at hk0; cases hk0
      have hpos : 0 < (mvs B h).length := List.length_pos_iff.mpr hne
      rcases List.mem_append.mp hg with hg | hg
      · rcases List.mem_append.mp hg with hg | hg
        · obtain ⟨i, hi, rfl⟩ := List.mem_map.mp hg
          have hi := List.mem_range.mp hi
          have e1 : (mvs B h)[i]? = some ((mvs B h).getD i 0) := some_getD (by omega)
          have e2 : (mvs B h)[i + 1]? = some ((mvs B h).getD (i + 1) 0) := some_getD (by omega)
          have lt := frn_mono e1 e2 (Nat.lt_succ_self i)
          have b2 := mvs_lt (h := h) _ (List.mem_of_getElem? e2)
          generalize (mvs B h).getD i 0 = a at e1 lt ⊢
          generalize (mvs B h).getD (i + 1) 0 = b at e2 lt b2 ⊢
          by_cases hab : b ≤ a + e
          · omega
          · obtain ⟨k, hk, d0, d1⟩ := win_of z (a := a + 1) (by omega)
            have := frn_next e1 e2 (j := k) (by omega) (by omega)
            rw [hp k hk] at this
            cases this
        · rw [List.mem_singleton.mp hg]
          unfold gapF
          rw [if_neg hne]
          have e1 : (mvs B h)[0]? = some ((mvs B h).getD 0 0) := some_getD hpos
          generalize (mvs B h).getD 0 0 = a at e1 ⊢
          by_cases hak : a ≤ k0
          · omega
          · have := frn_first e1 (j := k0) (by omega)
            rw [hp k0 hk0] at this
            cases this
      · rw [List.mem_singleton.mp hg]
        unfold gapL
        rw [if_neg hne]
        obtain ⟨k, hk, d0, d1⟩ := win_of z (a := B.length - e) (by omega)
        have hkl := mvs_lt (h := h) k hk
        have e1 : (mvs B h)[(mvs B h).length - 1]? = some ((mvs B h).getD ((mvs B h).length - 1) 0) := some_getD (by omega)
        generalize (mvs B h).getD ((mvs B h).length - 1) 0 = a at e1 ⊢
        by_cases hak : k ≤ a
        · omega
        · have := frn_last e1 (by show (mvs B h).length = (mvs B h).length - 1 + 1; omega) (j := k) (by omega) hkl
          rw [hp k hk] at this
          cases this
  · intro z
    unfold mvB
    rw [List.all_eq_true]
    intro a ha
    have ha := List.mem_range.mp ha
    rcases z with z | z
    · omega
    · have hF := z (gapF B h) (by simp [gaps])
      have hL := z (gapL B h) (by simp [gaps])
      have hne : mvs B h ≠ [] := fun q => by
        unfold gapF at hF
        rw [if_pos q] at hF
        omega
      have hpos : 0 < (mvs B h).length := List.length_pos_iff.mpr hne
      unfold gapF at hF
      unfold gapL at hL
      rw [if_neg hne] at hF hL
      have key : ∀ a, a + e ≤ B.length → ∃ i, i < (mvs B h).length ∧ a ≤ (mvs B h).getD i 0 ∧ (mvs B h).getD i 0 < a + e := by
        intro a
        induction a with
        | zero => exact fun _ => ⟨0, hpos, Nat.zero_le _, by omega⟩
        | succ a ih =>
          intro hle
          obtain ⟨i, i1, i2, i3⟩ := ih (by omega)
          by_cases hgt : a + 1 ≤ (mvs B h).getD i 0
          · exact ⟨i, i1, hgt, by omega⟩
          · have hia : (mvs B h).getD i 0 = a := by omega
            by_cases hlast : i + 1 < (mvs B h).length
            · have e1 : (mvs B h)[i]? = some ((mvs B h).getD i 0) := some_getD i1
              have e2 : (mvs B h)[i + 1]? = some ((mvs B h).getD (i + 1) 0) := some_getD hlast
              have lt := frn_mono e1 e2 (Nat.lt_succ_self i)
              have hM := z ((((mvs B h).getD (i + 1) 0 : Nat) : Int) - (((mvs B h).getD i 0 : Nat) : Int)) (by
                unfold gaps gapM
                refine List.mem_append_left _ (List.mem_append_left _ ?_)
                exact List.mem_map.mpr ⟨i, List.mem_range.mpr (by omega), rfl⟩)
              exact ⟨i + 1, hlast, by omega, by omega⟩
            · rw [show (mvs B h).length - 1 = i by omega, hia] at hL
              omega
      obtain ⟨i, i1, i2, i3⟩ := key a (by omega)
      rw [List.any_eq_true]
      refine ⟨(mvs B h).getD i 0, List.mem_of_getElem? (some_getD i1), ?_⟩
      rw [decide_eq_true i2, decide_eq_true i3]
      rfl
theorem max_of : ∀ {l : List Int} {x : Int}, ∃ M, maxI (x :: l) = some M ∧ ∀ c, M ≤ c ↔ ∀ y ∈ x :: l, y ≤ c := by
  intro l x
  suffices h : ∀ (l : List Int) (x : Int), ∀ c, l.foldl (fun m y => if m < y then y else m) x ≤ c ↔ ∀ y ∈ x :: l, y ≤ c from ⟨_, rfl, h l x⟩
  intro l
  induction l with
  | nil => intro x c; simp
  | cons a l ih =>
    intro x c
    rw [List.foldl_cons, ih]
    simp only [List.mem_cons, forall_eq_or_imp]
    by_cases hxa : x < a
    · rw [if_pos hxa]
      constructor
      · rintro ⟨h1, h2⟩; exact ⟨by omega, h1, h2⟩
      · rintro ⟨h1, h2, h3⟩; exact ⟨h2, h3⟩
    · rw [if_neg hxa]
      constructor
      · rintro ⟨h1, h2⟩; exact ⟨h1, by omega, h2⟩
      · rintro ⟨h1, h2, h3⟩; exact ⟨h1, h3⟩
theorem max_ev {l : List Int} (h : l ≠ []) : ∃ M, biD .max [.list (l.map .int)] = some (.int M) ∧ ∀ c, M ≤ c ↔ ∀ y ∈ l, y ≤ c := by
  obtain ⟨x, r, rfl⟩ : ∃ x r, l = x :: r := by cases l with | nil => exact absurd rfl h | cons x r => exact ⟨x, r, rfl⟩
  obtain ⟨M, e, hM⟩ := max_of (l := r) (x := x)
  have ie : ∀ l : List Int, intsOf (l.map PyData.int) = some l := by
    intro l
    induction l with
    | nil => rfl
    | cons a l ih => rw [List.map_cons, intsOf, ih]; rfl
  refine ⟨M, ?_, hM⟩
  show ((intsOf ((x :: r).map PyData.int)).bind maxI).map PyData.int = _
  rw [ie, Option.bind_some, e]
  rfl
theorem ne_mo {ms : List Nat} : cmpD .ne (.list (ms.map nD)) (.list []) = some (!decide (ms = [])) := by
  have h1 : okEq (.list (ms.map nD)) = true := by
    show ((PyData.list (ms.map nD)).canLay0 && decide ((PyData.list (ms.map nD)).depth ≤ 64)) = true
    have a : (PyData.list (ms.map nD)).canLay0 = true := by
      rw [PyData.canLay0]
      exact lay_all fun x hx => by obtain ⟨i, _, rfl⟩ := List.mem_map.mp hx; rfl
    have b : (PyData.list (ms.map nD)).depth ≤ 64 := by
      rw [PyData.depth]
      have := depth_all (xs := ms.map nD) (k := 0) fun x hx => by obtain ⟨i, _, rfl⟩ := List.mem_map.mp hx; exact Nat.le_refl _
      omega
    rw [a, decide_eq_true b]
    rfl
  rw [cmp_ne h1 rfl, PyData.eqv]
  cases ms <;> simp [PyData.eqvAll]
theorem repr_bool (b : Bool) : biD .repr [.bool b] = some (.str (PyData.shown (.bool b))) := (Nice.bool b).repr (by decide) (by decide)
theorem ne_str {z : Str} : cmpD .ne (.str z) (.str z) = some false := by
  rw [d_neS, beq_self_eq_true]
  rfl
theorem add_nat {a b : Nat} : binD .add (.int (a : Nat)) (.int (b : Nat)) = some (.int ((a + b : Nat) : Int)) := by
  show some (PyData.int ((a : Int) + (b : Int))) = _
  rw [← Int.natCast_add]
def g1 : C := .parF [(6, false), (7, false), (8, false)] [.call "_law_net" [.hnd 1, .cst (.int 5), .call "_law_of" [.hnd 1, .lst [.cst (.int 2), .cst (.int 9)]], .cst (.bool true)], .bin .add (.cst (.int 2)) (.call "_law_any" [.hnd 1, .cst (.int 3)]), .bin .add (.cst (.int 1)) (.call "_law_any" [.hnd 1, .cst (.int 4)])]
def g2 : C := .tgt [9, 10] (.call "_law_stopped" [.hnd 1, .var 6, .var 7, .var 8, .bin .add (.cst (.int 1)) (.call "_law_any" [.hnd 1, .cst (.int 12)])])
def g3 : C := .ifs (.or (.cmp .isnot (.callK "is_stopped_run" [.var 9, .var 8, .var 7, .var 6] [3, 2, 1, 0]) (.cst (.bool true))) (.cmp .ne (.bi .repr [.callK "stopped_shown" [.var 9, .var 7, .var 6] [2, 1, 0]]) (.bi .repr [.bi .tup [.varT 10]]))) [.ret (.cst (.bool false))] []
def g4 : C := .ifs (.cmp .isnot (.call "is_stopped_run" [.var 6, .var 7, .var 8, .call "_law_spoilt" [.hnd 1, .var 6, .var 7, .var 8, .var 9]]) (.cst (.bool false))) [.ret (.cst (.bool false))] []
def g5 : C := .set 3 (.lc (.tup [.var 12, .var 13]) (.tp [12, 13]) (.idx (.varT 9) (.cst (.int 1))))
def g6 : C := .setF 4 (.lst [])
def j1 : C := .set 11 (.lcIf (.var 14) (.tp [14, 15]) (.enum (.varT 3)) (.cmp .mem (.varT 5) (.idx (.varT 15) (.cst (.int 0)))))
def j2 : C := .setF 4 (.bin .add (.varT 4) (.lc (.bin .sub (.idx (.varT 11) (.bin .add (.varT 14) (.cst (.int 1)))) (.idx (.varT 11) (.varT 14))) (.nm 14) (.rng1 (.bin .sub (.bi .len [.varT 11]) (.cst (.int 1))))))
def j3 : C := .app 4 (.ite (.cmp .ne (.varT 11) (.lst [])) (.bin .add (.idx (.varT 11) (.cst (.int 0))) (.cst (.int 1))) (.bin .add (.bi .len [.varT 3]) (.cst (.int 1))))
def j4 : C := .app 4 (.ite (.cmp .ne (.varT 11) (.lst [])) (.bin .sub (.bi .len [.varT 3]) (.idx (.varT 11) (.neg (.cst (.int 1))))) (.bin .add (.bi .len [.varT 3]) (.cst (.int 1))))
def gI : List C := [j1, j2, j3, j4]
def g8 : C := .ifs (.and (.cmp .gt (.varT 8) (.cst (.int 1))) (.cmp .ne (.bi .repr [.call "is_stopped_run" [.var 6, .var 7, .bin .sub (.varT 8) (.cst (.int 1)), .var 9]]) (.bi .repr [.or (.cmp .le (.bi .max [.varT 4]) (.bin .sub (.varT 8) (.cst (.int 1)))) (.cmp .lt (.bi .len [.varT 3]) (.bin .sub (.varT 8) (.cst (.int 1))))]))) [.ret (.cst (.bool false))] []
def gO : List C := [g1, g2, g3, g4, g5, g6, .for (.nm 5) (.rng1 (.bi .len [.idx (.varT 6) (.cst (.int 0))])) gI, g8]
theorem law_split : b_law = [.for (.nm 2) (.rng1 (.cst (.int 2))) gO, .ret (.cst (.bool true))] := rfl
theorem gap_run {t : Net} {d e : Nat} {ss : List (List Int)} {B : List Bt} (hB : B.length ≤ 100) {q : Nat} {G : List Int} (hG : G.length ≤ 800) {m : Nat} (dl : Deal) (x2 y10 x11 x12 x13 x14 x15 : NB.Slot) :
    exs (callN P m) gI [.non, .hnd 0, x2, .val (.list (B.map btD)), .own (G.map .int), .val (nD q), .val (netD t), .val (.int (d : Nat)), .val (.int (e : Nat)), .val (rnD ss B), y10, x11, x12, x13, x14, x15] [dl] = .ok (.nx, [.non, .hnd 0, x2, .val (.list (B.map btD)), .own ((G ++ gaps B q).map .int), .val (nD q), .val (netD t), .val (.int (d : Nat)), .val (.int (e : Nat)), .val (rnD ss B), y10, .val (.list ((mvs B q).map nD)), x12, x13, x14, x15]) [dl] := by
  have ml := mvs_len (B := B) (h := q)
  have s1 : ex (callN P m) j1 [.non, .hnd 0, x2, .val (.list (B.map btD)), .own (G.map .int), .val (nD q), .val (netD t), .val (.int (d : Nat)), .val (.int (e : Nat)), .val (rnD ss B), y10, x11, x12, x13, x14, x15] [dl] = .ok (.nx, [.non, .hnd 0, x2, .val (.list (B.map btD)), .own (G.map .int), .val (nD q), .val (netD t), .val (.int (d : Nat)), .val (.int (e : Nat)), .val (rnD ss B), y10, .val (.list ((mvs B q).map nD)), x12, x13, x14, x15]) [dl] := x_set_run (moves_ev (i := 14) (j := 15) (c := 5) (by omega) (ev_varT rfl) rfl fun k => ⟨_, rfl, rfl, rfl, rfl⟩) (by simp)
  have lp := lc_pure (tg := .nm 14) (f := ev (callN P m) (.bin .sub (.idx (.varT 11) (.bin .add (.varT 14) (.cst (.int 1)))) (.idx (.varT 11) (.varT 14)))) (v := [.non, .hnd 0, x2, .val (.list (B.map btD)), .own (G.map .int), .val (nD q), .val (netD t), .val (.int (d : Nat)), .val (.int (e : Nat)), .val (rnD ss B), y10, .val (.list ((mvs B q).map nD)), x12, x13, x14, x15]) (s := [dl]) (g := nD) (F := fun i => PyData.int ((((mvs B q).getD (i + 1) 0 : Nat) : Int) - (((mvs B q).getD i 0 : Nat) : Int))) (ps := List.range ((mvs B q).length - 1)) (acc := []) (fun i hi => ⟨_, rfl, by
    have hi := List.mem_range.mp hi
    have b1 : idxD (.list ((mvs B q).map nD)) (.int (i : Nat)) = some (nD ((mvs B q).getD i 0)) := at_map (by omega)
    have b2 : idxD (.list ((mvs B q).map nD)) (.int ((i + 1 : Nat) : Int)) = some (nD ((mvs B q).getD (i + 1) 0)) := at_map (by omega)
    exact ev_bin (ev_idx (ev_varT rfl) (ev_bin (ev_varT rfl) ev_cst (add_nat (b := 1))) b2) (ev_idx (ev_varT rfl) (ev_varT rfl) b1) rfl⟩) (by rw [List.length_range, List.length_nil]; exact sz (by omega))
  rw [List.nil_append] at lp
  have lE : PyData.list ((List.range ((mvs B q).length - 1)).map fun i => PyData.int ((((mvs B q).getD (i + 1) 0 : Nat) : Int) - (((mvs B q).getD i 0 : Nat) : Int))) = .list ((gapM B q).map .int) := by
    unfold gapM
    rw [List.map_map]
    rfl
  have r0 : ev (callN P m) (.rng1 (.bin .sub (.bi .len [.varT 11]) (.cst (.int 1)))) [.non, .hnd 0, x2, .val (.list (B.map btD)), .own (G.map .int), .val (nD q), .val (netD t), .val (.int (d : Nat)), .val (.int (e : Nat)), .val (rnD ss B), y10, .val (.list ((mvs B q).map nD)), x12, x13, x14, x15] [dl] = .ok (.list ((List.range ((mvs B q).length - 1)).map nD)) [dl] := by
    have := ev_rng1 (k := callN P m) (e := .bin .sub (.bi .len [.varT 11]) (.cst (.int 1))) (v := [.non, .hnd 0, x2, .val (.list (B.map btD)), .own (G.map .int), .val (nD q), .val (netD t), .val (.int (d : Nat)), .val (.int (e : Nat)), .val (rnD ss B), y10, .val (.list ((mvs B q).map nD)), x12, x13, x14, x15]) (s := [dl]) (s' := [dl]) (n := ((mvs B q).length : Int) - 1) (ev_bin (ev_bi1 rfl (ev_varT rfl) d_lenL) ev_cst (by rw [List.length_map]; rfl)) (rI_ok (by omega) (by omega))
    rw [show (((mvs B q).length : Int) - 1).toNat = (mvs B q).length - 1 by omega, rL_map] at this
    exact this
  have lc := ev_lc r0 rfl lp
  rw [lE] at lc
  have gml : (gapM B q).length ≤ 100 := by unfold gapM; rw [List.length_map, List.length_range]; omega
  have s2 : ex (callN P m) j2 [.non, .hnd 0, x2, .val (.list (B.map btD)), .own (G.map .int), .val (nD q), .val (netD t), .val (.int (d : Nat)), .val (.int (e : Nat)), .val (rnD ss B), y10, .val (.list ((mvs B q).map nD)), x12, x13, x14, x15] [dl] = .ok (.nx, [.non, .hnd 0, x2, .val (.list (B.map btD)), .own ((G ++ gapM B q).map .int), .val (nD q), .val (netD t), .val (.int (d : Nat)), .val (.int (e : Nat)), .val (rnD ss B), y10, .val (.list ((mvs B q).map nD)), x12, x13, x14, x15]) [dl] := x_setF_run (xs := (G ++ gapM B q).map .int) (ev_bin (ev_varT rfl) lc (by rw [addL (by rw [List.length_map, List.length_map]; exact sz (by omega)), List.map_append])) rfl
  have c : ∀ z, ev (callN P m) (.cmp .ne (.varT 11) (.lst [])) [.non, .hnd 0, x2, .val (.list (B.map btD)), z, .val (nD q), .val (netD t), .val (.int (d : Nat)), .val (.int (e : Nat)), .val (rnD ss B), y10, .val (.list ((mvs B q).map nD)), x12, x13, x14, x15] [dl] = .ok (.bool (!decide (mvs B q = []))) [dl] := fun z => ev_cmp (ev_varT rfl) (ev_lst q_Lnil (by decide)) ne_mo
  have f3 : ev (callN P m) (.ite (.cmp .ne (.varT 11) (.lst [])) (.bin .add (.idx (.varT 11) (.cst (.int 0))) (.cst (.int 1))) (.bin .add (.bi .len [.varT 3]) (.cst (.int 1)))) [.non, .hnd 0, x2, .val (.list (B.map btD)), .own ((G ++ gapM B q).map .int), .val (nD q), .val (netD t), .val (.int (d : Nat)), .val (.int (e : Nat)), .val (rnD ss B), y10, .val (.list ((mvs B q).map nD)), x12, x13, x14, x15] [dl] = .ok (.int (gapF B q)) [dl] := by
    have cc := c (.own ((G ++ gapM B q).map .int))
    unfold gapF
    by_cases hm : mvs B q = []
    · rw [decide_eq_true hm] at cc
      rw [if_pos hm]
      exact ev_ite_no cc (ev_bin (ev_bi1 rfl (ev_varT rfl) (by rw [d_lenL, List.length_map])) ev_cst rfl)
    · rw [decide_eq_false hm] at cc
      rw [if_neg hm]
      have hpos : 0 < (mvs B q).length := List.length_pos_iff.mpr hm
      have b1 : idxD (.list ((mvs B q).map nD)) (.int 0) = some (nD ((mvs B q).getD 0 0)) := at_map (i := 0) hpos
      exact ev_ite_yes cc (ev_bin (ev_idx (ev_varT rfl) ev_cst b1) ev_cst rfl)
  have f4 : ev (callN P m) (.ite (.cmp .ne (.varT 11) (.lst [])) (.bin .sub (.bi .len [.varT 3]) (.idx (.varT 11) (.neg (.cst (.int 1))))) (.bin .add (.bi .len [.varT 3]) (.cst (.int 1)))) [.non, .hnd 0, x2, .val (.list (B.map btD)), .own ((G ++ gapM B q ++ [gapF B q]).map .int), .val (nD q), .val (netD t), .val (.int (d : Nat)), .val (.int (e : Nat)), .val (rnD ss B), y10, .val (.list ((mvs B q).map nD)), x12, x13, x14, x15] [dl] = .ok (.int (gapL B q)) [dl] := by
    have cc := c (.own ((G ++ gapM B q ++ [gapF B q]).map .int))
    unfold gapL
    by_cases hm : mvs B q = []
    · rw [decide_eq_true hm] at cc
      rw [if_pos hm]
      exact ev_ite_no cc (ev_bin (ev_bi1 rfl (ev_varT rfl) (by rw [d_lenL, List.length_map])) ev_cst rfl)
    · rw [decide_eq_false hm] at cc
      rw [if_neg hm]
      have b1 : idxD (.list ((mvs B q).map nD)) (.int (-1)) = some (nD ((mvs B q).getD ((mvs B q).length - 1) 0)) := by
        have hpos : 0 < (mvs B q).length := List.length_pos_iff.mpr hm
        obtain ⟨l, y, hly⟩ : ∃ l y, mvs B q = l ++ [y] := ⟨(mvs B q).dropLast, (mvs B q).getLast hm, (List.dropLast_concat_getLast hm).symm⟩
        rw [hly, List.map_append, List.length_append, List.length_singleton, Nat.add_sub_cancel, getD_appR (Nat.le_refl _), Nat.sub_self]
        exact atD_last _ _
      exact ev_ite_yes cc (ev_bin (ev_bi1 rfl (ev_varT rfl) (by rw [d_lenL, List.length_map])) (ev_idx (ev_varT rfl) (ev_neg ev_cst) b1) rfl)
  have z1 : (G ++ gapM B q).length < sizeLine := Nat.lt_of_lt_of_le (show _ < 1000 by rw [List.length_append]; omega) (sz (Nat.le_refl _))
  have z2 : (G ++ gapM B q ++ [gapF B q]).length < sizeLine := Nat.lt_of_lt_of_le (show _ < 1000 by rw [List.length_append, List.length_append, List.length_singleton]; omega) (sz (Nat.le_refl _))
  have s3 : ex (callN P m) j3 [.non, .hnd 0, x2, .val (.list (B.map btD)), .own ((G ++ gapM B q).map .int), .val (nD q), .val (netD t), .val (.int (d : Nat)), .val (.int (e : Nat)), .val (rnD ss B), y10, .val (.list ((mvs B q).map nD)), x12, x13, x14, x15] [dl] = .ok (.nx, [.non, .hnd 0, x2, .val (.list (B.map btD)), .own ((G ++ gapM B q ++ [gapF B q]).map .int), .val (nD q), .val (netD t), .val (.int (d : Nat)), .val (.int (e : Nat)), .val (rnD ss B), y10, .val (.list ((mvs B q).map nD)), x12, x13, x14, x15]) [dl] := x_app_run f3 rfl (by rw [List.length_map]; exact z1) (by rw [List.map_append (l₂ := [gapF B q])]; rfl)
  have s4 : ex (callN P m) j4 [.non, .hnd 0, x2, .val (.list (B.map btD)), .own ((G ++ gapM B q ++ [gapF B q]).map .int), .val (nD q), .val (netD t), .val (.int (d : Nat)), .val (.int (e : Nat)), .val (rnD ss B), y10, .val (.list ((mvs B q).map nD)), x12, x13, x14, x15] [dl] = .ok (.nx, [.non, .hnd 0, x2, .val (.list (B.map btD)), .own ((G ++ gapM B q ++ [gapF B q] ++ [gapL B q]).map .int), .val (nD q), .val (netD t), .val (.int (d : Nat)), .val (.int (e : Nat)), .val (rnD ss B), y10, .val (.list ((mvs B q).map nD)), x12, x13, x14, x15]) [dl] := x_app_run f4 rfl (by rw [List.length_map]; exact z2) (by rw [List.map_append (l₂ := [gapL B q])]; rfl)
  have eG : G ++ gaps B q = G ++ gapM B q ++ [gapF B q] ++ [gapL B q] := by unfold gaps; simp only [List.append_assoc]
  rw [eG]
  exact xs_nx s1 (xs_nx s2 (xs_nx s3 (xs_nx s4 xs_nil)))
def allG (B : List Bt) (n : Nat) : List Int := (List.range n).flatMap (gaps B)
theorem allG_succ {B : List Bt} {n : Nat} : allG B (n + 1) = allG B n ++ gaps B n := by
  unfold allG
  rw [List.range_succ, List.flatMap_append]
  simp
theorem allG_len {B : List Bt} : ∀ n, (allG B n).length ≤ n * (B.length + 2)
  | 0 => Nat.zero_le _
  | n + 1 => by
    rw [allG_succ, List.length_append, Nat.succ_mul]
    have := allG_len (B := B) n
    have := gaps_len (B := B) (h := n)
    omega
theorem allG_iff {t : Net} {d e e' : Nat} {ss : List (List Int)} {B : List Bt} (I : SR t d e ss B) (he : 1 ≤ e') {M : Int} (hM : ∀ c, M ≤ c ↔ ∀ y ∈ allG B t.tops.length, y ≤ c) : spB t e' B = (decide (M ≤ (e' : Int)) || decide (B.length < e')) := by
  rw [I.spB', Bool.eq_iff_iff, List.all_eq_true, Bool.or_eq_true, decide_eq_true_eq, decide_eq_true_eq, hM]
  unfold allG
  constructor
  · intro z
    by_cases hl : B.length < e'
    · exact .inr hl
    · refine .inl fun y hy => ?_
      obtain ⟨h, hh, hy⟩ := List.mem_flatMap.mp hy
      rcases (gaps_iff he).mp (z h hh) with q | q
      · exact absurd q hl
      · exact q y hy
  · rintro (z | z) h hh
    · exact (gaps_iff he).mpr (.inr fun g hg => z g (List.mem_flatMap.mpr ⟨h, hh, hg⟩))
    · exact (gaps_iff he).mpr (.inl z)
theorem outer {m : Nat} (hm : 40 ≤ m) (dl : Deal) (x2 x3 x4 x5 x6 x7 x8 x9 x10 x11 x12 x13 x14 x15 : NB.Slot) : ∃ (d' : Deal) (y3 y4 y5 y6 y7 y8 y9 y10 y11 y12 y13 y14 y15 : NB.Slot), exs (callN P m) gO [.non, .hnd 0, x2, x3, x4, x5, x6, x7, x8, x9, x10, x11, x12, x13, x14, x15] [dl] = .ok (.nx, [.non, .hnd 0, x2, y3, y4, y5, y6, y7, y8, y9, y10, y11, y12, y13, y14, y15]) [d'] := by
  obtain ⟨x, d0, e0, hx⟩ := of_run (m := m) (by omega) (l := [PyData.int 2, PyData.int 9]) (by simp) (by simp) dl
  obtain ⟨top, rfl, ht1, ht2⟩ : ∃ top : Int, x = .int top ∧ 1 ≤ top ∧ top ≤ 63 := by
    simp only [List.mem_cons, List.not_mem_nil, or_false] at hx
    rcases hx with rfl | rfl
    · exact ⟨2, rfl, by decide, by decide⟩
    · exact ⟨9, rfl, by decide, by decide⟩
  obtain ⟨t, d1, e1, g⟩ := net_run (m := m) (by omega) (most := 5) (top := top) (by decide) (by decide) ht1 ht2 true d0
  have h := netH (by omega) (by decide) g
  have hle := h.le
  have hpos := h.pos
  obtain ⟨p, d2, e2, p0, p1⟩ := any_run (m := m) (by omega) (b := 3) (by decide) (by decide) d1
  obtain ⟨p, rfl⟩ := Int.eq_ofNat_of_zero_le p0
  obtain ⟨q, d3, e3, q0, q1⟩ := any_run (m := m) (by omega) (b := 4) (by decide) (by decide) d2
  obtain ⟨q, rfl⟩ := Int.eq_ofNat_of_zero_le q0
  obtain ⟨r, d4, e4, r0, r1⟩ := any_run (m := m) (by omega) (b := 12) (by decide) (by decide) d3
  obtain ⟨r, rfl⟩ := Int.eq_ofNat_of_zero_le r0
  obtain ⟨d, hd⟩ : ∃ d, d = 2 + p := ⟨_, rfl⟩
  obtain ⟨e, he⟩ : ∃ e, e = 1 + q := ⟨_, rfl⟩
  obtain ⟨ss, B, d5, e5, I, hBl⟩ := stopped_run h (d := d) (e := e) (nb := 1 + r) (by omega) (by omega) (by omega) (by omega) (m := m) (by omega) d4
  have hp : paB t.tops d (paD ss) = true := paB_of I.len I.st
  have h0 : ss ≠ [] := fun z => by have := I.len; rw [z] at this; simp at this; omega
  have hX := runT_ok h I.st h0 (B := B)
  have Xl : (runT t ss B).length = d + B.length := by rw [runT_len, I.len]
  have q1' := sr_ok (t := t) (d := d) (e := e) (m := m - 1) (s := [d5]) h (by omega) (by omega) (by omega) hp I.ok (by omega)
  rw [show m - 1 + 1 = m by omega, I.spB] at q1'
  have q2 := p_stopped_shown h (d := d) (by omega) (by omega) I.st I.len I.ok (by omega) (m := m) (by omega) (s := [d5])
  have nn := nice_pa h (ss := (runT t ss B).drop d) (fun s hs => hX s (List.mem_of_mem_drop hs))
  have rp := nn.repr (by decide) (by rw [List.length_drop]; omega)
  obtain ⟨bad, d6, e6, hbad⟩ := spoilt_run h (by omega) (by omega) I (by omega) (by omega) (by omega) (m := m) (by omega) d5
  have q3 := hbad m [d6] (by omega)
  have ad : binD .add (.int 2) (.int (p : Nat)) = some (.int (d : Nat)) := by rw [hd]; exact add_nat (a := 2) (b := p)
  have ae : binD .add (.int 1) (.int (q : Nat)) = some (.int (e : Nat)) := by rw [he]; exact add_nat (a := 1) (b := q)
  have s1 : ex (callN P m) g1 [.non, .hnd 0, x2, x3, x4, x5, x6, x7, x8, x9, x10, x11, x12, x13, x14, x15] [dl] = .ok (.nx, [.non, .hnd 0, x2, x3, x4, x5, .val (netD t), .val (.int (d : Nat)), .val (.int (e : Nat)), x9, x10, x11, x12, x13, x14, x15]) [d3] := x_parF_run (evL_nx rfl (ev_call (evA_hnd rfl (evA_nx rfl ev_cst (evA_nx rfl (ev_call (evA_hnd rfl (evA_nx rfl (ev_lst (evL_nx rfl ev_cst (evL_nx rfl ev_cst q_Lnil)) (sz (by simp))) q_Anil)) e0) (evA_nx rfl ev_cst q_Anil)))) e1) (evL_nx rfl (ev_bin ev_cst (ev_call (evA_hnd rfl (evA_nx rfl ev_cst q_Anil)) e2) ad) (evL_nx rfl (ev_bin ev_cst (ev_call (evA_hnd rfl (evA_nx rfl ev_cst q_Anil)) e3) ae) q_Lnil))) rfl
  have s2 : ex (callN P m) g2 [.non, .hnd 0, x2, x3, x4, x5, .val (netD t), .val (.int (d : Nat)), .val (.int (e : Nat)), x9, x10, x11, x12, x13, x14, x15] [d3] = .ok (.nx, [.non, .hnd 0, x2, x3, x4, x5, .val (netD t), .val (.int (d : Nat)), .val (.int (e : Nat)), .val (rnD ss B), .val (.list (((runT t ss B).drop d).map roD)), x11, x12, x13, x14, x15]) [d5] := x_tgt_run (ev_call (evA_hnd rfl (evA_nx rfl (ev_var rfl) (evA_nx rfl (ev_var rfl) (evA_nx rfl (ev_var rfl) (evA_nx rfl (ev_bin ev_cst (ev_call (evA_hnd rfl (evA_nx rfl ev_cst q_Anil)) e4) (add_nat (a := 1))) q_Anil))))) e5) rfl
  have s3 : ex (callN P m) g3 [.non, .hnd 0, x2, x3, x4, x5, .val (netD t), .val (.int (d : Nat)), .val (.int (e : Nat)), .val (rnD ss B), .val (.list (((runT t ss B).drop d).map roD)), x11, x12, x13, x14, x15] [d5] = .ok (.nx, [.non, .hnd 0, x2, x3, x4, x5, .val (netD t), .val (.int (d : Nat)), .val (.int (e : Nat)), .val (rnD ss B), .val (.list (((runT t ss B).drop d).map roD)), x11, x12, x13, x14, x15]) [d5] := ex_ifs_no (ev_or_no (ev_cmp (ev_callK (evA_nx rfl (ev_var rfl) (evA_nx rfl (ev_var rfl) (evA_nx rfl (ev_var rfl) (evA_nx rfl (ev_var rfl) q_Anil)))) rfl q1') ev_cst d_isnotB) (ev_cmp (ev_bi1 rfl (ev_callK (evA_nx rfl (ev_var rfl) (evA_nx rfl (ev_var rfl) (evA_nx rfl (ev_var rfl) q_Anil))) rfl q2) rp) (ev_bi1 rfl (ev_bi1 rfl (ev_varT rfl) d_tupL) rp) ne_str))
  have s4 : ex (callN P m) g4 [.non, .hnd 0, x2, x3, x4, x5, .val (netD t), .val (.int (d : Nat)), .val (.int (e : Nat)), .val (rnD ss B), .val (.list (((runT t ss B).drop d).map roD)), x11, x12, x13, x14, x15] [d5] = .ok (.nx, [.non, .hnd 0, x2, x3, x4, x5, .val (netD t), .val (.int (d : Nat)), .val (.int (e : Nat)), .val (rnD ss B), .val (.list (((runT t ss B).drop d).map roD)), x11, x12, x13, x14, x15]) [d6] := ex_ifs_no (ev_cmp (ev_call (evA_nx rfl (ev_var rfl) (evA_nx rfl (ev_var rfl) (evA_nx rfl (ev_var rfl) (evA_nx rfl (ev_call (evA_hnd rfl (evA_nx rfl (ev_var rfl) (evA_nx rfl (ev_var rfl) (evA_nx rfl (ev_var rfl) (evA_nx rfl (ev_var rfl) q_Anil))))) e6) q_Anil)))) q3) ev_cst d_isnotB)
  have i1 : idxD (rnD ss B) (.int 1) = some (.tuple (B.map btD)) := ix1
  have lp := lc_pure (tg := .tp [12, 13]) (f := ev (callN P m) (.tup [.var 12, .var 13])) (v := [.non, .hnd 0, x2, x3, x4, x5, .val (netD t), .val (.int (d : Nat)), .val (.int (e : Nat)), .val (rnD ss B), .val (.list (((runT t ss B).drop d).map roD)), x11, x12, x13, x14, x15]) (s := [d6]) (g := btD) (F := btD) (ps := B) (acc := []) (fun b hb => ⟨_, rfl, ev_tup (evL_nx rfl (ev_var rfl) (evL_nx rfl (ev_var rfl) q_Lnil)) (sz (by simp))⟩) (by rw [List.length_nil]; exact sz (by omega))
  rw [List.nil_append] at lp
  have s5 : ex (callN P m) g5 [.non, .hnd 0, x2, x3, x4, x5, .val (netD t), .val (.int (d : Nat)), .val (.int (e : Nat)), .val (rnD ss B), .val (.list (((runT t ss B).drop d).map roD)), x11, x12, x13, x14, x15] [d6] = .ok (.nx, [.non, .hnd 0, x2, .val (.list (B.map btD)), x4, x5, .val (netD t), .val (.int (d : Nat)), .val (.int (e : Nat)), .val (rnD ss B), .val (.list (((runT t ss B).drop d).map roD)), x11, x12, x13, x14, x15]) [d6] := x_set_run (ev_lc (ev_idx (ev_varT rfl) ev_cst i1) rfl lp) (by simp)
  have s6 : ex (callN P m) g6 [.non, .hnd 0, x2, .val (.list (B.map btD)), x4, x5, .val (netD t), .val (.int (d : Nat)), .val (.int (e : Nat)), .val (rnD ss B), .val (.list (((runT t ss B).drop d).map roD)), x11, x12, x13, x14, x15] [d6] = .ok (.nx, [.non, .hnd 0, x2, .val (.list (B.map btD)), .own [], x5, .val (netD t), .val (.int (d : Nat)), .val (.int (e : Nat)), .val (rnD ss B), .val (.list (((runT t ss B).drop d).map roD)), x11, x12, x13, x14, x15]) [d6] := x_setF_run (ev_lst q_Lnil (by decide)) rfl
  obtain ⟨v', s', loop, rfl, y5, y11, rfl⟩ := for_inv (g := .nm 5) (b := exs (callN P m) gI) (fun k v s => s = [d6] ∧ ∃ y5 y11, v = [.non, .hnd 0, x2, .val (.list (B.map btD)), .own ((allG B k).map .int), y5, .val (netD t), .val (.int (d : Nat)), .val (.int (e : Nat)), .val (rnD ss B), .val (.list (((runT t ss B).drop d).map roD)), y11, x12, x13, x14, x15])
    (xs := rL t.tops.length) (j := 0) (v := [.non, .hnd 0, x2, .val (.list (B.map btD)), .own [], x5, .val (netD t), .val (.int (d : Nat)), .val (.int (e : Nat)), .val (rnD ss B), .val (.list (((runT t ss B).drop d).map roD)), x11, x12, x13, x14, x15]) (s := [d6])
    (fun k x v s hx hI => by
      obtain ⟨rfl, y5, y11, rfl⟩ := hI
      obtain ⟨hk, rfl⟩ := rL_get hx
      rw [Nat.zero_add]
      have ll := allG_len (B := B) k
      have hkk : k * (B.length + 2) ≤ 4 * 15 := Nat.mul_le_mul (by omega) (by omega)
      have e := gap_run (t := t) (d := d) (e := e) (ss := ss) (B := B) (by omega) (q := k) (G := allG B k) (by omega) (m := m) d6 x2 (.val (.list (((runT t ss B).drop d).map roD))) y11 x12 x13 x14 x15
      rw [← allG_succ] at e
      exact ⟨_, rfl, _, _, .inl e, rfl, _, _, rfl⟩)
    ⟨rfl, _, _, rfl⟩
  rw [Nat.zero_add, rL_len] at loop
  have s8 : ex (callN P m) g8 [.non, .hnd 0, x2, .val (.list (B.map btD)), .own ((allG B t.tops.length).map .int), y5, .val (netD t), .val (.int (d : Nat)), .val (.int (e : Nat)), .val (rnD ss B), .val (.list (((runT t ss B).drop d).map roD)), y11, x12, x13, x14, x15] [d6] = .ok (.nx, [.non, .hnd 0, x2, .val (.list (B.map btD)), .own ((allG B t.tops.length).map .int), y5, .val (netD t), .val (.int (d : Nat)), .val (.int (e : Nat)), .val (rnD ss B), .val (.list (((runT t ss B).drop d).map roD)), y11, x12, x13, x14, x15]) [d6] := by
    by_cases h1 : 1 < e
    · have hne : allG B t.tops.length ≠ [] := fun z => by
        obtain ⟨n, hn⟩ : ∃ n, t.tops.length = n + 1 := ⟨t.tops.length - 1, by omega⟩
        rw [hn, allG_succ] at z
        have := congrArg List.length z
        rw [List.length_append] at this
        unfold gaps at this
        simp at this
      obtain ⟨M, eM, hM⟩ := max_ev hne
      have q4 := sr_ok (t := t) (d := d) (e := e - 1) (m := m - 1) (s := [d6]) h (by omega) (by omega) (by omega) hp I.ok (by omega)
      rw [show m - 1 + 1 = m by omega] at q4
      have hsp := allG_iff I (e' := e - 1) (by omega) hM
      have hs : binD .sub (.int (e : Nat)) (.int 1) = some (.int ((e - 1 : Nat) : Int)) := by
        show some (PyData.int ((e : Int) - 1)) = _
        congr 2
        omega
      have c1 : cmpD .gt (.int (e : Nat)) (.int 1) = some true := by
        show some (decide ((1 : Int) < (e : Int))) = _
        rw [decide_eq_true (by omega)]
      have c2 : ev (callN P m) (.cmp .le (.bi .max [.varT 4]) (.bin .sub (.varT 8) (.cst (.int 1)))) [.non, .hnd 0, x2, .val (.list (B.map btD)), .own ((allG B t.tops.length).map .int), y5, .val (netD t), .val (.int (d : Nat)), .val (.int (e : Nat)), .val (rnD ss B), .val (.list (((runT t ss B).drop d).map roD)), y11, x12, x13, x14, x15] [d6] = .ok (.bool (decide (M ≤ ((e - 1 : Nat) : Int)))) [d6] := ev_cmp (ev_bi1 rfl (ev_varT rfl) eM) (ev_bin (ev_varT rfl) ev_cst hs) rfl
      have c3 : ev (callN P m) (.cmp .lt (.bi .len [.varT 3]) (.bin .sub (.varT 8) (.cst (.int 1)))) [.non, .hnd 0, x2, .val (.list (B.map btD)), .own ((allG B t.tops.length).map .int), y5, .val (netD t), .val (.int (d : Nat)), .val (.int (e : Nat)), .val (rnD ss B), .val (.list (((runT t ss B).drop d).map roD)), y11, x12, x13, x14, x15] [d6] = .ok (.bool (decide (B.length < e - 1))) [d6] := ev_cmp (ev_bi1 rfl (ev_varT rfl) (by rw [d_lenL, List.length_map])) (ev_bin (ev_varT rfl) ev_cst hs) (by
        show some (decide ((B.length : Int) < ((e - 1 : Nat) : Int))) = _
        congr 1
        exact decide_eq_decide.mpr (by omega))
      have c4 : ev (callN P m) (.or (.cmp .le (.bi .max [.varT 4]) (.bin .sub (.varT 8) (.cst (.int 1)))) (.cmp .lt (.bi .len [.varT 3]) (.bin .sub (.varT 8) (.cst (.int 1))))) [.non, .hnd 0, x2, .val (.list (B.map btD)), .own ((allG B t.tops.length).map .int), y5, .val (netD t), .val (.int (d : Nat)), .val (.int (e : Nat)), .val (rnD ss B), .val (.list (((runT t ss B).drop d).map roD)), y11, x12, x13, x14, x15] [d6] = .ok (.bool (spB t (e - 1) B)) [d6] := by
        rw [hsp]
        cases hc : decide (M ≤ ((e - 1 : Nat) : Int)) with
        | true =>
          rw [hc] at c2
          exact ev_or_yes c2
        | false =>
          rw [hc] at c2
          exact ev_or_then c2 c3
      exact ex_ifs_no (ev_and_yes (ev_cmp (ev_varT rfl) ev_cst c1) (ev_cmp (ev_bi1 rfl (ev_call (evA_nx rfl (ev_var rfl) (evA_nx rfl (ev_var rfl) (evA_nx rfl (ev_bin (ev_varT rfl) ev_cst hs) (evA_nx rfl (ev_var rfl) q_Anil)))) q4) (repr_bool _)) (ev_bi1 rfl c4 (repr_bool _)) ne_str))
    · have c1 : cmpD .gt (.int (e : Nat)) (.int 1) = some false := by
        show some (decide ((1 : Int) < (e : Int))) = _
        rw [decide_eq_false (by omega)]
      exact ex_ifs_no (ev_and_no (ev_cmp (ev_varT rfl) ev_cst c1))
  have rg : ev (callN P m) (.rng1 (.bi .len [.idx (.varT 6) (.cst (.int 0))])) [.non, .hnd 0, x2, .val (.list (B.map btD)), .own [], x5, .val (netD t), .val (.int (d : Nat)), .val (.int (e : Nat)), .val (rnD ss B), .val (.list (((runT t ss B).drop d).map roD)), x11, x12, x13, x14, x15] [d6] = .ok (.list (rL t.tops.length)) [d6] := ev_rng1 (ev_bi1 rfl (ev_idx (ev_varT rfl) ev_cst net_ix0) len_net) (rL_ok (by omega))
  exact ⟨d6, _, _, _, _, _, _, _, _, _, _, _, _, _, xs_nx s1 (xs_nx s2 (xs_nx s3 (xs_nx s4 (xs_nx s5 (xs_nx s6 (xs_nx (x_for_run rg rfl loop) (xs_nx s8 xs_nil)))))))⟩
theorem runs : Runs P 80 N_law.length 52 b_law := by
  intro ns hl
  obtain ⟨dl, e1, h1, h2⟩ := draw_run (m := 80) (by decide) (sa := 52) (by decide) (by decide) ns hl
  refine ⟨dl, e1, h1, h2, ?_⟩
  obtain ⟨v', s', loop, ⟨dE, rfl⟩, x2, x3, x4, x5, x6, x7, x8, x9, x10, x11, x12, x13, x14, x15, rfl⟩ := for_inv (g := .nm 2) (b := exs (callN P 80) gO) (fun k v s => (∃ d, s = [d]) ∧ ∃ x2 x3 x4 x5 x6 x7 x8 x9 x10 x11 x12 x13 x14 x15, v = [.non, .hnd 0, x2, x3, x4, x5, x6, x7, x8, x9, x10, x11, x12, x13, x14, x15])
    (xs := rL 2) (j := 0) (v := [.non, .hnd 0, .non, .non, .non, .non, .non, .non, .non, .non, .non, .non, .non, .non, .non, .non]) (s := [dl])
    (fun k x v s hx hI => by
      obtain ⟨⟨d, rfl⟩, x2, x3, x4, x5, x6, x7, x8, x9, x10, x11, x12, x13, x14, x15, rfl⟩ := hI
      obtain ⟨d', y3, y4, y5, y6, y7, y8, y9, y10, y11, y12, y13, y14, y15, e⟩ := outer (m := 80) (by decide) d (.val x) x3 x4 x5 x6 x7 x8 x9 x10 x11 x12 x13 x14 x15
      exact ⟨_, rfl, _, _, .inl e, ⟨d', rfl⟩, _, _, _, _, _, _, _, _, _, _, _, _, _, _, rfl⟩)
    ⟨⟨dl, rfl⟩, _, _, _, _, _, _, _, _, _, _, _, _, _, _, rfl⟩
  refine ⟨[.non, .hnd 0, x2, x3, x4, x5, x6, x7, x8, x9, x10, x11, x12, x13, x14, x15], [dE], ?_⟩
  rw [law_split]
  exact xs_nx (x_for_run (ev_rng1 ev_cst (rL_ok (n := 2) (by decide))) rfl loop) (exs_ret ev_cst)
end K52
theorem PySem.Challenge.cw_newsbehind_k52_stopped_runs_holds : PySem.Challenge.rw_newsbehind_k52_stopped_runs.Holds := by
  exact K52.holds_of K52.runs
