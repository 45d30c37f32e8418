import PyProof.Rows.All
import Wide.All
import OpenK.AllK
import Wide.FinOn
import PySem.Challenge.RW_heapsmeet_k56_how_many_are_enough
import HandS.ForMost
import HandS.TupAny
import HandS.TupMul
import HandS.Walk
import HandS.Zip
import HandS.IsInst
import HandS.Deep
import HandS.Conv
import HandS.Style
import HandS.Wide
import KE.SortData
import KE.DatumIndex
import KE.GoesNew
import HandS.Words
import HandS.Ends
set_option Elab.async false
set_option linter.all false
set_option maxRecDepth 100000
/-! a small language of values: what the text's expressions and statements do, told over plain data -/
namespace G
open PySem

/-- the tape of drawn numbers, where there is one -/
abbrev Tp := Option (List Int)
inductive Slot where
  | val (d : PyData)
  | own (xs : List PyData)
  | own2 (xss : List (List PyData))
  | scr (ns : List Int)
abbrev Env := List (Option Slot)
def getS : Env → Nat → Option Slot
  | [], _ => none
  | s :: _, 0 => s
  | _ :: r, n + 1 => getS r n
def setS : Env → Nat → Option Slot → Env
  | [], _, _ => []
  | _ :: r, 0, x => x :: r
  | s :: r, n + 1, x => s :: setS r n x
def wipeS : Env → List Nat → Env
  | e, [] => e
  | e, v :: vs => setS (wipeS e vs) v none

/-- the tape as a value -/
def tapeD : PyData := .dict [(.none, .none)]

inductive Op2 where
  | add | sub | mul | fdiv | mod | pow | lt | le | gt | ge | eq | ne | is | isn | inn | nin
  deriving DecidableEq
inductive Bi where
  | len | abs | min2 | max2 | min1 | max1 | sum | all | int | list | tuple | sorted | repr
  deriving DecidableEq
inductive Ty where
  | int | bool | tuple | list | str | dict
  deriving DecidableEq
inductive Tg where
  | nm (i : Nat)
  | tup (is : List Nat)
  deriving DecidableEq

inductive Ex where
  | var (i : Nat) | own (i : Nat)
  | int (n : Int) | bl (b : Bool) | non | str (s : Str) | glob (x : Str) (n : Int)
  | nil | cons (a as : Ex)
  | tup (as : Ex) | lst (as : Ex)
  | op (o : Op2) (a b : Ex) | neg (a : Ex) | not (a : Ex) | and (a b : Ex) | or (a b : Ex) | ife (c a b : Ex)
  | chain (o p : Op2) (a b c : Ex)
  | call (f : Nat) (as : Ex) | draw (i : Nat)
  | bi (b : Bi) (as : Ex) | isi (a : Ex) (ty : Ty)
  | idx (a b : Ex) | sl (a lo hi : Ex) | rev (a : Ex) | index (a b : Ex)
  | iseq (a : Ex) | irng1 (a : Ex) | irng2 (a b : Ex) | izip (a b : Ex) | ienum (a : Ex)
  | lrng (r : Ex) | trng (r : Ex) | slen (i : Nat) | sidx (i : Nat) (a : Ex)
  | comp (el : Ex) (tg : Tg) (it : Ex) (c : Ex) (own : List Nat)
  deriving DecidableEq

/-! ### the plain operations -/
def mulOk (i j : Int) : Prop := i.natAbs.log2 + j.natAbs.log2 < 134000000
def divOk (i j : Int) : Prop := j ≠ 0 ∧ Builtin.divisionGoesByPylong i j = false
def eqOk (d : PyData) : Prop := SeqAt.shaped d = true
def flatD : PyData → Bool
  | .none => true
  | .bool _ => true
  | .int _ => true
  | .str _ => true
  | _ => false
def eqF : PyData → PyData → Bool
  | .int i, .int j => i == j
  | .str x, .str y => x == y
  | .bool a, .bool b => a == b
  | .none, .none => true
  | _, _ => false
def inD (x : PyData) (ys : List PyData) : Bool := ys.any fun y => PyData.eqv y x
def isNoneD : PyData → Bool
  | .none => true
  | _ => false
def opW : Op2 → PyData → PyData → (PyData → Prop) → Prop
  | .add, .int i, .int j, K => K (.int (i + j))
  | .add, .list xs, .list ys, K => xs.length + ys.length ≤ sizeLine ∧ K (.list (xs ++ ys))
  | .add, .tuple xs, .tuple ys, K => xs.length + ys.length ≤ sizeLine ∧ K (.tuple (xs ++ ys))
  | .sub, .int i, .int j, K => K (.int (i - j))
  | .mul, .int i, .int j, K => mulOk i j ∧ K (.int (i * j))
  | .mul, .list xs, .int k, K => -(2 ^ 63) ≤ k ∧ k < 2 ^ 63 ∧ xs.length * k.toNat ≤ sizeLine ∧ K (.list (List.replicate k.toNat xs).flatten)
  | .mul, .tuple xs, .int k, K => xs ≠ [] ∧ -1000 ≤ k ∧ k ≤ 1000 ∧ xs.length ≤ 1000 ∧ K (.tuple (List.replicate k.toNat xs).flatten)
  | .fdiv, .int i, .int j, K => divOk i j ∧ K (.int (i.fdiv j))
  | .mod, .int i, .int j, K => j ≠ 0 ∧ K (.int (i.fmod j))
  | .pow, .int i, .int j, K => (0 ≤ j ∧ j ≤ 1000000 ∧ i.natAbs < 2 ^ 64) ∧ K (.int (i ^ j.toNat))
  | .lt, .int i, .int j, K => K (.bool (decide (i < j)))
  | .le, .int i, .int j, K => K (.bool (decide (i ≤ j)))
  | .gt, .int i, .int j, K => K (.bool (decide (j < i)))
  | .ge, .int i, .int j, K => K (.bool (decide (j ≤ i)))
  | .eq, d, e, K => eqOk d ∧ eqOk e ∧ K (.bool (PyData.eqv d e))
  | .ne, d, e, K => eqOk d ∧ eqOk e ∧ K (.bool (!PyData.eqv d e))
  | .is, d, .none, K => K (.bool (isNoneD d))
  | .isn, d, .none, K => K (.bool (!isNoneD d))
  | .is, .bool a, .bool b, K => K (.bool (decide (a = b)))
  | .isn, .bool a, .bool b, K => K (.bool (!decide (a = b)))
  | .inn, d, .list ys, K => flatD d = true ∧ ys.all flatD = true ∧ K (.bool (inD d ys))
  | .inn, d, .tuple ys, K => flatD d = true ∧ ys.all flatD = true ∧ K (.bool (inD d ys))
  | .nin, d, .list ys, K => flatD d = true ∧ ys.all flatD = true ∧ K (.bool (!inD d ys))
  | .nin, d, .tuple ys, K => flatD d = true ∧ ys.all flatD = true ∧ K (.bool (!inD d ys))
  | _, _, _, _ => False
def atD (xs : List PyData) (i : Int) : Option PyData := L2.atI xs i
def cutL {α : Type} (xs : List α) (lo hi : Option Int) : List α := (xs.drop (HT.sIx xs.length 0 lo)).take (HT.sIx xs.length xs.length hi - HT.sIx xs.length 0 lo)
def idxW : PyData → PyData → (PyData → Prop) → Prop
  | .list xs, .int i, K => match L2.atI xs i with | some d => K d | none => False
  | .tuple xs, .int i, K => match L2.atI xs i with | some d => K d | none => False
  | _, _, _ => False
def partW : PyData → (Option Int → Prop) → Prop
  | .none, K => K none
  | .int i, K => K (some i)
  | _, _ => False
def slW : PyData → Option Int → Option Int → (PyData → Prop) → Prop
  | .list xs, lo, hi, K => K (.list (cutL xs lo hi))
  | .tuple xs, lo, hi, K => K (.tuple (cutL xs lo hi))
  | _, _, _, _ => False
/-- ints out of data -/
def intsOf : List PyData → Option (List Int)
  | [] => some []
  | .int i :: r => (intsOf r).map (i :: ·)
  | _ :: _ => none
def boolsOf : List PyData → Option (List Bool)
  | [] => some []
  | .bool i :: r => (boolsOf r).map (i :: ·)
  | _ :: _ => none
def minL : Int → List Int → Int
  | m, [] => m
  | m, x :: r => minL (if x < m then x else m) r
def maxL : Int → List Int → Int
  | m, [] => m
  | m, x :: r => maxL (if m < x then x else m) r
def biW : Bi → List PyData → (PyData → Prop) → Prop
  | .len, [.list xs], K => K (.int xs.length)
  | .len, [.tuple xs], K => K (.int xs.length)
  | .abs, [.int i], K => K (.int (if i < 0 then -i else i))
  | .min2, [.int i, .int j], K => K (.int (if j < i then j else i))
  | .max2, [.int i, .int j], K => K (.int (if j > i then j else i))
  | .min1, [.list xs], K => match intsOf xs with | some (n :: ns) => K (.int (minL n ns)) | _ => False
  | .max1, [.list xs], K => match intsOf xs with | some (n :: ns) => K (.int (maxL n ns)) | _ => False
  | .sum, [.list xs], K => match intsOf xs with | some ns => K (.int ns.sum) | none => False
  | .all, [.list xs], K => match boolsOf xs with | some bs => K (.bool (bs.all id)) | none => False
  | .int, [.bool b], K => K (.int (if b then 1 else 0))
  | .int, [.int i], K => K (.int i)
  | .list, [.list xs], K => K (.list xs)
  | .list, [.tuple xs], K => K (.list xs)
  | .tuple, [.list xs], K => K (.tuple xs)
  | .tuple, [.tuple xs], K => K (.tuple xs)
  | .sorted, [.list xs], K => W.AllAlike xs ∧ W.Sortable xs ∧ (∀ d ∈ xs, d.hasDict = false ∧ d.depth ≤ 60) ∧ K (.list (xs.mergeSort (W.dataLe false id)))
  | .repr, [d], K => d.showable = true ∧ d.hasDict = false ∧ d.depth ≤ 60 ∧ d.shown.length + 64 ≤ sizeLine ∧ K (.str d.shown)
  | _, _, _ => False
def isiD : PyData → Ty → Bool
  | .int _, .int => true
  | .bool _, .int => true
  | .bool _, .bool => true
  | .tuple _, .tuple => true
  | .list _, .list => true
  | .str _, .str => true
  | .dict _, .dict => true
  | _, _ => false
def rngD (lo : Int) (n : Nat) : List PyData := (List.range n).map fun k => .int (lo + (k : Nat))
def zipD : List PyData → List PyData → List PyData
  | x :: xs, y :: ys => .tuple [x, y] :: zipD xs ys
  | _, _ => []
def enumD : Nat → List PyData → List PyData
  | _, [] => []
  | n, x :: xs => .tuple [.int (n : Nat), x] :: enumD (n + 1) xs
/-- where b stands in a list, by == -/
def findD (x : PyData) : List PyData → Option Nat
  | [] => none
  | y :: r => if PyData.eqv y x = true then some 0 else (findD x r).map (· + 1)

/-- own defs: number, arguments, tape, what is wanted of the value and the tape -/
abbrev Cal := Nat → List PyData → Tp → (PyData → Tp → Prop) → Prop

def setAll : Env → List Nat → List PyData → Env
  | e, i :: is, d :: ds => setAll (setS e i (some (.val d))) is ds
  | e, _, _ => e
def bindT : Tg → PyData → Env → (Env → Prop) → Prop
  | .nm i, d, e, K => K (setS e i (some (.val d)))
  | .tup is, .tuple ds, e, K => ds.length = is.length ∧ K (setAll e is ds)
  | .tup _, _, _, _ => False
/-- a comprehension's turns -/
def compW (f : PyData → Tp → (Option PyData → Tp → Prop) → Prop) : List PyData → List PyData → Tp → (List PyData → Tp → Prop) → Prop
  | [], acc, t, K => K acc t
  | d :: ds, acc, t, K => f d t fun o t' => compW f ds (match o with | some x => acc ++ [x] | none => acc) t' K
/-- a for's turns -/
def forW (f : PyData → Env → Tp → (Env → Tp → Prop) → Prop) : List PyData → Env → Tp → (Env → Tp → Prop) → Prop
  | [], e, t, K => K e t
  | d :: ds, e, t, K => f d e t fun e' t' => forW f ds e' t' K
/-- a while's turns, so many at most -/
def whileW (c : Env → Tp → (Bool → Tp → Prop) → Prop) (f : Env → Tp → (Env → Tp → Prop) → Prop) (K : Env → Tp → Prop) : Nat → Env → Tp → Prop
  | 0, _, _ => False
  | n + 1, e, t => c e t fun b t' => if b = true then f e t' (whileW c f K n) else K e t'
def boolW (d : PyData) (K : Bool → Prop) : Prop := match d with | .bool b => K b | _ => False
def listW (d : PyData) (K : List PyData → Prop) : Prop := match d with | .list xs => K xs | _ => False
def seqW (d : PyData) (K : List PyData → Prop) : Prop := match d with | .list xs => K xs | .tuple xs => K xs | _ => False
def intW (d : PyData) (K : Int → Prop) : Prop := match d with | .int i => K i | _ => False

def evE (c : Cal) : Ex → Env → Tp → (PyData → Tp → Prop) → Prop
  | .var i, e, t, K => match getS e i with | some (.val d) => K d t | _ => False
  | .own i, e, t, K => match getS e i with | some (.own xs) => K (.list xs) t | _ => False
  | .slen i, e, t, K => match getS e i with | some (.scr ns) => K (.int ns.length) t | _ => False
  | .sidx i a, e, t, K => match getS e i with | some (.scr ns) => evE c a e t fun x t1 => intW x fun k => (match L2.atI ns k with | some n => K (.int n) t1 | none => False) | _ => False
  | .int n, _, t, K => K (.int n) t
  | .bl b, _, t, K => K (.bool b) t
  | .non, _, t, K => K .none t
  | .str s, _, t, K => K (.str s) t
  | .glob _ n, _, t, K => K (.int n) t
  | .nil, _, t, K => K (.list []) t
  | .cons a as, e, t, K => evE c a e t fun d t1 => evE c as e t1 fun l t2 => listW l fun ds => K (.list (d :: ds)) t2
  | .tup as, e, t, K => evE c as e t fun l t1 => listW l fun ds => ds.length ≤ sizeLine ∧ K (.tuple ds) t1
  | .lst as, e, t, K => evE c as e t fun l t1 => listW l fun ds => ds.length ≤ sizeLine ∧ K (.list ds) t1
  | .op o a b, e, t, K => evE c a e t fun x t1 => evE c b e t1 fun y t2 => opW o x y fun z => K z t2
  | .neg a, e, t, K => evE c a e t fun x t1 => intW x fun i => K (.int (-i)) t1
  | .not a, e, t, K => evE c a e t fun x t1 => boolW x fun b => K (.bool (!b)) t1
  | .and a b, e, t, K => evE c a e t fun x t1 => boolW x fun p => if p = true then evE c b e t1 fun y t2 => boolW y fun q => K (.bool q) t2 else K (.bool false) t1
  | .or a b, e, t, K => evE c a e t fun x t1 => boolW x fun p => if p = true then K (.bool true) t1 else evE c b e t1 fun y t2 => boolW y fun q => K (.bool q) t2
  | .ife g a b, e, t, K => evE c g e t fun x t1 => boolW x fun p => if p = true then evE c a e t1 K else evE c b e t1 K
  | .chain o p a b d, e, t, K => evE c a e t fun x t1 => evE c b e t1 fun y t2 => opW o x y fun z => boolW z fun q => if q = true then evE c d e t2 fun w t3 => opW p y w fun z2 => boolW z2 fun q2 => K (.bool q2) t3 else K (.bool false) t2
  | .call f as, e, t, K => evE c as e t fun l t1 => listW l fun ds => c f ds t1 K
  | .draw i, e, t, K => match getS e i, t with
    | some (.val (.dict [(.none, .none)])), some [] => K (.int 0) (some [])
    | some (.val (.dict [(.none, .none)])), some (n :: ns) => K (.int n) (some ns)
    | _, _ => False
  | .bi b as, e, t, K => evE c as e t fun l t1 => listW l fun ds => biW b ds fun z => K z t1
  | .isi a ty, e, t, K => evE c a e t fun x t1 => x ≠ tapeD ∧ K (.bool (isiD x ty)) t1
  | .idx a b, e, t, K => evE c a e t fun x t1 => evE c b e t1 fun y t2 => idxW x y fun z => K z t2
  | .sl a lo hi, e, t, K => evE c a e t fun x t1 => evE c lo e t1 fun l t2 => partW l fun lo' => evE c hi e t2 fun h t3 => partW h fun hi' => slW x lo' hi' fun z => K z t3
  | .rev a, e, t, K => evE c a e t fun x t1 => listW x fun xs => K (.list xs.reverse) t1
  | .index a b, e, t, K => evE c a e t fun x t1 => listW x fun xs => evE c b e t1 fun y t2 => (xs.all flatD = true ∧ flatD y = true) ∧ match findD y xs with | some j => K (.int (j : Nat)) t2 | none => False
  | .iseq a, e, t, K => evE c a e t fun x t1 => seqW x fun xs => K (.list xs) t1
  | .irng1 a, e, t, K => evE c a e t fun x t1 => intW x fun j => (-16777216 ≤ j ∧ j ≤ 16777216) ∧ K (.list (rngD 0 j.toNat)) t1
  | .irng2 a b, e, t, K => evE c a e t fun x t1 => intW x fun i => evE c b e t1 fun y t2 => intW y fun j => (0 ≤ i ∧ i ≤ 16777216 ∧ -16777216 ≤ j ∧ j ≤ 16777216) ∧ K (.list (rngD i (j - i).toNat)) t2
  | .izip a b, e, t, K => evE c a e t fun x t1 => seqW x fun xs => evE c b e t1 fun y t2 => seqW y fun ys => K (.list (zipD xs ys)) t2
  | .ienum a, e, t, K => evE c a e t fun x t1 => seqW x fun xs => K (.list (enumD 0 xs)) t1
  | .lrng r, e, t, K => evE c r e t K
  | .trng r, e, t, K => evE c r e t fun l t1 => listW l fun ds => K (.tuple ds) t1
  | .comp el tg it g own, e, t, K => evE c it e t fun l t1 => listW l fun items =>
      compW (fun d t K2 => bindT tg d (wipeS e own) fun e2 => evE c g e2 t fun b t2 => boolW b fun p => if p = true then evE c el e2 t2 fun z t3 => K2 (some z) t3 else K2 none t2) items [] t1 fun acc t2 => K (.list acc) t2

inductive St where
  | skip | seq (a b : St)
  | asg (tg : Tg) (x : Ex) | asgO (i : Nat) (x : Ex) | asgO2 (i : Nat) (x : Ex)
  | par (i j : Nat) (a b : Ex)
  | aug (o : Op2) (i : Nat) (x : Ex)
  | app (i : Nat) (x : Ex) | ext (i : Nat) (x : Ex) | seti (i : Nat) (k x : Ex) | augi (i : Nat) (k x : Ex)
  | app2 (i : Nat) (k x : Ex) | ext2 (i : Nat) (k x : Ex)
  | ifs (g : Ex) (a b : St) | for_ (tg : Tg) (it : Ex) (body : St) (w : List Nat) | while_ (g : Ex) (body : St) (w : List Nat)
  | ret (x : Ex) | retN | expr (x : Ex)
  | frz (i : Nat) | drop (is : List Nat) | rais
  deriving DecidableEq

def listsOf : List PyData → Option (List (List PyData))
  | [] => some []
  | .list xs :: r => (listsOf r).map (xs :: ·)
  | _ :: _ => none
def evS (c : Cal) : St → Env → Tp → (Env → Tp → Prop) → (PyData → Tp → Prop) → Prop
  | .skip, e, t, Kn, _ => Kn e t
  | .seq a b, e, t, Kn, Kr => evS c a e t (fun e1 t1 => evS c b e1 t1 Kn Kr) Kr
  | .asg tg x, e, t, Kn, _ => evE c x e t fun d t1 => bindT tg d e fun e1 => Kn e1 t1
  | .asgO i x, e, t, Kn, _ => evE c x e t fun d t1 => listW d fun xs => Kn (setS e i (some (.own xs))) t1
  | .asgO2 i x, e, t, Kn, _ => evE c x e t fun d t1 => listW d fun xs => match listsOf xs with | some xss => Kn (setS e i (some (.own2 xss))) t1 | none => False
  | .par i j a b, e, t, Kn, _ => evE c a e t fun x t1 => evE c b e t1 fun y t2 => Kn (setS (setS e i (some (.val x))) j (some (.val y))) t2
  | .aug o i x, e, t, Kn, _ => match getS e i with
    | some (.val (.int n)) => evE c x e t fun d t1 => intW d fun m => match o with
      | .add => Kn (setS e i (some (.val (.int (n + m))))) t1
      | .sub => Kn (setS e i (some (.val (.int (n - m))))) t1
      | _ => False
    | _ => False
  | .app i x, e, t, Kn, _ => match getS e i with
    | some (.own xs) => evE c x e t fun d t1 => xs.length < sizeLine ∧ Kn (setS e i (some (.own (xs ++ [d])))) t1
    | _ => False
  | .ext i x, e, t, Kn, _ => match getS e i with
    | some (.own xs) => evE c x e t fun d t1 => listW d fun ys => xs.length + ys.length ≤ sizeLine ∧ Kn (setS e i (some (.own (xs ++ ys)))) t1
    | _ => False
  | .seti i k x, e, t, Kn, _ => match getS e i with
    | some (.own xs) => evE c x e t fun d t1 => evE c k e t1 fun kd t2 => intW kd fun n => (match L2.ixN xs.length n with | some j => Kn (setS e i (some (.own (xs.set j d)))) t2 | none => False)
    | _ => False
  | .augi i k x, e, t, Kn, _ => match getS e i with
    | some (.own xs) => evE c k e t fun kd t1 => intW kd fun n => (match L2.ixN xs.length n with
      | some j => (match xs[j]? with | some (.int v) => evE c x e t1 fun d t2 => intW d fun m => Kn (setS e i (some (.own (xs.set j (.int (v + m)))))) t2 | _ => False)
      | none => False)
    | _ => False
  | .app2 i k x, e, t, Kn, _ => match getS e i with
    | some (.own2 xss) => evE c k e t fun kd t1 => intW kd fun n => evE c x e t1 fun d t2 => (match L2.ixN xss.length n with
      | some j => (match xss[j]? with | some xs => xs.length < sizeLine ∧ Kn (setS e i (some (.own2 (xss.set j (xs ++ [d]))))) t2 | none => False)
      | none => False)
    | _ => False
  | .ext2 i k x, e, t, Kn, _ => match getS e i with
    | some (.own2 xss) => evE c k e t fun kd t1 => intW kd fun n => evE c x e t1 fun d t2 => listW d fun ys => (match L2.ixN xss.length n with
      | some j => (match xss[j]? with | some xs => xs.length + ys.length ≤ sizeLine ∧ Kn (setS e i (some (.own2 (xss.set j (xs ++ ys))))) t2 | none => False)
      | none => False)
    | _ => False
  | .ifs g a b, e, t, Kn, Kr => evE c g e t fun d t1 => boolW d fun p => if p = true then evS c a e t1 Kn Kr else evS c b e t1 Kn Kr
  | .for_ tg it body w, e, t, Kn, Kr => evE c it e t fun l t1 => listW l fun items =>
      forW (fun d e t K => bindT tg d (wipeS e w) fun e1 => evS c body e1 t K Kr) items e t1 fun e1 t2 => Kn (wipeS e1 w) t2
  | .while_ g body w, e, t, Kn, Kr => ∃ n, whileW (fun e t K => evE c g e t fun d t1 => boolW d fun p => K p t1) (fun e t K => evS c body e t (fun e1 t1 => K (wipeS e1 w) t1) Kr) Kn n (wipeS e w) t
  | .ret x, e, t, _, Kr => evE c x e t Kr
  | .retN, _, t, _, Kr => Kr .none t
  | .expr x, e, t, Kn, _ => evE c x e t fun _ t1 => Kn e t1
  | .frz i, e, t, Kn, _ => match getS e i with
    | some (.own xs) => Kn (setS e i (some (.val (.list xs)))) t
    | _ => False
  | .drop is, e, t, Kn, _ => Kn (wipeS e is) t
  | .rais, _, _, _, _ => False
end G

namespace G
open PySem PySem.Spec PyProof.Rows L2

/-! ### values that stand for data -/
mutual
inductive Rep (pT : Option Addr) (O : Addr → Prop) (H : Hp) : V → PyData → Prop
  | non : Rep pT O H .non .none
  | bl (b : Bool) : Rep pT O H (.bl b) (.bool b)
  | int (i : Int) : Rep pT O H (.int i) (.int i)
  | str (x : Str) : Rep pT O H (.str x) (.str x)
  | lst {a : Addr} {xs : List V} {ds : List PyData} : H a = some (.lst xs) → ¬ O a → RepL pT O H xs ds → Rep pT O H (.ref a) (.list ds)
  | tup {a : Addr} {xs : List V} {ds : List PyData} : H a = some (.tup xs) → ¬ O a → RepL pT O H xs ds → Rep pT O H (.ref a) (.tuple ds)
  | tape {a : Addr} : pT = some a → Rep pT O H (.ref a) tapeD
inductive RepL (pT : Option Addr) (O : Addr → Prop) (H : Hp) : List V → List PyData → Prop
  | nil : RepL pT O H [] []
  | cons {v : V} {vs : List V} {d : PyData} {ds : List PyData} : Rep pT O H v d → RepL pT O H vs ds → RepL pT O H (v :: vs) (d :: ds)
end
def Grow (pT : Option Addr) (H H' : Hp) : Prop := ∀ a o, H a = some o → pT ≠ some a → H' a = some o
theorem Grow.refl {pT : Option Addr} {H : Hp} : Grow pT H H := fun _ _ e _ => e
theorem Grow.trans {pT : Option Addr} {H H1 H2 : Hp} (a : Grow pT H H1) (b : Grow pT H1 H2) : Grow pT H H2 := fun x o e n => b x o (a x o e n) n
theorem Grow.new {pT : Option Addr} {H : Hp} {p : Addr} {o : HO} (h : H p = none) : Grow pT H (upd H p o) := fun a u e _ => by
  rw [upd_ne (ne_of_none e h)]; exact e
section
variable {pT : Option Addr} {O O' : Addr → Prop} {H H' : Hp}
mutual
theorem Rep.mono (g : ∀ a o, H a = some o → ¬ O a → H' a = some o) (hO : ∀ a, O' a → (O a ∨ H a = none)) : ∀ {v : V} {d : PyData}, Rep pT O H v d → Rep pT O' H' v d
  | _, _, .non => .non
  | _, _, .bl b => .bl b
  | _, _, .int i => .int i
  | _, _, .str x => .str x
  | _, _, .lst h n r => .lst (g _ _ h n) (fun q => (hO _ q).elim n fun z => by rw [h] at z; cases z) (RepL.mono g hO r)
  | _, _, .tup h n r => .tup (g _ _ h n) (fun q => (hO _ q).elim n fun z => by rw [h] at z; cases z) (RepL.mono g hO r)
  | _, _, .tape e => .tape e
theorem RepL.mono (g : ∀ a o, H a = some o → ¬ O a → H' a = some o) (hO : ∀ a, O' a → (O a ∨ H a = none)) : ∀ {vs : List V} {ds : List PyData}, RepL pT O H vs ds → RepL pT O' H' vs ds
  | _, _, .nil => .nil
  | _, _, .cons a b => .cons (Rep.mono g hO a) (RepL.mono g hO b)
end
theorem Rep.grow (g : Grow pT H H') (hp : ∀ a, pT = some a → O a) {v : V} {d : PyData} (r : Rep pT O H v d) : Rep pT O H' v d :=
  r.mono (fun a o e n => g a o e fun z => n (hp a z)) fun _ z => .inl z
theorem RepL.grow (g : Grow pT H H') (hp : ∀ a, pT = some a → O a) {v : List V} {d : List PyData} (r : RepL pT O H v d) : RepL pT O H' v d :=
  r.mono (fun a o e n => g a o e fun z => n (hp a z)) fun _ z => .inl z
theorem RepL.length : ∀ {vs : List V} {ds : List PyData}, RepL pT O H vs ds → vs.length = ds.length
  | _, _, .nil => rfl
  | _, _, .cons _ b => by rw [List.length_cons, List.length_cons, RepL.length b]
theorem RepL.get : ∀ {vs : List V} {ds : List PyData} {i : Nat} {d : PyData}, RepL pT O H vs ds → ds[i]? = some d → ∃ v, vs[i]? = some v ∧ Rep pT O H v d
  | _, _, _, _, .nil, e => by simp at e
  | _, _, 0, _, .cons a _, e => by simp at e; subst e; exact ⟨_, rfl, a⟩
  | _, _, i + 1, _, .cons _ b, e => by
    obtain ⟨v, h1, h2⟩ := RepL.get (i := i) b (by simpa using e)
    exact ⟨v, by simpa using h1, h2⟩
theorem RepL.append : ∀ {vs ws : List V} {ds es : List PyData}, RepL pT O H vs ds → RepL pT O H ws es → RepL pT O H (vs ++ ws) (ds ++ es)
  | _, _, _, _, .nil, s => s
  | _, _, _, _, .cons a b, s => .cons a (RepL.append b s)
theorem RepL.take : ∀ {vs : List V} {ds : List PyData} (n : Nat), RepL pT O H vs ds → RepL pT O H (vs.take n) (ds.take n)
  | _, _, 0, _ => .nil
  | _, _, _ + 1, .nil => .nil
  | _, _, n + 1, .cons a b => .cons a (RepL.take n b)
theorem RepL.drop : ∀ {vs : List V} {ds : List PyData} (n : Nat), RepL pT O H vs ds → RepL pT O H (vs.drop n) (ds.drop n)
  | _, _, 0, s => s
  | _, _, _ + 1, .nil => .nil
  | _, _, n + 1, .cons _ b => RepL.drop n b
theorem RepL.set {v : V} {d : PyData} (r : Rep pT O H v d) : ∀ {vs : List V} {ds : List PyData} (n : Nat), RepL pT O H vs ds → RepL pT O H (vs.set n v) (ds.set n d)
  | _, _, _, .nil => .nil
  | _, _, 0, .cons _ b => .cons r b
  | _, _, n + 1, .cons a b => .cons a (RepL.set r n b)
theorem RepL.reverse {vs : List V} {ds : List PyData} (r : RepL pT O H vs ds) : RepL pT O H vs.reverse ds.reverse := by
  induction vs generalizing ds with
  | nil => cases r; exact .nil
  | cons v vs ih => cases r with | cons a b => rw [List.reverse_cons, List.reverse_cons]; exact (ih b).append (.cons a .nil)
theorem RepL.rep {vs : List V} {ds : List PyData} (r : RepL pT O H vs ds) : ∀ k : Nat, RepL pT O H (List.replicate k vs).flatten (List.replicate k ds).flatten
  | 0 => .nil
  | k + 1 => by rw [List.replicate_succ, List.replicate_succ, List.flatten_cons, List.flatten_cons]; exact r.append (RepL.rep r k)
theorem RepL.ints : ∀ {vs : List V} {ds : List PyData} {ns : List Int}, RepL pT O H vs ds → intsOf ds = some ns → vs = ns.map V.int
  | _, _, _, .nil, e => by simp [intsOf] at e; subst e; rfl
  | _, _, _, .cons a b, e => by
    cases a with
    | int i =>
      simp only [intsOf, Option.map_eq_some_iff] at e
      obtain ⟨ns, e1, rfl⟩ := e
      rw [RepL.ints b e1]; rfl
    | _ => simp [intsOf, tapeD] at e
theorem RepL.bools : ∀ {vs : List V} {ds : List PyData} {ns : List Bool}, RepL pT O H vs ds → boolsOf ds = some ns → vs = ns.map V.bl
  | _, _, _, .nil, e => by simp [boolsOf] at e; subst e; rfl
  | _, _, _, .cons a b, e => by
    cases a with
    | bl i =>
      simp only [boolsOf, Option.map_eq_some_iff] at e
      obtain ⟨ns, e1, rfl⟩ := e
      rw [RepL.bools b e1]; rfl
    | _ => simp [boolsOf, tapeD] at e
theorem RepL.of_ints : ∀ (ns : List Int), RepL pT O H (ns.map V.int) (ns.map PyData.int)
  | [] => .nil
  | n :: ns => .cons (.int n) (RepL.of_ints ns)
/-- weaker: the list may be one's own -/
def RepW (pT : Option Addr) (O : Addr → Prop) (H : Hp) (v : V) (d : PyData) : Prop :=
  Rep pT O H v d ∨ ∃ p vs xs, v = .ref p ∧ d = .list xs ∧ H p = some (.lst vs) ∧ pT ≠ some p ∧ RepL pT O H vs xs
theorem Rep.w {v : V} {d : PyData} (r : Rep pT O H v d) : RepW pT O H v d := .inl r
theorem RepW.grow (g : Grow pT H H') (hp : ∀ a, pT = some a → O a) {v : V} {d : PyData} (r : RepW pT O H v d) : RepW pT O H' v d := by
  rcases r with r | ⟨p, vs, xs, rfl, rfl, h, n, r⟩
  · exact .inl (r.grow g hp)
  · exact .inr ⟨p, vs, xs, rfl, rfl, g p _ h n, n, r.grow g hp⟩
theorem RepW.list {v : V} {xs : List PyData} (r : RepW pT O H v (.list xs)) (hp : ∀ a, pT = some a → O a) : ∃ p vs, v = .ref p ∧ H p = some (.lst vs) ∧ pT ≠ some p ∧ RepL pT O H vs xs := by
  rcases r with r | ⟨p, vs, xs', rfl, e, h, n, r⟩
  · cases r with
    | lst h n r => exact ⟨_, _, rfl, h, fun z => n (hp _ z), r⟩
  · cases e; exact ⟨p, vs, rfl, h, n, r⟩
theorem RepW.tuple {v : V} {xs : List PyData} (r : RepW pT O H v (.tuple xs)) : ∃ p vs, v = .ref p ∧ H p = some (.tup vs) ∧ ¬ O p ∧ RepL pT O H vs xs := by
  rcases r with r | ⟨p, vs, xs', rfl, e, h, n, r⟩
  · cases r with
    | tup h n r => exact ⟨_, _, rfl, h, n, r⟩
  · cases e
theorem RepW.int {v : V} {i : Int} (r : RepW pT O H v (.int i)) : v = .int i := by
  rcases r with r | ⟨p, vs, xs', rfl, e, h, n, r⟩
  · cases r; rfl
  · cases e
theorem RepW.bool {v : V} {i : Bool} (r : RepW pT O H v (.bool i)) : v = .bl i := by
  rcases r with r | ⟨p, vs, xs', rfl, e, h, n, r⟩
  · cases r; rfl
  · cases e
theorem RepW.none {v : V} (r : RepW pT O H v .none) : v = .non := by
  rcases r with r | ⟨p, vs, xs', rfl, e, h, n, r⟩
  · cases r; rfl
  · cases e
/-- no dict within: data as the library's rules ask it -/
theorem tape_dict : tapeD.hasDict = true := by rfl
mutual
theorem Rep.dp {K : PySem.W.Frag} : ∀ {v : V} {d : PyData}, Rep pT O H v d → d.hasDict = false → Dp K H v d
  | _, _, .non, _ => .non
  | _, _, .bl b, _ => .bl b
  | _, _, .int i, _ => .int i
  | _, _, .str x, _ => .str x
  | _, _, .lst h n r, e => .lst (.of h) (RepL.dp r (by simpa [PyData.hasDict] using e))
  | _, _, .tup h n r, e => .tup (.of h) (RepL.dp r (by simpa [PyData.hasDict] using e))
  | _, _, .tape _, e => by rw [tape_dict] at e; cases e
theorem RepL.dp {K : PySem.W.Frag} : ∀ {vs : List V} {ds : List PyData}, RepL pT O H vs ds → PyData.hasDictAll ds = false → DpAll K H vs ds
  | _, _, .nil, _ => .nil
  | _, _, .cons a b, e => by
    simp only [PyData.hasDictAll, Bool.or_eq_false_iff] at e
    exact .cons (Rep.dp a e.1) (RepL.dp b e.2)
end
theorem RepW.dp {K : PySem.W.Frag} {v : V} {d : PyData} (r : RepW pT O H v d) (e : d.hasDict = false) : Dp K H v d := by
  rcases r with r | ⟨p, vs, xs, rfl, rfl, h, n, r⟩
  · exact r.dp e
  · exact .lst (.of h) (RepL.dp r (by simpa [PyData.hasDict] using e))
end
end G

namespace G
open PySem PySem.Spec PyProof.Rows L2

theorem hd_shaped {d : PyData} (h : SeqAt.shaped d = true) : d.hasDict = false := PyData.hasDict_of_canLay d (SeqAt.canLay_of_shaped h)
/-- a list that has just been made -/
def Fresh (pT : Option Addr) (O : Addr → Prop) (H H' : Hp) (v : V) (d : PyData) : Prop :=
  ∀ xs, d = .list xs → ∃ p vs, v = .ref p ∧ H p = none ∧ H' p = some (.lst vs) ∧ RepL pT (fun a => O a ∨ a = p) H' vs xs
/-- the addresses that no value leads to: they stand, the tape among them -/
structure OOk (pT : Option Addr) (O : Addr → Prop) (H : Hp) : Prop where
  tp : ∀ p, pT = some p → O p
  live : ∀ a, O a → H a ≠ none
/-- what an expression leaves -/
structure Out (pT : Option Addr) (O : Addr → Prop) (st fr : Bool) (H H' : Hp) (v : V) (d : PyData) : Prop where
  grow : Grow pT H H'
  w : RepW pT O H' v d
  s : st = true → Rep pT O H' v d
  f : fr = true → Fresh pT O H H' v d
section
variable {pT : Option Addr} {O : Addr → Prop} {st fr : Bool} {H H' H1 : Hp} {v : V} {d : PyData}
theorem Out.rep (g : Grow pT H H') (r : Rep pT O H' v d) (f : fr = true → Fresh pT O H H' v d) : Out pT O st fr H H' v d := ⟨g, .inl r, fun _ => r, f⟩
theorem Out.flat (g : Grow pT H H') (r : Rep pT O H' v d) (f : ∀ xs, d ≠ .list xs) : Out pT O st fr H H' v d := .rep g r fun _ xs e => absurd e (f xs)
theorem Out.nofr (o : Out pT O st fr H H' v d) : Out pT O st false H H' v d := ⟨o.grow, o.w, o.s, fun z => Bool.noConfusion z⟩
theorem OOk.dead (ok : OOk pT O H) (g : Grow pT H H1) {p : Addr} (h : H1 p = none) (hl : ∀ p, pT = some p → H1 p ≠ none) : H p = none := by
  cases q : H p with
  | none => rfl
  | some u =>
    have := g p u q fun z => hl p z h
    rw [h] at this; cases this
theorem Out.after (ok : OOk pT O H) (hl : ∀ p, pT = some p → H1 p ≠ none) (g : Grow pT H H1) (o : Out pT O st fr H1 H' v d) : Out pT O st fr H H' v d :=
  ⟨g.trans o.grow, o.w, o.s, fun h xs e => by
    obtain ⟨p, vs, h1, h2, h3, h4⟩ := o.f h xs e
    exact ⟨p, vs, h1, ok.dead g h2 hl, h3, h4⟩⟩
/-- a new list of values that stand for data -/
theorem Out.lst (ok : OOk pT O H) (hl : ∀ p, pT = some p → H1 p ≠ none) (g : Grow pT H H1) {p : Addr} {vs : List V} {xs : List PyData} (np : H1 p = none) (lv : ∀ a, O a → H1 a ≠ none) (r : RepL pT O H1 vs xs) :
    Out pT O st fr H (upd H1 p (.lst vs)) (.ref p) (.list xs) := by
  have nO : ¬ O p := fun z => lv p z np
  have r1 : RepL pT (fun a => O a ∨ a = p) (upd H1 p (.lst vs)) vs xs := r.mono (fun a o e _ => by rw [upd_ne (ne_of_none e np)]; exact e) fun a z => z.elim .inl fun e => .inr (by rw [e]; exact np)
  refine .rep (g.trans (.new np)) (.lst upd_same nO (r.mono (fun a o e _ => by rw [upd_ne (ne_of_none e np)]; exact e) fun a z => .inl z)) fun _ ys e => ?_
  cases e
  exact ⟨p, vs, rfl, ok.dead g np hl, upd_same, r1⟩
theorem Out.tup (g : Grow pT H H1) {p : Addr} {vs : List V} {xs : List PyData} (np : H1 p = none) (lv : ∀ a, O a → H1 a ≠ none) (r : RepL pT O H1 vs xs) :
    Out pT O st fr H (upd H1 p (.tup vs)) (.ref p) (.tuple xs) :=
  .flat (g.trans (.new np)) (.tup upd_same (fun z => lv p z np) (r.mono (fun a o e _ => by rw [upd_ne (ne_of_none e np)]; exact e) fun a z => .inl z)) fun _ e => nomatch e
end

/-! ### the slots -/
structure Par where
  B : Addr → Prop
  pT : Option Addr
  H0 : Hp
def Own (P : Par) (os : List (List Addr)) : Addr → Prop := fun a => P.B a ∨ a ∈ os.flatten
section
variable (K : PySem.W.Frag) (P : Par) (O : Addr → Prop) (H : Hp)
def SlotOk : Option Slot → Option V → List Addr → Prop
  | none, _, as => as = []
  | some (.val d), sv, as => as = [] ∧ ∃ v, sv = some v ∧ Rep P.pT O H v d
  | some (.own xs), sv, as => ∃ p vs, as = [p] ∧ sv = some (.ref p) ∧ H p = some (.lst vs) ∧ P.H0 p = none ∧ ¬ P.B p ∧ RepL P.pT O H vs xs
  | some (.own2 xss), sv, as => ∃ p qs, as = p :: qs ∧ sv = some (.ref p) ∧ H p = some (.lst (qs.map .ref)) ∧ (∀ q ∈ p :: qs, P.H0 q = none ∧ ¬ P.B q) ∧ Paired (fun q xs => ∃ vs, H q = some (.lst vs) ∧ RepL P.pT O H vs xs) qs xss
  | some (.scr ns), sv, as => as = [] ∧ ∃ a, sv = some (.ref a) ∧ ((Rd H a (.lst (ns.map .int)) ∧ ¬ O a) ∨ SqL K (fun _ => none) a (ns.map .int))
def SlotsOk : Env → List (Option V) → List (List Addr) → Prop
  | [], [], [] => True
  | e :: es, s :: ss, a :: as => SlotOk K P O H e s a ∧ SlotsOk es ss as
  | _, _, _ => False
structure RR (os : List (List Addr)) (env : Env) (t : Tp) (σ : List (Option V)) (H : Hp) : Prop where
  slots : SlotsOk K P (Own P os) H env σ os
  nd : os.flatten.Nodup
  tape : ∀ ts, t = some ts → ∃ p, P.pT = some p ∧ H p = some (.lst (ts.map .int))
  ptB : ∀ p, P.pT = some p → P.B p
  live : ∀ a, P.B a → H a ≠ none
  grow : Grow P.pT P.H0 H
end
section
variable {K : PySem.W.Frag} {P : Par} {O O' : Addr → Prop} {H H' : Hp} {env : Env} {σ : List (Option V)} {os : List (List Addr)} {t t' : Tp}
/-- slots of which none is one's own -/
theorem SlotOk.mono {e : Option Slot} {s : Option V} {as : List Addr} (g : ∀ a o, H a = some o → ¬ O a ∨ a ∈ as → H' a = some o) (hO : ∀ a, O' a → (O a ∨ H a = none)) (h : SlotOk K P O H e s as) : SlotOk K P O' H' e s as := by
  have gl : ∀ {vs ds}, RepL P.pT O H vs ds → RepL P.pT O' H' vs ds := fun r => r.mono (fun a o e n => g a o e (.inl n)) hO
  cases e with
  | none => exact h
  | some sl =>
    cases sl with
    | val d => obtain ⟨h1, v, h2, r⟩ := h; exact ⟨h1, v, h2, r.mono (fun a o e n => g a o e (.inl n)) hO⟩
    | own xs => obtain ⟨p, vs, h1, h2, h3, h4, h5, r⟩ := h; exact ⟨p, vs, h1, h2, g _ _ h3 (.inr (by rw [h1]; simp)), h4, h5, gl r⟩
    | own2 xss =>
      obtain ⟨p, qs, h1, h2, h3, h4, r⟩ := h
      refine ⟨p, qs, h1, h2, g _ _ h3 (.inr (by rw [h1]; simp)), h4, ?_⟩
      have key : ∀ (qs' : List Addr) (yss : List (List PyData)), (∀ q ∈ qs', q ∈ as) → Paired (fun q xs => ∃ vs, H q = some (.lst vs) ∧ RepL P.pT O H vs xs) qs' yss → Paired (fun q xs => ∃ vs, H' q = some (.lst vs) ∧ RepL P.pT O' H' vs xs) qs' yss := by
        intro qs' yss hs r
        induction r with
        | nil => exact .nil
        | cons a b ih =>
          obtain ⟨vs, e1, e2⟩ := a
          exact .cons ⟨vs, g _ _ e1 (.inr (hs _ (by simp))), gl e2⟩ (ih fun q hq => hs q (List.mem_cons_of_mem _ hq))
      exact key qs xss (fun q hq => by rw [h1]; exact List.mem_cons_of_mem _ hq) r
    | scr ns =>
      obtain ⟨h1, a, h2, h3⟩ := h
      refine ⟨h1, a, h2, ?_⟩
      rcases h3 with ⟨h | ⟨o, h⟩, n⟩ | h
      · exact .inl ⟨.inl (g _ _ h (.inl n)), fun z => (hO _ z).elim n fun q => by rw [h] at q; cases q⟩
      · exact .inl ⟨.inr ⟨o, g _ _ h (.inl n)⟩, fun z => (hO _ z).elim n fun q => by rw [h] at q; cases q⟩
      · exact .inr h
theorem SlotsOk.len : ∀ {env : Env} {σ : List (Option V)} {os : List (List Addr)}, SlotsOk K P O H env σ os → env.length = σ.length ∧ os.length = σ.length
  | [], [], [], _ => ⟨rfl, rfl⟩
  | _ :: _, _ :: _, _ :: _, h => by
    have ih := SlotsOk.len h.2
    simp [ih.1, ih.2]
  | [], [], _ :: _, h => h.elim
  | [], _ :: _, _, h => h.elim
  | _ :: _, [], _, h => h.elim
  | _ :: _, _ :: _, [], h => h.elim
theorem SlotsOk.get : ∀ {env : Env} {σ : List (Option V)} {os : List (List Addr)} {i : Nat} {sl : Slot}, SlotsOk K P O H env σ os → getS env i = some sl → ∃ sv as, σ[i]? = some sv ∧ os[i]? = some as ∧ SlotOk K P O H (some sl) sv as
  | [], [], [], _, _, _, e => by simp [getS] at e
  | e :: es, s :: ss, a :: as, 0, sl, h, q => by
    simp only [getS] at q; subst q
    exact ⟨s, a, rfl, rfl, h.1⟩
  | e :: es, s :: ss, a :: as, i + 1, sl, h, q => by
    obtain ⟨sv, as', h1, h2, h3⟩ := SlotsOk.get (i := i) h.2 (by simpa [getS] using q)
    exact ⟨sv, as', by simpa using h1, by simpa using h2, h3⟩
  | [], [], _ :: _, _, _, h, _ => h.elim
  | [], _ :: _, _, _, _, h, _ => h.elim
  | _ :: _, [], _, _, _, h, _ => h.elim
  | _ :: _, _ :: _, [], _, _, h, _ => h.elim
theorem SlotsOk.map {P' : Par} : ∀ {env : Env} {σ : List (Option V)} {os : List (List Addr)}, (∀ e s as, as ∈ os → SlotOk K P O H e s as → SlotOk K P' O' H' e s as) → SlotsOk K P O H env σ os → SlotsOk K P' O' H' env σ os
  | [], [], [], _, _ => trivial
  | e :: es, s :: ss, a :: as, f, h => ⟨f _ _ _ (by simp) h.1, SlotsOk.map (fun e s as' m => f e s as' (List.mem_cons_of_mem _ m)) h.2⟩
  | [], [], _ :: _, _, h => h.elim
  | [], _ :: _, _, _, h => h.elim
  | _ :: _, [], _, _, h => h.elim
  | _ :: _, _ :: _, [], _, h => h.elim
theorem SlotsOk.set {e : Option Slot} {s : Option V} {as : List Addr} : ∀ {env : Env} {σ : List (Option V)} {os : List (List Addr)} (i : Nat), SlotsOk K P O H env σ os → SlotOk K P O H e s as → SlotsOk K P O H (setS env i e) (σ.set i s) (os.set i as)
  | [], [], [], _, _, _ => trivial
  | _ :: _, _ :: _, _ :: _, 0, h, q => ⟨q, h.2⟩
  | _ :: _, _ :: _, _ :: _, i + 1, h, q => ⟨h.1, SlotsOk.set i h.2 q⟩
  | [], [], _ :: _, _, h, _ => h.elim
  | [], _ :: _, _, _, h, _ => h.elim
  | _ :: _, [], _, _, h, _ => h.elim
  | _ :: _, _ :: _, [], _, h, _ => h.elim
theorem SlotOk.addr {e : Option Slot} {s : Option V} {as : List Addr} (h : SlotOk K P O H e s as) : ∀ a ∈ as, H a ≠ none ∧ P.H0 a = none ∧ ¬ P.B a := by
  intro a ha
  match e, h with
  | none, q => rw [show as = [] from q] at ha; simp at ha
  | some (.val d), q => rw [q.1] at ha; simp at ha
  | some (.scr d), q => rw [q.1] at ha; simp at ha
  | some (.own xs), ⟨p, vs, h1, h2, h3, h4, h5, _⟩ =>
    rw [h1] at ha; have e : a = p := by simpa using ha
    rw [e]; exact ⟨by rw [h3]; simp, h4, h5⟩
  | some (.own2 xss), ⟨p, qs, h1, h2, h3, h4, h5⟩ =>
    rw [h1] at ha
    refine ⟨?_, h4 a ha⟩
    rcases List.mem_cons.mp ha with e | ha
    · rw [e, h3]; simp
    · have key : ∀ {qs : List Addr} {xss : List (List PyData)}, Paired (fun q xs => ∃ vs, H q = some (.lst vs) ∧ RepL P.pT O H vs xs) qs xss → ∀ a ∈ qs, H a ≠ none := by
        intro qs xss h
        induction h with
        | nil => intro a ha; simp at ha
        | cons x y ih =>
          intro a ha
          obtain ⟨vs, e1, _⟩ := x
          rcases List.mem_cons.mp ha with e | ha
          · rw [e, e1]; simp
          · exact ih a ha
      exact key h5 a ha
theorem SlotsOk.addr : ∀ {env : Env} {σ : List (Option V)} {os : List (List Addr)}, SlotsOk K P O H env σ os → ∀ as ∈ os, ∀ a ∈ as, H a ≠ none ∧ P.H0 a = none ∧ ¬ P.B a
  | [], [], [], _, _, hm, _, _ => absurd hm (by simp)
  | e :: es, s :: ss, a :: as, h, bs, hm, b, hb => by
    rcases List.mem_cons.mp hm with rfl | hm
    · exact h.1.addr b hb
    · exact SlotsOk.addr h.2 bs hm b hb
  | [], [], _ :: _, h, _, _, _, _ => h.elim
  | [], _ :: _, _, h, _, _, _, _ => h.elim
  | _ :: _, [], _, h, _, _, _, _ => h.elim
  | _ :: _, _ :: _, [], h, _, _, _, _ => h.elim
theorem SlotsOk.addrF (h : SlotsOk K P O H env σ os) {a : Addr} (ha : a ∈ os.flatten) : H a ≠ none ∧ P.H0 a = none ∧ ¬ P.B a := by
  obtain ⟨as, h1, h2⟩ := List.mem_flatten.mp ha
  exact h.addr as h1 a h2
theorem RR.ook (r : RR K P os env t σ H) : OOk P.pT (Own P os) H :=
  ⟨fun p e => .inl (r.ptB p e), fun a h => h.elim (r.live a) fun h => (r.slots.addrF h).1⟩
/-- the heap has grown; the tape may have turned -/
theorem RR.grown (r : RR K P os env t σ H) (g : Grow P.pT H H') (ht : ∀ ts, t' = some ts → ∃ p, P.pT = some p ∧ H' p = some (.lst (ts.map .int))) (hl : ∀ p, P.pT = some p → H' p ≠ none) : RR K P os env t' σ H' := by
  have ok := r.ook
  have npt : ∀ a, ¬ Own P os a → P.pT ≠ some a := fun a n z => n (ok.tp a z)
  have nas : ∀ as ∈ os, ∀ a ∈ as, P.pT ≠ some a := fun as m a ha z => (r.slots.addr as m a ha).2.2 (r.ptB a z)
  refine ⟨r.slots.map fun e s as m h => h.mono (fun a o q z => g a o q (z.elim (npt a) (nas as m a))) fun _ z => .inl z, r.nd, ht, r.ptB, fun a hB => ?_, r.grow.trans g⟩
  cases q : H a with
  | none => exact absurd q (r.live a hB)
  | some o =>
    by_cases hp : P.pT = some a
    · exact hl a hp
    · rw [g a o q hp]; simp
end
end G

set_option maxHeartbeats 2000000
namespace G
open PySem PySem.Spec PyProof.Rows L2

theorem tuple_mul1 (l : Addr) (items : Array Value) (n : Nat) (dd : Option Addr) (sl : Array (Option Value)) (u : Tok) :
    Meets (Builtin.«tuple.__mul__» ⟨[.ref l, .int 1 u], []⟩) (fun _ R s => s.heap.get? l = some { cls := .type "tuple", dict := dd, data := .seq items n, slots := sl } ∧
      R (.ok (.ret (Value.ref l))) s) :=
  .of_wp fun prog w A R s h => by
    obtain ⟨hp, g, d, tk, os⟩ := s
    obtain ⟨hl, h⟩ := h
    have f1 := AutoSeq1.idx_int
    have c0 : (decide ((1:Int) < -(2 ^ 63)) || decide ((1:Int) ≥ 2 ^ 63)) = false := by decide
    have c1 : (items.isEmpty || (1:Int) == 1) = true := by simp
    wp_walk using wpAny_loadPart' hl
    repeat (first
      | (refine wpAny_ite_false (decide_eq_false (by rw [c0]; exact Bool.false_ne_true)) ?_; wp_walk using wpAny_loadPart' hl)
      | (refine wpAny_ite_true (decide_eq_true (by rw [c1])) ?_; wp_walk using wpAny_loadPart' hl))
    exact ⟨_, rfl, h⟩
theorem tuple_mul0 (l : Addr) (items : Array Value) (n : Nat) (dd : Option Addr) (sl : Array (Option Value)) (x : Int) (u : Tok) (c0 : (decide (x < -(2 ^ 63)) || decide (x ≥ 2 ^ 63)) = false) (c1 : (items.isEmpty || x == 1) = false) (c2 : (decide (x ≤ 0) || items.isEmpty) = true) :
    Meets (Builtin.«tuple.__mul__» ⟨[.ref l, .int x u], []⟩) (fun _ R s => s.heap.get? l = some { cls := .type "tuple", dict := dd, data := .seq items n, slots := sl } ∧
      R (.ok (.ret (Value.ref s.heap.objs.size))) { s with heap := s.heap.push { cls := Value.type "tuple", data := Data.seq #[] }, toks := s.toks }) :=
  .of_wp fun prog w A R s h => by
    obtain ⟨hp, g, d, tk, os⟩ := s
    obtain ⟨hl, h⟩ := h
    have f1 := AutoSeq1.idx_int
    have hsz : (#[] : Array Value).size ≤ sizeLine := Nat.zero_le _
    wp_walk using wpAny_loadPart' hl
    repeat (first
      | (refine wpAny_ite_false (decide_eq_false (by rw [c0]; exact Bool.false_ne_true)) ?_; wp_walk using wpAny_loadPart' hl)
      | (refine wpAny_ite_false (decide_eq_false (by rw [c1]; exact Bool.false_ne_true)) ?_; wp_walk using wpAny_loadPart' hl)
      | (refine wpAny_ite_true (decide_eq_true (by rw [c2])) ?_; wp_walk using wpAny_loadPart' hl)
      | (refine wpAny_ite_false (decide_eq_false (Nat.not_lt.mpr hsz)) ?_; wp_walk using wpAny_loadPart' hl))
    exact ⟨_, rfl, h⟩
/-- a tuple times an int: itself, or the empty one, or a new one -/
def rRepA (K : PySem.W.Frag) : R2 := fun x y H Q => ∃ l k xs, x = .ref l ∧ y = .int k ∧ SqT K H l xs ∧ xs ≠ [] ∧ -1000 ≤ k ∧ k ≤ 1000 ∧ xs.length ≤ 1000 ∧ (k = 1 → Q (.ref l) H) ∧ (k ≠ 1 → ∀ p, H p = none → Q (.ref p) (upd H p (.tup (List.replicate k.toNat xs).flatten)))
theorem op_repA {X : Cx} : OpR X (binaryOp .Mult) (rRepA X.K) := by
  intro pins s σ H x y v u Q I rx ry h
  obtain ⟨l, k, xs, rfl, rfl, hT, hne, h1, h2, hz, q1, q2⟩ := h
  by_cases hk2 : 2 ≤ k
  · exact op_repT pins s σ H _ _ v u Q I rx ry ⟨l, k, xs, rfl, rfl, hT, hne, hk2, h2, hz, q2 (by omega)⟩
  cases rx
  obtain ⟨t, rfl⟩ := ry
  obtain ⟨its, r, ⟨⟨cls, dd, data, sl⟩, ho, hc, n, hd⟩, hs⟩ := I.tuple hT
  simp only at hc hd
  subst hc hd
  have hle : its.length = xs.length := r.length.symm
  have hn : its ≠ [] := fun e => hne (by
    rw [e] at hle
    exact List.eq_nil_of_length_eq_zero hle.symm)
  have hi : its.toArray.isEmpty = false := by
    cases its with
    | nil => exact absurd rfl hn
    | cons a b => rfl
  by_cases hk1 : k = 1
  · subst hk1
    refine wpAny_binaryOp_repeat_ref (T := "tuple") (U := "int") (by decide) ⟨_, ho, rfl⟩ (fun s' => typeIs_int s' 1 t) noFill_tuple_mul F.fills_int_mul F.slot_int_rmul repeat_tuple F.slot_int_index.lookup
      (call_meets F.slot_int_rmul (typeIs_int s 1 t) F.entry_int_rmul (F.args_int_rmul_2 _ _) (int_rmul_tuple 1 t l its.toArray n dd sl)
        ⟨ho, rfl, ⟨_, ho, rfl⟩, call_meets F.slot_tuple_mul ⟨_, ho, rfl⟩ F.entry_tuple_mul (F.args_tuple_mul_2 _ _) (tuple_mul1 l its.toArray n dd sl t) ⟨ho, ?_⟩⟩)
    exact ⟨.ref l, H, I, rfl, q1 rfl⟩
  · have c0 : (decide (k < -(2 ^ 63)) || decide (k ≥ 2 ^ 63)) = false := by
      rw [decide_eq_false (by omega), decide_eq_false (by omega)] <;> rfl
    have c1 : (its.toArray.isEmpty || k == 1) = false := by
      rw [hi, Bool.false_or]
      exact beq_eq_false_iff_ne.mpr (by omega)
    have c2 : (decide (k ≤ 0) || its.toArray.isEmpty) = true := by
      rw [decide_eq_true (by omega)]; rfl
    refine wpAny_binaryOp_repeat_ref (T := "tuple") (U := "int") (by decide) ⟨_, ho, rfl⟩ (fun s' => typeIs_int s' k t) noFill_tuple_mul F.fills_int_mul F.slot_int_rmul repeat_tuple F.slot_int_index.lookup
      (call_meets F.slot_int_rmul (typeIs_int s k t) F.entry_int_rmul (F.args_int_rmul_2 _ _) (int_rmul_tuple k t l its.toArray n dd sl)
        ⟨ho, rfl, ⟨_, ho, rfl⟩, call_meets F.slot_tuple_mul ⟨_, ho, rfl⟩ F.entry_tuple_mul (F.args_tuple_mul_2 _ _) (tuple_mul0 l its.toArray n dd sl k t c0 c1 c2) ⟨ho, ?_⟩⟩)
    have e0 : k.toNat = 0 := by omega
    have q := q2 hk1 _ (I.hok.fresh (Nat.le_refl _))
    rw [e0] at q
    refine ⟨.ref s.heap.objs.size, _, I.laid (t' := s.toks) (o := .tup []) (fun b ob q => Heap.get?_push_of_some _ q) (Nat.le_refl _) ?_, rfl, q⟩
    exact ⟨Nat.zero_le _, [], .nil, IsTup.new _ _⟩

/-! ### the operations -/
def fOf : Op2 → Option (Value → Value → Sem Value)
  | .add => some (binaryOp .Add) | .sub => some (binaryOp .Sub) | .mul => some (binaryOp .Mult) | .fdiv => some (binaryOp .FloorDiv) | .mod => some (binaryOp .Mod) | .pow => some (binaryOp .Pow)
  | .lt => some (compareOp .Lt) | .le => some (compareOp .LtE) | .gt => some (compareOp .Gt) | .ge => some (compareOp .GtE) | .eq => some (compareOp .Eq) | .ne => some (compareOp .NotEq)
  | .is => some (compareOp .Is) | .isn => some (compareOp .IsNot) | .inn => some (compareOp .In) | .nin => some (compareOp .NotIn)
def arithOf : Op2 → Option Operator
  | .add => some .Add | .sub => some .Sub | .mul => some .Mult | .fdiv => some .FloorDiv | .mod => some .Mod | .pow => some .Pow
  | _ => none
def cmpOf : Op2 → Option CmpOp
  | .lt => some .Lt | .le => some .LtE | .gt => some .Gt | .ge => some .GtE | .eq => some .Eq | .ne => some .NotEq
  | .is => some .Is | .isn => some .IsNot | .inn => some .In | .nin => some .NotIn
  | _ => none
/-- o by values: what the language says of it -/
def rOp (o : Op2) : R2 := fun x y H Q => ∃ pT O d e Kx, OOk pT O H ∧ RepW pT O H x d ∧ RepW pT O H y e ∧ opW o d e Kx ∧ ∀ z v H', Kx z → Out pT O true true H H' v z → Grow none H H' → Q v H'
section
variable {X : Cx}
theorem flat_of {pT : Option Addr} {O : Addr → Prop} {H : Hp} {v : V} {d : PyData} (r : RepW pT O H v d) (f : flatD d = true) : flatV v = true ∧ ∀ w e, RepW pT O H w e → flatD e = true → eqV w v = PyData.eqv e d := by
  have one : ∀ {v : V} {d : PyData}, RepW pT O H v d → flatD d = true → (d = .none ∧ v = .non) ∨ (∃ b, d = .bool b ∧ v = .bl b) ∨ (∃ b, d = .int b ∧ v = .int b) ∨ ∃ b, d = .str b ∧ v = .str b := by
    intro v d r f
    rcases r with r | ⟨p, vs, xs, rfl, rfl, h, n, r⟩
    · cases r with
      | non => exact .inl ⟨rfl, rfl⟩
      | bl b => exact .inr (.inl ⟨b, rfl, rfl⟩)
      | int b => exact .inr (.inr (.inl ⟨b, rfl, rfl⟩))
      | str b => exact .inr (.inr (.inr ⟨b, rfl, rfl⟩))
      | _ => simp [flatD, tapeD] at f
    · simp [flatD] at f
  refine ⟨?_, fun w e rw fe => ?_⟩
  · rcases one r f with ⟨rfl, rfl⟩ | ⟨b, rfl, rfl⟩ | ⟨b, rfl, rfl⟩ | ⟨b, rfl, rfl⟩ <;> rfl
  · rcases one r f with ⟨rfl, rfl⟩ | ⟨b, rfl, rfl⟩ | ⟨b, rfl, rfl⟩ | ⟨b, rfl, rfl⟩ <;> rcases one rw fe with ⟨rfl, rfl⟩ | ⟨c, rfl, rfl⟩ | ⟨c, rfl, rfl⟩ | ⟨c, rfl, rfl⟩ <;> simp [eqV, PyData.eqv]
theorem inV_of {pT : Option Addr} {O : Addr → Prop} {H : Hp} {v : V} {d : PyData} (r : RepW pT O H v d) (f : flatD d = true) : ∀ {vs : List V} {ds : List PyData}, RepL pT O H vs ds → ds.all flatD = true → vs.all flatV = true ∧ inV v vs = inD d ds
  | _, _, .nil, _ => ⟨rfl, rfl⟩
  | _, _, .cons a b, e => by
    rw [List.all_cons, Bool.and_eq_true] at e
    obtain ⟨h1, h2⟩ := inV_of r f b e.2
    have z := (flat_of r f).2 _ _ (.inl a) e.1
    refine ⟨by rw [List.all_cons, h1, (flat_of (.inl a) e.1).1]; rfl, ?_⟩
    show (eqV _ v || inV v _) = (PyData.eqv _ d || inD d _)
    rw [z, h2]
theorem ok_ints {f : Value → Value → Sem Value} {g : Int → Int → V} {C : Int → Int → Prop} (h : OpR X f (rI C g)) {o : Op2} (gd : Int → Int → PyData) (hg : ∀ i j pT O H, Rep pT O H (g i j) (gd i j)) (hf : ∀ i j xs, gd i j ≠ .list xs)
    (ho : ∀ d e Kx, opW o d e Kx → ∃ i j, d = .int i ∧ e = .int j ∧ C i j ∧ Kx (gd i j)) : OpR X f (rOp o) := by
  intro pins s σ H x y v u Q I rx ry ⟨pT, O, d, e, Kx, ok, wx, wy, hw, q⟩
  obtain ⟨i, j, rfl, rfl, hc, hk⟩ := ho d e Kx hw
  exact h pins s σ H x y v u Q I rx ry ⟨i, j, wx.int, wy.int, hc, q _ _ _ hk (.flat .refl (hg i j _ _ _) (hf i j)) .refl⟩
theorem rI0_rI {f : Value → Value → Sem Value} {g : Int → Int → V} (h : OpR X f (rI0 g)) : OpR X f (rI (fun _ _ => True) g) := fun pins s σ H x y v u Q I rx ry ⟨i, j, h1, h2, _, q⟩ => h pins s σ H x y v u Q I rx ry ⟨i, j, h1, h2, q⟩
theorem op_mulG : OpR X (binaryOp .Mult) (rI mulOk fun i j => .int (i * j)) := opI fun i j _ _ _ _ _ hc q => mul_int q (by
  have b : ∀ x : Int, Builtin.Int.intBits x ≤ x.natAbs.log2 + 1 := fun x => by
    unfold Builtin.Int.intBits
    split <;> omega
  have h1 := b i
  have h2 := b j
  have h3 : i.natAbs.log2 + j.natAbs.log2 < 134000000 := hc
  have e : bitsLine = 134217728 := by decide
  unfold IntMulOk
  intro z
  rw [Bool.and_eq_true] at z
  have z2 := z.2
  unfold Builtin.Int.intTooBig at z2
  have z3 := of_decide_eq_true z2
  rw [e] at z3
  omega)
theorem op_fdivG : OpR X (binaryOp .FloorDiv) (rI divOk fun i j => .int (i.fdiv j)) := opI fun i j _ _ _ _ _ hc q => floordiv_int hc.1 q (.inl hc.2)
theorem ok_lt : OpR X (compareOp .Lt) (rOp .lt) := ok_ints (rI0_rI op_lt) (fun i j => .bool (decide (i < j))) (fun _ _ _ _ _ => .bl _) (fun _ _ _ => by simp) fun d e Kx h => by
  cases d <;> cases e <;> first | exact ⟨_, _, rfl, rfl, trivial, h⟩ | exact False.elim h
theorem ok_le : OpR X (compareOp .LtE) (rOp .le) := ok_ints (rI0_rI op_le) (fun i j => .bool (decide (i ≤ j))) (fun _ _ _ _ _ => .bl _) (fun _ _ _ => by simp) fun d e Kx h => by
  cases d <;> cases e <;> first | exact ⟨_, _, rfl, rfl, trivial, h⟩ | exact False.elim h
theorem ok_gt : OpR X (compareOp .Gt) (rOp .gt) := ok_ints (rI0_rI op_gt) (fun i j => .bool (decide (j < i))) (fun _ _ _ _ _ => .bl _) (fun _ _ _ => by simp) fun d e Kx h => by
  cases d <;> cases e <;> first | exact ⟨_, _, rfl, rfl, trivial, h⟩ | exact False.elim h
theorem ok_ge : OpR X (compareOp .GtE) (rOp .ge) := ok_ints (rI0_rI op_ge) (fun i j => .bool (decide (j ≤ i))) (fun _ _ _ _ _ => .bl _) (fun _ _ _ => by simp) fun d e Kx h => by
  cases d <;> cases e <;> first | exact ⟨_, _, rfl, rfl, trivial, h⟩ | exact False.elim h
theorem ok_sub : OpR X (binaryOp .Sub) (rOp .sub) := ok_ints (rI0_rI op_sub) (fun i j => .int (i - j)) (fun _ _ _ _ _ => .int _) (fun _ _ _ => by simp) fun d e Kx h => by
  cases d <;> cases e <;> first | exact ⟨_, _, rfl, rfl, trivial, h⟩ | exact False.elim h
theorem ok_fdiv : OpR X (binaryOp .FloorDiv) (rOp .fdiv) := ok_ints op_fdivG (fun i j => .int (i.fdiv j)) (fun _ _ _ _ _ => .int _) (fun _ _ _ => by simp) fun d e Kx h => by
  cases d <;> cases e <;> first | exact ⟨_, _, rfl, rfl, h.1, h.2⟩ | exact False.elim h
theorem ok_mod : OpR X (binaryOp .Mod) (rOp .mod) := ok_ints op_modN (fun i j => .int (i.fmod j)) (fun _ _ _ _ _ => .int _) (fun _ _ _ => by simp) fun d e Kx h => by
  cases d <;> cases e <;> first | exact ⟨_, _, rfl, rfl, h.1, h.2⟩ | exact False.elim h
theorem ok_pow : OpR X (binaryOp .Pow) (rOp .pow) := ok_ints op_pow (fun i j => .int (i ^ j.toNat)) (fun _ _ _ _ _ => .int _) (fun _ _ _ => by simp) fun d e Kx h => by
  cases d <;> cases e <;> first | exact ⟨_, _, rfl, rfl, h.1, h.2⟩ | exact False.elim h
theorem ok_add : OpR X (binaryOp .Add) (rOp .add) := by
  intro pins s σ H x y v u Q I rx ry ⟨pT, O, d, e, Kx, ok, wx, wy, hw, q⟩
  cases d <;> cases e <;> try exact False.elim hw
  · exact op_add pins s σ H x y v u Q I rx ry ⟨_, _, wx.int, wy.int, q _ _ _ hw (.flat .refl (.int _) (by simp)) .refl⟩
  · obtain ⟨h1, h2⟩ := hw
    obtain ⟨p, vs, rfl, hp, n1, r1⟩ := wx.list ok.tp
    obtain ⟨p', vs', rfl, hp', n2, r2⟩ := wy.list ok.tp
    exact op_cat pins s σ H _ _ v u Q I rx ry ⟨p, p', vs, vs', rfl, rfl, hp, hp', by rw [r1.length, r2.length]; exact h1, fun z nz => q _ _ _ h2 (.lst ok (fun p e => ok.live p (ok.tp p e)) .refl nz ok.live (r1.append r2)) (.new nz)⟩
  · obtain ⟨h1, h2⟩ := hw
    obtain ⟨p, vs, rfl, hp, n1, r1⟩ := wx.tuple
    obtain ⟨p', vs', rfl, hp', n2, r2⟩ := wy.tuple
    refine op_catA pins s σ H _ _ v u Q I rx ry ⟨p, p', vs, vs', rfl, rfl, .of hp, .of hp', by rw [r1.length, r2.length]; exact h1, fun e => ?_, fun _ e => ?_, fun _ _ z nz => q _ _ _ h2 (.tup .refl nz ok.live (r1.append r2)) (.new nz)⟩
    · subst e; cases r1; exact q _ _ _ h2 (.flat .refl (.tup hp' n2 r2) (by simp)) .refl
    · subst e; cases r2; rw [List.append_nil] at h2; exact q _ _ _ h2 (.flat .refl (.tup hp n1 r1) (by simp)) .refl
theorem ok_mul : OpR X (binaryOp .Mult) (rOp .mul) := by
  intro pins s σ H x y v u Q I rx ry ⟨pT, O, d, e, Kx, ok, wx, wy, hw, q⟩
  cases d <;> cases e <;> try exact False.elim hw
  · exact op_mulG pins s σ H x y v u Q I rx ry ⟨_, _, wx.int, wy.int, hw.1, q _ _ _ hw.2 (.flat .refl (.int _) (by simp)) .refl⟩
  · obtain ⟨h1, h2, h3, h4⟩ := hw
    obtain ⟨p, vs, rfl, hp, n1, r1⟩ := wx.list ok.tp
    exact op_rep pins s σ H _ _ v u Q I rx ry ⟨p, _, vs, rfl, wy.int, hp, h1, h2, by rw [r1.length]; exact h3, fun z nz => q _ _ _ h4 (.lst ok (fun p e => ok.live p (ok.tp p e)) .refl nz ok.live (r1.rep _)) (.new nz)⟩
  · obtain ⟨h1, h2, h3, h4, h5⟩ := hw
    obtain ⟨p, vs, rfl, hp, n1, r1⟩ := wx.tuple
    refine op_repA pins s σ H _ _ v u Q I rx ry ⟨p, _, vs, rfl, wy.int, .of hp, fun e => h1 (by subst e; cases r1; rfl), h2, h3, by rw [r1.length]; exact h4, fun e => ?_, fun _ z nz => q _ _ _ h5 (.tup .refl nz ok.live (r1.rep _)) (.new nz)⟩
    subst e
    rw [show (Int.toNat 1) = 1 from rfl, List.replicate_one, List.flatten_singleton] at h5
    exact q _ _ _ h5 (.flat .refl (.tup hp n1 r1) (by simp)) .refl
theorem ok_eq (hu : X.A.units + 64 < cLine) : OpR X (compareOp .Eq) (rOp .eq) := by
  intro pins s σ H x y v u Q I rx ry ⟨pT, O, d, e, Kx, ok, wx, wy, hw, q⟩
  have hw : eqOk d ∧ eqOk e ∧ Kx (.bool (PyData.eqv d e)) := by cases d <;> exact hw
  exact op_eqD hu pins s σ H x y v u Q I rx ry ⟨d, e, wx.dp (hd_shaped hw.1), wy.dp (hd_shaped hw.2.1), hw.1, hw.2.1, q _ _ _ hw.2.2 (.flat .refl (.bl _) (by simp)) .refl⟩
theorem ok_ne (hu : X.A.units + 64 < cLine) : OpR X (compareOp .NotEq) (rOp .ne) := by
  intro pins s σ H x y v u Q I rx ry ⟨pT, O, d, e, Kx, ok, wx, wy, hw, q⟩
  have hw : eqOk d ∧ eqOk e ∧ Kx (.bool (!PyData.eqv d e)) := by cases d <;> exact hw
  exact op_neD hu pins s σ H x y v u Q I rx ry ⟨d, e, wx.dp (hd_shaped hw.1), wy.dp (hd_shaped hw.2.1), hw.1, hw.2.1, q _ _ _ hw.2.2 (.flat .refl (.bl _) (by simp)) .refl⟩
theorem non_iff {pT : Option Addr} {O : Addr → Prop} {H : Hp} {v : V} {d : PyData} (r : RepW pT O H v d) : decide (v = .non) = isNoneD d := by
  rcases r with r | ⟨p, vs, xs, rfl, rfl, h, n, r⟩
  · cases r <;> simp [tapeD, isNoneD]
  · simp [isNoneD]
theorem ok_is : OpR X (compareOp .Is) (rOp .is) := by
  intro pins s σ H x y v u Q I rx ry ⟨pT, O, d, e, Kx, ok, wx, wy, hw, q⟩
  cases e with
  | none =>
    have hw : Kx (.bool (isNoneD d)) := by cases d <;> exact hw
    exact op_isN pins s σ H x y v u Q I rx ry ⟨wy.none, by rw [non_iff wx]; exact q _ _ _ hw (.flat .refl (.bl _) (by simp)) .refl⟩
  | bool b =>
    cases d <;> try exact False.elim hw
    exact op_isBl pins s σ H x y v u Q I rx ry ⟨_, _, wx.bool, wy.bool, q _ _ _ hw (.flat .refl (.bl _) (by simp)) .refl⟩
  | _ => cases d <;> exact False.elim hw
theorem ok_isn : OpR X (compareOp .IsNot) (rOp .isn) := by
  intro pins s σ H x y v u Q I rx ry ⟨pT, O, d, e, Kx, ok, wx, wy, hw, q⟩
  cases e with
  | none =>
    have hw : Kx (.bool (!isNoneD d)) := by cases d <;> exact hw
    exact op_notN pins s σ H x y v u Q I rx ry ⟨wy.none, by rw [non_iff wx]; exact q _ _ _ hw (.flat .refl (.bl _) (by simp)) .refl⟩
  | bool b =>
    cases d <;> try exact False.elim hw
    exact op_notBl pins s σ H x y v u Q I rx ry ⟨_, _, wx.bool, wy.bool, q _ _ _ hw (.flat .refl (.bl _) (by simp)) .refl⟩
  | _ => cases d <;> exact False.elim hw
theorem ok_inn : OpR X (compareOp .In) (rOp .inn) := by
  intro pins s σ H x y v u Q I rx ry ⟨pT, O, d, e, Kx, ok, wx, wy, hw, q⟩
  cases e with
  | list ys =>
    obtain ⟨h1, h2, h3⟩ : flatD d = true ∧ ys.all flatD = true ∧ Kx (.bool (inD d ys)) := by cases d <;> exact hw
    obtain ⟨p, vs, rfl, hp, _, r⟩ := wy.list ok.tp
    obtain ⟨f1, f2⟩ := inV_of wx h1 r h2
    exact op_in_seq pins s σ H x _ v u Q I rx ry ⟨p, vs, rfl, .inl (.of hp), (flat_of wx h1).1, f1, by simp only [Bool.false_eq_true, if_false, f2]; exact q _ _ _ h3 (.flat .refl (.bl _) (by simp)) .refl⟩
  | tuple ys =>
    obtain ⟨h1, h2, h3⟩ : flatD d = true ∧ ys.all flatD = true ∧ Kx (.bool (inD d ys)) := by cases d <;> exact hw
    obtain ⟨p, vs, rfl, hp, _, r⟩ := wy.tuple
    obtain ⟨f1, f2⟩ := inV_of wx h1 r h2
    exact op_in_seq pins s σ H x _ v u Q I rx ry ⟨p, vs, rfl, .inr (.of hp), (flat_of wx h1).1, f1, by simp only [Bool.false_eq_true, if_false, f2]; exact q _ _ _ h3 (.flat .refl (.bl _) (by simp)) .refl⟩
  | _ => cases d <;> exact False.elim hw
theorem ok_nin : OpR X (compareOp .NotIn) (rOp .nin) := by
  intro pins s σ H x y v u Q I rx ry ⟨pT, O, d, e, Kx, ok, wx, wy, hw, q⟩
  cases e with
  | list ys =>
    obtain ⟨h1, h2, h3⟩ : flatD d = true ∧ ys.all flatD = true ∧ Kx (.bool (!inD d ys)) := by cases d <;> exact hw
    obtain ⟨p, vs, rfl, hp, _, r⟩ := wy.list ok.tp
    obtain ⟨f1, f2⟩ := inV_of wx h1 r h2
    exact op_notIn_seq pins s σ H x _ v u Q I rx ry ⟨p, vs, rfl, .inl (.of hp), (flat_of wx h1).1, f1, by simp only [if_true, f2]; exact q _ _ _ h3 (.flat .refl (.bl _) (by simp)) .refl⟩
  | tuple ys =>
    obtain ⟨h1, h2, h3⟩ : flatD d = true ∧ ys.all flatD = true ∧ Kx (.bool (!inD d ys)) := by cases d <;> exact hw
    obtain ⟨p, vs, rfl, hp, _, r⟩ := wy.tuple
    obtain ⟨f1, f2⟩ := inV_of wx h1 r h2
    exact op_notIn_seq pins s σ H x _ v u Q I rx ry ⟨p, vs, rfl, .inr (.of hp), (flat_of wx h1).1, f1, by simp only [if_true, f2]; exact q _ _ _ h3 (.flat .refl (.bl _) (by simp)) .refl⟩
  | _ => cases d <;> exact False.elim hw
theorem ok_arith {o : Op2} {op : Operator} (h : arithOf o = some op) : OpR X (binaryOp op) (rOp o) := by
  cases o <;> simp [arithOf] at h <;> subst h
  · exact ok_add
  · exact ok_sub
  · exact ok_mul
  · exact ok_fdiv
  · exact ok_mod
  · exact ok_pow
theorem ok_cmp (hu : X.A.units + 64 < cLine) {o : Op2} {op : CmpOp} (h : cmpOf o = some op) : OpR X (compareOp op) (rOp o) := by
  cases o <;> simp [cmpOf] at h <;> subst h
  · exact ok_lt
  · exact ok_le
  · exact ok_gt
  · exact ok_ge
  · exact ok_eq hu
  · exact ok_ne hu
  · exact ok_is
  · exact ok_isn
  · exact ok_inn
  · exact ok_nin
end
end G

set_option maxHeartbeats 2000000
namespace G
open PySem PySem.Spec PyProof.Rows L2

theorem minL_spec : ∀ (ns : List Int) (m x : Int), (x = m ∨ x ∈ ns) → (x ≤ m ∧ ∀ y ∈ ns, x ≤ y) → minL m ns = x
  | [], m, x, h, _ => by rcases h with h | h; · exact h.symm
                         · simp at h
  | y :: r, m, x, h, ⟨h1, h2⟩ => by
    unfold minL
    refine minL_spec r _ x ?_ ⟨?_, fun z hz => h2 z (List.mem_cons_of_mem _ hz)⟩
    · rcases h with h | h
      · split
        · rename_i hlt
          have := h2 y (by simp)
          omega
        · exact .inl h
      · rcases List.mem_cons.mp h with h | h
        · split
          · exact .inl h
          · rename_i hlt
            exact .inl (by omega)
        · exact .inr h
    · split
      · exact h2 y (by simp)
      · exact h1
theorem maxL_spec : ∀ (ns : List Int) (m x : Int), (x = m ∨ x ∈ ns) → (m ≤ x ∧ ∀ y ∈ ns, y ≤ x) → maxL m ns = x
  | [], m, x, h, _ => by rcases h with h | h; · exact h.symm
                         · simp at h
  | y :: r, m, x, h, ⟨h1, h2⟩ => by
    unfold maxL
    refine maxL_spec r _ x ?_ ⟨?_, fun z hz => h2 z (List.mem_cons_of_mem _ hz)⟩
    · rcases h with h | h
      · split
        · rename_i hlt
          have := h2 y (by simp)
          omega
        · exact .inl h
      · rcases List.mem_cons.mp h with h | h
        · split
          · exact .inl h
          · rename_i hlt
            exact .inl (by omega)
        · exact .inr h
    · split
      · exact h2 y (by simp)
      · exact h1
/-- arguments, weakly -/
inductive RepWL (pT : Option Addr) (O : Addr → Prop) (H : Hp) : List V → List PyData → Prop
  | nil : RepWL pT O H [] []
  | cons {v : V} {vs : List V} {d : PyData} {ds : List PyData} : RepW pT O H v d → RepWL pT O H vs ds → RepWL pT O H (v :: vs) (d :: ds)
theorem RepWL.grow {pT : Option Addr} {O : Addr → Prop} {H H' : Hp} (g : Grow pT H H') (hp : ∀ a, pT = some a → O a) : ∀ {vs : List V} {ds : List PyData}, RepWL pT O H vs ds → RepWL pT O H' vs ds
  | _, _, .nil => .nil
  | _, _, .cons a b => .cons (a.grow g hp) (RepWL.grow g hp b)
theorem RepWL.length {pT : Option Addr} {O : Addr → Prop} {H : Hp} : ∀ {vs : List V} {ds : List PyData}, RepWL pT O H vs ds → vs.length = ds.length
  | _, _, .nil => rfl
  | _, _, .cons a b => by rw [List.length_cons, List.length_cons, RepWL.length b]
def rBi (b : Bi) : List V → Hp → VK → Prop := fun xs H Q => ∃ pT O ds Kx, OOk pT O H ∧ RepWL pT O H xs ds ∧ biW b ds Kx ∧ ∀ z v H', Kx z → Out pT O true true H H' v z → Grow none H H' → Q v H'
section
variable {X : Cx}
/-- sorted of a list of data -/
theorem cr_sortedD (hu : X.A.units + 64 < cLine) {pins : List (Addr × Obj)} {s : Shared} {σ : L2.St} {H : Hp} {a : Addr} {vs : List V} {ds : List PyData} {pT : Option Addr} {O : Addr → Prop} {Q : VK} (I : Inv X pins σ H s) (ha : H a = some (.lst vs)) (r : RepL pT O H vs ds)
    (h1 : PySem.W.AllAlike ds) (h2 : PySem.W.Sortable ds) (h3 : ∀ d ∈ ds, d.hasDict = false ∧ d.depth ≤ 60)
    (q : ∀ vs' p, H p = none → RepL pT O H vs' (ds.mergeSort (PySem.W.dataLe false id)) → Q (.ref p) (upd H p (.lst vs'))) : wpAny (model X.prog X.w) X.A (call (.builtin "sorted") [.ref a]) (EP X pins σ Q) X.xe s := by
  obtain ⟨its, rv, hl, hz⟩ := I.list (.of ha)
  have e1 : ∀ {vs : List V} {us : List Value} {ds : List PyData}, Vals vs us → RepL pT O H vs ds → PySem.W.EachIs (fun u d => ∃ v, RelV v u ∧ Rep pT O H v d) us ds := by
    intro vs us ds h
    induction h generalizing ds with
    | nil => intro r; cases r; exact .nil
    | cons a b ih => intro r; cases r with | cons x y => exact .cons ⟨_, a, x⟩ (ih y)
  have e2 : ∀ {us : List Value} {ds : List PyData}, PySem.W.EachIs (fun u d => ∃ v, RelV v u ∧ Rep pT O H v d) us ds → (∀ d ∈ ds, d.hasDict = false ∧ d.depth ≤ 60) → PySem.W.EachIs (fun u d => ∃ as, Reads s.heap u (id d) as) us ds := by
    intro us ds h
    induction h with
    | nil => intro _; exact .nil
    | cons a b ih =>
      intro hh
      obtain ⟨v, r1, r2⟩ := a
      exact .cons (Dp.reads I _ _ _ (r2.dp (hh _ (by simp)).1) r1) (ih fun d hd => hh d (List.mem_cons_of_mem _ hd))
  have e3 : ∀ {us : List Value} {ds : List PyData}, PySem.W.EachIs (fun u d => ∃ v, RelV v u ∧ Rep pT O H v d) us ds → ∃ vs, Vals vs us ∧ RepL pT O H vs ds := by
    intro us ds h
    induction h with
    | nil => exact ⟨[], .nil, .nil⟩
    | cons a b ih =>
      obtain ⟨v, r1, r2⟩ := a
      obtain ⟨vs, r3, r4⟩ := ih
      exact ⟨v :: vs, .cons r1 r3, .cons r2 r4⟩
  have E := e1 rv r
  have hlen : ds.length ≤ sizeLine := by rw [← r.length]; exact hz
  refine PySem.W.sorted_data (enc := id) hl.isList E (e2 E h3) (by rw [List.map_id]; exact h1) (by rw [List.map_id]; exact h2) hlen (fun b hb => by have := (h3 b hb).2; show _ + 2 + b.depth < _; omega) fun out ho eo => ?_
  obtain ⟨vs', w1, w2⟩ := e3 eo
  obtain ⟨ep, he'⟩ := PyProof.Rows.sortedAll_at s.heap its out.toArray
  have hl2 : vs'.length ≤ sizeLine := by rw [w1.length, ho]; exact hlen
  exact ⟨.ref _, upd H (s.heap.objs.size + 1) (.lst vs'), I.laid (t' := s.toks) (fun _ _ => PyProof.Rows.sortedAll_old) (Nat.le_succ _) ⟨hl2, out, ep, w1, he'⟩, rfl, q vs' _ (I.hok.fresh (Nat.le_succ _)) w2⟩
theorem ok_len : CallR X (.builtin "len") (rBi .len) := by
  intro pins s σ H xs us Q I r ⟨pT, O, ds, Kx, ok, w, hb, q⟩
  match ds, w, hb with
  | [.list l], .cons a .nil, hb =>
    obtain ⟨p, vs, rfl, hp, n, rl⟩ := a.list ok.tp
    exact call_len_seq pins s σ H _ us Q I r ⟨p, vs, rfl, .inl (.of hp), by rw [rl.length]; exact q _ _ _ hb (.flat .refl (.int _) (by simp)) .refl⟩
  | [.tuple l], .cons a .nil, hb =>
    obtain ⟨p, vs, rfl, hp, n, rl⟩ := a.tuple
    exact call_len_seq pins s σ H _ us Q I r ⟨p, vs, rfl, .inr (.of hp), by rw [rl.length]; exact q _ _ _ hb (.flat .refl (.int _) (by simp)) .refl⟩
theorem ok_abs : CallR X (.builtin "abs") (rBi .abs) := by
  intro pins s σ H xs us Q I r ⟨pT, O, ds, Kx, ok, w, hb, q⟩
  match ds, w, hb with
  | [.int i], .cons a .nil, hb => exact call_abs pins s σ H _ us Q I r ⟨i, by rw [a.int], q _ _ _ hb (.flat .refl (.int _) (by simp)) .refl⟩
theorem ok_min2 (hc : X.calm = true) : CallR X (.builtin "min") (rBi .min2) := by
  intro pins s σ H xs us Q I r ⟨pT, O, ds, Kx, ok, w, hb, q⟩
  match ds, w, hb with
  | [.int i, .int j], .cons a (.cons b .nil), hb => exact call_min2 hc pins s σ H _ us Q I r ⟨i, j, by rw [a.int, b.int], q _ _ _ hb (.flat .refl (.int _) (by simp)) .refl⟩
theorem ok_max2 (hc : X.calm = true) : CallR X (.builtin "max") (rBi .max2) := by
  intro pins s σ H xs us Q I r ⟨pT, O, ds, Kx, ok, w, hb, q⟩
  match ds, w, hb with
  | [.int i, .int j], .cons a (.cons b .nil), hb => exact call_max2 hc pins s σ H _ us Q I r ⟨i, j, by rw [a.int, b.int], q _ _ _ hb (.flat .refl (.int _) (by simp)) .refl⟩
theorem ok_min1 (hc : X.calm = true) : CallR X (.builtin "min") (rBi .min1) := by
  intro pins s σ H xs us Q I r ⟨pT, O, ds, Kx, ok, w, hb, q⟩
  match ds, w, hb with
  | [.list l], .cons a .nil, hb =>
    obtain ⟨p, vs, rfl, hp, n, rl⟩ := a.list ok.tp
    have hb : (match intsOf l with | some (n :: ns) => Kx (.int (minL n ns)) | _ => False) := hb
    split at hb
    · rename_i m ns e
      have ev := rl.ints e
      subst ev
      refine cr_min hc pins s σ H _ us Q I r ⟨p, m :: ns, rfl, .of hp, by simp, fun x h1 h2 => ?_⟩
      rw [← minL_spec ns m x (by simpa using h1) ⟨h2 m (by simp), fun y hy => h2 y (by simp [hy])⟩]
      exact q _ _ _ hb (.flat .refl (.int _) (by simp)) .refl
    · exact hb.elim
theorem ok_max1 (hc : X.calm = true) : CallR X (.builtin "max") (rBi .max1) := by
  intro pins s σ H xs us Q I r ⟨pT, O, ds, Kx, ok, w, hb, q⟩
  match ds, w, hb with
  | [.list l], .cons a .nil, hb =>
    obtain ⟨p, vs, rfl, hp, n, rl⟩ := a.list ok.tp
    have hb : (match intsOf l with | some (n :: ns) => Kx (.int (maxL n ns)) | _ => False) := hb
    split at hb
    · rename_i m ns e
      have ev := rl.ints e
      subst ev
      refine cr_max hc pins s σ H _ us Q I r ⟨p, m :: ns, rfl, .of hp, by simp, fun x h1 h2 => ?_⟩
      rw [← maxL_spec ns m x (by simpa using h1) ⟨h2 m (by simp), fun y hy => h2 y (by simp [hy])⟩]
      exact q _ _ _ hb (.flat .refl (.int _) (by simp)) .refl
    · exact hb.elim
theorem ok_sum (hc : X.calm = true) : CallR X (.builtin "sum") (rBi .sum) := by
  intro pins s σ H xs us Q I r ⟨pT, O, ds, Kx, ok, w, hb, q⟩
  match ds, w, hb with
  | [.list l], .cons a .nil, hb =>
    obtain ⟨p, vs, rfl, hp, n, rl⟩ := a.list ok.tp
    have hb : (match intsOf l with | some ns => Kx (.int ns.sum) | none => False) := hb
    split at hb
    · rename_i ns e
      have ev := rl.ints e
      subst ev
      exact cr_sum hc pins s σ H _ us Q I r ⟨p, ns, rfl, .of hp, q _ _ _ hb (.flat .refl (.int _) (by simp)) .refl⟩
    · exact hb.elim
theorem ok_all (hc : X.calm = true) : CallR X (.builtin "all") (rBi .all) := by
  intro pins s σ H xs us Q I r ⟨pT, O, ds, Kx, ok, w, hb, q⟩
  match ds, w, hb with
  | [.list l], .cons a .nil, hb =>
    obtain ⟨p, vs, rfl, hp, n, rl⟩ := a.list ok.tp
    have hb : (match boolsOf l with | some ns => Kx (.bool (ns.all id)) | none => False) := hb
    split at hb
    · rename_i ns e
      have ev := rl.bools e
      subst ev
      exact cr_all hc pins s σ H _ us Q I r ⟨p, ns, rfl, .of hp, q _ _ _ hb (.flat .refl (.bl _) (by simp)) .refl⟩
    · exact hb.elim
theorem ok_int : CallR X (.type "int") (rBi .int) := by
  intro pins s σ H xs us Q I r ⟨pT, O, ds, Kx, ok, w, hb, q⟩
  match ds, w, hb with
  | [.int i], .cons a .nil, hb => exact call_int1 pins s σ H _ us Q I r (.inl ⟨i, by rw [a.int], q _ _ _ hb (.flat .refl (.int _) (by simp)) .refl⟩)
  | [.bool i], .cons a .nil, hb => exact call_int1 pins s σ H _ us Q I r (.inr ⟨i, by rw [a.bool], q _ _ _ hb (.flat .refl (.int _) (by simp)) .refl⟩)
theorem ok_list : CallR X (.type "list") (rBi .list) := by
  intro pins s σ H xs us Q I r ⟨pT, O, ds, Kx, ok, w, hb, q⟩
  match ds, w, hb with
  | [.list l], .cons a .nil, hb =>
    obtain ⟨p, vs, rfl, hp, n, rl⟩ := a.list ok.tp
    exact call_list_of pins s σ H _ us Q I r ⟨p, vs, rfl, .inl (.of hp), fun z nz => q _ _ _ hb (.lst ok (fun p e => ok.live p (ok.tp p e)) .refl nz ok.live rl) (.new nz)⟩
  | [.tuple l], .cons a .nil, hb =>
    obtain ⟨p, vs, rfl, hp, n, rl⟩ := a.tuple
    exact call_list_of pins s σ H _ us Q I r ⟨p, vs, rfl, .inr (.of hp), fun z nz => q _ _ _ hb (.lst ok (fun p e => ok.live p (ok.tp p e)) .refl nz ok.live rl) (.new nz)⟩
theorem ok_tuple : CallR X (.type "tuple") (rBi .tuple) := by
  intro pins s σ H xs us Q I r ⟨pT, O, ds, Kx, ok, w, hb, q⟩
  match ds, w, hb with
  | [.list l], .cons a .nil, hb =>
    obtain ⟨p, vs, rfl, hp, n, rl⟩ := a.list ok.tp
    exact call_tuple_of pins s σ H _ us Q I r ⟨p, vs, rfl, .inl ⟨.of hp, fun z nz => q _ _ _ hb (.tup .refl nz ok.live rl) (.new nz)⟩⟩
  | [.tuple l], .cons a .nil, hb =>
    obtain ⟨p, vs, rfl, hp, n, rl⟩ := a.tuple
    exact call_tuple_of pins s σ H _ us Q I r ⟨p, vs, rfl, .inr ⟨.of hp, q _ _ _ hb (.flat .refl (.tup hp n rl) (by simp)) .refl⟩⟩
theorem ok_sorted (hu : X.A.units + 64 < cLine) : CallR X (.builtin "sorted") (rBi .sorted) := by
  intro pins s σ H xs us Q I r ⟨pT, O, ds, Kx, ok, w, hb, q⟩
  match ds, w, hb with
  | [.list l], .cons a .nil, ⟨h1, h2, h3, h4⟩ =>
    obtain ⟨p, vs, rfl, hp, n, rl⟩ := a.list ok.tp
    rw [Vals.ref1 r]
    exact cr_sortedD hu I hp rl h1 h2 h3 fun vs' z nz rl' => q _ _ _ h4 (.lst ok (fun p e => ok.live p (ok.tp p e)) .refl nz ok.live rl') (.new nz)
end
/-- repr tells data (proved where a law needs it) -/
def ReprAll : Prop := ∀ X : Cx, X.A.guards = some [] → X.A.units + 64 < cLine → CallR X (.builtin "repr") (rBi .repr)
end G

set_option maxHeartbeats 2000000
namespace G
open PySem PySem.Spec PyProof.Rows L2

theorem _root_.L2.PE.weaken {X : Cx} {e : Expr} {t t' : TE} (h : PE X e t) (w : ∀ σ H Q, t' σ H Q → t σ H Q) : PE X e t' := ⟨fun p s σ H Q I q => h.run p s σ H Q I (w _ _ _ q)⟩
theorem _root_.L2.PT.weaken {X : Cx} {e : Expr} {t t' : TT} (h : PT X e t) (w : ∀ σ H Q, t' σ H Q → t σ H Q) : PT X e t' := ⟨fun p s σ H Q I q => h.run p s σ H Q I (w _ _ _ q)⟩
theorem _root_.L2.PW.weaken {X : Cx} {e : Expr} {t t' : TT} (h : PW X e t) (w : ∀ σ H Q, t' σ H Q → t σ H Q) : PW X e t' := ⟨fun wh p s σ H Q I q => h.run wh p s σ H Q I (w _ _ _ q)⟩
theorem _root_.L2.PA.weaken {X : Cx} {e : List Expr} {t t' : TA} (h : PA X e t) (w : ∀ σ H Q, t' σ H Q → t σ H Q) : PA X e t' := ⟨fun ps p s σ H Q I q => h.run ps p s σ H Q I (w _ _ _ q)⟩
theorem _root_.L2.PI.weaken {X : Cx} {tg e : Expr} {t t' : TI} (h : PI X tg e t) (w : ∀ σ H Q, t' σ H Q → t σ H Q) : PI X tg e t' := ⟨fun p s σ H Q I q => h.run p s σ H Q I (w _ _ _ q)⟩

/-! ### kinds -/
/-- an expression, arguments, what is walked -/
def kd : Ex → Nat
  | .nil => 1
  | .cons _ _ => 1
  | .iseq _ => 2
  | .irng1 _ => 2
  | .irng2 _ _ => 2
  | .izip _ _ => 2
  | .ienum _ => 2
  | _ => 0
def strictX : Ex → Bool
  | .own _ => false
  | .ife _ a b => strictX a && strictX b
  | _ => true
def strictA : Ex → Bool
  | .nil => true
  | .cons a as => strictX a && strictA as
  | _ => true
def freshX : Ex → Bool
  | .lst _ => true
  | .comp _ _ _ _ _ => true
  | .op _ _ _ => true
  | .bi _ _ => true
  | .sl _ _ _ => true
  | .rev _ => true
  | .lrng _ => true
  | _ => false
/-- a walk over what may be one's own -/
def strictI : Ex → Bool
  | .iseq a => strictX a
  | .izip a b => strictX a && strictX b
  | .ienum a => strictX a
  | _ => true

/-! ### the readings -/
section
variable (K : PySem.W.Frag) (c : Cal)
def tE (x : Ex) : TE := fun σ H Q => ∃ P os env t Kx, RR K P os env t σ H ∧ evE c x env t Kx ∧
  ∀ d t' v H', Kx d t' → RR K P os env t' σ H' → Out P.pT (Own P os) (strictX x) (freshX x) H H' v d → Q v H'
def tT (x : Ex) : TT := fun σ H Q => ∃ P os env t Kx, RR K P os env t σ H ∧ evE c x env t Kx ∧ (∀ d t', Kx d t' → ∃ b, d = .bool b) ∧
  ∀ b t' H', Kx (.bool b) t' → RR K P os env t' σ H' → Grow P.pT H H' → Q b H'
def tA (x : Ex) : TA := fun σ H Q => ∃ P os env t Kx, RR K P os env t σ H ∧ evE c x env t Kx ∧
  ∀ l t' vs H', Kx l t' → RR K P os env t' σ H' → Grow P.pT H H' → (∃ ds, l = .list ds ∧ RepWL P.pT (Own P os) H' vs ds ∧ (strictA x = true → RepL P.pT (Own P os) H' vs ds)) → Q vs H'
/-- the i-th item comes: as it stood at H1, or a new pair of such -/
def YItem (pT : Option Addr) (O : Addr → Prop) (H1 : Hp) (items : List PyData) : Nat → Hp → V → Hp → Prop := fun i H x H' =>
  (H' = H ∧ ∃ d, items[i]? = some d ∧ Rep pT O H1 x d) ∨
  ∃ T x1 x2 d1 d2, items[i]? = some (.tuple [d1, d2]) ∧ x = .ref T ∧ H T = none ∧ H' = upd H T (.tup [x1, x2]) ∧ Rep pT O H1 x1 d1 ∧ Rep pT O H1 x2 d2
structure Src (pT : Option Addr) (O : Addr → Prop) (st : Bool) (J : It) (items : List PyData) (as : List Addr) (H1 : Hp) : Prop where
  live : ∀ a ∈ as, H1 a ≠ none ∧ pT ≠ some a ∧ (st = true → ¬ O a)
  len : items.length ≤ sizeLine
  walk : Walk J items.length (fun H => ∀ a ∈ as, H a = H1 a) (YItem pT O H1 items)
def tI (x : Ex) : TI := fun σ H R => ∃ P os env t Kx, RR K P os env t σ H ∧ evE c x env t Kx ∧
  ∀ l t' H' J, Kx l t' → RR K P os env t' σ H' → Grow P.pT H H' → (∃ items as, l = .list items ∧ Src P.pT (Own P os) (strictI x) J items as H') → R J H'
/-- a def's promise -/
def spOf (f : Nat) : Sp := fun vs H Q _ => ∃ pT O ds t Kx, OOk pT O H ∧ RepL pT O H vs ds ∧ (∀ ts, t = some ts → ∃ p, pT = some p ∧ H p = some (.lst (ts.map .int))) ∧ c f ds t Kx ∧
  ∀ d t' v H', Kx d t' → Grow pT H H' → (∀ ts, t' = some ts → ∃ p, pT = some p ∧ H' p = some (.lst (ts.map .int))) → (∀ p, pT = some p → H' p ≠ none) → Rep pT O H' v d → Q v H'
/-- the next number of the tape -/
def spDraw : Sp := fun vs H Q _ => ∃ p ts, vs = [.ref p] ∧ H p = some (.lst (ts.map .int)) ∧ ∀ H1, (∀ a o, H a = some o → H1 a = some o) →
  (ts = [] → Q (.int 0) H1) ∧ ∀ n ns, ts = n :: ns → Q (.int n) (upd H1 p (.lst (ns.map .int)))
end

structure DefI where
  name : Str
  ps : List Str
  kw : Bool
/-- a def called by keywords alone, in the parameters' order -/
def KWB (K : PySem.W.Frag) (fd : FuncData) (ps : List Str) : Prop := ∀ (s : Shared) (ws : List Value), K.In s.heap → ws.length = ps.length → BindsTo s fd ⟨[], ps.zip ws⟩ (ps.zip ws)
structure Tab where
  D : List DefI
  gl : List (Str × Int)
  rp : Bool
def bltNames : List Str := ["len", "abs", "min", "max", "sum", "all", "int", "list", "tuple", "range", "zip", "enumerate", "sorted", "isinstance", "repr", "bool", "str", "dict"]
structure Good (T : Tab) (c : Cal) (lv : Nat) (X : Cx) : Prop where
  calm : X.calm = true
  nd : X.N.Nodup
  room : Room lv X.A
  xe : X.xe = fun _ _ => False
  free : ∀ x ∈ bltNames, X.mg x = none
  glob : ∀ p ∈ T.gl, ∃ t, X.mg p.1 = some (.int p.2 t)
  rp : T.rp = true → X.A.guards = some [] ∧ ReprAll
  defs : ∀ f d, T.D[f]? = some d → ∃ a fd, X.mg d.name = some (.ref a) ∧ PySem.W.keepIn X.K (.ref a) = true ∧ Binds X.K fd d.ps [] ∧ FnOk X.prog X.w X.K X.mg X.base CX0 lv a fd d.ps (spOf c f) ∧ (d.kw = true → KWB X.K fd d.ps)
  draw : ∃ a fd, X.mg "_law_next" = some (.ref a) ∧ PySem.W.keepIn X.K (.ref a) = true ∧ Binds X.K fd ["drawn"] [] ∧ FnOk X.prog X.w X.K X.mg X.base CX0 lv a fd ["drawn"] spDraw
theorem Good.units {T : Tab} {c : Cal} {lv : Nat} {X : Cx} (g : Good T c lv X) : X.A.units + 64 < cLine := g.room.units
theorem Good.blk {T : Tab} {c : Cal} {lv : Nat} {X : Cx} (g : Good T c lv X) (s : Shared) (H : Hp) (scope : Scope) (cenv : PySem.Env) (fp : List Addr) : Good T c lv (X.blk s H scope cenv fp) :=
  ⟨g.calm, g.nd, g.room, rfl, g.free, g.glob, g.rp, g.defs, g.draw⟩
end G

set_option maxHeartbeats 2000000
namespace G
open PySem PySem.Spec PyProof.Rows L2

/-! ### whether a text is what the language's term says -/
def kindIs (sc : Scope) (x : Str) (k : NameKind) : Bool := sc.names.lookup x == some k
def noDunder (x : Str) : Bool := !(x == ("__debug__" : Str)) && !(x == ("__classdict__" : Str)) && !(x == ("__name__" : Str))
def nameOk (N : List Str) (sc : Scope) (i : Nat) (x : Str) : Bool := decide (N[i]? = some x) && (kindIs sc x .local || kindIs sc x .cell || kindIs sc x .free) && noDunder x
def storeOk (N : List Str) (fn : Str → Bool) (sc : Scope) (i : Nat) (x : Str) : Bool := decide (N[i]? = some x) && (kindIs sc x .local || (kindIs sc x .cell && fn x)) && noDunder x
def glOk (sc : Scope) (x : Str) : Bool := kindIs sc x .globalImplicit && noDunder x
def bltOk (sc : Scope) (x : Str) (y : String) : Bool := decide (x = Str.ofString y) && kindIs sc x .globalImplicit && decide (Str.ofString y ∈ bltNames)
def notStar : Expr → Bool
  | .Starred _ _ => false
  | _ => true
def notSet : Expr → Bool
  | .Set _ _ _ => false
  | _ => true
def notSlice : Expr → Bool
  | .Slice _ _ _ _ => false
  | _ => true
def notSuper : Expr → Bool
  | .Call _ _ _ _ => false
  | _ => true
def biName : Bi → String
  | .len => "len" | .abs => "abs" | .min2 => "min" | .max2 => "max" | .min1 => "min" | .max1 => "max" | .sum => "sum" | .all => "all" | .int => "int" | .list => "list" | .tuple => "tuple" | .sorted => "sorted" | .repr => "repr"
def biArity : Bi → Nat
  | .min2 => 2 | .max2 => 2 | _ => 1
def tyName : Ty → String
  | .int => "int" | .bool => "bool" | .tuple => "tuple" | .list => "list" | .str => "str" | .dict => "dict"
def isRng : Ex → Bool
  | .irng1 _ => true
  | .irng2 _ _ => true
  | _ => false
def needTup : Ex → Bool
  | .izip _ _ => true
  | .ienum _ => true
  | _ => false
def isNon : Ex → Bool
  | .non => true
  | _ => false
def isTT : Ex → Bool
  | .bl true => true
  | _ => false
/-- targets: a name, a row of names -/
def mtTs (N : List Str) (fn : Str → Bool) (sc : Scope) : List Nat → List Expr → Bool
  | [], [] => true
  | i :: is, .Name x _ :: es => storeOk N fn sc i x && mtTs N fn sc is es
  | _, _ => false
def mtT (N : List Str) (fn : Str → Bool) (sc : Scope) : Tg → Expr → Bool
  | .nm i, .Name x _ => storeOk N fn sc i x
  | .tup is, .Tuple es _ _ => mtTs N fn sc is es
  | _, _ => false
def tgIsTup : Tg → Bool
  | .tup _ => true
  | _ => false
def ownPairs (N : List Str) (own : List Nat) : List (Str × Nat) := own.map fun i => (N.getD i ("" : Str), i)
def blkFn (scope : Scope) : Str → Bool := fun x => scope.names.lookup x == some .cell

def mt (T : Tab) (N : List Str) : (fn : Str → Bool) → (sc : Scope) → Ex → Expr → Bool := fun fn sc x e => go fn sc x e
where go (fn : Str → Bool) (sc : Scope) : Ex → Expr → Bool
  | .var i, e => match e with | .Name x _ => nameOk N sc i x | _ => false
  | .own i, e => match e with | .Name x _ => nameOk N sc i x | _ => false
  | .int n, e => match e with | .Constant (.int m) _ _ => decide (n = m) | _ => false
  | .bl b, e => match e with | .Constant (.bool m) _ _ => decide (b = m) | _ => false
  | .non, e => match e with | .Constant .none _ _ => true | _ => false
  | .str b, e => match e with | .Constant (.str m) _ _ => decide (b = m) | _ => false
  | .glob x n, e => match e with | .Name y _ => decide (x = y) && glOk sc y && decide ((x, n) ∈ T.gl) | _ => false
  | .nil, e => match e with | .Set [] _ _ => true | _ => false
  | .cons a as, e => match e with | .Set (e :: es) k p => kd a == 0 && kd as == 1 && notStar e && go fn sc a e && go fn sc as (.Set es k p) | _ => false
  | .tup as, e => match e with | .Tuple es _ p => kd as == 1 && strictA as && go fn sc as (.Set es 0 p) | _ => false
  | .lst as, e => match e with | .List es p => kd as == 1 && strictA as && go fn sc as (.Set es 0 p) | _ => false
  | .op o a b, e => match e with
    | .BinOp ea op eb _ => kd a == 0 && kd b == 0 && decide (arithOf o = some op) && go fn sc a ea && go fn sc b eb
    | .Compare ea [op] [eb] _ => kd a == 0 && kd b == 0 && decide (cmpOf o = some op) && notSet eb && go fn sc a ea && go fn sc b eb
    | _ => false
  | .neg a, e => match e with | .UnaryOp .USub e _ => kd a == 0 && go fn sc a e | _ => false
  | .not a, e => match e with | .UnaryOp .Not e _ => kd a == 0 && go fn sc a e | _ => false
  | .and a b, e => match e with
    | .BoolOp .And (ea :: eb :: []) _ => kd a == 0 && kd b == 0 && go fn sc a ea && go fn sc b eb
    | .BoolOp .And (ea :: eb :: ec :: r) p => kd a == 0 && kd b == 0 && go fn sc a ea && go fn sc b (.BoolOp .And (eb :: ec :: r) p)
    | _ => false
  | .or a b, e => match e with
    | .BoolOp .Or (ea :: eb :: []) _ => kd a == 0 && kd b == 0 && go fn sc a ea && go fn sc b eb
    | .BoolOp .Or (ea :: eb :: ec :: r) p => kd a == 0 && kd b == 0 && go fn sc a ea && go fn sc b (.BoolOp .Or (eb :: ec :: r) p)
    | _ => false
  | .ife c a b, e => match e with | .IfExp ec ea eb _ => kd c == 0 && kd a == 0 && kd b == 0 && go fn sc c ec && go fn sc a ea && go fn sc b eb | _ => false
  | .chain o p a b c, e => match e with
    | .Compare ea [op, op'] [eb, ec] _ => kd a == 0 && kd b == 0 && kd c == 0 && decide (cmpOf o = some op) && decide (cmpOf p = some op') && notSet eb && notSet ec && go fn sc a ea && go fn sc b eb && go fn sc c ec
    | _ => false
  | .call f as, e => match e with
    | .Call (.Name x _) (e :: es) [] p => kd as == 1 && strictA as && (match T.D[f]? with | some d => decide (d.name = x) | none => false) && glOk sc x && go fn sc as (.Set (e :: es) 0 p)
    | .Call (.Name x _) [] kws p => kd as == 1 && strictA as && (match T.D[f]? with | some d => decide (d.name = x) && d.kw && decide (kws.map Keyword.arg = d.ps.map some) | none => false) && glOk sc x && go fn sc as (.Set (kws.map Keyword.value) 0 p)
    | _ => false
  | .draw i, e => match e with
    | .Call (.Name x _) [.Name y _] [] _ => decide (x = ("_law_next" : Str)) && glOk sc x && nameOk N sc i y
    | _ => false
  | .bi b as, e => match e with
    | .Call (.Name x _) (e :: es) [] p => kd as == 1 && bltOk sc x (biName b) && decide (es.length + 1 = biArity b) && (b != .repr || T.rp) && go fn sc as (.Set (e :: es) 0 p)
    | _ => false
  | .isi a ty, e => match e with
    | .Call (.Name x _) [ea, .Name y _] [] _ => kd a == 0 && bltOk sc x "isinstance" && bltOk sc y (tyName ty) && notStar ea && go fn sc a ea
    | _ => false
  | .idx a b, e => match e with | .Subscript ea eb _ => kd a == 0 && kd b == 0 && notSlice eb && go fn sc a ea && go fn sc b eb | _ => false
  | .sl a lo hi, e => match e with
    | .Subscript ea (.Slice elo ehi none _) _ => kd a == 0 && kd lo == 0 && kd hi == 0 && go fn sc a ea &&
        (match elo with | none => isNon lo | some e => !isNon lo && go fn sc lo e) && (match ehi with | none => isNon hi | some e => !isNon hi && go fn sc hi e)
    | _ => false
  | .rev a, e => match e with
    | .Subscript ea (.Slice none none (some (.UnaryOp .USub (.Constant (.int 1) _ _) _)) _) _ => kd a == 0 && go fn sc a ea
    | _ => false
  | .index a b, e => match e with
    | .Call (.Attribute ea nm ap) [eb] [] cp => kd a == 0 && kd b == 0 && decide (nm = ("index" : Str)) && (ap.endLine == cp.line) && notSuper ea && notStar eb && go fn sc a ea && go fn sc b eb
    | _ => false
  | .iseq a, e => kd a == 0 && notSet e && go fn sc a e
  | .irng1 a, e => match e with | .Call (.Name x _) [ea] [] _ => kd a == 0 && bltOk sc x "range" && notStar ea && go fn sc a ea | _ => false
  | .irng2 a b, e => match e with | .Call (.Name x _) [ea, eb] [] _ => kd a == 0 && kd b == 0 && bltOk sc x "range" && notStar ea && notStar eb && go fn sc a ea && go fn sc b eb | _ => false
  | .izip a b, e => match e with | .Call (.Name x _) [ea, eb] [] _ => kd a == 0 && kd b == 0 && bltOk sc x "zip" && notStar ea && notStar eb && go fn sc a ea && go fn sc b eb | _ => false
  | .ienum a, e => match e with | .Call (.Name x _) [ea] [] _ => kd a == 0 && bltOk sc x "enumerate" && notStar ea && go fn sc a ea | _ => false
  | .lrng r, e => match e with | .Call (.Name x _) [ea] [] _ => isRng r && bltOk sc x "list" && notStar ea && go fn sc r ea | _ => false
  | .trng r, e => match e with | .Call (.Name x _) [ea] [] _ => isRng r && bltOk sc x "tuple" && notStar ea && go fn sc r ea | _ => false
  | .slen i, e => match e with | .Call (.Name x _) [.Name y _] [] _ => bltOk sc x "len" && nameOk N sc i y | _ => false
  | .sidx i a, e => match e with | .Subscript (.Name y _) eb _ => kd a == 0 && notSlice eb && nameOk N sc i y && go fn sc a eb | _ => false
  | .comp el tg it c own, e => match e with
    | .ListComp ee [⟨et, ei, ifs, 0⟩] scope _ => kd it == 2 && kd c == 0 && kd el == 0 && strictX el && notSet ei && (!needTup it || tgIsTup tg) && blkC N sc scope (ownPairs N own) &&
        go fn sc it ei && mtT N (blkFn scope) (relS scope sc) tg et &&
        (match ifs with | [] => isTT c | [e] => !isTT c && go (blkFn scope) (relS scope sc) c e | _ => false) && go (blkFn scope) (relS scope sc) el ee && (match tg with | .nm i => decide (i ∈ own) | .tup is => is.all fun i => decide (i ∈ own))
    | _ => false
section
set_option autoImplicit true
theorem go_var {T : Tab} {N : List Str} {fn : Str → Bool} {sc : Scope} {e : Expr} {i} : mt.go T N fn sc (.var i) e = (match e with | .Name x _ => nameOk N sc i x | _ => false) := rfl
theorem go_own {T : Tab} {N : List Str} {fn : Str → Bool} {sc : Scope} {e : Expr} {i} : mt.go T N fn sc (.own i) e = (match e with | .Name x _ => nameOk N sc i x | _ => false) := rfl
theorem go_int {T : Tab} {N : List Str} {fn : Str → Bool} {sc : Scope} {e : Expr} {n} : mt.go T N fn sc (.int n) e = (match e with | .Constant (.int m) _ _ => decide (n = m) | _ => false) := rfl
theorem go_bl {T : Tab} {N : List Str} {fn : Str → Bool} {sc : Scope} {e : Expr} {b} : mt.go T N fn sc (.bl b) e = (match e with | .Constant (.bool m) _ _ => decide (b = m) | _ => false) := rfl
theorem go_non {T : Tab} {N : List Str} {fn : Str → Bool} {sc : Scope} {e : Expr} : mt.go T N fn sc (.non) e = (match e with | .Constant .none _ _ => true | _ => false) := rfl
theorem go_str {T : Tab} {N : List Str} {fn : Str → Bool} {sc : Scope} {e : Expr} {b} : mt.go T N fn sc (.str b) e = (match e with | .Constant (.str m) _ _ => decide (b = m) | _ => false) := rfl
theorem go_glob {T : Tab} {N : List Str} {fn : Str → Bool} {sc : Scope} {e : Expr} {x} {n} : mt.go T N fn sc (.glob x n) e = (match e with | .Name y _ => decide (x = y) && glOk sc y && decide ((x, n) ∈ T.gl) | _ => false) := rfl
theorem go_nil {T : Tab} {N : List Str} {fn : Str → Bool} {sc : Scope} {e : Expr} : mt.go T N fn sc (.nil) e = (match e with | .Set [] _ _ => true | _ => false) := rfl
theorem go_cons {T : Tab} {N : List Str} {fn : Str → Bool} {sc : Scope} {e : Expr} {a} {as} : mt.go T N fn sc (.cons a as) e = (match e with | .Set (e :: es) k p => kd a == 0 && kd as == 1 && notStar e && mt.go T N fn sc a e && mt.go T N fn sc as (.Set es k p) | _ => false) := rfl
theorem go_tup {T : Tab} {N : List Str} {fn : Str → Bool} {sc : Scope} {e : Expr} {as} : mt.go T N fn sc (.tup as) e = (match e with | .Tuple es _ p => kd as == 1 && strictA as && mt.go T N fn sc as (.Set es 0 p) | _ => false) := rfl
theorem go_lst {T : Tab} {N : List Str} {fn : Str → Bool} {sc : Scope} {e : Expr} {as} : mt.go T N fn sc (.lst as) e = (match e with | .List es p => kd as == 1 && strictA as && mt.go T N fn sc as (.Set es 0 p) | _ => false) := rfl
theorem go_op {T : Tab} {N : List Str} {fn : Str → Bool} {sc : Scope} {e : Expr} {o} {a} {b} : mt.go T N fn sc (.op o a b) e = (match e with
    | .BinOp ea op eb _ => kd a == 0 && kd b == 0 && decide (arithOf o = some op) && mt.go T N fn sc a ea && mt.go T N fn sc b eb
    | .Compare ea [op] [eb] _ => kd a == 0 && kd b == 0 && decide (cmpOf o = some op) && notSet eb && mt.go T N fn sc a ea && mt.go T N fn sc b eb
    | _ => false) := rfl
theorem go_neg {T : Tab} {N : List Str} {fn : Str → Bool} {sc : Scope} {e : Expr} {a} : mt.go T N fn sc (.neg a) e = (match e with | .UnaryOp .USub e _ => kd a == 0 && mt.go T N fn sc a e | _ => false) := rfl
theorem go_not {T : Tab} {N : List Str} {fn : Str → Bool} {sc : Scope} {e : Expr} {a} : mt.go T N fn sc (.not a) e = (match e with | .UnaryOp .Not e _ => kd a == 0 && mt.go T N fn sc a e | _ => false) := rfl
theorem go_and {T : Tab} {N : List Str} {fn : Str → Bool} {sc : Scope} {e : Expr} {a} {b} : mt.go T N fn sc (.and a b) e = (match e with
    | .BoolOp .And (ea :: eb :: []) _ => kd a == 0 && kd b == 0 && mt.go T N fn sc a ea && mt.go T N fn sc b eb
    | .BoolOp .And (ea :: eb :: ec :: r) p => kd a == 0 && kd b == 0 && mt.go T N fn sc a ea && mt.go T N fn sc b (.BoolOp .And (eb :: ec :: r) p)
    | _ => false) := rfl
theorem go_or {T : Tab} {N : List Str} {fn : Str → Bool} {sc : Scope} {e : Expr} {a} {b} : mt.go T N fn sc (.or a b) e = (match e with
    | .BoolOp .Or (ea :: eb :: []) _ => kd a == 0 && kd b == 0 && mt.go T N fn sc a ea && mt.go T N fn sc b eb
    | .BoolOp .Or (ea :: eb :: ec :: r) p => kd a == 0 && kd b == 0 && mt.go T N fn sc a ea && mt.go T N fn sc b (.BoolOp .Or (eb :: ec :: r) p)
    | _ => false) := rfl
theorem go_ife {T : Tab} {N : List Str} {fn : Str → Bool} {sc : Scope} {e : Expr} {c} {a} {b} : mt.go T N fn sc (.ife c a b) e = (match e with | .IfExp ec ea eb _ => kd c == 0 && kd a == 0 && kd b == 0 && mt.go T N fn sc c ec && mt.go T N fn sc a ea && mt.go T N fn sc b eb | _ => false) := rfl
theorem go_chain {T : Tab} {N : List Str} {fn : Str → Bool} {sc : Scope} {e : Expr} {o} {p} {a} {b} {c} : mt.go T N fn sc (.chain o p a b c) e = (match e with
    | .Compare ea [op, op'] [eb, ec] _ => kd a == 0 && kd b == 0 && kd c == 0 && decide (cmpOf o = some op) && decide (cmpOf p = some op') && notSet eb && notSet ec && mt.go T N fn sc a ea && mt.go T N fn sc b eb && mt.go T N fn sc c ec
    | _ => false) := rfl
theorem go_call {T : Tab} {N : List Str} {fn : Str → Bool} {sc : Scope} {e : Expr} {f} {as} : mt.go T N fn sc (.call f as) e = (match e with
    | .Call (.Name x _) (e :: es) [] p => kd as == 1 && strictA as && (match T.D[f]? with | some d => decide (d.name = x) | none => false) && glOk sc x && mt.go T N fn sc as (.Set (e :: es) 0 p)
    | .Call (.Name x _) [] kws p => kd as == 1 && strictA as && (match T.D[f]? with | some d => decide (d.name = x) && d.kw && decide (kws.map Keyword.arg = d.ps.map some) | none => false) && glOk sc x && mt.go T N fn sc as (.Set (kws.map Keyword.value) 0 p)
    | _ => false) := rfl
theorem go_draw {T : Tab} {N : List Str} {fn : Str → Bool} {sc : Scope} {e : Expr} {i} : mt.go T N fn sc (.draw i) e = (match e with
    | .Call (.Name x _) [.Name y _] [] _ => decide (x = ("_law_next" : Str)) && glOk sc x && nameOk N sc i y
    | _ => false) := rfl
theorem go_bi {T : Tab} {N : List Str} {fn : Str → Bool} {sc : Scope} {e : Expr} {b} {as} : mt.go T N fn sc (.bi b as) e = (match e with
    | .Call (.Name x _) (e :: es) [] p => kd as == 1 && bltOk sc x (biName b) && decide (es.length + 1 = biArity b) && (b != .repr || T.rp) && mt.go T N fn sc as (.Set (e :: es) 0 p)
    | _ => false) := rfl
theorem go_isi {T : Tab} {N : List Str} {fn : Str → Bool} {sc : Scope} {e : Expr} {a} {ty} : mt.go T N fn sc (.isi a ty) e = (match e with
    | .Call (.Name x _) [ea, .Name y _] [] _ => kd a == 0 && bltOk sc x "isinstance" && bltOk sc y (tyName ty) && notStar ea && mt.go T N fn sc a ea
    | _ => false) := rfl
theorem go_idx {T : Tab} {N : List Str} {fn : Str → Bool} {sc : Scope} {e : Expr} {a} {b} : mt.go T N fn sc (.idx a b) e = (match e with | .Subscript ea eb _ => kd a == 0 && kd b == 0 && notSlice eb && mt.go T N fn sc a ea && mt.go T N fn sc b eb | _ => false) := rfl
theorem go_sl {T : Tab} {N : List Str} {fn : Str → Bool} {sc : Scope} {e : Expr} {a} {lo} {hi} : mt.go T N fn sc (.sl a lo hi) e = (match e with
    | .Subscript ea (.Slice elo ehi none _) _ => kd a == 0 && kd lo == 0 && kd hi == 0 && mt.go T N fn sc a ea &&
        (match elo with | none => isNon lo | some e => !isNon lo && mt.go T N fn sc lo e) && (match ehi with | none => isNon hi | some e => !isNon hi && mt.go T N fn sc hi e)
    | _ => false) := rfl
theorem go_rev {T : Tab} {N : List Str} {fn : Str → Bool} {sc : Scope} {e : Expr} {a} : mt.go T N fn sc (.rev a) e = (match e with
    | .Subscript ea (.Slice none none (some (.UnaryOp .USub (.Constant (.int 1) _ _) _)) _) _ => kd a == 0 && mt.go T N fn sc a ea
    | _ => false) := rfl
theorem go_index {T : Tab} {N : List Str} {fn : Str → Bool} {sc : Scope} {e : Expr} {a} {b} : mt.go T N fn sc (.index a b) e = (match e with
    | .Call (.Attribute ea nm ap) [eb] [] cp => kd a == 0 && kd b == 0 && decide (nm = ("index" : Str)) && (ap.endLine == cp.line) && notSuper ea && notStar eb && mt.go T N fn sc a ea && mt.go T N fn sc b eb
    | _ => false) := rfl
theorem go_iseq {T : Tab} {N : List Str} {fn : Str → Bool} {sc : Scope} {e : Expr} {a} : mt.go T N fn sc (.iseq a) e = (kd a == 0 && notSet e && mt.go T N fn sc a e) := rfl
theorem go_irng1 {T : Tab} {N : List Str} {fn : Str → Bool} {sc : Scope} {e : Expr} {a} : mt.go T N fn sc (.irng1 a) e = (match e with | .Call (.Name x _) [ea] [] _ => kd a == 0 && bltOk sc x "range" && notStar ea && mt.go T N fn sc a ea | _ => false) := rfl
theorem go_irng2 {T : Tab} {N : List Str} {fn : Str → Bool} {sc : Scope} {e : Expr} {a} {b} : mt.go T N fn sc (.irng2 a b) e = (match e with | .Call (.Name x _) [ea, eb] [] _ => kd a == 0 && kd b == 0 && bltOk sc x "range" && notStar ea && notStar eb && mt.go T N fn sc a ea && mt.go T N fn sc b eb | _ => false) := rfl
theorem go_izip {T : Tab} {N : List Str} {fn : Str → Bool} {sc : Scope} {e : Expr} {a} {b} : mt.go T N fn sc (.izip a b) e = (match e with | .Call (.Name x _) [ea, eb] [] _ => kd a == 0 && kd b == 0 && bltOk sc x "zip" && notStar ea && notStar eb && mt.go T N fn sc a ea && mt.go T N fn sc b eb | _ => false) := rfl
theorem go_ienum {T : Tab} {N : List Str} {fn : Str → Bool} {sc : Scope} {e : Expr} {a} : mt.go T N fn sc (.ienum a) e = (match e with | .Call (.Name x _) [ea] [] _ => kd a == 0 && bltOk sc x "enumerate" && notStar ea && mt.go T N fn sc a ea | _ => false) := rfl
theorem go_lrng {T : Tab} {N : List Str} {fn : Str → Bool} {sc : Scope} {e : Expr} {r} : mt.go T N fn sc (.lrng r) e = (match e with | .Call (.Name x _) [ea] [] _ => isRng r && bltOk sc x "list" && notStar ea && mt.go T N fn sc r ea | _ => false) := rfl
theorem go_trng {T : Tab} {N : List Str} {fn : Str → Bool} {sc : Scope} {e : Expr} {r} : mt.go T N fn sc (.trng r) e = (match e with | .Call (.Name x _) [ea] [] _ => isRng r && bltOk sc x "tuple" && notStar ea && mt.go T N fn sc r ea | _ => false) := rfl
theorem go_slen {T : Tab} {N : List Str} {fn : Str → Bool} {sc : Scope} {e : Expr} {i} : mt.go T N fn sc (.slen i) e = (match e with | .Call (.Name x _) [.Name y _] [] _ => bltOk sc x "len" && nameOk N sc i y | _ => false) := rfl
theorem go_sidx {T : Tab} {N : List Str} {fn : Str → Bool} {sc : Scope} {e : Expr} {i} {a} : mt.go T N fn sc (.sidx i a) e = (match e with | .Subscript (.Name y _) eb _ => kd a == 0 && notSlice eb && nameOk N sc i y && mt.go T N fn sc a eb | _ => false) := rfl
theorem go_comp {T : Tab} {N : List Str} {fn : Str → Bool} {sc : Scope} {e : Expr} {el} {tg} {it} {c} {own} : mt.go T N fn sc (.comp el tg it c own) e = (match e with
    | .ListComp ee [⟨et, ei, ifs, 0⟩] scope _ => kd it == 2 && kd c == 0 && kd el == 0 && strictX el && notSet ei && (!needTup it || tgIsTup tg) && blkC N sc scope (ownPairs N own) &&
        mt.go T N fn sc it ei && mtT N (blkFn scope) (relS scope sc) tg et &&
        (match ifs with | [] => isTT c | [e] => !isTT c && mt.go T N (blkFn scope) (relS scope sc) c e | _ => false) && mt.go T N (blkFn scope) (relS scope sc) el ee && (match tg with | .nm i => decide (i ∈ own) | .tup is => is.all fun i => decide (i ∈ own))
    | _ => false) := rfl
end
end G

set_option maxHeartbeats 2000000
namespace G
open PySem PySem.Spec PyProof.Rows L2

theorem RR.full {K : PySem.W.Frag} {P : Par} {H H' : Hp} {env : Env} {σ : List (Option V)} {os : List (List Addr)} {t : Tp} (r : RR K P os env t σ H) (g : Grow none H H') : RR K P os env t σ H' := by
  refine r.grown (fun a o e _ => g a o e (by simp)) (fun ts e => ?_) fun p e => ?_
  · obtain ⟨p, h1, h2⟩ := r.tape ts e
    exact ⟨p, h1, g _ _ h2 (by simp)⟩
  · have := r.live p (r.ptB p e)
    cases q : H p with
    | none => exact absurd q this
    | some o => rw [g p o q (by simp)]; simp
theorem RR.hl {K : PySem.W.Frag} {P : Par} {H : Hp} {env : Env} {σ : List (Option V)} {os : List (List Addr)} {t : Tp} (r : RR K P os env t σ H) : ∀ p, P.pT = some p → H p ≠ none := fun p e => r.live p (r.ptB p e)
theorem starEach_cons {e : Expr} {es : List Expr} {env : PySem.Env} (h : notStar e = true) : starEach (e :: es) env = (false, eval e env) :: starEach es env := by
  cases e <;> first | rfl | (simp [notStar] at h)
theorem fset_none {e : Expr} {env : PySem.Env} (h : notSet e = true) (x : Value) : foldedSetIterable e env x = pure x := by
  cases e <;> first | rfl | (simp [notSet] at h)
theorem behind_none {e : Expr} {op : CmpOp} (h : notSet e = true) : behindInMarks op e = false := by
  cases e <;> first | rfl | (simp [notSet] at h)
theorem plainIx {e : Expr} (h : notSlice e = true) : PlainIx e := by
  intro o i
  cases e <;> first | rfl | (simp [notSlice] at h)

section
variable {T : Tab} {c : Cal} {lv : Nat} {N : List Str}
structure SOK (T : Tab) (c : Cal) (lv : Nat) (N : List Str) (x : Ex) : Prop where
  pe : kd x = 0 → ∀ (X : Cx) (e : Expr), Good T c lv X → X.N = N → mt.go T N X.fn X.env.scope x e = true → PE X e (tE X.K c x)
  pt : kd x = 0 → ∀ (X : Cx) (e : Expr), Good T c lv X → X.N = N → mt.go T N X.fn X.env.scope x e = true → PT X e (tT X.K c x)
  pw : kd x = 0 → ∀ (X : Cx) (op : BoolOp) (es : List Expr) (p : Pos), Good T c lv X → X.N = N → mt.go T N X.fn X.env.scope x (.BoolOp op es p) = true → PW X (.BoolOp op es p) (tT X.K c x)
  pa : kd x = 1 → ∀ (X : Cx) (es : List Expr) (k : Nat) (p : Pos), Good T c lv X → X.N = N → mt.go T N X.fn X.env.scope x (.Set es k p) = true → PA X es (tA X.K c x)
  pi : kd x = 2 → ∀ (X : Cx) (tg e : Expr), (needTup x = true → ∃ es k p, tg = .Tuple es k p) → Good T c lv X → X.N = N → mt.go T N X.fn X.env.scope x e = true → PI X tg e (tI X.K c x)

theorem nameOk_vis {sc : Scope} {i : Nat} {x : Str} (h : nameOk N sc i x = true) : N[i]? = some x ∧ Vis sc x ∧ (x == ("__debug__" : Str)) = false ∧ (x == ("__classdict__" : Str)) = false := by
  unfold nameOk noDunder kindIs at h
  simp only [Bool.and_eq_true, Bool.or_eq_true, decide_eq_true_eq, beq_iff_eq, Bool.not_eq_true'] at h
  obtain ⟨⟨h1, h2⟩, h3⟩ := h
  exact ⟨h1, by rcases h2 with (h2 | h2) | h2; · exact .inl h2
                · exact .inr (.inl h2)
                · exact .inr (.inr h2), h3.1.1, h3.1.2⟩
theorem glOk_gl {X : Cx} {x : Str} (h : glOk X.env.scope x = true) : Gl X x ∧ (x == ("__debug__" : Str)) = false := by
  unfold glOk noDunder kindIs at h
  simp only [Bool.and_eq_true, beq_iff_eq, Bool.not_eq_true'] at h
  exact ⟨h.1, h.2.1.1⟩
/-- the PT of a plain form, by its PE -/
def plainTest : Expr → Bool
  | .UnaryOp .Not _ _ => false
  | .BoolOp _ _ _ => false
  | .IfExp _ _ _ _ => false
  | .Compare _ _ _ _ => false
  | _ => true
theorem isTrue_of {e : Expr} {env : PySem.Env} (h : plainTest e = true) (whole : Sem Value) : isTrue e env whole = (do let v ← whole; standAt e.pos; holding [v] (truthy v)) := by
  cases e with
  | UnaryOp op x p => cases op <;> first | rfl | (simp [plainTest] at h)
  | BoolOp _ _ _ => simp [plainTest] at h
  | IfExp _ _ _ _ => simp [plainTest] at h
  | Compare _ _ _ _ => simp [plainTest] at h
  | _ => rfl
theorem tT_tB {K : PySem.W.Frag} {x : Ex} : ∀ σ H Q, tT K c x σ H Q → tB (tE K c x) σ H Q := by
  intro σ H Q ⟨P, os, env, t, Kx, rr, ev, hb, q⟩
  refine ⟨P, os, env, t, Kx, rr, ev, fun d t' v H' k r o => ?_⟩
  obtain ⟨b, rfl⟩ := hb d t' k
  exact ⟨b, o.w.bool, q b t' H' k r o.grow⟩
theorem pt_of {X : Cx} {x : Ex} {e : Expr} (h : PE X e (tE X.K c x)) (hp : plainTest e = true) : PT X e (tT X.K c x) := (pt_val h (isTrue_of hp)).weaken tT_tB
/-- a plain constructor: PE alone is to be shown -/
theorem SOK.of {x : Ex} (h0 : kd x = 0) (h : ∀ (X : Cx) (e : Expr), Good T c lv X → X.N = N → mt.go T N X.fn X.env.scope x e = true → PE X e (tE X.K c x)) (hp : ∀ fn sc e, mt.go T N fn sc x e = true → plainTest e = true) : SOK T c lv N x :=
  ⟨fun _ => h, fun _ X e g n m => pt_of (h X e g n m) (hp _ _ _ m), fun _ X op es p g n m => absurd (hp _ _ _ m) (by simp [plainTest]), fun z => (by rw [h0] at z; cases z), fun z => (by rw [h0] at z; cases z)⟩

theorem s_var (i : Nat) : SOK T c lv N (.var i) := by
  refine .of rfl (fun X e g n m => ?_) fun fn sc e m => ?_
  · rw [go_var] at m
    split at m <;> try cases m
    obtain ⟨h1, h2, h3, h4⟩ := nameOk_vis m
    refine (pe_var (by rw [n]; exact h1) h2 h3 h4).weaken fun σ H Q ⟨P, os, env, t, Kx, rr, ev, q⟩ => ?_
    simp only [evE] at ev
    split at ev
    · rename_i d hd
      obtain ⟨sv, as, e1, e2, e3, v, e4, r⟩ := rr.slots.get hd
      rw [e4] at e1
      exact ⟨v, e1, q d t v H ev rr (.rep .refl r fun z => (nomatch z))⟩
    · exact ev.elim
  · rw [go_var] at m
    split at m <;> first | rfl | cases m
theorem s_own (i : Nat) : SOK T c lv N (.own i) := by
  refine .of rfl (fun X e g n m => ?_) fun fn sc e m => ?_
  · rw [go_own] at m
    split at m <;> try cases m
    obtain ⟨h1, h2, h3, h4⟩ := nameOk_vis m
    refine (pe_var (by rw [n]; exact h1) h2 h3 h4).weaken fun σ H Q ⟨P, os, env, t, Kx, rr, ev, q⟩ => ?_
    simp only [evE] at ev
    split at ev
    · rename_i d hd
      obtain ⟨sv, as, e1, e2, p, vs, e3, e4, e5, e6, e7, r⟩ := rr.slots.get hd
      rw [e4] at e1
      exact ⟨.ref p, e1, q _ t _ H ev rr ⟨.refl, .inr ⟨p, vs, d, rfl, rfl, e5, fun z => e7 (rr.ptB p z), r⟩, fun z => (nomatch z), fun z => (nomatch z)⟩⟩
    · exact ev.elim
  · rw [go_own] at m
    split at m <;> first | rfl | cases m
theorem s_int (i : Int) : SOK T c lv N (.int i) := by
  refine .of rfl (fun X e g n m => ?_) fun fn sc e m => ?_
  · rw [go_int] at m
    split at m
    · have e := of_decide_eq_true m
      subst e
      exact pe_int.weaken fun σ H Q ⟨P, os, env, t, Kx, rr, ev, q⟩ => q _ t _ H ev rr (.flat .refl (.int _) (by simp))
    · cases m
  · rw [go_int] at m
    split at m <;> first | rfl | cases m
theorem s_bl (i : Bool) : SOK T c lv N (.bl i) := by
  refine .of rfl (fun X e g n m => ?_) fun fn sc e m => ?_
  · rw [go_bl] at m
    split at m
    · have e := of_decide_eq_true m
      subst e
      exact pe_bl.weaken fun σ H Q ⟨P, os, env, t, Kx, rr, ev, q⟩ => q _ t _ H ev rr (.flat .refl (.bl _) (by simp))
    · cases m
  · rw [go_bl] at m
    split at m <;> first | rfl | cases m
theorem s_str (i : Str) : SOK T c lv N (.str i) := by
  refine .of rfl (fun X e g n m => ?_) fun fn sc e m => ?_
  · rw [go_str] at m
    split at m
    · have e := of_decide_eq_true m
      subst e
      exact pe_str.weaken fun σ H Q ⟨P, os, env, t, Kx, rr, ev, q⟩ => q _ t _ H ev rr (.flat .refl (.str _) (by simp))
    · cases m
  · rw [go_str] at m
    split at m <;> first | rfl | cases m
theorem s_non : SOK T c lv N .non := by
  refine .of rfl (fun X e g n m => ?_) fun fn sc e m => ?_
  · rw [go_non] at m
    split at m
    · exact pe_non.weaken fun σ H Q ⟨P, os, env, t, Kx, rr, ev, q⟩ => q _ t _ H ev rr (.flat .refl .non (by simp))
    · cases m
  · rw [go_non] at m
    split at m <;> first | rfl | cases m
theorem s_glob (y : Str) (i : Int) : SOK T c lv N (.glob y i) := by
  refine .of rfl (fun X e g n m => ?_) fun fn sc e m => ?_
  · rw [go_glob] at m
    split at m
    · simp only [Bool.and_eq_true, decide_eq_true_eq] at m
      obtain ⟨⟨h1, h2⟩, h3⟩ := m
      subst h1
      obtain ⟨hg, hd⟩ := glOk_gl h2
      obtain ⟨tk, hm⟩ := g.glob _ h3
      exact (pe_glob (v := .int i) hg hm ⟨tk, rfl⟩ hd).weaken fun σ H Q ⟨P, os, env, t, Kx, rr, ev, q⟩ => q _ t _ H ev rr (.flat .refl (.int _) (by simp))
    · cases m
  · rw [go_glob] at m
    split at m <;> first | rfl | cases m
/-! arguments -/
theorem s_nil : SOK T c lv N .nil := by
  refine ⟨fun z => (nomatch z), fun z => (nomatch z), fun z => (nomatch z), fun _ X es k p g n m => ?_, fun z => (nomatch z)⟩
  rw [go_nil] at m
  split at m
  · rename_i h
    cases h
    exact pa_nil.weaken fun σ H Q ⟨P, os, env, t, Kx, rr, ev, q⟩ => q _ t _ H ev rr .refl ⟨[], rfl, .nil, fun _ => .nil⟩
  · cases m
theorem s_cons {a as : Ex} (ha : SOK T c lv N a) (has : SOK T c lv N as) : SOK T c lv N (.cons a as) := by
  refine ⟨fun z => (nomatch z), fun z => (nomatch z), fun z => (nomatch z), fun _ X es k p g n m => ?_, fun z => (nomatch z)⟩
  rw [go_cons] at m
  split at m
  · rename_i h
    cases h
    simp only [Bool.and_eq_true, beq_iff_eq] at m
    obtain ⟨⟨⟨⟨k1, k2⟩, h1⟩, h2⟩, h3⟩ := m
    refine (pa_cons (ha.pe k1 X _ g n h2) (has.pa k2 X _ _ _ g n h3) (starEach_cons h1)).weaken fun σ H Q ⟨P, os, env, t, Kx, rr, ev, q⟩ => ?_
    simp only [evE] at ev
    refine ⟨P, os, env, t, _, rr, ev, fun d t1 v H1 k1 rr1 o1 => ⟨P, os, env, t1, _, rr1, k1, fun l t2 vs H2 k2 rr2 g2 hl => ?_⟩⟩
    obtain ⟨ds, rfl, w, s⟩ := hl
    refine q _ t2 _ H2 k2 rr2 (o1.grow.trans g2) ⟨_, rfl, .cons (o1.w.grow g2 rr1.ook.tp) w, fun hs => ?_⟩
    simp only [strictA, Bool.and_eq_true] at hs
    exact .cons ((o1.s hs.1).grow g2 rr1.ook.tp) (s hs.2)
  · cases m
theorem s_tup {as : Ex} (has : SOK T c lv N as) : SOK T c lv N (.tup as) := by
  refine .of rfl (fun X e g n m => ?_) fun fn sc e m => ?_
  · rw [go_tup] at m
    split at m
    · simp only [Bool.and_eq_true, beq_iff_eq] at m
      obtain ⟨⟨k1, k2⟩, h1⟩ := m
      refine (pe_tup (has.pa k1 X _ _ _ g n h1)).weaken fun σ H Q ⟨P, os, env, t, Kx, rr, ev, q⟩ => ?_
      simp only [evE] at ev
      refine ⟨P, os, env, t, _, rr, ev, fun l t1 vs H1 k1 rr1 g1 hl => ?_⟩
      obtain ⟨ds, rfl, w, s⟩ := hl
      refine ⟨by rw [w.length]; exact k1.1, fun p np => ?_⟩
      exact q _ t1 _ _ k1.2 (rr1.full (.new np)) (.tup g1 np rr1.ook.live (s k2))
    · cases m
  · rw [go_tup] at m
    split at m <;> first | rfl | cases m
theorem s_lst {as : Ex} (has : SOK T c lv N as) : SOK T c lv N (.lst as) := by
  refine .of rfl (fun X e g n m => ?_) fun fn sc e m => ?_
  · rw [go_lst] at m
    split at m
    · simp only [Bool.and_eq_true, beq_iff_eq] at m
      obtain ⟨⟨k1, k2⟩, h1⟩ := m
      refine (pe_lst (has.pa k1 X _ _ _ g n h1)).weaken fun σ H Q ⟨P, os, env, t, Kx, rr, ev, q⟩ => ?_
      simp only [evE] at ev
      refine ⟨P, os, env, t, _, rr, ev, fun l t1 vs H1 k1 rr1 g1 hl => ?_⟩
      obtain ⟨ds, rfl, w, s⟩ := hl
      refine ⟨by rw [w.length]; exact k1.1, fun p np => ?_⟩
      exact q _ t1 _ _ k1.2 (rr1.full (.new np)) (.lst rr.ook rr1.hl g1 np rr1.ook.live (s k2))
    · cases m
  · rw [go_lst] at m
    split at m <;> first | rfl | cases m
theorem bWt {A B : Prop} (h : boolW (.bool true) fun p => if p = true then A else B) : A := by
  have h' : if true = true then A else B := h
  rwa [if_pos rfl] at h'
theorem bWf {A B : Prop} (h : boolW (.bool false) fun p => if p = true then A else B) : B := by
  have h' : if false = true then A else B := h
  rwa [if_neg Bool.false_ne_true] at h'
/-! operations -/
theorem op_go {K : PySem.W.Frag} {o : Op2} {a b : Ex} : ∀ σ H Q, tE K c (.op o a b) σ H Q → tOp (rOp o) (tE K c a) (tE K c b) σ H Q := by
  intro σ H Q ⟨P, os, env, t, Kx, rr, ev, q⟩
  simp only [evE] at ev
  refine ⟨P, os, env, t, _, rr, ev, fun d1 t1 v1 H1 k1 rr1 o1 => ⟨P, os, env, t1, _, rr1, k1, fun d2 t2 v2 H2 k2 rr2 o2 => ⟨P.pT, Own P os, d1, d2, _, rr2.ook, o1.w.grow o2.grow rr1.ook.tp, o2.w, k2, fun z v H' kz oz gz => q z t2 v H' kz (rr2.full gz) ?_⟩⟩⟩
  exact oz.after rr.ook rr2.hl (o1.grow.trans o2.grow)
theorem op_goT {K : PySem.W.Frag} {o : Op2} {a b : Ex} : ∀ σ H Q, tT K c (.op o a b) σ H Q → tTest (tOp (rOp o) (tE K c a) (tE K c b)) σ H Q := by
  intro σ H Q h
  have h2 := op_go σ H _ (show tE K c (.op o a b) σ H (fun x H' => ∃ k, x = .bl k ∧ Q k H') from tT_tB σ H Q h)
  exact h2
theorem s_op (o : Op2) {a b : Ex} (ha : SOK T c lv N a) (hb : SOK T c lv N b) : SOK T c lv N (.op o a b) := by
  refine ⟨fun _ X e g n m => ?_, fun _ X e g n m => ?_, fun _ X op es p g n m => ?_, fun z => (nomatch z), fun z => (nomatch z)⟩
  · rw [go_op] at m
    split at m
    · simp only [Bool.and_eq_true, beq_iff_eq, decide_eq_true_eq] at m
      obtain ⟨⟨⟨⟨k1, k2⟩, h1⟩, h2⟩, h3⟩ := m
      exact (pe_op (ok_arith h1) (ha.pe k1 X _ g n h2) (hb.pe k2 X _ g n h3)).weaken op_go
    · simp only [Bool.and_eq_true, beq_iff_eq, decide_eq_true_eq] at m
      obtain ⟨⟨⟨⟨⟨k1, k2⟩, h1⟩, h4⟩, h2⟩, h3⟩ := m
      exact (pe_cmpR (ok_cmp g.units h1) (ha.pe k1 X _ g n h2) (hb.pe k2 X _ g n h3) (behind_none h4)).weaken op_go
    · cases m
  · rw [go_op] at m
    split at m
    · simp only [Bool.and_eq_true, beq_iff_eq, decide_eq_true_eq] at m
      obtain ⟨⟨⟨⟨k1, k2⟩, h1⟩, h2⟩, h3⟩ := m
      exact pt_of ((pe_op (ok_arith h1) (ha.pe k1 X _ g n h2) (hb.pe k2 X _ g n h3)).weaken op_go) rfl
    · simp only [Bool.and_eq_true, beq_iff_eq, decide_eq_true_eq] at m
      obtain ⟨⟨⟨⟨⟨k1, k2⟩, h1⟩, h4⟩, h2⟩, h3⟩ := m
      exact (pt_cmpR (ok_cmp g.units h1) (ha.pe k1 X _ g n h2) (hb.pe k2 X _ g n h3) (behind_none h4)).weaken op_goT
    · cases m
  · rw [go_op] at m
    cases m
theorem ok_neg {X : Cx} : UnR X (unaryOp .USub) (rU fun i => .int (-i)) := un_neg
theorem s_neg {a : Ex} (ha : SOK T c lv N a) : SOK T c lv N (.neg a) := by
  refine .of rfl (fun X e g n m => ?_) fun fn sc e m => ?_
  · rw [go_neg] at m
    split at m
    · simp only [Bool.and_eq_true, beq_iff_eq] at m
      refine (pe_un ok_neg (ha.pe m.1 X _ g n m.2)).weaken fun σ H Q ⟨P, os, env, t, Kx, rr, ev, q⟩ => ?_
      simp only [evE] at ev
      refine ⟨P, os, env, t, _, rr, ev, fun d t1 v H1 k1 rr1 o1 => ?_⟩
      cases d <;> try exact False.elim k1
      exact ⟨_, o1.w.int, q _ t1 _ H1 k1 rr1 (.flat o1.grow (.int _) (by simp))⟩
    · cases m
  · rw [go_neg] at m
    split at m <;> first | rfl | cases m
theorem not_go {K : PySem.W.Frag} {a : Ex} : ∀ σ H Q, tE K c (.not a) σ H Q → tNotV (tE K c a) σ H Q := by
  intro σ H Q ⟨P, os, env, t, Kx, rr, ev, q⟩
  simp only [evE] at ev
  refine ⟨P, os, env, t, _, rr, ev, fun d t1 v H1 k1 rr1 o1 => ?_⟩
  cases d <;> try exact False.elim k1
  exact ⟨_, o1.w.bool, q _ t1 _ H1 k1 rr1 (.flat o1.grow (.bl _) (by simp))⟩
theorem s_not {a : Ex} (ha : SOK T c lv N a) : SOK T c lv N (.not a) := by
  refine ⟨fun _ X e g n m => ?_, fun _ X e g n m => ?_, fun _ X op es p g n m => ?_, fun z => (nomatch z), fun z => (nomatch z)⟩
  · rw [go_not] at m
    split at m
    · simp only [Bool.and_eq_true, beq_iff_eq] at m
      exact (pe_not (ha.pe m.1 X _ g n m.2)).weaken not_go
    · cases m
  · rw [go_not] at m
    split at m
    · simp only [Bool.and_eq_true, beq_iff_eq] at m
      refine (pt_not (ha.pt m.1 X _ g n m.2)).weaken fun σ H Q ⟨P, os, env, t, Kx, rr, ev, hb, q⟩ => ?_
      simp only [evE] at ev
      refine ⟨P, os, env, t, _, rr, ev, fun d t1 k1 => ?_, fun b t1 H1 k1 rr1 g1 => q _ t1 H1 k1 rr1 g1⟩
      cases d <;> first | exact ⟨_, rfl⟩ | exact False.elim k1
    · cases m
  · rw [go_not] at m
    cases m
theorem and_go {K : PySem.W.Frag} {a b : Ex} : ∀ σ H Q, tE K c (.and a b) σ H Q → tAndV (tE K c a) (tE K c b) σ H Q := by
  intro σ H Q ⟨P, os, env, t, Kx, rr, ev, q⟩
  simp only [evE] at ev
  refine ⟨P, os, env, t, _, rr, ev, fun d t1 v H1 k1 rr1 o1 => ?_⟩
  cases d <;> try exact False.elim k1
  rename_i p
  refine ⟨p, o1.w.bool, ?_⟩
  cases p with
  | false =>
    rw [if_neg Bool.false_ne_true]
    exact q _ t1 _ H1 (bWf k1) rr1 (.flat o1.grow (.bl _) (by simp))
  | true =>
    rw [if_pos rfl]
    refine ⟨P, os, env, t1, _, rr1, bWt k1, fun d2 t2 v2 H2 k2 rr2 o2 => ?_⟩
    cases d2 <;> try exact False.elim k2
    rw [o2.w.bool]
    exact q _ t2 _ H2 k2 rr2 (.flat (o1.grow.trans o2.grow) (.bl _) (by simp))
theorem or_go {K : PySem.W.Frag} {a b : Ex} : ∀ σ H Q, tE K c (.or a b) σ H Q → tOrV (tE K c a) (tE K c b) σ H Q := by
  intro σ H Q ⟨P, os, env, t, Kx, rr, ev, q⟩
  simp only [evE] at ev
  refine ⟨P, os, env, t, _, rr, ev, fun d t1 v H1 k1 rr1 o1 => ?_⟩
  cases d <;> try exact False.elim k1
  rename_i p
  refine ⟨p, o1.w.bool, ?_⟩
  cases p with
  | true =>
    rw [if_pos rfl]
    exact q _ t1 _ H1 (bWt k1) rr1 (.flat o1.grow (.bl _) (by simp))
  | false =>
    rw [if_neg Bool.false_ne_true]
    refine ⟨P, os, env, t1, _, rr1, bWf k1, fun d2 t2 v2 H2 k2 rr2 o2 => ?_⟩
    cases d2 <;> try exact False.elim k2
    rw [o2.w.bool]
    exact q _ t2 _ H2 k2 rr2 (.flat (o1.grow.trans o2.grow) (.bl _) (by simp))
theorem and_goT {K : PySem.W.Frag} {a b : Ex} : ∀ σ H Q, tT K c (.and a b) σ H Q → tAnd (tT K c a) (tT K c b) σ H Q := by
  intro σ H Q ⟨P, os, env, t, Kx, rr, ev, hb, q⟩
  simp only [evE] at ev
  refine ⟨P, os, env, t, _, rr, ev, fun d t1 k1 => ?_, fun p t1 H1 k1 rr1 g1 => ?_⟩
  · cases d <;> first | exact ⟨_, rfl⟩ | exact False.elim k1
  · cases p with
    | false =>
      rw [if_neg Bool.false_ne_true]
      exact q _ t1 H1 (bWf k1) rr1 g1
    | true =>
      rw [if_pos rfl]
      refine ⟨P, os, env, t1, _, rr1, bWt k1, fun d t2 k2 => ?_, fun b t2 H2 k2 rr2 g2 => q _ t2 H2 k2 rr2 (g1.trans g2)⟩
      cases d <;> first | exact ⟨_, rfl⟩ | exact False.elim k2
theorem or_goT {K : PySem.W.Frag} {a b : Ex} : ∀ σ H Q, tT K c (.or a b) σ H Q → tOr (tT K c a) (tT K c b) σ H Q := by
  intro σ H Q ⟨P, os, env, t, Kx, rr, ev, hb, q⟩
  simp only [evE] at ev
  refine ⟨P, os, env, t, _, rr, ev, fun d t1 k1 => ?_, fun p t1 H1 k1 rr1 g1 => ?_⟩
  · cases d <;> first | exact ⟨_, rfl⟩ | exact False.elim k1
  · cases p with
    | true =>
      rw [if_pos rfl]
      exact q _ t1 H1 (bWt k1) rr1 g1
    | false =>
      rw [if_neg Bool.false_ne_true]
      refine ⟨P, os, env, t1, _, rr1, bWf k1, fun d t2 k2 => ?_, fun b t2 H2 k2 rr2 g2 => q _ t2 H2 k2 rr2 (g1.trans g2)⟩
      cases d <;> first | exact ⟨_, rfl⟩ | exact False.elim k2
theorem s_and {a b : Ex} (ha : SOK T c lv N a) (hb : SOK T c lv N b) : SOK T c lv N (.and a b) := by
  have pw : ∀ (X : Cx) (e : Expr), Good T c lv X → X.N = N → mt.go T N X.fn X.env.scope (.and a b) e = true → PW X e (tT X.K c (.and a b)) ∧ PE X e (tE X.K c (.and a b)) := by
    intro X e g n m
    rw [go_and] at m
    split at m
    · simp only [Bool.and_eq_true, beq_iff_eq] at m
      obtain ⟨⟨⟨k1, k2⟩, h1⟩, h2⟩ := m
      exact ⟨(pw_and (ha.pt k1 X _ g n h1) (pw_and1 (hb.pt k2 X _ g n h2))).weaken and_goT, (pe_and (ha.pe k1 X _ g n h1) (pe_one (hb.pe k2 X _ g n h2))).weaken and_go⟩
    · simp only [Bool.and_eq_true, beq_iff_eq] at m
      obtain ⟨⟨⟨k1, k2⟩, h1⟩, h2⟩ := m
      exact ⟨(pw_and (ha.pt k1 X _ g n h1) (hb.pw k2 X _ _ _ g n h2)).weaken and_goT, (pe_and (ha.pe k1 X _ g n h1) (hb.pe k2 X _ g n h2)).weaken and_go⟩
    · cases m
  exact ⟨fun _ X e g n m => (pw X e g n m).2, fun _ X e g n m => (pw X e g n m).1.pt, fun _ X op es p g n m => (pw X _ g n m).1, fun z => (nomatch z), fun z => (nomatch z)⟩
theorem s_or {a b : Ex} (ha : SOK T c lv N a) (hb : SOK T c lv N b) : SOK T c lv N (.or a b) := by
  have pw : ∀ (X : Cx) (e : Expr), Good T c lv X → X.N = N → mt.go T N X.fn X.env.scope (.or a b) e = true → PW X e (tT X.K c (.or a b)) ∧ PE X e (tE X.K c (.or a b)) := by
    intro X e g n m
    rw [go_or] at m
    split at m
    · simp only [Bool.and_eq_true, beq_iff_eq] at m
      obtain ⟨⟨⟨k1, k2⟩, h1⟩, h2⟩ := m
      exact ⟨(pw_or (ha.pt k1 X _ g n h1) (pw_or1 (hb.pt k2 X _ g n h2))).weaken or_goT, (pe_or (ha.pe k1 X _ g n h1) (pe_one (hb.pe k2 X _ g n h2))).weaken or_go⟩
    · simp only [Bool.and_eq_true, beq_iff_eq] at m
      obtain ⟨⟨⟨k1, k2⟩, h1⟩, h2⟩ := m
      exact ⟨(pw_or (ha.pt k1 X _ g n h1) (hb.pw k2 X _ _ _ g n h2)).weaken or_goT, (pe_or (ha.pe k1 X _ g n h1) (hb.pe k2 X _ g n h2)).weaken or_go⟩
    · cases m
  exact ⟨fun _ X e g n m => (pw X e g n m).2, fun _ X e g n m => (pw X e g n m).1.pt, fun _ X op es p g n m => (pw X _ g n m).1, fun z => (nomatch z), fun z => (nomatch z)⟩
end
end G

set_option maxHeartbeats 2000000
namespace G
open PySem PySem.Spec PyProof.Rows L2
section
variable {T : Tab} {c : Cal} {lv : Nat} {N : List Str}

theorem s_ife {g0 a b : Ex} (hg : SOK T c lv N g0) (ha : SOK T c lv N a) (hb : SOK T c lv N b) : SOK T c lv N (.ife g0 a b) := by
  refine ⟨fun _ X e g n m => ?_, fun _ X e g n m => ?_, fun _ X op es p g n m => ?_, fun z => (nomatch z), fun z => (nomatch z)⟩
  · rw [go_ife] at m
    split at m
    · simp only [Bool.and_eq_true, beq_iff_eq] at m
      obtain ⟨⟨⟨⟨⟨k1, k2⟩, k3⟩, h1⟩, h2⟩, h3⟩ := m
      refine (pe_ifExp (hg.pt k1 X _ g n h1) (ha.pe k2 X _ g n h2) (hb.pe k3 X _ g n h3)).weaken fun σ H Q ⟨P, os, env, t, Kx, rr, ev, q⟩ => ?_
      simp only [evE] at ev
      refine ⟨P, os, env, t, _, rr, ev, fun d t1 k1 => ?_, fun p t1 H1 k1 rr1 g1 => ?_⟩
      · cases d <;> first | exact ⟨_, rfl⟩ | exact False.elim k1
      · cases p with
        | true =>
          rw [if_pos rfl]
          refine ⟨P, os, env, t1, Kx, rr1, bWt k1, fun d t2 v H2 k2 rr2 o2 => q d t2 v H2 k2 rr2 ?_⟩
          refine ⟨g1.trans o2.grow, o2.w, fun hs => o2.s ?_, fun z => (nomatch z)⟩
          simp only [strictX, Bool.and_eq_true] at hs
          exact hs.1
        | false =>
          rw [if_neg Bool.false_ne_true]
          refine ⟨P, os, env, t1, Kx, rr1, bWf k1, fun d t2 v H2 k2 rr2 o2 => q d t2 v H2 k2 rr2 ?_⟩
          refine ⟨g1.trans o2.grow, o2.w, fun hs => o2.s ?_, fun z => (nomatch z)⟩
          simp only [strictX, Bool.and_eq_true] at hs
          exact hs.2
    · cases m
  · rw [go_ife] at m
    split at m
    · simp only [Bool.and_eq_true, beq_iff_eq] at m
      obtain ⟨⟨⟨⟨⟨k1, k2⟩, k3⟩, h1⟩, h2⟩, h3⟩ := m
      refine PT.weaken (t := fun σ H Q => tT X.K c g0 σ H fun p H1 => if p = true then tT X.K c a σ H1 Q else tT X.K c b σ H1 Q) ⟨fun pins s σ H Q I h => ?_⟩ fun σ H Q ⟨P, os, env, t, Kx, rr, ev, hb', q⟩ => ?_
      · show wpAny _ X.A (do if ← isTrue _ X.env (eval _ X.env) then isTrue _ X.env (eval _ X.env) else isTrue _ X.env (eval _ X.env)) _ _ s
        refine wpAny_bind (thn ((hg.pt k1 X _ g n h1).run pins s σ H _ I h) fun d s1 ⟨H1, I1, q1⟩ => ?_)
        cases d with
        | true => exact (ha.pt k2 X _ g n h2).run pins s1 σ H1 Q I1 q1
        | false => exact (hb.pt k3 X _ g n h3).run pins s1 σ H1 Q I1 q1
      · simp only [evE] at ev
        refine ⟨P, os, env, t, _, rr, ev, fun d t1 k1 => ?_, fun p t1 H1 k1 rr1 g1 => ?_⟩
        · cases d <;> first | exact ⟨_, rfl⟩ | exact False.elim k1
        · cases p with
          | true => rw [if_pos rfl]; exact ⟨P, os, env, t1, Kx, rr1, bWt k1, hb', fun b t2 H2 k2 rr2 g2 => q b t2 H2 k2 rr2 (g1.trans g2)⟩
          | false => rw [if_neg Bool.false_ne_true]; exact ⟨P, os, env, t1, Kx, rr1, bWf k1, hb', fun b t2 H2 k2 rr2 g2 => q b t2 H2 k2 rr2 (g1.trans g2)⟩
    · cases m
  · rw [go_ife] at m
    cases m
theorem last_none {a b : Expr} {o p : CmpOp} (ha : notSet a = true) (hb : notSet b = true) : lastMarks [o, p] [a, b] = false := by
  show behindInMarks p b = false
  exact behind_none hb
theorem chain_go {K : PySem.W.Frag} {o p : Op2} {a b d : Ex} : ∀ σ H Q, tE K c (.chain o p a b d) σ H Q → tChain (rOp o) (rOp p) (tE K c a) (tE K c b) (tE K c d) σ H Q := by
  intro σ H Q ⟨P, os, env, t, Kx, rr, ev, q⟩
  simp only [evE] at ev
  refine ⟨P, os, env, t, _, rr, ev, fun d1 t1 v1 H1 k1 rr1 o1 => ⟨P, os, env, t1, _, rr1, k1, fun d2 t2 v2 H2 k2 rr2 o2 => ⟨P.pT, Own P os, d1, d2, _, rr2.ook, o1.w.grow o2.grow rr1.ook.tp, o2.w, k2, fun z v H3 kz oz gz => ?_⟩⟩⟩
  have rr3 := rr2.full gz
  cases z <;> try exact False.elim kz
  rename_i bb
  refine ⟨bb, oz.w.bool, ?_⟩
  cases bb with
  | false =>
    rw [if_neg Bool.false_ne_true]
    exact q _ t2 _ H3 (bWf kz) rr3 (.flat (o1.grow.trans (o2.grow.trans oz.grow)) (.bl _) (by simp))
  | true =>
    rw [if_pos rfl]
    refine ⟨P, os, env, t2, _, rr3, bWt kz, fun d3 t3 v3 H4 k3 rr4 o3 => ⟨P.pT, Own P os, d2, d3, _, rr4.ook, (o2.w.grow oz.grow rr2.ook.tp).grow o3.grow rr3.ook.tp, o3.w, k3, fun z v H5 kz oz' gz' => ?_⟩⟩
    cases z <;> try exact False.elim kz
    rw [oz'.w.bool]
    exact q _ t3 _ H5 kz (rr4.full gz') (.flat (o1.grow.trans (o2.grow.trans (oz.grow.trans (o3.grow.trans oz'.grow)))) (.bl _) (by simp))
theorem s_chain (o p : Op2) {a b d : Ex} (ha : SOK T c lv N a) (hb : SOK T c lv N b) (hd : SOK T c lv N d) : SOK T c lv N (.chain o p a b d) := by
  refine ⟨fun _ X e g n m => ?_, fun _ X e g n m => ?_, fun _ X op es p g n m => ?_, fun z => (nomatch z), fun z => (nomatch z)⟩
  · rw [go_chain] at m
    split at m
    · simp only [Bool.and_eq_true, beq_iff_eq, decide_eq_true_eq] at m
      obtain ⟨⟨⟨⟨⟨⟨⟨⟨⟨k1, k2⟩, k3⟩, o1⟩, o2⟩, n1⟩, n2⟩, h1⟩, h2⟩, h3⟩ := m
      exact (pe_chain (ok_cmp g.units o1) (ok_cmp g.units o2) (ha.pe k1 X _ g n h1) (hb.pe k2 X _ g n h2) (hd.pe k3 X _ g n h3) (last_none n1 n2)).weaken chain_go
    · cases m
  · rw [go_chain] at m
    split at m
    · simp only [Bool.and_eq_true, beq_iff_eq, decide_eq_true_eq] at m
      obtain ⟨⟨⟨⟨⟨⟨⟨⟨⟨k1, k2⟩, k3⟩, o1⟩, o2⟩, n1⟩, n2⟩, h1⟩, h2⟩, h3⟩ := m
      refine (pt_chain (ok_cmp g.units o1) (ok_cmp g.units o2) (ha.pe k1 X _ g n h1) (hb.pe k2 X _ g n h2) (hd.pe k3 X _ g n h3) (last_none n1 n2)).weaken fun σ H Q h => ?_
      exact chain_go σ H _ (show tE X.K c (.chain o p a b d) σ H (fun x H' => ∃ k, x = .bl k ∧ Q k H') from tT_tB σ H Q h)
    · cases m
  · rw [go_chain] at m
    cases m
/-! calls -/
theorem blt_of {X : Cx} (g : Good T c lv X) {x : Str} {y : String} (h : bltOk X.env.scope x y = true) : x = Str.ofString y ∧ Gl X x ∧ X.mg x = none := by
  unfold bltOk kindIs at h
  simp only [Bool.and_eq_true, beq_iff_eq, decide_eq_true_eq] at h
  exact ⟨h.1.1, h.1.2, g.free _ (by rw [h.1.1]; exact h.2)⟩
theorem star_of {fn : Str → Bool} {sc : Scope} {as : Ex} {e : Expr} {es : List Expr} {k : Nat} {p : Pos} (hk : kd as = 1) (m : mt.go T N fn sc as (.Set (e :: es) k p) = true) : (∀ env, starEach (e :: es) env = (false, eval e env) :: starEach es env) ∧ ∃ a as', as = .cons a as' ∧ mt.go T N fn sc as' (.Set es k p) = true ∧ kd as' = 1 := by
  cases as <;> simp [kd] at hk
  · rw [go_nil] at m; split at m <;> first | (rename_i h; cases h) | cases m
  · rename_i a as
    rw [go_cons] at m
    simp only [Bool.and_eq_true, beq_iff_eq] at m
    exact ⟨fun env => starEach_cons m.1.1.2, a, as, rfl, m.2, m.1.1.1.2⟩
theorem plain_of {fn : Str → Bool} {sc : Scope} (env : PySem.Env) (p pos : Pos) : ∀ {as : Ex} {es : List Expr} {k : Nat}, kd as = 1 → mt.go T N fn sc as (.Set es k p) = true → (backTo pos (starEach es env)).any (·.1) = false
  | as, [], k, hk, m => rfl
  | as, e :: es, k, hk, m => by
    obtain ⟨h1, a, as', rfl, h2, h3⟩ := star_of hk m
    rw [h1 env]
    show (false || (backTo pos (starEach es env)).any (·.1)) = false
    rw [plain_of env p pos h3 h2]; rfl
/-! keywords -/
theorem kw_args (pos : Pos) (env : PySem.Env) : ∀ kws : List Keyword, (backToKw pos (keywordEach kws env)).map (·.1) = kws.map Keyword.arg
  | [] => rfl
  | ⟨_, _, _⟩ :: kws => congrArg _ (kw_args pos env kws)
theorem kw_all {l : List (Option Str × Sem Value)} {ps : List Str} (h : l.map (·.1) = ps.map some) : l.all (·.1.isSome) = true ∧ l.filterMap (·.1) = ps ∧ l.any (·.1.isNone) = false := by
  induction l generalizing ps with
  | nil => cases ps with
    | nil => exact ⟨rfl, rfl, rfl⟩
    | cons => cases h
  | cons x l ih => cases ps with
    | nil => cases h
    | cons p ps =>
      rw [List.map_cons, List.map_cons] at h
      injection h with h1 h2
      obtain ⟨i1, i2, i3⟩ := ih h2
      rw [List.all_cons, List.filterMap_cons, List.any_cons, h1, i1, i2, i3]
      exact ⟨rfl, rfl, rfl⟩
theorem run_fnkw {X : Cx} {CX : CXT} {k : Nat} {f : Addr} {fd : FuncData} {ps : List Str} {sp : Sp} {E : XK} {pins : List (Addr × Obj)} {σ : L2.St} {H : Hp} {s : Shared} {Q : VK} {ws : List Value} {zs : List V} (F : FnOk X.prog X.w X.K X.mg X.base CX k f fd ps sp) (hr : Room k X.A) (hb : KWB X.K fd ps) (hx : Passes CX X E)
    (I : Inv X pins σ H s) (rz : Vals zs ws) (h : sp zs H Q E) : wpAny (model X.prog X.w) X.A (call (.ref f) [] (ps.zip ws)) (EP X pins σ Q) X.xe s := by
  have hl : ws.length = ps.length := by rw [← rz.length]; exact F.len _ _ _ _ h
  refine wpAny_call (codeAny_mono (F.run X.A X.stack s H ⟨[], ps.zip ws⟩ ws zs Q E hr I.env0 (hb s ws I.kIn hl) rz h) fun r s' hq => ?_)
  cases r with
  | error e => exact hx pins σ H s e s' I hq
  | ok fl =>
    cases fl with
    | ret u => exact I.after hq
    | next => exact False.elim hq
    | brk => exact False.elim hq
    | cont => exact False.elim hq
def tCallW (sp : Sp) (E : XK) (tk : TA) : TE := fun σ H Q => tk σ H fun zs H2 => sp zs H2 Q E
theorem pe_callW {X : Cx} {CX : CXT} {k : Nat} {f : Addr} {fd : FuncData} {ps : List Str} {sp : Sp} {E : XK} {x : Str} {p pos : Pos} {kws : List Keyword} {tk : TA} (F : FnOk X.prog X.w X.K X.mg X.base CX k f fd ps sp) (hr : Room k X.A) (hg : Gl X x) (hm : X.mg x = some (.ref f)) (hk : PySem.W.keepIn X.K (.ref f) = true) (hb : KWB X.K fd ps) (hx : Passes CX X E)
    (hkw : PK X kws tk) (hargs : kws.map Keyword.arg = ps.map some) (hdb : (x == ("__debug__" : Str)) = false) :
    PE X (.Call (.Name x p) [] kws pos) (tCallW sp E tk) := by
  refine ⟨fun pins s σ H Q I h => ?_⟩
  obtain ⟨a1, a2, a3⟩ := kw_all ((kw_args pos X.env kws).trans hargs)
  refine wpAny_Call_Name_kw (ld_glob I hg hm ?_ hdb)
  refine PySem.W.callWith_KW0 (h₀ := X.base) I.ok.mod.kin hk a1 (thn (hkw.run pos pins s σ H _ I h) fun ws s2 ⟨zs, H2, I2, rz, q2⟩ => ⟨I2.kIn, ?_⟩) (by rw [a3]; rfl)
  rw [a2]
  exact run_fnkw F hr hb hx I2 rz q2
/-- arguments whose parts are sound -/
def AllA (T : Tab) (c : Cal) (lv : Nat) (N : List Str) : Ex → Prop
  | .cons a as => SOK T c lv N a ∧ AllA T c lv N as
  | _ => True
theorem pk_of {X : Cx} (g : Good T c lv X) (n : X.N = N) : ∀ {as : Ex} {kws : List Keyword} {k : Nat} {p : Pos}, AllA T c lv N as → kd as = 1 → mt.go T N X.fn X.env.scope as (.Set (kws.map Keyword.value) k p) = true → PK X kws (tA X.K c as)
  | .nil, kws, k, p, _, _, m => by
    rw [go_nil] at m
    split at m
    · rename_i h
      cases kws with
      | nil =>
        have w : PK X [] (tA X.K c .nil) := ⟨fun pos pins s σ H Q I ⟨P, os, env, t, Kx, rr, ev, q⟩ => pk_nil.run pos pins s σ H Q I (q _ t _ H ev rr .refl ⟨[], rfl, .nil, fun _ => .nil⟩)⟩
        exact w
      | cons z zs => simp at h
    · cases m
  | .cons a as, kws, k, p, sa, _, m => by
    rw [go_cons] at m
    split at m
    · rename_i h
      cases kws with
      | nil => cases h
      | cons z zs =>
        simp only [List.map_cons] at h
        cases h
        simp only [Bool.and_eq_true, beq_iff_eq] at m
        obtain ⟨⟨⟨⟨k1, k2⟩, h1⟩, h2⟩, h3⟩ := m
        obtain ⟨nm, ev0, kp⟩ := z
        have r := pk_cons (nm := nm) (kpos := kp) (sa.1.pe k1 X _ g n h2) (pk_of g n sa.2 k2 h3)
        refine ⟨fun pos pins s σ H Q I ⟨P, os, env, t, Kx, rr, ev, q⟩ => r.run pos pins s σ H Q I ?_⟩
        simp only [evE] at ev
        refine ⟨P, os, env, t, _, rr, ev, fun d t1 v H1 k1 rr1 o1 => ⟨P, os, env, t1, _, rr1, k1, fun l t2 vs H2 k2 rr2 g2 hl => ?_⟩⟩
        obtain ⟨ds, rfl, w, s⟩ := hl
        refine q _ t2 _ H2 k2 rr2 (o1.grow.trans g2) ⟨_, rfl, .cons (o1.w.grow g2 rr1.ook.tp) w, fun hs => ?_⟩
        simp only [strictA, Bool.and_eq_true] at hs
        exact .cons ((o1.s hs.1).grow g2 rr1.ook.tp) (s hs.2)
    · cases m
theorem s_call (f : Nat) {as : Ex} (has : SOK T c lv N as) (hall : AllA T c lv N as) : SOK T c lv N (.call f as) := by
  refine .of rfl (fun X e g n m => ?_) fun fn sc e m => ?_
  · rw [go_call] at m
    split at m
    · simp only [Bool.and_eq_true, beq_iff_eq] at m
      obtain ⟨⟨⟨⟨k1, k2⟩, h1⟩, h2⟩, h3⟩ := m
      split at h1
      · rename_i d hd
        have e := of_decide_eq_true h1
        subst e
        obtain ⟨hg, hdb⟩ := glOk_gl h2
        obtain ⟨a, fd, hm, hk, hb, F, hkw⟩ := g.defs f d hd
        obtain ⟨s1, a', as', e', s2, s3⟩ := star_of k1 h3
        refine (pe_call F g.room hg hm hk hb .nil (E := fun _ _ _ => False) pass0 (has.pa k1 X _ _ _ g n h3) hdb (s1 _) (plain_of _ _ _ s3 s2)).weaken fun σ H Q ⟨P, os, env, t, Kx, rr, ev, q⟩ => ?_
        simp only [evE] at ev
        refine ⟨P, os, env, t, _, rr, ev, fun l t1 vs H1 kx rr1 g1 hl => ?_⟩
        obtain ⟨ds, rfl, w, s⟩ := hl
        rw [List.append_nil]
        refine ⟨P.pT, Own P os, ds, t1, Kx, rr1.ook, s k2, rr1.tape, kx, fun d t' v H' kd g' ht hl' r => ?_⟩
        exact q d t' v H' kd (rr1.grown g' ht hl') (.rep (g1.trans g') r fun z => (nomatch z))
      · cases h1
    · simp only [Bool.and_eq_true, beq_iff_eq] at m
      obtain ⟨⟨⟨⟨k1, k2⟩, h1⟩, h2⟩, h3⟩ := m
      split at h1
      · rename_i d hd
        simp only [Bool.and_eq_true, decide_eq_true_eq] at h1
        obtain ⟨⟨e, hk1⟩, hk2⟩ := h1
        subst e
        obtain ⟨hg, hdb⟩ := glOk_gl h2
        obtain ⟨a, fd, hm, hk, hb, F, hkw⟩ := g.defs f d hd
        refine (pe_callW F g.room hg hm hk (hkw hk1) (E := fun _ _ _ => False) pass0 (pk_of g n hall k1 h3) hk2 hdb).weaken fun σ H Q ⟨P, os, env, t, Kx, rr, ev, q⟩ => ?_
        simp only [evE] at ev
        refine ⟨P, os, env, t, _, rr, ev, fun l t1 vs H1 kx rr1 g1 hl => ?_⟩
        obtain ⟨ds, rfl, w, s⟩ := hl
        refine ⟨P.pT, Own P os, ds, t1, Kx, rr1.ook, s k2, rr1.tape, kx, fun d t' v H' kd g' ht hl' r => ?_⟩
        exact q d t' v H' kd (rr1.grown g' ht hl') (.rep (g1.trans g') r fun z => (nomatch z))
      · cases h1
    · cases m
  · rw [go_call] at m
    split at m <;> first | rfl | cases m
theorem s_draw (i : Nat) : SOK T c lv N (.draw i) := by
  refine .of rfl (fun X e g n m => ?_) fun fn sc e m => ?_
  · rw [go_draw] at m
    split at m
    · simp only [Bool.and_eq_true, decide_eq_true_eq] at m
      obtain ⟨⟨h1, h2⟩, h3⟩ := m
      subst h1
      obtain ⟨hg, hdb⟩ := glOk_gl h2
      obtain ⟨a, fd, hm, hk, hb, F⟩ := g.draw
      obtain ⟨n1, n2, n3, n4⟩ := nameOk_vis h3
      refine (pe_call F g.room hg hm hk hb .nil (E := fun _ _ _ => False) pass0 (pa_cons (pe_var (by rw [n]; exact n1) n2 n3 n4) pa_nil) hdb rfl rfl).weaken fun σ H Q ⟨P, os, env, t, Kx, rr, ev, q⟩ => ?_
      simp only [evE] at ev
      split at ev
      · rename_i hd
        obtain ⟨sv, as, e1, e2, e3, v, e4, r⟩ := rr.slots.get hd
        rw [e4] at e1
        obtain ⟨p, hp, hH⟩ := rr.tape _ rfl
        cases r with
        | tape hp' =>
          rw [hp] at hp'; cases hp'
          refine ⟨.ref p, e1, p, [], rfl, hH, fun H1 g1 => ⟨fun _ => ?_, fun n ns e => nomatch e⟩⟩
          have gr : Grow P.pT H H1 := fun b o e _ => g1 b o e
          exact q _ _ _ H1 ev (rr.full fun b o e _ => g1 b o e) (.flat gr (.int _) (by simp))
      · rename_i n0 ns hd
        obtain ⟨sv, as, e1, e2, e3, v, e4, r⟩ := rr.slots.get hd
        rw [e4] at e1
        obtain ⟨p, hp, hH⟩ := rr.tape _ rfl
        cases r with
        | tape hp' =>
          rw [hp] at hp'; cases hp'
          refine ⟨.ref p, e1, p, n0 :: ns, rfl, hH, fun H1 g1 => ⟨fun e => (nomatch e), fun n ns' e => ?_⟩⟩
          cases e
          have gr : Grow P.pT H (upd H1 p (.lst (ns.map .int))) := fun b o e ne => by rw [upd_ne (fun z => ne (by rw [hp, z]))]; exact g1 b o e
          refine q _ _ _ _ ev (rr.grown gr (fun ts e => ?_) fun p' e => ?_) (.flat gr (.int _) (by simp))
          · cases e; exact ⟨p, hp, upd_same⟩
          · rw [hp] at e; cases e; rw [upd_same]; simp
      · exact ev.elim
    · cases m
  · rw [go_draw] at m
    split at m <;> first | rfl | cases m
end
end G

set_option maxHeartbeats 2000000
namespace G
open PySem PySem.Spec PyProof.Rows L2
section
variable {T : Tab} {c : Cal} {lv : Nat} {N : List Str}

theorem args_bi {K : PySem.W.Frag} {b : Bi} {as : Ex} : ∀ σ H Q, tE K c (.bi b as) σ H Q → tCB (rBi b) (tA K c as) σ H Q := by
  intro σ H Q ⟨P, os, env, t, Kx, rr, ev, q⟩
  simp only [evE] at ev
  refine ⟨P, os, env, t, _, rr, ev, fun l t1 vs H1 kx rr1 g1 hl => ?_⟩
  obtain ⟨ds, rfl, w, s⟩ := hl
  exact ⟨P.pT, Own P os, ds, _, rr1.ook, w, kx, fun z v H' kz oz gz => q z t1 v H' kz (rr1.full gz) (oz.after rr.ook rr1.hl g1)⟩
theorem bi_call {X : Cx} (g : Good T c lv X) (b : Bi) (hr : b = .repr → T.rp = true) : ∃ f, bootBuiltins (Str.ofString (biName b)) = some f ∧ CallR X f (rBi b) ∧ ((∃ id, f = .builtin id) ∨ ∃ ty, f = .type ty) := by
  cases b with
  | len => exact ⟨.builtin "len", by decide +kernel, ok_len, .inl ⟨_, rfl⟩⟩
  | abs => exact ⟨.builtin "abs", by decide +kernel, ok_abs, .inl ⟨_, rfl⟩⟩
  | min2 => exact ⟨.builtin "min", by decide +kernel, ok_min2 g.calm, .inl ⟨_, rfl⟩⟩
  | max2 => exact ⟨.builtin "max", by decide +kernel, ok_max2 g.calm, .inl ⟨_, rfl⟩⟩
  | min1 => exact ⟨.builtin "min", by decide +kernel, ok_min1 g.calm, .inl ⟨_, rfl⟩⟩
  | max1 => exact ⟨.builtin "max", by decide +kernel, ok_max1 g.calm, .inl ⟨_, rfl⟩⟩
  | sum => exact ⟨.builtin "sum", by decide +kernel, ok_sum g.calm, .inl ⟨_, rfl⟩⟩
  | all => exact ⟨.builtin "all", by decide +kernel, ok_all g.calm, .inl ⟨_, rfl⟩⟩
  | int => exact ⟨.type "int", by decide +kernel, ok_int, .inr ⟨_, rfl⟩⟩
  | list => exact ⟨.type "list", by decide +kernel, ok_list, .inr ⟨_, rfl⟩⟩
  | tuple => exact ⟨.type "tuple", by decide +kernel, ok_tuple, .inr ⟨_, rfl⟩⟩
  | sorted => exact ⟨.builtin "sorted", by decide +kernel, ok_sorted g.units, .inl ⟨_, rfl⟩⟩
  | repr => exact ⟨.builtin "repr", by decide +kernel, (g.rp (hr rfl)).2 X (g.rp (hr rfl)).1 g.units, .inl ⟨_, rfl⟩⟩
theorem s_bi (b : Bi) {as : Ex} (has : SOK T c lv N as) : SOK T c lv N (.bi b as) := by
  refine .of rfl (fun X e g n m => ?_) fun fn sc e m => ?_
  · rw [go_bi] at m
    split at m
    · simp only [Bool.and_eq_true, beq_iff_eq, Bool.or_eq_true, bne_iff_ne, decide_eq_true_eq] at m
      obtain ⟨⟨⟨⟨k1, h1⟩, h4⟩, h2⟩, h3⟩ := m
      obtain ⟨e, hg, hm⟩ := blt_of g h1
      subst e
      obtain ⟨f, hb, hc, hf⟩ := bi_call g b fun z => h2.elim (fun y => absurd z y) id
      obtain ⟨s1, a', as', e', s2, s3⟩ := star_of k1 h3
      have hn : Str.ofString (biName b) ≠ "__name__" := by cases b <;> decide +kernel
      have hdb : (Str.ofString (biName b) == ("__debug__" : Str)) = false := by cases b <;> decide +kernel
      rcases hf with ⟨id, rfl⟩ | ⟨ty, rfl⟩
      · exact (pe_callB hc hg hm hb (has.pa k1 X _ _ _ g n h3) hn hdb (s1 _) (plain_of _ _ _ s3 s2)).weaken args_bi
      · exact (pe_callTy hc hg hm hb (has.pa k1 X _ _ _ g n h3) hn hdb (s1 _) (plain_of _ _ _ s3 s2)).weaken args_bi
    · cases m
  · rw [go_bi] at m
    split at m <;> first | rfl | cases m
def isiS : String → Ty → Bool
  | "int", .int => true
  | "bool", .int => true
  | "bool", .bool => true
  | "tuple", .tuple => true
  | "list", .list => true
  | "str", .str => true
  | _, _ => false
theorem kit_s (s : String) (ty : Ty) (h : s ∈ ["NoneType", "int", "bool", "tuple", "list", "str"]) : kitB s (tyName ty) = some (isiS s ty) := by
  simp only [List.mem_cons, List.not_mem_nil, or_false] at h
  rcases h with rfl | rfl | rfl | rfl | rfl | rfl <;> cases ty <;> decide +kernel
theorem kit_isi {pT : Option Addr} {O : Addr → Prop} {K : PySem.W.Frag} {H : Hp} {v : V} {d : PyData} (ok : OOk pT O H) (r : RepW pT O H v d) (hd : d ≠ tapeD) (ty : Ty) : ∃ t, TyX K H v t ∧ PySem.W.kitOne K t (.type (tyName ty)) = some (isiD d ty) := by
  have key : ∀ (s : String), s ∈ ["NoneType", "int", "bool", "tuple", "list", "str"] → isiD d ty = isiS s ty → PySem.W.kitOne K (.type s) (.type (tyName ty)) = some (isiD d ty) := fun s h e => by rw [e]; exact kit_ty (kit_s s ty h)
  rcases r with r | ⟨p, vs, xs, rfl, rfl, h, n, r⟩
  · cases r with
    | non => exact ⟨_, .base .non, key _ (by decide) (by cases ty <;> rfl)⟩
    | bl b => exact ⟨_, .base (.bl b), key _ (by decide) (by cases ty <;> rfl)⟩
    | int b => exact ⟨_, .base (.int b), key _ (by decide) (by cases ty <;> rfl)⟩
    | str b => exact ⟨_, .base (.str b), key _ (by decide) (by cases ty <;> rfl)⟩
    | lst h n r => exact ⟨_, .base (.lst h), key _ (by decide) (by cases ty <;> rfl)⟩
    | tup h n r => exact ⟨_, .base (.tup h), key _ (by decide) (by cases ty <;> rfl)⟩
    | tape h => exact absurd rfl hd
  · exact ⟨_, .base (.lst h), key _ (by decide) (by cases ty <;> rfl)⟩
theorem ty_boot (ty : Ty) : bootBuiltins (Str.ofString (tyName ty)) = some (.type (tyName ty)) := by cases ty <;> decide +kernel
theorem s_isi {a : Ex} (ha : SOK T c lv N a) (ty : Ty) : SOK T c lv N (.isi a ty) := by
  refine .of rfl (fun X e g n m => ?_) fun fn sc e m => ?_
  · rw [go_isi] at m
    split at m
    · simp only [Bool.and_eq_true, beq_iff_eq] at m
      obtain ⟨⟨⟨⟨k1, h1⟩, h2⟩, h3⟩, h4⟩ := m
      obtain ⟨e, hg, hm⟩ := blt_of g h1
      subst e
      obtain ⟨e, hg2, hm2⟩ := blt_of g h2
      subst e
      have hn : Str.ofString (tyName ty) ≠ "__name__" := by cases ty <;> decide +kernel
      have hdb : (Str.ofString (tyName ty) == ("__debug__" : Str)) = false := by cases ty <;> decide +kernel
      refine (pe_callB call_isi hg hm (by decide +kernel) (pa_cons (ha.pe k1 X _ g n h4) (pa_cons (pe_bltn hg2 hm2 (ty_boot ty) (v := .ty (tyName ty)) rfl hn hdb) pa_nil) (starEach_cons h3)) (by decide +kernel) (by decide +kernel) (starEach_cons h3) rfl).weaken fun σ H Q ⟨P, os, env, t, Kx, rr, ev, q⟩ => ?_
      simp only [evE] at ev
      refine ⟨P, os, env, t, _, rr, ev, fun d t1 v H1 kx rr1 o1 => ?_⟩
      obtain ⟨ty', h5, h6⟩ := kit_isi (K := X.K) rr1.ook o1.w kx.1 ty
      exact ⟨v, .ty (tyName ty), ty', .type (tyName ty), _, rfl, .ty _, h5, h6, q _ t1 _ H1 kx.2 rr1 (.flat o1.grow (.bl _) (by simp))⟩
    · cases m
  · rw [go_isi] at m
    split at m <;> first | rfl | cases m
theorem at_of {pT : Option Addr} {O : Addr → Prop} {H : Hp} {vs : List V} {ds : List PyData} {i : Int} {d : PyData} (r : RepL pT O H vs ds) (h : atI ds i = some d) : ∃ v, atI vs i = some v ∧ Rep pT O H v d := by
  unfold atI at h ⊢
  rw [r.length]
  cases e : ixN ds.length i with
  | none => rw [e] at h; cases h
  | some j => rw [e] at h; exact r.get h
theorem s_idx {a b : Ex} (ha : SOK T c lv N a) (hb : SOK T c lv N b) : SOK T c lv N (.idx a b) := by
  refine .of rfl (fun X e g n m => ?_) fun fn sc e m => ?_
  · rw [go_idx] at m
    split at m
    · simp only [Bool.and_eq_true, beq_iff_eq] at m
      obtain ⟨⟨⟨⟨k1, k2⟩, h1⟩, h2⟩, h3⟩ := m
      refine (pe_ix (ix_list.or ix_tup) (ha.pe k1 X _ g n h2) (hb.pe k2 X _ g n h3) (plainIx h1)).weaken fun σ H Q ⟨P, os, env, t, Kx, rr, ev, q⟩ => ?_
      simp only [evE] at ev
      refine ⟨P, os, env, t, _, rr, ev, fun d1 t1 v1 H1 k1 rr1 o1 => ⟨P, os, env, t1, _, rr1, k1, fun d2 t2 v2 H2 k2 rr2 o2 => ?_⟩⟩
      have w1 := o1.w.grow o2.grow rr1.ook.tp
      cases d1 <;> cases d2 <;> try exact False.elim k2
      · simp only [idxW] at k2
        split at k2
        · rename_i z hz
          obtain ⟨p, vs, rfl, hp, np, r⟩ := w1.list rr2.ook.tp
          obtain ⟨v, h5, h6⟩ := at_of r hz
          exact .inl ⟨p, vs, _, v, rfl, o2.w.int, .of hp, h5, q _ t2 _ H2 k2 rr2 (.rep (o1.grow.trans o2.grow) h6 fun z => (nomatch z))⟩
        · exact k2.elim
      · simp only [idxW] at k2
        split at k2
        · rename_i z hz
          obtain ⟨p, vs, rfl, hp, np, r⟩ := w1.tuple
          obtain ⟨v, h5, h6⟩ := at_of r hz
          exact .inr ⟨p, vs, _, v, rfl, o2.w.int, .of hp, h5, q _ t2 _ H2 k2 rr2 (.rep (o1.grow.trans o2.grow) h6 fun z => (nomatch z))⟩
        · exact k2.elim
    · cases m
  · rw [go_idx] at m
    split at m <;> first | rfl | cases m
theorem RepL.cut {pT : Option Addr} {O : Addr → Prop} {H : Hp} {vs : List V} {ds : List PyData} (r : RepL pT O H vs ds) (lo hi : Option Int) : RepL pT O H (cutV vs lo hi) (cutL ds lo hi) := by
  unfold cutV cutL
  rw [r.length]
  exact (r.drop _).take _
/-- a slice's part -/
theorem po_of {X : Cx} (g : Good T c lv X) (n : X.N = N) {x : Ex} (hx : SOK T c lv N x) (k : kd x = 0) {e : Option Expr} (m : (match e with | none => isNon x | some e => !isNon x && mt.go T N X.fn X.env.scope x e) = true) :
    PO X e (fun σ H Q => ∃ P os env t Kx, RR X.K P os env t σ H ∧ evE c x env t Kx ∧ ∀ d t' H', Kx d t' → RR X.K P os env t' σ H' → Grow P.pT H H' → (∃ o, (d = .none ∧ o = none ∨ ∃ i, d = .int i ∧ o = some i) ∧ Q o H')) := by
  cases e with
  | none =>
    refine ⟨fun pins s σ H Q I h => ?_⟩
    obtain ⟨P, os, env, t, Kx, rr, ev, q⟩ := h
    cases x <;> simp [isNon] at m
    simp only [evE] at ev
    obtain ⟨o, h1, h2⟩ := q _ _ _ ev rr .refl
    rcases h1 with ⟨_, rfl⟩ | ⟨i, h1, _⟩
    · exact po_none.run pins s σ H Q I h2
    · cases h1
  | some e =>
    simp only [Bool.and_eq_true, Bool.not_eq_true'] at m
    have hp := hx.pe k X e g n m.2
    refine ⟨fun pins s σ H Q I h => ?_⟩
    obtain ⟨P, os, env, t, Kx, rr, ev, q⟩ := h
    rw [evalPart_some]
    refine thn (hp.run pins s σ H (fun v H' => ∃ d t', RepW P.pT (Own P os) H' v d ∧ Kx d t' ∧ RR X.K P os env t' σ H' ∧ Grow P.pT H H') I ⟨P, os, env, t, Kx, rr, ev, fun d t' v H' kd rr' o => ⟨d, t', o.w, kd, rr', o.grow⟩⟩) fun u s1 ⟨v, H1, I1, r1, d, t', w, kd, rr', g'⟩ => ?_
    obtain ⟨o, h1, h2⟩ := q d t' H1 kd rr' g'
    rcases h1 with ⟨rfl, rfl⟩ | ⟨i, rfl, rfl⟩
    · have e := w.none
      subst e
      cases r1
      exact ⟨none, H1, I1, .none, h2⟩
    · have e := w.int
      subst e
      obtain ⟨tk, rfl⟩ := r1
      exact ⟨some i, H1, I1, .int i tk, h2⟩
theorem s_sl {a lo hi : Ex} (ha : SOK T c lv N a) (hlo : SOK T c lv N lo) (hhi : SOK T c lv N hi) : SOK T c lv N (.sl a lo hi) := by
  refine .of rfl (fun X e g n m => ?_) fun fn sc e m => ?_
  · rw [go_sl] at m
    split at m
    · simp only [Bool.and_eq_true, beq_iff_eq] at m
      obtain ⟨⟨⟨⟨⟨k1, k2⟩, k3⟩, h1⟩, h2⟩, h3⟩ := m
      refine (pe_slice (sl_list.or sl_tupA) (ha.pe k1 X _ g n h1) (po_of g n hlo k2 h2) (po_of g n hhi k3 h3)).weaken fun σ H Q ⟨P, os, env, t, Kx, rr, ev, q⟩ => ?_
      simp only [evE] at ev
      refine ⟨P, os, env, t, _, rr, ev, fun d1 t1 v1 H1 k1 rr1 o1 => ⟨P, os, env, t1, _, rr1, k1, fun d2 t2 H2 k2 rr2 g2 => ?_⟩⟩
      have key : ∀ o2, partW d2 (fun lo' => evE c hi env t2 fun h t3 => partW h fun hi' => slW d1 lo' hi' fun z => Kx z t3) → (d2 = .none ∧ o2 = none ∨ ∃ i, d2 = .int i ∧ o2 = some i) → (∃ P os env t Kx, RR X.K P os env t σ H2 ∧ evE c hi env t Kx ∧ ∀ d t' H', Kx d t' → RR X.K P os env t' σ H' → Grow P.pT H2 H' → (∃ o, (d = .none ∧ o = none ∨ ∃ i, d = .int i ∧ o = some i) ∧ (rSlL X.K v1 o2 o H' Q ∨ rSlA X.K v1 o2 o H' Q))) := by
        intro o2 h e2
        have h' : evE c hi env t2 fun h t3 => partW h fun hi' => slW d1 o2 hi' fun z => Kx z t3 := by
          rcases e2 with ⟨rfl, rfl⟩ | ⟨i, rfl, rfl⟩ <;> exact h
        refine ⟨P, os, env, t2, _, rr2, h', fun d3 t3 H3 k3 rr3 g3 => ?_⟩
        have w1 := (o1.w.grow g2 rr1.ook.tp).grow g3 rr2.ook.tp
        have fin : ∀ o3, slW d1 o2 o3 (fun z => Kx z t3) → (rSlL X.K v1 o2 o3 H3 Q ∨ rSlA X.K v1 o2 o3 H3 Q) := by
          intro o3 ks
          cases d1 <;> try exact False.elim ks
          · obtain ⟨p, vs, rfl, hp, np, r⟩ := w1.list rr3.ook.tp
            refine .inl ⟨p, vs, rfl, .of hp, fun z nz => q _ t3 _ _ ks (rr3.full (.new nz)) ?_⟩
            exact .lst rr.ook rr3.hl (o1.grow.trans (g2.trans g3)) nz rr3.ook.live (r.cut o2 o3)
          · obtain ⟨p, vs, rfl, hp, np, r⟩ := w1.tuple
            refine .inr ⟨p, vs, rfl, .of hp, fun hw => ?_, fun _ z nz => q _ t3 _ _ ks (rr3.full (.new nz)) (.tup (o1.grow.trans (g2.trans g3)) nz rr3.ook.live (r.cut o2 o3))⟩
            have hc : cutL _ o2 o3 = _ := show cutL _ o2 o3 = _ from by
              unfold cutL
              rw [← r.length, hw.1, hw.2, List.drop_zero, r.length, Nat.sub_zero, List.take_length]
            have ks' : Kx (.tuple (cutL _ o2 o3)) t3 := ks
            rw [hc] at ks'
            exact q _ t3 _ H3 ks' rr3 (.flat (o1.grow.trans (g2.trans g3)) (.tup hp np r) (by simp))
        cases d3 <;> try exact False.elim k3
        · exact ⟨none, .inl ⟨rfl, rfl⟩, fin none k3⟩
        · exact ⟨_, .inr ⟨_, rfl, rfl⟩, fin _ k3⟩
      cases d2 <;> try exact False.elim k2
      · exact ⟨none, .inl ⟨rfl, rfl⟩, key none k2 (.inl ⟨rfl, rfl⟩)⟩
      · exact ⟨_, .inr ⟨_, rfl, rfl⟩, key _ k2 (.inr ⟨_, rfl, rfl⟩)⟩
    · cases m
  · rw [go_sl] at m
    split at m <;> first | rfl | cases m
theorem s_rev {a : Ex} (ha : SOK T c lv N a) : SOK T c lv N (.rev a) := by
  refine .of rfl (fun X e g n m => ?_) fun fn sc e m => ?_
  · rw [go_rev] at m
    split at m
    · simp only [Bool.and_eq_true, beq_iff_eq] at m
      refine (pe_revL (ha.pe m.1 X _ g n m.2)).weaken fun σ H Q ⟨P, os, env, t, Kx, rr, ev, q⟩ => ?_
      simp only [evE] at ev
      refine ⟨P, os, env, t, _, rr, ev, fun d1 t1 v1 H1 k1 rr1 o1 => ?_⟩
      cases d1 <;> try exact False.elim k1
      obtain ⟨p, vs, rfl, hp, np, r⟩ := o1.w.list rr1.ook.tp
      exact ⟨p, vs, rfl, .of hp, fun z nz => q _ t1 _ _ k1 (rr1.full (.new nz)) (.lst rr.ook rr1.hl o1.grow nz rr1.ook.live r.reverse)⟩
    · cases m
  · rw [go_rev] at m
    split at m <;> first | rfl | cases m
end
end G

set_option maxHeartbeats 2000000
namespace G
open PySem PySem.Spec PyProof.Rows L2
section
variable {T : Tab} {c : Cal} {lv : Nat} {N : List Str}

theorem base_of {o : Expr} {nm : Str} {env : PySem.Env} (h : notSuper o = true) : attributeBase o nm env (eval o env) = eval o env := by
  cases o <;> first | rfl | (simp [notSuper] at h)
theorem find_of {pT : Option Addr} {O : Addr → Prop} {H : Hp} {v : V} {d : PyData} (r : RepW pT O H v d) (f : flatD d = true) : ∀ {vs : List V} {ds : List PyData} {j : Nat}, RepL pT O H vs ds → ds.all flatD = true → findD d ds = some j →
    ∃ z, vs[j]? = some z ∧ eqV z v = true ∧ ∀ (m : Nat) (z' : V), m < j → vs[m]? = some z' → eqV z' v = false
  | _, _, _, .nil, _, e => by simp [findD] at e
  | _, _, j, .cons a b, fl, e => by
    rw [List.all_cons, Bool.and_eq_true] at fl
    have z := (flat_of r f).2 _ _ (.inl a) fl.1
    unfold findD at e
    split at e
    · rename_i he
      cases e
      exact ⟨_, rfl, by rw [z]; exact he, fun m _ h => absurd h (Nat.not_lt_zero _)⟩
    · rename_i he
      rw [Option.map_eq_some_iff] at e
      obtain ⟨k, e1, rfl⟩ := e
      obtain ⟨z1, h1, h2, h3⟩ := find_of r f b fl.2 e1
      refine ⟨z1, by simpa using h1, h2, fun m z' hm hz => ?_⟩
      cases m with
      | zero =>
        simp at hz
        subst hz
        rw [z]
        simpa using he
      | succ m => exact h3 m z' (by omega) (by simpa using hz)
theorem s_index {a b : Ex} (ha : SOK T c lv N a) (hb : SOK T c lv N b) : SOK T c lv N (.index a b) := by
  refine .of rfl (fun X e g n m => ?_) fun fn sc e m => ?_
  · rw [go_index] at m
    split at m
    · simp only [Bool.and_eq_true, beq_iff_eq, decide_eq_true_eq] at m
      obtain ⟨⟨⟨⟨⟨⟨⟨k1, k2⟩, h1⟩, h2⟩, h3⟩, h4⟩, h5⟩, h6⟩ := m
      subst h1
      refine (pe_bm PySem.F.plainAttrs_list PySem.F.slot_list_index PySem.F.type_list_index mt_index (ha.pe k1 X _ g n h5) (pa_cons (hb.pe k2 X _ g n h6) pa_nil (starEach_cons h4)) (base_of h3) (by rw [starEach_cons h4]; rfl) (by rw [h2]; simp) (starEach_cons h4) rfl).weaken fun σ H Q ⟨P, os, env, t, Kx, rr, ev, q⟩ => ?_
      simp only [evE] at ev
      refine ⟨P, os, env, t, _, rr, ev, fun d1 t1 v1 H1 k1 rr1 o1 => ?_⟩
      cases d1 <;> try exact False.elim k1
      have ty1 : tyV X.K "list" v1 H1 := by
        obtain ⟨p, vs, rfl, hp, np, r⟩ := o1.w.list rr1.ook.tp
        exact .inl ⟨rfl, vs, .of hp⟩
      refine ⟨ty1, P, os, env, t1, _, rr1, k1, fun d2 t2 v2 H2 k2 rr2 o2 => ?_⟩
      obtain ⟨p, vs, rfl, hp, np, r⟩ := (o1.w.grow o2.grow rr1.ook.tp).list rr2.ook.tp
      obtain ⟨⟨f1, f2⟩, k2⟩ := k2
      split at k2
      · rename_i j hj
        obtain ⟨z, z1, z2, z3⟩ := find_of o2.w f2 r f1 hj
        exact ⟨p, vs, v2, j, z, rfl, rfl, .of hp, (flat_of o2.w f2).1, (inV_of o2.w f2 r f1).1, z1, z2, z3, q _ t2 _ H2 k2 rr2 (.flat (o1.grow.trans o2.grow) (.int _) (by simp))⟩
      · exact k2.elim
    · cases m
  · rw [go_index] at m
    split at m <;> first | rfl | cases m
theorem s_slen (i : Nat) : SOK T c lv N (.slen i) := by
  refine .of rfl (fun X e g n m => ?_) fun fn sc e m => ?_
  · rw [go_slen] at m
    split at m
    · simp only [Bool.and_eq_true] at m
      obtain ⟨h1, h2⟩ := m
      obtain ⟨e, hg, hm⟩ := blt_of g h1
      subst e
      obtain ⟨n1, n2, n3, n4⟩ := nameOk_vis h2
      refine (pe_callB call_len_seq hg hm (by decide +kernel) (pa_cons (pe_var (by rw [n]; exact n1) n2 n3 n4) pa_nil) (by decide +kernel) (by decide +kernel) rfl rfl).weaken fun σ H Q ⟨P, os, env, t, Kx, rr, ev, q⟩ => ?_
      simp only [evE] at ev
      split at ev
      · rename_i ns hd
        obtain ⟨sv, as, e1, e2, e3, a, e4, r⟩ := rr.slots.get hd
        rw [e4] at e1
        have hS : SqL X.K H a (ns.map .int) := by
          rcases r with ⟨r, _⟩ | (r | ⟨o, r⟩) | r
          · exact .inl r
          · exact absurd r (by simp)
          · exact absurd r (by simp)
          · exact .inr r
        exact ⟨.ref a, e1, a, _, rfl, .inl hS, by rw [List.length_map]; exact q _ t _ H ev rr (.flat .refl (.int _) (by simp))⟩
      · exact ev.elim
    · cases m
  · rw [go_slen] at m
    split at m <;> first | rfl | cases m
theorem atI_map {α β : Type} (f : α → β) (xs : List α) (i : Int) : atI (xs.map f) i = (atI xs i).map f := by
  unfold atI
  rw [List.length_map]
  cases ixN xs.length i with
  | none => rfl
  | some j => show (xs.map f)[j]? = (xs[j]?).map f; rw [List.getElem?_map]
theorem s_sidx (i : Nat) {a : Ex} (ha : SOK T c lv N a) : SOK T c lv N (.sidx i a) := by
  refine .of rfl (fun X e g n m => ?_) fun fn sc e m => ?_
  · rw [go_sidx] at m
    split at m
    · simp only [Bool.and_eq_true, beq_iff_eq] at m
      obtain ⟨⟨⟨k1, h1⟩, h2⟩, h3⟩ := m
      obtain ⟨n1, n2, n3, n4⟩ := nameOk_vis h2
      refine (pe_ix ix_list (pe_var (by rw [n]; exact n1) n2 n3 n4) (ha.pe k1 X _ g n h3) (plainIx h1)).weaken fun σ H Q ⟨P, os, env, t, Kx, rr, ev, q⟩ => ?_
      simp only [evE] at ev
      split at ev
      · rename_i ns hd
        obtain ⟨sv, as, e1, e2, e3, a', e4, r⟩ := rr.slots.get hd
        rw [e4] at e1
        refine ⟨.ref a', e1, P, os, env, t, _, rr, ev, fun d1 t1 v1 H1 k1 rr1 o1 => ?_⟩
        obtain ⟨sv', as', e1', e2', e3', a2, e4', r1⟩ := rr1.slots.get hd
        rw [e4', e1] at e1'
        cases e1'
        cases d1 <;> try exact False.elim k1
        simp only [intW] at k1
        have hS : SqL X.K H1 a' (ns.map .int) := by
          rcases r1 with ⟨r, _⟩ | (r | ⟨o, r⟩) | r
          · exact .inl r
          · exact absurd r (by simp)
          · exact absurd r (by simp)
          · exact .inr r
        split at k1
        · rename_i z hz
          exact ⟨a', _, _, .int z, rfl, o1.w.int, hS, by rw [atI_map, hz]; rfl, q _ t1 _ H1 k1 rr1 (.flat o1.grow (.int _) (by simp))⟩
        · exact k1.elim
      · exact ev.elim
    · cases m
  · rw [go_sidx] at m
    split at m <;> first | rfl | cases m
end
end G

set_option maxHeartbeats 2000000
namespace G
open PySem PySem.Spec PyProof.Rows L2
/-- a list or a tuple -/
inductive Sk where
  | l | t
def Sq (k : Sk) (K : PySem.W.Frag) (H : Hp) (a : Addr) (xs : List V) : Prop := match k with
  | .l => SqL K H a xs
  | .t => SqT K H a xs
def SeqH (k : Sk) (h : Heap) (a : Addr) (its : Array Value) : Prop := match k with
  | .l => h.IsList a its
  | .t => h.IsTuple a its
def ItH (k : Sk) (h : Heap) (it a : Addr) (i : Nat) : Prop := match k with
  | .l => h.IsListIter it a i
  | .t => h.IsTupleIter it a i
def itObj (k : Sk) (a : Addr) : Obj := match k with
  | .l => { cls := .type "list_iterator", data := .fields #[.ref a, .int 0 0] }
  | .t => { cls := .type "tuple_iterator", data := .fields #[.ref a, .int 0 0] }
section
variable {X : Cx} {pins : List (Addr × Obj)} {σ : L2.St} {H : Hp} {s : Shared} {k k1 k2 : Sk} {a b it : Addr} {xs ys : List V} {i N : Nat}
theorem sq_is (I : Inv X pins σ H s) (h : Sq k X.K H a xs) : ∃ its : List Value, Vals xs its ∧ SeqH k s.heap a its.toArray ∧ xs.length ≤ sizeLine ∧ a < s.heap.objs.size := by
  cases k with
  | l =>
    obtain ⟨its, r, p, hz⟩ := I.list h
    exact ⟨its, r, p.isList, hz, p.lt⟩
  | t =>
    obtain ⟨its, r, p, hz⟩ := I.tuple h
    exact ⟨its, r, p, hz, let ⟨_, e, _⟩ := p; Heap.lt_size e⟩
theorem sq_inj (I : Inv X pins σ H s) (h : Sq k X.K H a xs) (h' : Sq k X.K H a ys) : xs = ys := by
  cases k with
  | l => exact I.list_inj h h'
  | t => exact I.tuple_inj h h'
theorem ith_obj {h : Heap} (p : ItH k h it a i) : ∃ o, h.get? it = some o ∧ ∀ v, o.data ≠ .cell v := by
  cases k <;> (obtain ⟨o, e, _, d⟩ := p; exact ⟨o, e, fun v z => by rw [d] at z; cases z⟩)
theorem ith_at {h h' : Heap} (p : ItH k h it a i) (e : ∀ o, h.get? it = some o → h'.get? it = some o) : ItH k h' it a i := by
  cases k
  · exact Heap.IsListIter.at p e
  · exact Heap.IsTupleIter.at p e
theorem draws_k {P : Program} {w : World} {A : Around} (hh : A.handled = none) (k : Sk) (it l : Addr) (hne : l ≠ it) (items : Array Value) : Draws P w A it [it, l] items.size (fun i v => items[i]? = some v) (fun i h => ItH k h it l i ∧ SeqH k h l items) := by
  cases k
  · exact Draws.list hh it l hne items
  · exact Draws.tuple hh it l hne items
theorem begins_k (k : Sk) (a : Addr) (items : Array Value) : Begins (.ref a) (itObj k a) fun h => SeqH k h a items := by
  cases k
  · exact begins_list a items
  · exact begins_tuple a items
theorem ith_new {h : Heap} (e : h.get? it = some (itObj k a)) : ItH k h it a 0 := by
  cases k <;> exact ⟨_, e, rfl, rfl⟩
/-- pairs of two, at each turn as they stand -/
def ItzM (K : PySem.W.Frag) (k1 k2 : Sk) (a b : Addr) : It :=
  ⟨fun i H => ∃ xs ys x y, Sq k1 K H a xs ∧ Sq k2 K H b ys ∧ xs[i]? = some x ∧ ys[i]? = some y,
    fun i H v H' => ∃ T x y, v = .ref T ∧ H T = none ∧ H' = upd H T (.tup [x, y]) ∧ (∀ xs, Sq k1 K H a xs → xs[i]? = some x) ∧ ∀ ys, Sq k2 K H b ys → ys[i]? = some y,
    fun i H => ∃ xs ys, Sq k1 K H a xs ∧ Sq k2 K H b ys ∧ (i = min xs.length ys.length)⟩
def zipFp (N : Nat) : List Addr := [N + 4, N + 2, N + 3, N, N + 1]
def zipTn (k1 k2 : Sk) (a b : Addr) (N : Nat) : Nat → Heap → Prop := fun i h => IsZip h (N + 4) (N + 2) (N + 3) .none ∧ IsTupOf2 h (N + 2) (.ref N) (.ref (N + 1)) ∧ (∃ a1 a2, IsTupOf2 h (N + 3) a1 a2) ∧ ItH k1 h N a i ∧ ItH k2 h (N + 1) b i
theorem one_lt {a N : Addr} (h : a < N) : ∀ x ∈ [a], x < N := fun x hx => by
  have e : x = a := by simpa using hx
  rw [e]
  exact h
theorem zip_wr {N x : Addr} (h : x ∈ [N + 4, N + 3, N, N + 1]) : x ∈ zipFp N := by
  unfold zipFp
  simp only [List.mem_cons, List.not_mem_nil, or_false] at h ⊢
  rcases h with h | h | h | h
  · exact .inl h
  · exact .inr (.inr (.inl h))
  · exact .inr (.inr (.inr (.inl h)))
  · exact .inr (.inr (.inr (.inr h)))
theorem ne_of_lt' {a N m : Nat} (h : a < N) : a ≠ N + m := by omega
theorem turn_zipM {P : Program} {w : World} {K : PySem.W.Frag} {elts : List Expr} {kk : Nat} {tpos : Pos} (ha : a < N) (hb : b < N) : Turn P w K (.Tuple elts kk tpos) (ItzM K k1 k2 a b) (zipFp N) (N + 4) (zipTn k1 k2 a b N) := by
  have S : ZipSep2 (N + 4) (N + 2) (N + 3) N (N + 1) [N, a] [N + 1, b] := zip_sep2 (fp1 := [a]) (fp2 := [b]) (one_lt ha) (one_lt hb)
  have keep : ∀ (i : Nat) (h h' : Heap), zipTn k1 k2 a b N i h → (∀ x ∈ zipFp N, ∀ o, h.get? x = some o → h'.get? x = some o) → zipTn k1 k2 a b N i h' := fun i h h' ⟨t1, t2, ⟨a1, a2, t3⟩, t4, t5⟩ kp =>
    ⟨kp _ (by simp [zipFp]) _ t1, kp _ (by simp [zipFp]) _ t2, ⟨a1, a2, kp _ (by simp [zipFp]) _ t3⟩, ith_at t4 fun o q => kp N (by simp [zipFp]) o q, ith_at t5 fun o q => kp (N + 1 : Nat) (by simp [zipFp]) o q⟩
  refine ⟨by simp [zipFp], fun i h ⟨t1, t2, ⟨a1, a2, t3⟩, t4, t5⟩ x hx => ?_, keep, ?_, ?_, fun A i s Q E ⟨t1, _⟩ q => wpAny_pyIter_zip t1 q⟩
  · have hx' : x = N + 4 ∨ x = N + 2 ∨ x = N + 3 ∨ x = N ∨ x = N + 1 := by simpa [zipFp] using hx
    rcases hx' with e | e | e | e | e
    · rw [e]; exact ⟨_, t1, fun v z => nomatch z⟩
    · rw [e]; exact ⟨_, t2, fun v z => nomatch z⟩
    · rw [e]; exact ⟨_, t3, fun v z => nomatch z⟩
    · rw [e]; exact ith_obj t4
    · rw [e]; exact ith_obj t5
  · intro X hP hw hK hc i pins s σ H E I hf ⟨t1, t2, t3, t4, t5⟩ hg
    subst hP hw hK
    obtain ⟨xs, ys, x, y, q1, q2, hx, hy⟩ := hg
    obtain ⟨its1, r1, p1, z1, _⟩ := sq_is I q1
    obtain ⟨its2, r2, p2, z2, _⟩ := sq_is I q2
    have hh := I.ok.hd hc
    have D := GoesN.zip2 (elts := elts) (x1 := kk) (pos := tpos) S (draws_k (P := X.prog) (w := X.w) (A := X.A.in1) hh k1 N a (Nat.ne_of_lt ha) its1.toArray) (draws_k (P := X.prog) (w := X.w) (A := X.A.in1) hh k2 (N + 1) b (ne_of_lt' hb) its2.toArray)
    obtain ⟨u1, hu1, ru1⟩ := r1.get hx
    obtain ⟨u2, hu2, ru2⟩ := r2.get hy
    have hi : i < min its1.toArray.size its2.toArray.size := by
      have h1 := (List.getElem?_eq_some_iff.mp hu1).1
      have h2 := (List.getElem?_eq_some_iff.mp hu2).1
      simp only [List.size_toArray]
      omega
    refine thn (D.goes i s (fun v s' => ∃ x H', Inv X pins σ H' s' ∧ RelV x v ∧ (ItzM X.K k1 k2 a b).yld i H x H' ∧ zipTn k1 k2 a b N (i + 1) s'.heap ∧ ∀ b ∈ zipFp N, H' b = none) E hi ⟨t1, t2, t3, ⟨t4, p1⟩, ⟨t5, p2⟩⟩ fun v h' tk hY st' hk htk => ?_) fun r s1 q => q
    obtain ⟨TT, w1, w2, rfl, hT, e1, e2, hTup⟩ := hY
    have ew1 : u1 = w1 := by
      have e1' : its1[i]? = some w1 := by simpa using e1
      exact Option.some.inj (hu1.symm.trans e1')
    have ew2 : u2 = w2 := by
      have e2' : its2[i]? = some w2 := by simpa using e2
      exact Option.some.inj (hu2.symm.trans e2')
    subst ew1 ew2
    have new : ObjOk X.prog X.w (upd H TT (.tup [x, y])) h' TT (.tup [x, y]) := ⟨by show 2 ≤ sizeLine; decide, [u1, u2], .cons ru1 (.cons ru2 .nil), hTup⟩
    have I1 : Inv X pins σ (upd H TT (.tup [x, y])) { s with heap := h', toks := tk } := I.turnedNew (t' := tk) (ch := zipFp N) (fun c o hb q => hk c o (fun z => hb (zip_wr z)) q) hf hT new
    refine ⟨.ref TT, _, I1, rfl, ⟨TT, x, y, rfl, I.hok.fresh hT, rfl, fun l hl => ?_, fun l hl => ?_⟩, ⟨st'.1, st'.2.1, st'.2.2.1, st'.2.2.2.1.1, st'.2.2.2.2.1⟩, fun c hcm => ?_⟩
    · rw [sq_inj I hl q1]; exact hx
    · rw [sq_inj I hl q2]; exact hy
    · have hlt : c < s.heap.objs.size := by
        have hx' : c = N + 4 ∨ c = N + 2 ∨ c = N + 3 ∨ c = N ∨ c = N + 1 := by simpa [zipFp] using hcm
        rcases hx' with e | e | e | e | e
        · rw [e]; exact Heap.lt_size t1
        · rw [e]; exact Heap.lt_size t2
        · rw [e]; obtain ⟨_, _, t3⟩ := t3; exact Heap.lt_size t3
        · rw [e]; obtain ⟨_, o, _⟩ := ith_obj t4; exact Heap.lt_size o
        · rw [e]; obtain ⟨_, o, _⟩ := ith_obj t5; exact Heap.lt_size o
      rw [upd_ne (Nat.ne_of_lt (Nat.lt_of_lt_of_le hlt hT))]
      exact (hf c hcm).1
  · intro X hP hw hK hc i pins s σ H E I hf ⟨t1, t2, t3, t4, t5⟩ hg
    subst hP hw hK
    obtain ⟨xs, ys, q1, q2, hi⟩ := hg
    obtain ⟨its1, r1, p1, z1, _⟩ := sq_is I q1
    obtain ⟨its2, r2, p2, z2, _⟩ := sq_is I q2
    have hh := I.ok.hd hc
    have D := GoesN.zip2 (elts := elts) (x1 := kk) (pos := tpos) S (draws_k (P := X.prog) (w := X.w) (A := X.A.in1) hh k1 N a (Nat.ne_of_lt ha) its1.toArray) (draws_k (P := X.prog) (w := X.w) (A := X.A.in1) hh k2 (N + 1) b (ne_of_lt' hb) its2.toArray)
    have hi' : i = min its1.toArray.size its2.toArray.size := by simp only [List.size_toArray]; rw [← r1.length, ← r2.length]; exact hi
    subst hi'
    refine thn (D.stops s (fun s' => Inv X pins σ H s') E ⟨t1, t2, t3, ⟨t4, p1⟩, ⟨t5, p2⟩⟩ fun h' tk hk htk => ?_) fun r s1 q => q
    exact I.turnedL (t' := tk) (ch := zipFp N) (fun c o hb q => hk c o (fun z => hb (zip_wr z)) q) hf
/-- zip of two -/
def iZipM (K : PySem.W.Frag) (ta : TA) : TI := fun σ H R => ta σ H fun vs H1 => ∃ k1 k2 a b xs ys, vs = [.ref a, .ref b] ∧ Sq k1 K H1 a xs ∧ Sq k2 K H1 b ys ∧ (xs.length ≤ sizeLine → ys.length ≤ sizeLine → R (ItzM K k1 k2 a b) H1)
theorem pi_zipM {X : Cx} {e e2 : Expr} {ta : TA} {p pos tpos : Pos} {elts : List Expr} {kk : Nat} (hg : Gl X "zip") (hm : X.mg "zip" = none) (ha : PA X [e, e2] ta)
    (hs : starEach [e, e2] X.env = (false, eval e X.env) :: starEach [e2] X.env) (hpl : (backTo pos (starEach [e2] X.env)).any (·.1) = false) : PI X (.Tuple elts kk tpos) (.Call (.Name "zip" p) [e, e2] [] pos) (iZipM X.K ta) := by
  refine ⟨fun pins s σ H R I h => ?_⟩
  refine Call_ (ld_blt I hg hm PyProof.Rows.boot_zip (PyProof.Rows.callWith_type1 (thn (ha.run pos pins s σ H _ I h) fun us s1 ⟨vs, H1, I1, r1, q1⟩ => ?_) hs hpl))
  obtain ⟨k1, k2, a, b, xs, ys, rfl, q1, q2, q⟩ := q1
  obtain ⟨u1, u2, rfl, ru1, ru2⟩ := r1.two
  cases ru1
  cases ru2
  obtain ⟨its1, r1, p1, z1, l1⟩ := sq_is I1 q1
  obtain ⟨its2, r2, p2, z2, l2⟩ := sq_is I1 q2
  refine zip_begins2 (begins_k k1 a its1.toArray) (begins_k k2 b its2.toArray) p1 p2 fun h' g1 g2 g3 g4 g5 g6 g7 => ?_
  have I2 : Inv X pins σ H1 { s1 with heap := h' } := I1.kept (t' := s1.toks) g7
  refine wpAny_pyIter_zip g1 ⟨s1.heap.objs.size + 4, zipFp s1.heap.objs.size, zipTn k1 k2 a b s1.heap.objs.size, ItzM X.K k1 k2 a b, H1, rfl, I2, turn_zipM l1 l2, ⟨g1, g2, ⟨_, _, g3⟩, ith_new g4, ith_new g5⟩, fun c hcm => ?_, q z1 z2⟩
  have hle : s1.heap.objs.size ≤ c := by
    have hx' : c = s1.heap.objs.size + 4 ∨ c = s1.heap.objs.size + 2 ∨ c = s1.heap.objs.size + 3 ∨ c = s1.heap.objs.size ∨ c = s1.heap.objs.size + 1 := by simpa [zipFp] using hcm
    rcases hx' with e | e | e | e | e
    · rw [e]; exact Nat.le_add_right _ _
    · rw [e]; exact Nat.le_add_right _ _
    · rw [e]; exact Nat.le_add_right _ _
    · rw [e]; exact Nat.le_refl _
    · rw [e]; exact Nat.le_add_right _ _
  have F := I1.fpOk hle (I1.hok.fresh hle)
  exact ⟨F.1, F.2.1, F.2.2.1, F.2.2.2.1, F.2.2.2.2.1, F.2.2.2.2.2⟩
/-! enumerate -/
def IteM (K : PySem.W.Frag) (k : Sk) (a : Addr) : It :=
  ⟨fun i H => ∃ xs x, Sq k K H a xs ∧ xs[i]? = some x,
    fun i H v H' => ∃ T x, v = .ref T ∧ H T = none ∧ H' = upd H T (.tup [.int (i : Nat), x]) ∧ ∀ xs, Sq k K H a xs → xs[i]? = some x,
    fun i H => ∃ xs, Sq k K H a xs ∧ i = xs.length⟩
def enTn (k : Sk) (a : Addr) (N : Nat) : Nat → Heap → Prop := fun i h => (∃ old, IsEnum h (N + 1) N (0 + ((i : Nat) : Int)) old) ∧ ItH k h N a i
theorem turn_enumM {P : Program} {w : World} {K : PySem.W.Frag} {elts : List Expr} {kk : Nat} {tpos : Pos} (ha : a < N) : Turn P w K (.Tuple elts kk tpos) (IteM K k a) [N + 1, N] (N + 1) (enTn k a N) := by
  have n1 : ∀ {a N : Nat}, a < N → N + 1 ∉ [N, a] := fun {a N} h z => by
    simp only [List.mem_cons, List.not_mem_nil, or_false] at z
    omega
  have GE : ∀ {X : Cx} (its : List Value), X.A.handled = none → X.prog = P → X.w = w → GoesN P w X.A (.Tuple elts kk tpos) (N + 1) ((N + 1) :: [N, a]) [N + 1, N] its.toArray.size (fun i h₀ v h => ∃ T t x, v = .ref T ∧ h₀.objs.size ≤ T ∧ its.toArray[i]? = some x ∧ h.IsTuple T #[.int (0 + (i : Int)) t, x])
      (fun i h => (∃ old, IsEnum h (N + 1) N (0 + (i : Int)) old) ∧ (ItH k h N a i ∧ SeqH k h a its.toArray)) := fun {X} its hh hP hw => by
    subst hP hw
    exact GoesN.enumFrom 0 (draws_k (P := X.prog) (w := X.w) (A := X.A.in1) hh k N a (Nat.ne_of_lt ha) its.toArray) (N + 1) (Nat.ne_of_gt (Nat.lt_succ_self N)) (n1 ha) (by simp)
  have keep : ∀ (i : Nat) (h h' : Heap), enTn k a N i h → (∀ x ∈ [N + 1, N], ∀ o, h.get? x = some o → h'.get? x = some o) → enTn k a N i h' := fun i h h' ⟨⟨old, t1⟩, t2⟩ kp =>
    ⟨⟨old, kp _ (by simp) _ t1⟩, ith_at t2 fun o q => kp N (by simp) o q⟩
  refine ⟨by simp, fun i h ⟨⟨old, t1⟩, t2⟩ x hx => ?_, keep, ?_, ?_, fun A i s Q E ⟨⟨_, t1⟩, _⟩ q => wpAny_pyIter_enum t1 q⟩
  · have hx' : x = N + 1 ∨ x = N := by simpa using hx
    rcases hx' with e | e
    · rw [e]; exact ⟨_, t1, fun v z => nomatch z⟩
    · rw [e]; exact ith_obj t2
  · intro X hP hw hK hc i pins s σ H E I hf ⟨t1, t2⟩ hg
    subst hK
    obtain ⟨xs, x, q1, hx⟩ := hg
    obtain ⟨its1, r1, p1, z1, _⟩ := sq_is I q1
    have hh := I.ok.hd hc
    have D := GE (X := X) its1 hh hP hw
    obtain ⟨u1, hu1, ru1⟩ := r1.get hx
    have hi : i < its1.toArray.size := by
      have h1 := (List.getElem?_eq_some_iff.mp hu1).1
      simpa using h1
    refine thn (D.goes i s (fun v s' => ∃ x H', Inv X pins σ H' s' ∧ RelV x v ∧ (IteM X.K k a).yld i H x H' ∧ enTn k a N (i + 1) s'.heap ∧ ∀ b ∈ [N + 1, N], H' b = none) E hi ⟨t1, t2, p1⟩ fun v h' tk hY st' hk htk => ?_) fun r s1 q => q
    obtain ⟨TT, t0, w1, rfl, hT, e1, hTup⟩ := hY
    have ew1 : u1 = w1 := by
      have e1' : its1[i]? = some w1 := by simpa using e1
      exact Option.some.inj (hu1.symm.trans e1')
    subst ew1
    have new : ObjOk X.prog X.w (upd H TT (.tup [.int (i : Nat), x])) h' TT (.tup [.int (i : Nat), x]) := ⟨by show 2 ≤ sizeLine; decide, [.int (0 + (i : Int)) t0, u1], .cons ⟨t0, by rw [Int.zero_add]⟩ (.cons ru1 .nil), hTup⟩
    have I1 : Inv X pins σ (upd H TT (.tup [.int (i : Nat), x])) { s with heap := h', toks := tk } := I.turnedNew (t' := tk) (ch := [N + 1, N]) hk hf hT new
    refine ⟨.ref TT, _, I1, rfl, ⟨TT, x, rfl, I.hok.fresh hT, rfl, fun l hl => ?_⟩, ⟨st'.1, st'.2.1⟩, fun c hcm => ?_⟩
    · rw [sq_inj I hl q1]; exact hx
    · have hlt : c < s.heap.objs.size := by
        have hx' : c = N + 1 ∨ c = N := by simpa using hcm
        rcases hx' with e | e
        · rw [e]; obtain ⟨_, t1⟩ := t1; exact Heap.lt_size t1
        · rw [e]; obtain ⟨_, o, _⟩ := ith_obj t2; exact Heap.lt_size o
      rw [upd_ne (Nat.ne_of_lt (Nat.lt_of_lt_of_le hlt hT))]
      exact (hf c hcm).1
  · intro X hP hw hK hc i pins s σ H E I hf ⟨t1, t2⟩ hg
    subst hK
    obtain ⟨xs, q1, hi⟩ := hg
    obtain ⟨its1, r1, p1, z1, _⟩ := sq_is I q1
    have hh := I.ok.hd hc
    have D := GE (X := X) its1 hh hP hw
    have hi' : i = its1.toArray.size := by simp only [List.size_toArray]; rw [← r1.length]; exact hi
    subst hi'
    refine thn (D.stops s (fun s' => Inv X pins σ H s') E ⟨t1, t2, p1⟩ fun h' tk hk htk => ?_) fun r s1 q => q
    exact I.turnedL (t' := tk) (ch := [N + 1, N]) hk hf
end
end G

set_option maxHeartbeats 4000000
namespace G
open PySem PySem.Spec PyProof.Rows L2
theorem enum_new1 {v : Value} {o : Obj} {HH : Heap → Prop} (B : Begins v o HH) : Meets (Builtin.«enumerate.__new__» ⟨[.type "enumerate", v], []⟩)
    (fun _ R s => HH s.heap ∧ R (.ok (.ret (.ref (s.heap.push o).objs.size))) { s with heap := (s.heap.push o).push { cls := .type "enumerate", data := .fields #[.none, .bool false, .ref s.heap.objs.size, rawInt 0, .none, .none] } }) := by
  refine .of_wp fun prog w A R s h => ?_
  obtain ⟨hp, g, d, tk, os⟩ := s
  obtain ⟨h1, h⟩ := h
  have hsub := sub_enumerate
  have it1 : ∀ {A' : Around} {E Q : Value → Shared → Prop}, Q (.ref hp.objs.size) ⟨hp.push o, g, d, tk, os⟩ → wpAny (model prog w) A' (pyIter v) Q E ⟨hp, g, d, tk, os⟩ := fun {A' E Q} q => B.iter _ _ _ _ _ _ h1 q
  wp_walk using it1
  refine wpAny_stack_any fun st => wpAny_pure ?_
  split
  next c _ _ _ _ _ =>
    cases (c == Value.type "enumerate") <;> (wp_walk using it1; exact ⟨_, rfl, h⟩)
  next => wp_walk using it1; exact ⟨_, rfl, h⟩
theorem enum_begin1 {prog : Program} {w : World} {A : Around} {E : Value → Shared → Prop} {s : Shared} {v : Value} {o : Obj} {HH : Heap → Prop} {Q : Value → Shared → Prop} (B : Begins v o HH) (h1 : HH s.heap)
    (h : ∀ h', IsEnum h' (s.heap.objs.size + 1) s.heap.objs.size 0 .none → h'.get? s.heap.objs.size = some o → (∀ b o, s.heap.get? b = some o → h'.get? b = some o) → Q (.ref (s.heap.objs.size + 1)) { s with heap := h' }) :
    wpAny (model prog w) A (call (.type "enumerate") [v]) Q E s := by
  have zs : (s.heap.push o).objs.size = s.heap.objs.size + 1 := Heap.size_push ..
  have en : IsEnum ((s.heap.push o).push { cls := .type "enumerate", data := .fields #[.none, .bool false, .ref s.heap.objs.size, rawInt 0, .none, .none] }) (s.heap.objs.size + 1) s.heap.objs.size 0 .none := by
    rw [← zs]
    exact Heap.get?_push_size _ rfl
  refine callType_new F.called_enumerate (by decide) (F.typeCall_enumerate_1 _) (F.newCall_enumerate_1 _) (fun obj => F.args_object_init_2 obj _) F.entry_enumerate_new (enum_new1 B) ⟨h1, ?_⟩
  show _ ∧ _
  rw [zs]
  exact ⟨⟨_, en, rfl⟩, h _ en (Heap.get?_push_of_some _ (Heap.get?_push_size _ B.free)) fun b u x => Heap.get?_push_of_some _ (Heap.get?_push_of_some _ x)⟩
def iEnumM (K : PySem.W.Frag) (ta : TA) : TI := fun σ H R => ta σ H fun vs H1 => ∃ k a xs, vs = [.ref a] ∧ Sq k K H1 a xs ∧ (xs.length ≤ sizeLine → R (IteM K k a) H1)
theorem pi_enumM {X : Cx} {e : Expr} {ta : TA} {p pos tpos : Pos} {elts : List Expr} {kk : Nat} (hg : Gl X "enumerate") (hm : X.mg "enumerate" = none) (ha : PA X [e] ta)
    (hs : starEach [e] X.env = [(false, eval e X.env)]) : PI X (.Tuple elts kk tpos) (.Call (.Name "enumerate" p) [e] [] pos) (iEnumM X.K ta) := by
  refine ⟨fun pins s σ H R I h => ?_⟩
  refine Call_ (ld_blt I hg hm boot_enumerate (PyProof.Rows.callWith_type1 (thn (ha.run pos pins s σ H _ I h) fun us s1 ⟨vs, H1, I1, r1, q1⟩ => ?_) hs rfl))
  obtain ⟨k, a, xs, rfl, q1, q⟩ := q1
  obtain ⟨u1, rfl, ru1⟩ := r1.one
  cases ru1
  obtain ⟨its1, r1, p1, z1, l1⟩ := sq_is I1 q1
  refine enum_begin1 (begins_k k a its1.toArray) p1 fun h' g1 g2 g7 => ?_
  have I2 : Inv X pins σ H1 { s1 with heap := h' } := I1.kept (t' := s1.toks) g7
  refine wpAny_pyIter_enum g1 ⟨s1.heap.objs.size + 1, [s1.heap.objs.size + 1, s1.heap.objs.size], enTn k a s1.heap.objs.size, IteM X.K k a, H1, rfl, I2, turn_enumM l1, ⟨⟨_, g1⟩, ith_new g2⟩, fun c hcm => ?_, q z1⟩
  have hle : s1.heap.objs.size ≤ c := by
    have hx' : c = s1.heap.objs.size + 1 ∨ c = s1.heap.objs.size := by simpa using hcm
    rcases hx' with e | e
    · rw [e]; exact Nat.le_add_right _ _
    · rw [e]; exact Nat.le_refl _
  have F := I1.fpOk hle (I1.hok.fresh hle)
  exact ⟨F.1, F.2.1, F.2.2.1, F.2.2.2.1, F.2.2.2.2.1, F.2.2.2.2.2⟩
/-- a list or a tuple, by its items -/
def ItM (K : PySem.W.Frag) (k : Sk) (a : Addr) : It := match k with
  | .l => Itl K a
  | .t => Itt K a
def iSeqM (K : PySem.W.Frag) (te : TE) : TI := fun σ H R => te σ H fun x H1 => ∃ k a xs, x = .ref a ∧ Sq k K H1 a xs ∧ (xs.length ≤ sizeLine → R (ItM K k a) H1)
theorem pi_seqM {X : Cx} {tg e : Expr} {te : TE} (he : PE X e te) : PI X tg e (iSeqM X.K te) := by
  refine ⟨fun pins s σ H R I h => ?_⟩
  refine thn (he.run pins s σ H _ I h) fun v s1 ⟨x, H1, I1, r1, k, a, xs, e1, q1, q⟩ => ?_
  subst e1
  cases r1
  have fp : ∀ b ∈ [s1.heap.objs.size], FpOk X pins H1 b := fun b hb => by
    have e : b = s1.heap.objs.size := by simpa using hb
    rw [e]
    exact I1.fpOk (Nat.le_refl _) (I1.hok.fresh (Nat.le_refl _))
  cases k with
  | l =>
    obtain ⟨its, rv, p, hz⟩ := I1.list q1
    exact wpAny_pyIter_list p.isList ⟨s1.heap.objs.size, [s1.heap.objs.size], _, _, H1, rfl, I1.kept (t' := s1.toks) fun b o e => Heap.get?_push_of_some _ e, turn_list a _, ⟨_, Heap.get?_push_size _ rfl, rfl, rfl⟩, fp, q hz⟩
  | t =>
    obtain ⟨its, rv, p, hz⟩ := I1.tuple q1
    exact wpAny_pyIter_tuple (show s1.heap.IsTuple a its.toArray from p) ⟨s1.heap.objs.size, [s1.heap.objs.size], _, _, H1, rfl, I1.kept (t' := s1.toks) fun b o e => Heap.get?_push_of_some _ e, turn_tuple a _, ⟨_, Heap.get?_push_size _ rfl, rfl, rfl⟩, fp, q hz⟩
/-! the walks, by what they give -/
section
variable {K : PySem.W.Frag} {k k1 k2 : Sk} {a b : Addr} {xs ys : List V}
theorem walk_seqM : Walk (ItM K k a) xs.length (fun H => Sq k K H a xs) (YAt xs) := by
  cases k
  · exact walk_list
  · exact walk_tup
theorem walk_zipM : Walk (ItzM K k1 k2 a b) (min xs.length ys.length) (fun H => Sq k1 K H a xs ∧ Sq k2 K H b ys) (YPair (fun i => xs[i]?) (fun i => ys[i]?)) := by
  refine ⟨fun i H hi q => ?_, fun H q => ⟨xs, ys, q.1, q.2, rfl⟩, fun i H v H' _ q y => ?_⟩
  · have h1 : i < xs.length := by omega
    have h2 : i < ys.length := by omega
    exact ⟨xs, ys, xs[i], ys[i], q.1, q.2, by simp [h1], by simp [h2]⟩
  · obtain ⟨T, x, z, h1, h2, h3, h4, h5⟩ := y
    exact ⟨T, x, z, h1, h2, h3, h4 xs q.1, h5 ys q.2⟩
theorem walk_enumM : Walk (IteM K k a) xs.length (fun H => Sq k K H a xs) (YPair (fun i => some (.int (i : Nat))) (fun i => xs[i]?)) := by
  refine ⟨fun i H hi q => ⟨xs, xs[i], q, by simp [hi]⟩, fun H q => ⟨xs, q, rfl⟩, fun i H v H' _ q y => ?_⟩
  obtain ⟨T, x, h1, h2, h3, h4⟩ := y
  exact ⟨T, .int (i : Nat), x, h1, h2, h3, rfl, h4 xs q⟩
end
end G

set_option maxHeartbeats 2000000
namespace G
open PySem PySem.Spec PyProof.Rows L2
section
variable {T : Tab} {c : Cal} {lv : Nat} {N : List Str}

theorem SOK.ofI {x : Ex} (h0 : kd x = 2) (h : ∀ (X : Cx) (tg e : Expr), (needTup x = true → ∃ es k p, tg = .Tuple es k p) → Good T c lv X → X.N = N → mt.go T N X.fn X.env.scope x e = true → PI X tg e (tI X.K c x)) : SOK T c lv N x :=
  ⟨fun z => (by rw [h0] at z; cases z), fun z => (by rw [h0] at z; cases z), fun z => (by rw [h0] at z; cases z), fun z => (by rw [h0] at z; cases z), fun _ => h⟩
/-- a value that may be walked, as it stands -/
theorem seq_of {pT : Option Addr} {O : Addr → Prop} {K : PySem.W.Frag} {H : Hp} {v : V} {d : PyData} {xs : List PyData} (ok : OOk pT O H) (hd : d = .list xs ∨ d = .tuple xs) (r : RepW pT O H v d) : ∃ k a vs ho, v = .ref a ∧ Sq k K H a vs ∧ RepL pT O H vs xs ∧ H a = some ho ∧ pT ≠ some a ∧ (∀ H', H' a = H a → Sq k K H' a vs) := by
  rcases hd with rfl | rfl
  · obtain ⟨p, vs, rfl, hp, np, r⟩ := r.list ok.tp
    exact ⟨.l, p, vs, _, rfl, .of hp, r, hp, np, fun H' e => .of (e.trans hp)⟩
  · obtain ⟨p, vs, rfl, hp, np, r⟩ := r.tuple
    exact ⟨.t, p, vs, _, rfl, .of hp, r, hp, fun z => np (ok.tp _ z), fun H' e => .of (e.trans hp)⟩
theorem strict_addr {pT : Option Addr} {O : Addr → Prop} {H : Hp} {a : Addr} {d : PyData} {xs : List PyData} (hd : d = .list xs ∨ d = .tuple xs) (r : Rep pT O H (.ref a) d) : ¬ O a := by
  rcases hd with rfl | rfl
  · cases r; assumption
  · cases r; assumption
theorem RepL.at {pT : Option Addr} {O : Addr → Prop} {H : Hp} {vs : List V} {ds : List PyData} {i : Nat} {v : V} (r : RepL pT O H vs ds) (e : vs[i]? = some v) : ∃ d, ds[i]? = some d ∧ Rep pT O H v d := by
  have hi : i < ds.length := by rw [← r.length]; exact (List.getElem?_eq_some_iff.mp e).1
  obtain ⟨v', h1, h2⟩ := r.get (List.getElem?_eq_getElem hi)
  rw [e] at h1
  cases h1
  exact ⟨_, List.getElem?_eq_getElem hi, h2⟩
theorem s_iseq {a : Ex} (ha : SOK T c lv N a) : SOK T c lv N (.iseq a) := by
  refine .ofI rfl fun X tg e nt g n m => ?_
  rw [go_iseq] at m
  simp only [Bool.and_eq_true, beq_iff_eq] at m
  refine (pi_seqM (ha.pe m.1.1 X _ g n m.2)).weaken fun σ H R ⟨P, os, env, t, Kx, rr, ev, q⟩ => ?_
  simp only [evE] at ev
  refine ⟨P, os, env, t, _, rr, ev, fun d t1 v H1 k1 rr1 o1 => ?_⟩
  obtain ⟨xs, hd, k1⟩ : ∃ xs, (d = .list xs ∨ d = .tuple xs) ∧ Kx (.list xs) t1 := by
    cases d <;> first | exact ⟨_, .inl rfl, k1⟩ | exact ⟨_, .inr rfl, k1⟩ | exact False.elim k1
  obtain ⟨k, a', vs, ho, rfl, s1, r1, h1, h2, h3⟩ := seq_of (K := X.K) rr1.ook hd o1.w
  refine ⟨k, a', vs, rfl, s1, fun hz => q _ t1 H1 _ k1 rr1 o1.grow ⟨xs, [a'], rfl, fun b hb => ?_, by rw [← r1.length]; exact hz, ?_⟩⟩
  · have e : b = a' := by simpa using hb
    rw [e]
    exact ⟨by rw [h1]; simp, h2, fun hs => strict_addr hd (o1.s hs)⟩
  · rw [← r1.length]
    exact walk_seqM.mono (fun H' hG => h3 H' (hG a' (by simp))) fun i H' x H'' hi hG y => by
      obtain ⟨d', e1, e2⟩ := r1.at y.2
      exact .inl ⟨y.1, d', e1, e2⟩
theorem rngD_get {lo : Int} {n i : Nat} (h : i < n) : (rngD lo n)[i]? = some (.int (lo + (i : Nat))) := by
  unfold rngD
  rw [List.getElem?_map, List.getElem?_range h]
  rfl
theorem rngD_len {lo : Int} {n : Nat} : (rngD lo n).length = n := by unfold rngD; simp
theorem src_rng {pT : Option Addr} {O : Addr → Prop} {st : Bool} {H : Hp} {lo : Int} {n : Nat} (h : n ≤ sizeLine) : Src pT O st (Itr lo n) (rngD lo n) [] H := by
  refine ⟨fun a ha => absurd ha (by simp), by rw [rngD_len]; exact h, ?_⟩
  rw [rngD_len]
  exact walk_range.mono (fun _ _ => trivial) fun i H' x H'' hi _ y => by
    obtain ⟨e1, rfl⟩ := y
    exact .inl ⟨e1, _, rngD_get hi, .int _⟩
theorem s_irng1 {a : Ex} (ha : SOK T c lv N a) : SOK T c lv N (.irng1 a) := by
  refine .ofI rfl fun X tg e nt g n m => ?_
  rw [go_irng1] at m
  split at m
  · simp only [Bool.and_eq_true, beq_iff_eq] at m
    obtain ⟨⟨⟨k1, h1⟩, h2⟩, h3⟩ := m
    obtain ⟨e, hg, hm⟩ := blt_of g h1
    subst e
    refine (pi_range1 hg hm (pa_cons (ha.pe k1 X _ g n h3) pa_nil (starEach_cons h2)) (starEach_cons h2)).weaken fun σ H R ⟨P, os, env, t, Kx, rr, ev, q⟩ => ?_
    simp only [evE] at ev
    refine ⟨P, os, env, t, _, rr, ev, fun d t1 v H1 k1 rr1 o1 => ?_⟩
    cases d <;> try exact False.elim k1
    obtain ⟨⟨b1, b2⟩, k1⟩ := k1
    have hz := sizeLine_eq
    refine ⟨_, by rw [o1.w.int], by omega, by omega, q _ t1 H1 _ k1 rr1 o1.grow ⟨_, [], rfl, src_rng (by omega)⟩⟩
  · cases m
theorem s_irng2 {a b : Ex} (ha : SOK T c lv N a) (hb : SOK T c lv N b) : SOK T c lv N (.irng2 a b) := by
  refine .ofI rfl fun X tg e nt g n m => ?_
  rw [go_irng2] at m
  split at m
  · simp only [Bool.and_eq_true, beq_iff_eq] at m
    obtain ⟨⟨⟨⟨⟨⟨k1, k2⟩, h1⟩, h2⟩, h4⟩, h3⟩, h5⟩ := m
    obtain ⟨e, hg, hm⟩ := blt_of g h1
    subst e
    refine (pi_range2 hg hm (pa_cons (ha.pe k1 X _ g n h3) (pa_cons (hb.pe k2 X _ g n h5) pa_nil (starEach_cons h4)) (starEach_cons h2)) (by rw [starEach_cons h2, starEach_cons h4]; rfl) (starEach_cons h4)).weaken fun σ H R ⟨P, os, env, t, Kx, rr, ev, q⟩ => ?_
    simp only [evE] at ev
    refine ⟨P, os, env, t, _, rr, ev, fun d t1 v H1 k1 rr1 o1 => ?_⟩
    cases d <;> try exact False.elim k1
    refine ⟨P, os, env, t1, _, rr1, k1, fun d t2 v2 H2 k2 rr2 o2 => ?_⟩
    cases d <;> try exact False.elim k2
    obtain ⟨⟨b1, b2, b3, b4⟩, k2⟩ := k2
    have hz := sizeLine_eq
    refine ⟨_, _, by rw [o1.w.int, o2.w.int], ⟨by omega, by omega, by omega, by omega⟩, q _ t2 H2 _ k2 rr2 (o1.grow.trans o2.grow) ⟨_, [], rfl, src_rng (by omega)⟩⟩
  · cases m
theorem zipD_get : ∀ {xs ys : List PyData} {i : Nat} {x y : PyData}, xs[i]? = some x → ys[i]? = some y → (zipD xs ys)[i]? = some (.tuple [x, y])
  | [], _, _, _, _, h, _ => by simp at h
  | _ :: _, [], _, _, _, _, h => by simp at h
  | a :: xs, b :: ys, 0, x, y, h1, h2 => by simp at h1 h2; subst h1 h2; rfl
  | a :: xs, b :: ys, i + 1, x, y, h1, h2 => by
    show (zipD xs ys)[i]? = _
    exact zipD_get (by simpa using h1) (by simpa using h2)
theorem zipD_len : ∀ (xs ys : List PyData), (zipD xs ys).length = min xs.length ys.length
  | [], ys => by simp [zipD]
  | x :: xs, [] => by simp [zipD]
  | x :: xs, y :: ys => by simp only [zipD, List.length_cons, zipD_len xs ys]; omega
theorem enumD_get : ∀ {xs : List PyData} {n i : Nat} {x : PyData}, xs[i]? = some x → (enumD n xs)[i]? = some (.tuple [.int ((n + i : Nat) : Int), x])
  | [], _, _, _, h => by simp at h
  | a :: xs, n, 0, x, h1 => by simp at h1; subst h1; rfl
  | a :: xs, n, i + 1, x, h1 => by
    show (enumD (n + 1) xs)[i]? = _
    rw [enumD_get (n := n + 1) (i := i) (by simpa using h1)]
    have e : n + 1 + i = n + (i + 1) := by omega
    rw [e]
theorem enumD_len : ∀ (xs : List PyData) (n : Nat), (enumD n xs).length = xs.length
  | [], _ => rfl
  | x :: xs, n => by simp only [enumD, List.length_cons, enumD_len xs (n + 1)]
theorem s_izip {a b : Ex} (ha : SOK T c lv N a) (hb : SOK T c lv N b) : SOK T c lv N (.izip a b) := by
  refine .ofI rfl fun X tg e nt g n m => ?_
  rw [go_izip] at m
  obtain ⟨es, k, p, rfl⟩ := nt rfl
  split at m
  · simp only [Bool.and_eq_true, beq_iff_eq] at m
    obtain ⟨⟨⟨⟨⟨⟨k1, k2⟩, h1⟩, h2⟩, h4⟩, h3⟩, h5⟩ := m
    obtain ⟨e, hg, hm⟩ := blt_of g h1
    subst e
    refine (pi_zipM hg hm (pa_cons (ha.pe k1 X _ g n h3) (pa_cons (hb.pe k2 X _ g n h5) pa_nil (starEach_cons h4)) (starEach_cons h2)) (starEach_cons h2) (by rw [starEach_cons h4]; rfl)).weaken fun σ H R ⟨P, os, env, t, Kx, rr, ev, q⟩ => ?_
    simp only [evE] at ev
    refine ⟨P, os, env, t, _, rr, ev, fun d t1 v H1 k1 rr1 o1 => ?_⟩
    obtain ⟨xs, hd, k1⟩ : ∃ xs, (d = .list xs ∨ d = .tuple xs) ∧ evE c b env t1 (fun y t2 => seqW y fun ys => Kx (.list (zipD xs ys)) t2) := by
      cases d <;> first | exact ⟨_, .inl rfl, k1⟩ | exact ⟨_, .inr rfl, k1⟩ | exact False.elim k1
    refine ⟨P, os, env, t1, _, rr1, k1, fun d2 t2 v2 H2 k2 rr2 o2 => ?_⟩
    obtain ⟨ys, hd2, k2⟩ : ∃ ys, (d2 = .list ys ∨ d2 = .tuple ys) ∧ Kx (.list (zipD xs ys)) t2 := by
      cases d2 <;> first | exact ⟨_, .inl rfl, k2⟩ | exact ⟨_, .inr rfl, k2⟩ | exact False.elim k2
    obtain ⟨ka, a', vs, ho, rfl, s1, r1, e1, e2, e3⟩ := seq_of (K := X.K) rr2.ook hd (o1.w.grow o2.grow rr1.ook.tp)
    obtain ⟨kb, b', ws, ho', rfl, s2, r2, f1, f2, f3⟩ := seq_of (K := X.K) rr2.ook hd2 o2.w
    refine ⟨ka, kb, a', b', vs, ws, rfl, s1, s2, fun z1 z2 => q _ t2 H2 _ k2 rr2 (o1.grow.trans o2.grow) ⟨_, [a', b'], rfl, fun x hx => ?_, ?_, ?_⟩⟩
    · have hx' : x = a' ∨ x = b' := by simpa using hx
      rcases hx' with e | e
      · rw [e]; exact ⟨by rw [e1]; simp, e2, fun hs => strict_addr hd ((o1.s (by simp only [strictI, Bool.and_eq_true] at hs; exact hs.1)).grow o2.grow rr1.ook.tp)⟩
      · rw [e]; exact ⟨by rw [f1]; simp, f2, fun hs => strict_addr hd2 (o2.s (by simp only [strictI, Bool.and_eq_true] at hs; exact hs.2))⟩
    · rw [zipD_len, ← r1.length]; omega
    · rw [zipD_len, ← r1.length, ← r2.length]
      exact walk_zipM.mono (fun H' hG => ⟨e3 H' (hG a' (by simp)), f3 H' (hG b' (by simp))⟩) fun i H' x H'' hi hG y => by
        obtain ⟨TT, x1, x2, w1, w2, w3, w4, w5⟩ := y
        obtain ⟨d1, g1, g2⟩ := r1.at w4
        obtain ⟨d2, g3, g4⟩ := r2.at w5
        exact .inr ⟨TT, x1, x2, d1, d2, zipD_get g1 g3, w1, w2, w3, g2, g4⟩
  · cases m
theorem s_ienum {a : Ex} (ha : SOK T c lv N a) : SOK T c lv N (.ienum a) := by
  refine .ofI rfl fun X tg e nt g n m => ?_
  rw [go_ienum] at m
  obtain ⟨es, k, p, rfl⟩ := nt rfl
  split at m
  · simp only [Bool.and_eq_true, beq_iff_eq] at m
    obtain ⟨⟨⟨k1, h1⟩, h2⟩, h3⟩ := m
    obtain ⟨e, hg, hm⟩ := blt_of g h1
    subst e
    refine (pi_enumM hg hm (pa_cons (ha.pe k1 X _ g n h3) pa_nil (starEach_cons h2)) (starEach_cons h2)).weaken fun σ H R ⟨P, os, env, t, Kx, rr, ev, q⟩ => ?_
    simp only [evE] at ev
    refine ⟨P, os, env, t, _, rr, ev, fun d t1 v H1 k1 rr1 o1 => ?_⟩
    obtain ⟨xs, hd, k1⟩ : ∃ xs, (d = .list xs ∨ d = .tuple xs) ∧ Kx (.list (enumD 0 xs)) t1 := by
      cases d <;> first | exact ⟨_, .inl rfl, k1⟩ | exact ⟨_, .inr rfl, k1⟩ | exact False.elim k1
    obtain ⟨ka, a', vs, ho, rfl, s1, r1, e1, e2, e3⟩ := seq_of (K := X.K) rr1.ook hd o1.w
    refine ⟨ka, a', vs, rfl, s1, fun z1 => q _ t1 H1 _ k1 rr1 o1.grow ⟨_, [a'], rfl, fun x hx => ?_, ?_, ?_⟩⟩
    · have e : x = a' := by simpa using hx
      rw [e]; exact ⟨by rw [e1]; simp, e2, fun hs => strict_addr hd (o1.s hs)⟩
    · rw [enumD_len, ← r1.length]; exact z1
    · rw [enumD_len, ← r1.length]
      exact walk_enumM.mono (fun H' hG => e3 H' (hG a' (by simp))) fun i H' x H'' hi hG y => by
        obtain ⟨TT, x1, x2, w1, w2, w3, w4, w5⟩ := y
        obtain ⟨d1, g1, g2⟩ := r1.at w5
        cases w4
        exact .inr ⟨TT, _, x2, _, d1, enumD_get (n := 0) g1, w1, w2, w3, by rw [Nat.zero_add]; exact .int _, g2⟩
  · cases m
/-! list(range(..)), tuple(range(..)) -/
theorem rgV_rep {pT : Option Addr} {O : Addr → Prop} {H : Hp} (lo hi : Int) : RepL pT O H (rgV lo hi) (rngD lo (hi - lo).toNat) := by
  unfold rgV rngD
  have key : ∀ l : List Nat, RepL pT O H (l.map fun i => V.int (lo + (i : Nat))) (l.map fun i => PyData.int (lo + (i : Nat))) := by
    intro l
    induction l with
    | nil => exact .nil
    | cons a l ih => exact .cons (.int _) ih
  exact key _
theorem prg_of {X : Cx} (g : Good T c lv X) (n : X.N = N) {r : Ex} (hr : ∀ a, r = .irng1 a → SOK T c lv N a) (hr2 : ∀ a b, r = .irng2 a b → SOK T c lv N a ∧ SOK T c lv N b) (k : isRng r = true) {e : Expr} (m : mt.go T N X.fn X.env.scope r e = true) :
    PRg X e (fun σ H Q => ∃ P os env t Kx, RR X.K P os env t σ H ∧ evE c r env t Kx ∧ ∀ lo hi t' H', Kx (.list (rngD lo (hi - lo).toNat)) t' → RgOk lo hi → RR X.K P os env t' σ H' → Grow P.pT H H' → Q lo hi H') := by
  have hz := sizeLine_eq
  cases r <;> simp only [isRng] at k <;> try cases k
  · rename_i a
    rw [go_irng1] at m
    split at m
    · simp only [Bool.and_eq_true, beq_iff_eq] at m
      obtain ⟨⟨⟨k1, h1⟩, h2⟩, h3⟩ := m
      obtain ⟨e, hg, hm⟩ := blt_of g h1
      subst e
      intro pins s σ H Q I ⟨P, os, env, t, Kx, rr, ev, q⟩
      simp only [evE] at ev
      refine prg_1 hg hm ((hr _ rfl).pe k1 X _ g n h3) (starEach_cons h2) pins s σ H Q I ⟨P, os, env, t, _, rr, ev, fun d t1 v H1 k1 rr1 o1 => ?_⟩
      cases d <;> try exact False.elim k1
      obtain ⟨⟨b1, b2⟩, k1⟩ := k1
      exact ⟨_, o1.w.int, q 0 _ t1 H1 (by rw [Int.sub_zero]; exact k1) ⟨by omega, by omega, by omega, by omega, by omega⟩ rr1 o1.grow⟩
    · cases m
  · rename_i a b
    rw [go_irng2] at m
    split at m
    · simp only [Bool.and_eq_true, beq_iff_eq] at m
      obtain ⟨⟨⟨⟨⟨⟨k1, k2⟩, h1⟩, h2⟩, h4⟩, h3⟩, h5⟩ := m
      obtain ⟨e, hg, hm⟩ := blt_of g h1
      subst e
      intro pins s σ H Q I ⟨P, os, env, t, Kx, rr, ev, q⟩
      simp only [evE] at ev
      have hh := hr2 _ _ rfl
      refine prg_2 hg hm (hh.1.pe k1 X _ g n h3) (hh.2.pe k2 X _ g n h5) (starEach_cons h2) (starEach_cons h4) (by rw [starEach_cons h4]; rfl) pins s σ H Q I ⟨P, os, env, t, _, rr, ev, fun d t1 v H1 k1 rr1 o1 => ?_⟩
      cases d <;> try exact False.elim k1
      refine ⟨P, os, env, t1, _, rr1, k1, fun d t2 v2 H2 k2 rr2 o2 => ?_⟩
      cases d <;> try exact False.elim k2
      obtain ⟨⟨b1, b2, b3, b4⟩, k2⟩ := k2
      exact ⟨_, _, o1.w.int, o2.w.int, q _ _ t2 H2 k2 ⟨by omega, by omega, by omega, by omega, by omega⟩ rr2 (o1.grow.trans o2.grow)⟩
    · cases m
theorem s_lrng {r : Ex} (hr : ∀ a, r = .irng1 a → SOK T c lv N a) (hr2 : ∀ a b, r = .irng2 a b → SOK T c lv N a ∧ SOK T c lv N b) : SOK T c lv N (.lrng r) := by
  refine .of rfl (fun X e g n m => ?_) fun fn sc e m => ?_
  · rw [go_lrng] at m
    split at m
    · simp only [Bool.and_eq_true] at m
      obtain ⟨⟨⟨k1, h1⟩, h2⟩, h3⟩ := m
      obtain ⟨e, hg, hm⟩ := blt_of g h1
      subst e
      refine (pe_listRg g.calm hg hm (prg_of g n hr hr2 k1 h3) (starEach_cons h2)).weaken fun σ H Q ⟨P, os, env, t, Kx, rr, ev, q⟩ => ?_
      simp only [evE] at ev
      refine ⟨P, os, env, t, Kx, rr, ev, fun lo hi t1 H1 kx ok rr1 g1 => ⟨ok, fun z nz => q _ t1 _ _ kx (rr1.full (.new nz)) (.lst rr.ook rr1.hl g1 nz rr1.ook.live (rgV_rep lo hi))⟩⟩
    · cases m
  · rw [go_lrng] at m
    split at m <;> first | rfl | cases m
theorem s_trng {r : Ex} (hr : ∀ a, r = .irng1 a → SOK T c lv N a) (hr2 : ∀ a b, r = .irng2 a b → SOK T c lv N a ∧ SOK T c lv N b) : SOK T c lv N (.trng r) := by
  refine .of rfl (fun X e g n m => ?_) fun fn sc e m => ?_
  · rw [go_trng] at m
    split at m
    · simp only [Bool.and_eq_true] at m
      obtain ⟨⟨⟨k1, h1⟩, h2⟩, h3⟩ := m
      obtain ⟨e, hg, hm⟩ := blt_of g h1
      subst e
      refine (pe_tupRg g.calm hg hm (prg_of g n hr hr2 k1 h3) (starEach_cons h2)).weaken fun σ H Q ⟨P, os, env, t, Kx, rr, ev, q⟩ => ?_
      simp only [evE] at ev
      refine ⟨P, os, env, t, _, rr, ev, fun lo hi t1 H1 kx ok rr1 g1 => ⟨ok, fun z nz => q _ t1 _ _ kx (rr1.full (.new nz)) (.tup g1 nz rr1.ook.live (rgV_rep lo hi))⟩⟩
    · cases m
  · rw [go_trng] at m
    split at m <;> first | rfl | cases m
end
end G

set_option maxHeartbeats 2000000
namespace G
open PySem PySem.Spec PyProof.Rows L2

/-! ### storing, forgetting -/
def tGs : List Nat → TGs
  | [] => gNil
  | i :: is => gCons (gName i) (tGs is)
def tG (K : PySem.W.Frag) : Tg → TG
  | .nm i => gName i
  | .tup is => gTup K is.length (tGs is)
def slotsT : Tg → List Nat
  | .nm i => [i]
  | .tup is => is
def wipeO (os : List (List Addr)) : List Nat → List (List Addr)
  | [] => os
  | v :: vs => (wipeO os vs).set v []
theorem storeOk_of {N : List Str} {fn : Str → Bool} {sc : Scope} {i : Nat} {x : Str} (h : storeOk N fn sc i x = true) : N[i]? = some x ∧ Loc sc x ∧ (fn x = true ∨ sc.names.lookup x = some .local) := by
  unfold storeOk kindIs at h
  simp only [Bool.and_eq_true, Bool.or_eq_true, decide_eq_true_eq, beq_iff_eq] at h
  obtain ⟨⟨h1, h2⟩, h3⟩ := h
  rcases h2 with h2 | ⟨h2, h4⟩
  · exact ⟨h1, .inl h2, .inr h2⟩
  · exact ⟨h1, .inr h2, .inl h4⟩
theorem pgs_of {X : Cx} (nd : X.N.Nodup) : ∀ (is : List Nat) (es : List Expr), mtTs X.N X.fn X.env.scope is es = true → PGs X es (tGs is) ∧ (assignEach es X.env).length = is.length ∧ (assignEach es X.env).findIdx? (·.1) = none
  | [], [], _ => ⟨pgs_nil, rfl, rfl⟩
  | i :: is, .Name x p :: es, m => by
    simp only [mtTs, Bool.and_eq_true] at m
    obtain ⟨h1, h2, h3⟩ := storeOk_of m.1
    obtain ⟨g1, g2, g3⟩ := pgs_of nd is es m.2
    refine ⟨pgs_cons (pg_name nd h1 h2 h3) g1 rfl, ?_, ?_⟩
    · show (assignEach es X.env).length + 1 = _
      rw [g2]; rfl
    · show ((false, assign (.Name x p) X.env) :: assignEach es X.env).findIdx? (·.1) = none
      rw [List.findIdx?_cons, g3]
      rfl
  | [], _ :: _, m => by simp [mtTs] at m
  | _ :: _, [], m => by simp [mtTs] at m
  | i :: is, e :: es, m => by
    cases e <;> first | (simp [mtTs] at m; done) | skip
    simp only [mtTs, Bool.and_eq_true] at m
    obtain ⟨h1, h2, h3⟩ := storeOk_of m.1
    obtain ⟨g1, g2, g3⟩ := pgs_of nd is es m.2
    refine ⟨pgs_cons (pg_name nd h1 h2 h3) g1 rfl, ?_, ?_⟩
    · show (assignEach es X.env).length + 1 = _
      rw [g2]; rfl
    · show ((false, _) :: assignEach es X.env).findIdx? (·.1) = none
      rw [List.findIdx?_cons, g3]
      rfl
theorem pg_of {X : Cx} (nd : X.N.Nodup) (hc : X.calm = true) {tg : Tg} {e : Expr} (m : mtT X.N X.fn X.env.scope tg e = true) : PG X e (tG X.K tg) := by
  cases tg with
  | nm i =>
    cases e <;> simp only [mtT] at m <;> try cases m
    obtain ⟨h1, h2, h3⟩ := storeOk_of m
    exact pg_name nd h1 h2 h3
  | tup is =>
    cases e <;> simp only [mtT] at m <;> try cases m
    obtain ⟨g1, g2, g3⟩ := pgs_of nd _ _ m
    exact pg_tup hc g1 g2 g3

theorem flat_set_sub : ∀ (os : List (List Addr)) (i : Nat), ((os.set i []).flatten).Sublist os.flatten
  | [], _ => by simp
  | a :: os, 0 => by simp
  | a :: os, i + 1 => by
    rw [List.set_cons_succ, List.flatten_cons, List.flatten_cons]
    exact List.Sublist.append (List.Sublist.refl _) (flat_set_sub os i)
theorem flat_set_nil : ∀ (os : List (List Addr)) (i : Nat), os.getD i [] = [] → (os.set i []).flatten = os.flatten
  | [], _, _ => by simp
  | a :: os, 0, h => by
    simp at h
    subst h
    simp
  | a :: os, i + 1, h => by
    rw [List.set_cons_succ, List.flatten_cons, List.flatten_cons, flat_set_nil os i (by simpa using h)]
theorem getD_set_nil (os : List (List Addr)) (i j : Nat) : os.getD j [] = [] → (os.set i []).getD j [] = [] := by
  intro h
  rw [List.getD_eq_getElem?_getD] at h ⊢
  by_cases e : i = j
  · subst e
    by_cases hl : i < os.length
    · rw [List.getElem?_set_self hl]; rfl
    · rw [List.getElem?_eq_none (by simp; omega)]; rfl
  · rw [List.getElem?_set_ne e]; exact h
theorem getD_set_same (os : List (List Addr)) (i : Nat) : (os.set i []).getD i [] = [] := by
  rw [List.getD_eq_getElem?_getD]
  by_cases hl : i < os.length
  · rw [List.getElem?_set_self hl]; rfl
  · rw [List.getElem?_eq_none (by simp; omega)]; rfl
theorem wipeO_get (os : List (List Addr)) : ∀ (vs : List Nat) (i : Nat), i ∈ vs → (wipeO os vs).getD i [] = []
  | [], _, h => absurd h (by simp)
  | v :: vs, i, h => by
    unfold wipeO
    rcases List.mem_cons.mp h with e | h
    · rw [e]; exact getD_set_same _ _
    · exact getD_set_nil _ _ _ (wipeO_get os vs i h)
theorem wipeO_sub (os : List (List Addr)) : ∀ (vs : List Nat), (wipeO os vs).flatten.Sublist os.flatten
  | [] => List.Sublist.refl _
  | v :: vs => (flat_set_sub _ v).trans (wipeO_sub os vs)
theorem wipe_set {x : Option V} : ∀ (vs : List Nat) (σ : List (Option V)) (i : Nat), i ∈ vs → wipe (σ.set i x) vs = wipe σ vs
  | [], _, _, h => absurd h (by simp)
  | v :: vs, σ, i, h => by
    unfold wipe
    by_cases hi : i ∈ vs
    · rw [wipe_set vs σ i hi]
    · have e : i = v := by rcases List.mem_cons.mp h with e | h; · exact e
                           · exact absurd h hi
      subst e
      have key : ∀ (vs : List Nat) (σ : List (Option V)), i ∉ vs → wipe (σ.set i x) vs = (wipe σ vs).set i x := by
        intro vs
        induction vs with
        | nil => intro σ _; rfl
        | cons v vs ih =>
          intro σ hv
          unfold wipe
          rw [ih σ (fun z => hv (List.mem_cons_of_mem _ z)), List.set_comm _ _ (fun z => hv (by rw [z]; simp))]
      rw [key vs σ hi, List.set_set]
section
variable {K : PySem.W.Frag} {P : Par} {O O' : Addr → Prop} {H H' : Hp} {env : Env} {σ : List (Option V)} {os : List (List Addr)} {t t' : Tp}
theorem SlotsOk.mono (h : SlotsOk K P O H env σ os) (g : ∀ a o, H a = some o → ¬ O a ∨ a ∈ os.flatten → H' a = some o) (hO : ∀ a, O' a → (O a ∨ H a = none)) : SlotsOk K P O' H' env σ os :=
  h.map fun e s as m q => q.mono (fun a o e z => g a o e (z.elim .inl fun z => .inr (List.mem_flatten.mpr ⟨as, m, z⟩))) hO
theorem RR.forget (r : RR K P os env t σ H) (i : Nat) : RR K P (os.set i []) (setS env i none) t (σ.set i none) H := by
  have sub := flat_set_sub os i
  refine ⟨(r.slots.mono (O' := Own P (os.set i [])) (fun a o e _ => e) fun a z => .inl ?_).set i rfl, r.nd.sublist sub, r.tape, r.ptB, r.live, r.grow⟩
  exact z.elim .inl fun z => .inr (sub.subset z)
theorem RR.setVal (r : RR K P os env t σ H) (i : Nat) {v : V} {d : PyData} (rv : Rep P.pT (Own P os) H v d) : RR K P (os.set i []) (setS env i (some (.val d))) t (σ.set i (some v)) H := by
  have sub := flat_set_sub os i
  have hO : ∀ a, Own P (os.set i []) a → Own P os a := fun a z => z.elim .inl fun z => .inr (sub.subset z)
  exact ⟨(r.slots.mono (fun a o e _ => e) fun a z => .inl (hO a z)).set i ⟨rfl, v, rfl, rv.mono (fun a o e _ => e) fun a z => .inl (hO a z)⟩, r.nd.sublist sub, r.tape, r.ptB, r.live, r.grow⟩
theorem RR.wipes (r : RR K P os env t σ H) : ∀ vs, RR K P (wipeO os vs) (wipeS env vs) t (wipe σ vs) H
  | [] => r
  | v :: vs => (RR.wipes r vs).forget v
/-- a target is given its data -/
theorem binds_ok : ∀ (is : List Nat) {ds : List PyData} {vs : List V} {Q : List (Option V) → Hp → Prop} {os : List (List Addr)} {env : Env} {σ : List (Option V)}, ds.length = is.length → RR K P os env t σ H → RepL P.pT (Own P os) H vs ds →
    (∀ os' σ', RR K P os' (setAll env is ds) t σ' H → (∀ a ∈ os'.flatten, a ∈ os.flatten) → ((∀ i ∈ is, os.getD i [] = []) → os'.flatten = os.flatten) → (∀ ws : List Nat, (∀ i ∈ is, i ∈ ws) → wipe σ' ws = wipe σ ws) → Q σ' H) → tGs is vs σ H Q
  | [], ds, vs, Q, os, env, σ, hl, r, rv, q => by
    have e : ds = [] := List.eq_nil_of_length_eq_zero hl
    subst e
    cases rv
    exact ⟨rfl, q os σ r (fun a h => h) (fun _ => rfl) fun _ _ => rfl⟩
  | i :: is, ds, vs, Q, os, env, σ, hl, r, rv, q => by
    cases rv with
    | nil => cases hl
    | cons a b =>
      refine ⟨_, _, rfl, ?_⟩
      have r1 := r.setVal i a
      have sub := flat_set_sub os i
      have hO : ∀ a, Own P (os.set i []) a → Own P os a := fun a z => z.elim .inl fun z => .inr (sub.subset z)
      refine binds_ok is (by simpa using hl) r1 (b.mono (fun a o e _ => e) fun a z => .inl (hO a z)) fun os' σ' r' h1 h2 h3 => ?_
      refine q os' σ' r' (fun a h => sub.subset (h1 a h)) (fun hz => ?_) fun ws hw => ?_
      · rw [h2 fun j hj => getD_set_nil _ _ _ (hz j (List.mem_cons_of_mem _ hj)), flat_set_nil os i (hz i (by simp))]
      · rw [h3 ws fun j hj => hw j (List.mem_cons_of_mem _ hj), wipe_set ws σ i (hw i (by simp))]
theorem bind_ok {tg : Tg} {d : PyData} {v : V} {Kb : Env → Prop} {Q : List (Option V) → Hp → Prop} (h : bindT tg d env Kb) (r : RR K P os env t σ H) (rv : Rep P.pT (Own P os) H v d)
    (q : ∀ os' env' σ', Kb env' → RR K P os' env' t σ' H → (∀ a ∈ os'.flatten, a ∈ os.flatten) → ((∀ i ∈ slotsT tg, os.getD i [] = []) → os'.flatten = os.flatten) → (∀ ws : List Nat, (∀ i ∈ slotsT tg, i ∈ ws) → wipe σ' ws = wipe σ ws) → Q σ' H) : tG K tg v σ H Q := by
  cases tg with
  | nm i => exact q _ _ _ h (r.setVal i rv) (fun a z => (flat_set_sub os i).subset z) (fun hz => flat_set_nil os i (hz i (by simp [slotsT]))) fun ws hw => wipe_set ws σ i (hw i (by simp [slotsT]))
  | tup is =>
    cases d <;> try exact False.elim h
    obtain ⟨h1, h2⟩ := h
    cases rv with
    | tup ha hn rl =>
      exact ⟨_, _, rfl, .of ha, by rw [rl.length]; exact h1, binds_ok is h1 r rl fun os' σ' r' a1 a2 a3 => q os' _ σ' h2 r' a1 a2 a3⟩

/-! ### a comprehension's block -/
def parBlk (P : Par) (os os' : List (List Addr)) (D : Addr) : Par := { P with B := fun a => P.B a ∨ a = D ∨ (a ∈ os.flatten ∧ a ∉ os'.flatten) }
theorem parBlk_own {D : Addr} {os' : List (List Addr)} (hs : ∀ a ∈ os'.flatten, a ∈ os.flatten) {a : Addr} : Own (parBlk P os os' D) os' a ↔ (Own P os a ∨ a = D) := by
  unfold Own parBlk
  constructor
  · rintro ((h | h | h) | h)
    · exact .inl (.inl h)
    · exact .inr h
    · exact .inl (.inr h.1)
    · exact .inl (.inr (hs a h))
  · rintro ((h | h) | h)
    · exact .inl (.inl h)
    · by_cases z : a ∈ os'.flatten
      · exact .inr z
      · exact .inl (.inr (.inr ⟨h, z⟩))
    · exact .inl (.inr (.inl h))
theorem SlotsOk.wipes (h : SlotsOk K P O H env σ os) : ∀ vs, SlotsOk K P O H (wipeS env vs) (wipe σ vs) (wipeO os vs)
  | [] => h
  | v :: vs => (SlotsOk.wipes h vs).set v rfl
theorem SlotOk.par {P' : Par} (e1 : P'.pT = P.pT) (e2 : P'.H0 = P.H0) {e : Option Slot} {s : Option V} {as : List Addr} (hB : ∀ a ∈ as, ¬ P.B a → ¬ P'.B a) (h : SlotOk K P O H e s as) : SlotOk K P' O H e s as := by
  cases e with
  | none => exact h
  | some sl =>
    cases sl with
    | val d => unfold SlotOk at h ⊢; rw [e1]; exact h
    | own xs =>
      obtain ⟨p, vs, h1, h2, h3, h4, h5, r⟩ := h
      exact ⟨p, vs, h1, h2, h3, by rw [e2]; exact h4, hB p (by rw [h1]; simp) h5, by rw [e1]; exact r⟩
    | own2 xss =>
      obtain ⟨p, qs, h1, h2, h3, h4, r⟩ := h
      exact ⟨p, qs, h1, h2, h3, fun q hq => ⟨by rw [e2]; exact (h4 q hq).1, hB q (by rw [h1]; exact hq) (h4 q hq).2⟩, by rw [e1]; exact r⟩
    | scr ns => exact h
theorem RR.h0D (r : RR K P os env t σ H) {D : Addr} (hD : H D = none) : P.H0 D = none := by
  cases q : P.H0 D with
  | none => rfl
  | some o =>
    have := r.grow D o q fun z => r.hl D z hD
    rw [hD] at this; cases this
theorem RR.enter (r : RR K P os env t σ H) {D : Addr} (hD : H D = none) (own : List Nat) : RR K (parBlk P os (wipeO os own) D) (wipeO os own) (wipeS env own) t (wipe σ own) (upd H D (.lst [])) := by
  have sub := wipeO_sub os own
  have hs := fun a (h : a ∈ (wipeO os own).flatten) => sub.subset h
  have s1 := r.slots.wipes own
  have gD : ∀ a o, H a = some o → (upd H D (.lst [])) a = some o := fun a o e => by rw [upd_ne (ne_of_none e hD)]; exact e
  refine ⟨?_, r.nd.sublist sub, fun ts e => ?_, fun p e => .inl (r.ptB p e), fun a h => ?_, r.grow.trans (.new hD)⟩
  · have s2 : SlotsOk K P (Own (parBlk P os (wipeO os own) D) (wipeO os own)) (upd H D (.lst [])) (wipeS env own) (wipe σ own) (wipeO os own) := s1.mono (fun a o e _ => gD a o e) fun a z => by
      rcases (parBlk_own hs).mp z with z | z
      · exact .inl z
      · exact .inr (by rw [z]; exact hD)
    refine SlotsOk.map (P := P) (P' := parBlk P os (wipeO os own) D) (fun e s as m q => SlotOk.par (P := P) (P' := parBlk P os (wipeO os own) D) rfl rfl (fun a ha hb z => ?_) q) s2
    rcases z with z | z | z
    · exact hb z
    · have := (s1.addr as m a ha).1
      rw [z] at this
      exact this hD
    · exact z.2 (List.mem_flatten.mpr ⟨as, m, ha⟩)
  · obtain ⟨p, h1, h2⟩ := r.tape ts e
    exact ⟨p, h1, gD p _ h2⟩
  · rcases h with h | h | h
    · have := r.live a h
      cases q : H a with
      | none => exact absurd q this
      | some o => rw [gD a o q]; simp
    · rw [h, upd_same]; simp
    · have := (r.slots.addrF h.1).1
      cases q : H a with
      | none => exact absurd q this
      | some o => rw [gD a o q]; simp
/-- the new list has grown -/
theorem RR.push (r : RR K P os env t σ H) {D : Addr} {xs : List V} (hB : P.B D) (hT : P.pT ≠ some D) (h0 : P.H0 D = none) : RR K P os env t σ (upd H D (.lst xs)) := by
  have ne : ∀ a o, H a = some o → ¬ Own P os a ∨ a ∈ os.flatten → (upd H D (.lst xs)) a = some o := fun a o e z => by
    have : a ≠ D := by
      rintro rfl
      rcases z with z | z
      · exact z (.inl hB)
      · exact (r.slots.addrF z).2.2 hB
    rw [upd_ne this]; exact e
  refine ⟨r.slots.mono ne fun a z => .inl z, r.nd, fun ts e => ?_, r.ptB, fun a h => ?_, fun a o e n => ?_⟩
  · obtain ⟨p, h1, h2⟩ := r.tape ts e
    exact ⟨p, h1, by rw [upd_ne (fun z => hT (by rw [h1, z]))]; exact h2⟩
  · by_cases e : a = D
    · rw [e, upd_same]; simp
    · rw [upd_ne e]; exact r.live a h
  · have : a ≠ D := fun z => by rw [z, h0] at e; cases e
    rw [upd_ne this]; exact r.grow a o e n
end
end G

set_option maxHeartbeats 2000000
namespace G
open PySem PySem.Spec PyProof.Rows L2
section
variable {T : Tab} {c : Cal} {lv : Nat} {N : List Str}

theorem YItem.rep {pT : Option Addr} {O O' : Addr → Prop} {H1 H H' : Hp} {items : List PyData} {i : Nat} {x : V} {d : PyData} (y : YItem pT O H1 items i H x H') (hd : items[i]? = some d)
    (g : ∀ a o, H1 a = some o → ¬ O a → H a = some o) (hO : ∀ a, O' a → (O a ∨ H1 a = none)) (lv : ∀ a, O' a → H a ≠ none) : Grow none H H' ∧ Rep pT O' H' x d := by
  rcases y with ⟨rfl, d', e, r⟩ | ⟨TT, x1, x2, d1, d2, e, rfl, nT, rfl, r1, r2⟩
  · rw [hd] at e; cases e
    exact ⟨.refl, r.mono g hO⟩
  · rw [hd] at e; cases e
    have g' : ∀ a o, H1 a = some o → ¬ O a → (upd H TT (.tup [x1, x2])) a = some o := fun a o e n => by
      have := g a o e n
      rw [upd_ne (ne_of_none this nT)]; exact this
    exact ⟨.new nT, .tup upd_same (fun z => lv TT z nT) (.cons (r1.mono g' hO) (.cons (r2.mono g' hO) .nil))⟩
theorem ptsC {X : Cx} {cnd : Ex} {ifs : List Expr} (hp : ∀ e, ifs = [e] → PT X e (tT X.K c cnd)) (h0 : ifs = [] → cnd = .bl true) (h1 : ifs.length ≤ 1) : PTs X ifs (tT X.K c cnd) := by
  match ifs, hp, h0, h1 with
  | [], _, h0, _ =>
    have e := h0 rfl
    subst e
    refine ⟨fun pins s σ H Q I ⟨P, os, env, t, Kx, rr, ev, hb, q⟩ => pts_nil.run pins s σ H Q I ?_⟩
    exact q true t H ev rr .refl
  | [e], hp, _, _ => exact pts_one (hp e rfl)
  | _ :: _ :: _, _, _, h => exact absurd h (by simp)
theorem drop_cons {α : Type} {l : List α} {i : Nat} {d : α} (h : l[i]? = some d) : l.drop i = d :: l.drop (i + 1) := by
  obtain ⟨h1, h2⟩ := List.getElem?_eq_some_iff.mp h
  rw [List.drop_eq_getElem_cons h1, h2]
theorem wipe_wipe : ∀ (vs ws : List Nat) (σ : List (Option V)), (∀ i ∈ vs, i ∈ ws) → wipe (wipe σ vs) ws = wipe σ ws
  | [], _, _, _ => rfl
  | v :: vs, ws, σ, h => by
    show wipe ((wipe σ vs).set v none) ws = _
    rw [wipe_set ws _ v (h v (by simp)), wipe_wipe vs ws σ fun i hi => h i (List.mem_cons_of_mem _ hi)]
/-- the comprehension's reading -/
theorem comp_go {K : PySem.W.Frag} {el : Ex} {tg : Tg} {it cnd : Ex} {own : List Nat} (hel : strictX el = true) (htg : ∀ i ∈ slotsT tg, i ∈ own) : ∀ σ H Q, tE K c (.comp el tg it cnd own) σ H Q → tLc (tI K c it) (tG K tg) (tT K c cnd) (tE K c el) own σ H Q := by
  intro σ H Q ⟨P, os, env, t, Kx, rr, ev, q⟩
  simp only [evE] at ev
  refine ⟨P, os, env, t, _, rr, ev, fun l t1 H1 J kx rr1 g1 ⟨items, as, e1, S⟩ => ?_⟩
  subst e1
  intro D hD
  have hpt : P.pT ≠ some D := fun z => rr1.hl D z hD
  have h0D := rr1.h0D hD
  have os' := wipeO os own
  have sub := wipeO_sub os own
  have hs := fun a (h : a ∈ (wipeO os own).flatten) => sub.subset h
  have kx' : compW (fun d t K2 => bindT tg d (wipeS env own) fun e2 => evE c cnd e2 t fun b t2 => boolW b fun p => if p = true then evE c el e2 t2 fun z t3 => K2 (some z) t3 else K2 none t2) items [] t1 fun acc t2 => Kx (.list acc) t2 := kx
  generalize hf : (fun (d : PyData) (t : Tp) (K2 : Option PyData → Tp → Prop) => bindT tg d (wipeS env own) fun e2 => evE c cnd e2 t fun b t2 => boolW b fun p => if p = true then evE c el e2 t2 fun z t3 => K2 (some z) t3 else K2 none t2) = f at kx'
  -- between the turns
  let P' := parBlk P os (wipeO os own) D
  let Pv : Nat → Hp → Prop := fun i H => ∃ t acc xs, RR K P' (wipeO os own) (wipeS env own) t (wipe σ own) H ∧ Grow P.pT H1 H ∧ H D = some (.lst xs) ∧ RepL P.pT (Own P' (wipeO os own)) H xs acc ∧ acc.length ≤ i ∧ compW f (items.drop i) acc t fun acc t2 => Kx (.list acc) t2
  refine lc_it S.walk Pv ⟨t1, [], [], rr1.enter hD own, .new hD, upd_same, .nil, Nat.le_refl _, by rw [List.drop_zero]; exact kx'⟩ (fun i H hi ⟨t, acc, xs, r, g, _⟩ a ha => ?_) (fun i x H H' hi ⟨t, acc, xs, r, g, hDx, rx, hl, kc⟩ y => ?_) fun H ⟨t, acc, xs, r, g, hDx, rx, hl, kc⟩ => ?_
  · obtain ⟨l1, l2, _⟩ := S.live a ha
    cases qa : H1 a with
    | none => exact absurd qa l1
    | some o => exact g a o qa l2
  · -- a turn
    have hdi : items[i]? = some items[i] := List.getElem?_eq_getElem hi
    have hO : ∀ a, Own P' (wipeO os own) a → (Own P os a ∨ H1 a = none) := fun a z => by
      rcases (parBlk_own hs).mp z with z | z
      · exact .inl z
      · exact .inr (by rw [z]; exact hD)
    obtain ⟨gH, rx'⟩ := y.rep hdi (fun a o e n => g a o e fun z => n (rr1.ook.tp a z)) hO r.ook.live
    rw [drop_cons hdi] at kc
    have kc' : f items[i] t fun o t' => compW f (items.drop (i + 1)) (match o with | some x => acc ++ [x] | none => acc) t' fun acc t2 => Kx (.list acc) t2 := kc
    rw [← hf] at kc'
    have r1 := r.full gH
    refine bind_ok kc' r1 rx' fun os2 env2 σ2 kb r2 hsub hflat hwipe => ?_
    refine ⟨(hwipe own htg).trans (wipe_wipe own own σ fun _ h => h), P', os2, env2, t, _, r2, kb, fun d t' k => ?_, fun b t2 H3 k r3 g3 => ?_⟩
    · cases d <;> first | exact ⟨_, rfl⟩ | exact False.elim k
    · have hfl : os2.flatten = (wipeO os own).flatten := hflat fun j hj => wipeO_get os own j (htg j hj)
      have fin : ∀ {t3 : Tp} {H4 : Hp}, RR K P' os2 env2 t3 σ2 H4 → Grow P.pT H' H4 → RR K P' (wipeO os own) (wipeS env own) t3 (wipe σ own) H4 := fun r4 g4 => r1.grown g4 r4.tape r4.hl
      have gall : ∀ {H4 : Hp}, Grow P.pT H' H4 → Grow P.pT H1 H4 := fun g4 => g.trans (Grow.trans (fun a o e _ => gH a o e (by simp)) g4)
      have hD4 : ∀ {H4 : Hp}, Grow P.pT H' H4 → H4 D = some (.lst xs) := fun g4 => g4 D _ (gH D _ hDx (by simp)) hpt
      cases b with
      | false =>
        simp only [Bool.false_eq_true, if_false]
        have k' : compW f (items.drop (i + 1)) acc t2 fun acc t2 => Kx (.list acc) t2 := by rw [← hf]; exact bWf k
        refine ⟨t2, acc, xs, fin r3 g3, gall g3, hD4 g3, ?_, by omega, k'⟩
        exact (rx.mono (fun a o e _ => gH a o e (by simp)) fun a z => .inl z).grow g3 r.ook.tp
      | true =>
        simp only [if_true]
        refine ⟨P', os2, env2, t2, _, r3, bWt k, fun z t3 yv H4 k4 r4 o4 => ?_⟩
        have g4 := g3.trans o4.grow
        have ry : Rep P.pT (Own P' (wipeO os own)) H4 yv z := (o4.s hel).mono (fun a o e _ => e) fun a h => .inl (by
          rcases h with h | h
          · exact .inl h
          · exact .inr (by rw [hfl]; exact h))
        have rx4 : RepL P.pT (Own P' (wipeO os own)) H4 xs acc := (rx.mono (fun a o e _ => gH a o e (by simp)) fun a z => .inl z).grow g4 r.ook.tp
        have hlen : xs.length < sizeLine := by
          have := S.len
          rw [rx.length]; omega
        have nD : ∀ a o, H4 a = some o → ¬ Own P' (wipeO os own) a → (upd H4 D (.lst (xs ++ [yv]))) a = some o := fun a o e n => by
          rw [upd_ne (fun z => n (by rw [z]; exact (parBlk_own hs).mpr (.inr rfl)))]; exact e
        have k' : compW f (items.drop (i + 1)) (acc ++ [z]) t3 fun acc t2 => Kx (.list acc) t2 := by rw [← hf]; exact k4
        refine ⟨xs, hD4 g4, hlen, t3, acc ++ [z], xs ++ [yv], (fin r4 g4).push (.inr (.inl rfl)) hpt h0D, fun a o e n => ?_, upd_same, ?_, by rw [List.length_append, List.length_singleton]; omega, k'⟩
        · rw [upd_ne (fun z => by rw [z, hD] at e; cases e)]
          exact gall g4 a o e n
        · exact (rx4.append (.cons ry .nil)).mono nD fun a z => .inl z
  · -- the end
    have kend : Kx (.list acc) t := by
      rw [List.drop_length] at kc
      exact kc
    have rr2 : RR K P os env t σ H := rr1.grown g r.tape r.hl
    refine q _ t _ H kend rr2 ⟨g1.trans g, .inl ?_, fun _ => ?_, fun _ ys e => ?_⟩
    · exact .lst hDx (fun z => rr1.ook.live D z hD) (rx.mono (fun a o e _ => e) fun a z => .inl ((parBlk_own hs).mpr (.inl z)))
    · exact .lst hDx (fun z => rr1.ook.live D z hD) (rx.mono (fun a o e _ => e) fun a z => .inl ((parBlk_own hs).mpr (.inl z)))
    · cases e
      exact ⟨D, xs, rfl, rr.ook.dead g1 hD rr1.hl, hDx, rx.mono (fun a o e _ => e) fun a z => .inl ((parBlk_own hs).mpr z)⟩
theorem blkOk_own {N : List Str} (own : List Nat) : (ownPairs N own).map (·.2) = own := by
  unfold ownPairs
  rw [List.map_map]
  exact List.map_id _
theorem blk_scope {X : Cx} {s : Shared} {H : Hp} {scope : Scope} {C : Addr} {cl : List (Str × Addr)} {fp : List Addr} : (X.blk s H scope (compEnvC scope cl C X.env) fp).env.scope = relS scope X.env.scope := rfl
/-- a comprehension's parts, for both forms of it -/
structure CompOk (T : Tab) (c : Cal) (lv : Nat) (X : Cx) (el : Ex) (tg : Tg) (it cnd : Ex) (own : List Nat) (ee et ei : Expr) (ifs : List Expr) (scope : Scope) : Prop where
  ok : BlkOk X.N X.env.scope scope (ownPairs X.N own)
  pi : PI X et ei (tI X.K c it)
  ns : notSet ei = true
  pg : ∀ (s : Shared) (H : Hp) (C : Addr) (cl : List (Str × Addr)) (fp : List Addr), PG (X.blk s H scope (compEnvC scope cl C X.env) fp) et (tG X.K tg)
  pts : ∀ (s : Shared) (H : Hp) (C : Addr) (cl : List (Str × Addr)) (fp : List Addr), PTs (X.blk s H scope (compEnvC scope cl C X.env) fp) ifs (tT X.K c cnd)
  pe : ∀ (s : Shared) (H : Hp) (C : Addr) (cl : List (Str × Addr)) (fp : List Addr), PE (X.blk s H scope (compEnvC scope cl C X.env) fp) ee (tE X.K c el)
  el : strictX el = true
  tg : ∀ i ∈ slotsT tg, i ∈ own
theorem comp_ok {el : Ex} {tg : Tg} {it cnd : Ex} {own : List Nat} (hel : SOK T c lv N el) (hit : SOK T c lv N it) (hc : SOK T c lv N cnd) {X : Cx} {e : Expr} (g : Good T c lv X) (n : X.N = N) (m : mt.go T N X.fn X.env.scope (.comp el tg it cnd own) e = true) :
    ∃ ee et ei ifs scope pos, e = .ListComp ee [⟨et, ei, ifs, 0⟩] scope pos ∧ CompOk T c lv X el tg it cnd own ee et ei ifs scope := by
  rw [go_comp] at m
  split at m
  · rename_i ee et ei ifs scope pos
    simp only [Bool.and_eq_true, beq_iff_eq, Bool.or_eq_true, Bool.not_eq_true'] at m
    obtain ⟨⟨⟨⟨⟨⟨⟨⟨⟨⟨⟨k1, k2⟩, k3⟩, h1⟩, h2⟩, h3⟩, h4⟩, h5⟩, h6⟩, h7⟩, h8⟩, h9⟩ := m
    subst n
    refine ⟨ee, et, ei, ifs, scope, pos, rfl, blkOk_by h4, hit.pi k1 X et ei (fun z => ?_) g rfl h5, h2, fun s H C cl fp => pg_of (X := X.blk s H scope (compEnvC scope cl C X.env) fp) g.nd g.calm h6, fun s H C cl fp => ?_, fun s H C cl fp => hel.pe k3 _ ee (g.blk _ _ _ _ _) rfl h8, h1, fun i hi => ?_⟩
    · rcases h3 with h3 | h3
      · rw [h3] at z; cases z
      · cases tg with
        | nm i => cases h3
        | tup is =>
          cases et <;> simp only [mtT] at h6 <;> try cases h6
          exact ⟨_, _, _, rfl⟩
    · split at h7
      · refine ptsC (fun e z => nomatch z) (fun _ => ?_) (by simp)
        cases cnd <;> simp [isTT] at h7
        rename_i b
        cases b <;> simp [isTT] at h7
        rfl
      · rename_i e1
        simp only [Bool.and_eq_true] at h7
        exact ptsC (fun e z => by cases z; exact hc.pt k2 (X.blk s H scope (compEnvC scope cl C X.env) fp) _ (g.blk _ _ _ _ _) rfl h7.2) (fun z => nomatch z) (by simp)
      · cases h7
    · cases tg with
      | nm j =>
        have : i = j := by simpa [slotsT] using hi
        rw [this]; simpa using h9
      | tup is =>
        simp only [List.all_eq_true, decide_eq_true_eq] at h9
        exact h9 i hi
  · cases m
theorem s_comp {el : Ex} (tg : Tg) {it cnd : Ex} (own : List Nat) (hel : SOK T c lv N el) (hit : SOK T c lv N it) (hc : SOK T c lv N cnd) : SOK T c lv N (.comp el tg it cnd own) := by
  refine .of rfl (fun X e g n m => ?_) fun fn sc e m => ?_
  · obtain ⟨ee, et, ei, ifs, scope, pos, rfl, C⟩ := comp_ok hel hit hc g n m
    have h := pe_lc (pos := pos) g.calm g.nd C.pi C.ok C.pg C.pts C.pe (fun x => fset_none C.ns x)
    rw [blkOk_own] at h
    exact h.weaken (comp_go C.el C.tg)
  · rw [go_comp] at m
    split at m <;> first | rfl | cases m
structure SOK2 (T : Tab) (c : Cal) (lv : Nat) (N : List Str) (x : Ex) : Prop where
  s : SOK T c lv N x
  r1 : ∀ a, x = .irng1 a → SOK T c lv N a
  r2 : ∀ a b, x = .irng2 a b → SOK T c lv N a ∧ SOK T c lv N b
  al : AllA T c lv N x
theorem SOK2.of {x : Ex} (h : SOK T c lv N x) (h1 : ∀ a, x ≠ .irng1 a := by simp) (h2 : ∀ a b, x ≠ .irng2 a b := by simp) (al : AllA T c lv N x := by trivial) : SOK2 T c lv N x := ⟨h, fun a e => absurd e (h1 a), fun a b e => absurd e (h2 a b), al⟩
theorem sound2 (x : Ex) : SOK2 T c lv N x := by
  induction x with
  | var i => exact .of (s_var i)
  | own i => exact .of (s_own i)
  | int n => exact .of (s_int n)
  | bl b => exact .of (s_bl b)
  | non => exact .of s_non
  | str s => exact .of (s_str s)
  | glob x n => exact .of (s_glob x n)
  | nil => exact .of s_nil
  | cons a as h1 h2 => exact .of (s_cons h1.s h2.s) (al := ⟨h1.s, h2.al⟩)
  | tup as h => exact .of (s_tup h.s)
  | lst as h => exact .of (s_lst h.s)
  | op o a b h1 h2 => exact .of (s_op o h1.s h2.s)
  | neg a h => exact .of (s_neg h.s)
  | not a h => exact .of (s_not h.s)
  | and a b h1 h2 => exact .of (s_and h1.s h2.s)
  | or a b h1 h2 => exact .of (s_or h1.s h2.s)
  | ife g a b h1 h2 h3 => exact .of (s_ife h1.s h2.s h3.s)
  | chain o p a b d h1 h2 h3 => exact .of (s_chain o p h1.s h2.s h3.s)
  | call f as h => exact .of (s_call f h.s h.al)
  | draw i => exact .of (s_draw i)
  | bi b as h => exact .of (s_bi b h.s)
  | isi a ty h => exact .of (s_isi h.s ty)
  | idx a b h1 h2 => exact .of (s_idx h1.s h2.s)
  | sl a lo hi h1 h2 h3 => exact .of (s_sl h1.s h2.s h3.s)
  | rev a h => exact .of (s_rev h.s)
  | index a b h1 h2 => exact .of (s_index h1.s h2.s)
  | iseq a h => exact .of (s_iseq h.s)
  | irng1 a h => exact ⟨s_irng1 h.s, fun b e => by cases e; exact h.s, fun b d e => (nomatch e), trivial⟩
  | irng2 a b h1 h2 => exact ⟨s_irng2 h1.s h2.s, fun b e => (nomatch e), fun b d e => by cases e; exact ⟨h1.s, h2.s⟩, trivial⟩
  | izip a b h1 h2 => exact .of (s_izip h1.s h2.s)
  | ienum a h => exact .of (s_ienum h.s)
  | lrng r h => exact .of (s_lrng h.r1 h.r2)
  | trng r h => exact .of (s_trng h.r1 h.r2)
  | slen i => exact .of (s_slen i)
  | sidx i a h => exact .of (s_sidx i h.s)
  | comp el tg it c own h1 h2 h3 => exact .of (s_comp tg own h1.s h2.s h3.s)
/-- every expression of the language is what its text does -/
theorem sound (x : Ex) : SOK T c lv N x := (sound2 x).s
end
end G

set_option maxHeartbeats 2000000
namespace G
open PySem PySem.Spec PyProof.Rows L2
theorem _root_.L2.PS.weaken {X : Cx} {e : Stmt} {t t' : TS} (h : PS X e t) (w : ∀ D σ H, t' D σ H → t D σ H) : PS X e t' := ⟨fun p s σ H Q I q => h.run p s σ H Q I (w _ _ _ q)⟩
theorem _root_.L2.PSs.weaken {X : Cx} {e : List Stmt} {t t' : TS} (h : PSs X e t) (w : ∀ D σ H, t' D σ H → t D σ H) : PSs X e t' := ⟨fun p s σ H Q I q => h.run p s σ H Q I (w _ _ _ q)⟩
/-- what a statement leaves of the heap and of what is one's own -/
structure Frame (P : Par) (os : List (List Addr)) (H : Hp) (os' : List (List Addr)) (H' : Hp) : Prop where
  keep : ∀ a o, H a = some o → a ∉ os.flatten → P.pT ≠ some a → H' a = some o
  own : ∀ a ∈ os'.flatten, (a ∈ os.flatten ∨ H a = none) ∧ P.pT ≠ some a
structure RetOk (P : Par) (t : Tp) (H : Hp) (v : V) (d : PyData) : Prop where
  grow : Grow P.pT P.H0 H
  tape : ∀ ts, t = some ts → ∃ p, P.pT = some p ∧ H p = some (.lst (ts.map .int))
  hl : ∀ p, P.pT = some p → H p ≠ none
  rep : Rep P.pT P.B H v d
section
variable (K : PySem.W.Frag) (c : Cal)
def tS (x : St) : TS := fun D σ H => ∃ P os env t Kn Kr, RR K P os env t σ H ∧ evS c x env t Kn Kr ∧
  (∀ os' env' t' σ' H', Kn env' t' → RR K P os' env' t' σ' H' → Frame P os H os' H' → D.nx σ' H') ∧
  (∀ d t' v H', Kr d t' → RetOk P t' H' v d → D.rt v H')
end
section
variable {K : PySem.W.Frag} {P : Par} {O O' : Addr → Prop} {H H' H1 : Hp} {env : Env} {σ : List (Option V)} {os os' os1 : List (List Addr)} {t t' : Tp}
theorem RR.npt (r : RR K P os env t σ H) {a : Addr} (h : a ∈ os.flatten) : P.pT ≠ some a := fun z => (r.slots.addrF h).2.2 (r.ptB a z)
theorem Frame.refl (r : RR K P os env t σ H) : Frame P os H os H := ⟨fun _ _ e _ _ => e, fun a h => ⟨.inl h, r.npt h⟩⟩
theorem Frame.of_grow (g : Grow P.pT H H') (s : ∀ a ∈ os'.flatten, (a ∈ os.flatten ∨ H a = none) ∧ P.pT ≠ some a) : Frame P os H os' H' := ⟨fun a o e _ n => g a o e n, s⟩
theorem Frame.trans (a : Frame P os H os1 H1) (b : Frame P os1 H1 os' H') : Frame P os H os' H' := by
  refine ⟨fun x o e n np => b.keep x o (a.keep x o e n np) (fun z => ?_) np, fun x h => ⟨?_, (b.own x h).2⟩⟩
  · rcases (a.own x z).1 with q | q
    · exact n q
    · rw [e] at q; cases q
  · rcases (b.own x h).1 with q | q
    · exact (a.own x q).1
    · by_cases hx : x ∈ os.flatten
      · exact .inl hx
      · refine .inr ?_
        cases e : H x with
        | none => rfl
        | some o =>
          have := a.keep x o e hx (b.own x h).2
          rw [q] at this; cases this
theorem SlotsOk.forget : ∀ {env : Env} {σ : List (Option V)} {os : List (List Addr)} (i : Nat), SlotsOk K P O H env σ os → SlotsOk K P O H (setS env i none) σ (os.set i [])
  | [], [], [], _, _ => trivial
  | _ :: _, _ :: _, _ :: _, 0, h => ⟨rfl, h.2⟩
  | _ :: _, _ :: _, _ :: _, i + 1, h => ⟨h.1, SlotsOk.forget i h.2⟩
  | [], [], _ :: _, _, h => h.elim
  | [], _ :: _, _, _, h => h.elim
  | _ :: _, [], _, _, h => h.elim
  | _ :: _, _ :: _, [], _, h => h.elim
/-- slots forgotten, their values as they are -/
theorem RR.lose1 (r : RR K P os env t σ H) (i : Nat) : RR K P (os.set i []) (setS env i none) t σ H := by
  have sub := flat_set_sub os i
  refine ⟨(r.slots.mono (O' := Own P (os.set i [])) (fun a o e _ => e) fun a z => .inl ?_).forget i, r.nd.sublist sub, r.tape, r.ptB, r.live, r.grow⟩
  exact z.elim .inl fun z => .inr (sub.subset z)
theorem RR.lose (r : RR K P os env t σ H) : ∀ vs, RR K P (wipeO os vs) (wipeS env vs) t σ H
  | [] => r
  | v :: vs => (RR.lose r vs).lose1 v
theorem flat_set_one : ∀ (os : List (List Addr)) (i : Nat) (p : Addr) (a : Addr), a ∈ (os.set i [p]).flatten → a ∈ os.flatten ∨ a = p
  | [], _, _, _, h => by simp at h
  | b :: os, 0, p, a, h => by
    rw [List.set_cons_zero, List.flatten_cons, List.mem_append] at h
    rw [List.flatten_cons, List.mem_append]
    rcases h with h | h
    · exact .inr (by simpa using h)
    · exact .inl (.inr h)
  | b :: os, i + 1, p, a, h => by
    rw [List.set_cons_succ, List.flatten_cons, List.mem_append] at h
    rw [List.flatten_cons, List.mem_append]
    rcases h with h | h
    · exact .inl (.inl h)
    · rcases flat_set_one os i p a h with h | h
      · exact .inl (.inr h)
      · exact .inr h
theorem nodup_set_one : ∀ (os : List (List Addr)) (i : Nat) (p : Addr), os.flatten.Nodup → p ∉ os.flatten → (os.set i [p]).flatten.Nodup
  | [], _, _, h, _ => by simpa using h
  | b :: os, 0, p, h, n => by
    rw [List.set_cons_zero, List.flatten_cons]
    rw [List.flatten_cons] at h n
    rw [List.nodup_append] at h
    rw [List.mem_append] at n
    show (p :: os.flatten).Nodup
    rw [List.nodup_cons]
    exact ⟨fun z => n (.inr z), h.2.1⟩
  | b :: os, i + 1, p, h, n => by
    rw [List.set_cons_succ, List.flatten_cons, List.nodup_append]
    rw [List.flatten_cons, List.nodup_append] at h
    rw [List.flatten_cons, List.mem_append] at n
    refine ⟨h.1, nodup_set_one os i p h.2.1 (fun z => n (.inr z)), fun a ha a' ha' => ?_⟩
    rcases flat_set_one os i p a' ha' with z | z
    · exact h.2.2 a ha a' z
    · rw [z]; rintro rfl; exact n (.inl ha)
/-- a list that has just been made becomes a slot's own -/
theorem RR.setOwn (r : RR K P os env t σ H) (r' : RR K P os env t' σ H') (g : Grow P.pT H H') {i : Nat} {p : Addr} {vs : List V} {xs : List PyData} (hp : H p = none) (hp' : H' p = some (.lst vs)) (rl : RepL P.pT (fun a => Own P os a ∨ a = p) H' vs xs) :
    RR K P (os.set i [p]) (setS env i (some (.own xs))) t' (σ.set i (some (.ref p))) H' ∧ Frame P os H (os.set i [p]) H' := by
  have np : p ∉ os.flatten := fun z => (r.slots.addrF z).1 hp
  have nB : ¬ P.B p := fun z => r.live p z hp
  have hO : ∀ a, Own P (os.set i [p]) a → (Own P os a ∨ a = p) := fun a z => z.elim (fun z => .inl (.inl z)) fun z => (flat_set_one os i p a z).elim (fun z => .inl (.inr z)) .inr
  have g' : ∀ a o, H a = some o → ¬ Own P os a ∨ a ∈ os.flatten → H' a = some o := fun a o e z => g a o e (z.elim (fun n z => n (.inl (r.ptB a z))) r.npt)
  refine ⟨⟨(r.slots.mono (O' := Own P (os.set i [p])) g' fun a z => (hO a z).elim .inl fun z => .inr (by rw [z]; exact hp)).set i ⟨p, vs, rfl, rfl, hp', r.h0D hp, nB, rl.mono (fun a o e _ => e) fun a z => .inl (hO a z)⟩, nodup_set_one os i p r.nd np, r'.tape, r.ptB, r'.live, r'.grow⟩, .of_grow g fun a h => ?_⟩
  rcases flat_set_one os i p a h with z | z
  · exact ⟨.inl z, r.npt z⟩
  · rw [z]; exact ⟨.inr hp, fun z => nB (r.ptB p z)⟩
theorem SlotsOk.upd {e' : Option Slot} {as : List Addr} (hx : ∀ e s bs, (∀ a ∈ bs, a ∉ as) → SlotOk K P O H e s bs → SlotOk K P O H' e s bs) : ∀ {env : Env} {σ : List (Option V)} {os : List (List Addr)} (i : Nat), os[i]? = some as → os.flatten.Nodup →
    (∀ s, σ[i]? = some s → SlotOk K P O H' e' s as) → SlotsOk K P O H env σ os → SlotsOk K P O H' (setS env i e') σ os
  | [], [], [], _, h, _, _, _ => by simp at h
  | e :: es, s :: ss, b :: bs, 0, h, nd, hn, q => by
    have eb : b = as := by simpa using h
    subst eb
    rw [List.flatten_cons, List.nodup_append] at nd
    refine ⟨hn s rfl, ?_⟩
    have key : ∀ {es : Env} {ss : List (Option V)} {bs : List (List Addr)}, (∀ a ∈ b, ∀ a' ∈ bs.flatten, a ≠ a') → SlotsOk K P O H es ss bs → SlotsOk K P O H' es ss bs := by
      intro es ss bs dj q
      exact q.map fun e s as' m q => hx e s as' (fun a ha hb => dj a hb a (List.mem_flatten.mpr ⟨as', m, ha⟩) rfl) q
    exact key nd.2.2 q.2
  | e :: es, s :: ss, b :: bs, i + 1, h, nd, hn, q => by
    rw [List.flatten_cons, List.nodup_append] at nd
    have hi : bs[i]? = some as := by simpa using h
    refine ⟨hx e s b (fun a ha hb => nd.2.2 a ha a (List.mem_flatten.mpr ⟨as, List.mem_of_getElem? hi, hb⟩) rfl) q.1, SlotsOk.upd hx i hi nd.2.1 (fun s' hs => hn s' (by simpa using hs)) q.2⟩
  | [], [], _ :: _, _, _, _, _, h => h.elim
  | [], _ :: _, _, _, _, _, _, h => h.elim
  | _ :: _, [], _, _, _, _, _, h => h.elim
  | _ :: _, _ :: _, [], _, _, _, _, h => h.elim
/-- one's own list is changed in place -/
theorem RR.updOwn (r : RR K P os env t σ H) {i : Nat} {p : Addr} {vs vs' : List V} {xs xs' : List PyData} (hs : getS env i = some (.own xs)) (hσ : σ[i]? = some (some (.ref p))) (hp : H p = some (.lst vs)) (rl : RepL P.pT (Own P os) H vs' xs') :
    RR K P os (setS env i (some (.own xs'))) t σ (upd H p (.lst vs')) ∧ Frame P os H os (upd H p (.lst vs')) := by
  obtain ⟨sv, as, e1, e2, p', vs0, e3, e4, e5, e6, e7, e8⟩ := r.slots.get hs
  rw [hσ] at e1
  cases e1
  cases e4
  subst e3
  have hm : p ∈ os.flatten := List.mem_flatten.mpr ⟨_, List.mem_of_getElem? e2, by simp⟩
  have hO : Own P os p := .inr hm
  have ne : ∀ a o, H a = some o → a ≠ p → (upd H p (.lst vs')) a = some o := fun a o e n => by rw [upd_ne n]; exact e
  refine ⟨⟨?_, r.nd, fun ts e => ?_, r.ptB, fun a h => ?_, fun a o e n => ?_⟩, ⟨fun a o e n np => ne a o e fun z => n (by rw [z]; exact hm), fun a h => ⟨.inl h, r.npt h⟩⟩⟩
  · refine SlotsOk.upd (as := [p]) (fun e s bs hb q => q.mono (fun a o ea z => ne a o ea fun zz => ?_) fun a z => .inl z) i e2 r.nd (fun s hs' => ?_) r.slots
    · subst zz
      rcases z with z | z
      · exact z hO
      · exact hb a z (by simp)
    · rw [hσ] at hs'; cases hs'
      exact ⟨p, vs', rfl, rfl, upd_same, e6, e7, rl.mono (fun a o ea n => ne a o ea fun zz => n (by rw [zz]; exact hO)) fun a z => .inl z⟩
  · obtain ⟨q, h1, h2⟩ := r.tape ts e
    exact ⟨q, h1, ne _ _ h2 fun z => r.npt hm (by rw [h1, z])⟩
  · by_cases z : a = p
    · rw [z, upd_same]; simp
    · rw [upd_ne z]; exact r.live a h
  · by_cases z : a = p
    · rw [z, e6] at e; cases e
    · rw [upd_ne z]; exact r.grow a o e n
/-- one's own list is let go as a value -/
theorem SlotsOk.frz {e' : Option Slot} : ∀ {env : Env} {σ : List (Option V)} {os : List (List Addr)} (i : Nat), (∀ s, σ[i]? = some s → SlotOk K P O H e' s []) → SlotsOk K P O H env σ os → SlotsOk K P O H (setS env i e') σ (os.set i [])
  | [], [], [], _, _, _ => trivial
  | _ :: _, s :: _, _ :: _, 0, h, q => ⟨h s rfl, q.2⟩
  | _ :: _, _ :: _, _ :: _, i + 1, h, q => ⟨q.1, SlotsOk.frz i (fun s hs => h s (by simpa using hs)) q.2⟩
  | [], [], _ :: _, _, _, h => h.elim
  | [], _ :: _, _, _, _, h => h.elim
  | _ :: _, [], _, _, _, h => h.elim
  | _ :: _, _ :: _, [], _, _, h => h.elim
theorem mem_set_nil : ∀ {os : List (List Addr)} {i : Nat} {as : List Addr} {a : Addr}, os[i]? = some as → a ∈ as → os.flatten.Nodup → a ∉ (os.set i []).flatten
  | [], _, _, _, h, _, _ => by simp at h
  | b :: os, 0, as, a, h, ha, nd => by
    have e : b = as := by simpa using h
    subst e
    rw [List.flatten_cons, List.nodup_append] at nd
    rw [List.set_cons_zero, List.flatten_cons, List.nil_append]
    exact fun z => nd.2.2 a ha a z rfl
  | b :: os, i + 1, as, a, h, ha, nd => by
    rw [List.flatten_cons, List.nodup_append] at nd
    have hi : os[i]? = some as := by simpa using h
    rw [List.set_cons_succ, List.flatten_cons, List.mem_append]
    rintro (z | z)
    · exact nd.2.2 a z a (List.mem_flatten.mpr ⟨as, List.mem_of_getElem? hi, ha⟩) rfl
    · exact mem_set_nil hi ha nd.2.1 z
theorem RR.frz (r : RR K P os env t σ H) {i : Nat} {xs : List PyData} (hs : getS env i = some (.own xs)) : RR K P (os.set i []) (setS env i (some (.val (.list xs)))) t σ H ∧ Frame P os H (os.set i []) H := by
  obtain ⟨sv, as, e1, e2, p, vs, e3, e4, e5, e6, e7, e8⟩ := r.slots.get hs
  have sub := flat_set_sub os i
  have hO : ∀ a, Own P (os.set i []) a → Own P os a := fun a z => z.elim .inl fun z => .inr (sub.subset z)
  have np : ¬ Own P (os.set i []) p := fun z => z.elim e7 fun z => mem_set_nil e2 (by rw [e3]; simp) r.nd z
  refine ⟨⟨(r.slots.mono (O' := Own P (os.set i [])) (fun a o e _ => e) fun a z => .inl (hO a z)).frz i fun s hs' => ?_, r.nd.sublist sub, r.tape, r.ptB, r.live, r.grow⟩, ⟨fun _ _ e _ _ => e, fun a h => ⟨.inl (sub.subset h), r.npt (sub.subset h)⟩⟩⟩
  rw [e1] at hs'; cases hs'
  exact ⟨rfl, .ref p, e4, .lst e5 np (e8.mono (fun a o e _ => e) fun a z => .inl (hO a z))⟩
theorem RR.ret (r : RR K P os env t σ H) {v : V} {d : PyData} (rv : Rep P.pT (Own P os) H v d) : RetOk P t H v d :=
  ⟨r.grow, r.tape, r.hl, rv.mono (fun a o e _ => e) fun a z => .inl (.inl z)⟩
end
end G

set_option maxHeartbeats 2000000
namespace G
open PySem PySem.Spec PyProof.Rows L2
def namesAt (sc : Scope) (line : Nat) (ts : List Expr) : List Str := ts.filterMap fun
  | .Name id pos => if sc.names.lookup id == some .local && pos.line == line then some id else none
  | _ => none
def lineOf (ts : List Expr) : Nat := (ts.head?.map (·.pos.line)).getD 0
def anyStar (vs : List Expr) : Bool := vs.any fun | .Starred .. => true | _ => false
def swB (sc : Scope) (ts vs : List Expr) : Option (Option (List Str)) :=
  if !(ts.length == 2 || ts.length == 3) || vs.length != ts.length then some none
  else if anyStar vs then some none
  else if (namesAt sc (lineOf ts) ts).length != ts.length || (namesAt sc (lineOf ts) ts).eraseDups.length != (namesAt sc (lineOf ts) ts).length then some none
  else if vs.all (foldedForSure 8) then some none
  else if vs.all (constantsAlone 8) then none
  else some (some (namesAt sc (lineOf ts) ts))

theorem sw_unf {ts vs : List Expr} {env : PySem.Env} {k k2 : Nat} {p p2 : Pos} : swappedStores [.Tuple ts k p] (.Tuple vs k2 p2) env =
   (if (!(ts.length == 2 || ts.length == 3) || vs.length != ts.length || env.blockKind != .function) = true then pure none else if anyStar vs = true then pure none else
   if ((namesAt env.scope (lineOf ts) ts).length != ts.length || (namesAt env.scope (lineOf ts) ts).eraseDups.length != (namesAt env.scope (lineOf ts) ts).length) = true then pure none else
   if vs.all (foldedForSure 8) = true then pure none else if vs.all (constantsAlone 8) = true then unsupported "assign.tuple-of-constant-expressions:order-of-the-stores" >>= fun (_ : PUnit) => pure (some (namesAt env.scope (lineOf ts) ts)) else pure (some (namesAt env.scope (lineOf ts) ts))) := by
  rfl
theorem sw_eq {ts vs : List Expr} {env : PySem.Env} {k k2 : Nat} {p p2 : Pos} {r : Option (List Str)} (hk : env.scope.kind = .function) (h : swB env.scope ts vs = some r) : swappedStores [.Tuple ts k p] (.Tuple vs k2 p2) env = pure r := by
  have hb : env.blockKind = .function := by unfold PySem.Env.blockKind; rw [hk]; rfl
  rw [sw_unf, hb]
  unfold swB at h
  have e0 : (ScopeKind.function != ScopeKind.function) = false := rfl
  rw [e0, Bool.or_false]
  split at h
  · rename_i h1; rw [if_pos h1]; cases h; rfl
  rename_i h1; rw [if_neg h1]
  split at h
  · rename_i h1; rw [if_pos h1]; cases h; rfl
  rename_i h1; rw [if_neg h1]
  split at h
  · rename_i h1; rw [if_pos h1]; cases h; rfl
  rename_i h1; rw [if_neg h1]
  split at h
  · rename_i h1; rw [if_pos h1]; cases h; rfl
  rename_i h1; rw [if_neg h1]
  split at h
  · cases h
  rename_i h1; rw [if_neg h1]; cases h; rfl

/-! ### statements -/
def isComp : Expr → Bool
  | .ListComp _ _ _ _ => true
  | .SetComp _ _ _ _ => true
  | .DictComp _ _ _ _ _ => true
  | _ => false
def notTuple : Expr → Bool
  | .Tuple _ _ _ => false
  | _ => true
/-- name = value, whatever the value's form -/
def asgOk (sc : Scope) (x : Str) (px : Pos) (e : Expr) : Bool := match e with
  | .ListComp _ _ scope pos =>
    if kindIs sc x .local && (px.line == pos.line) then !(scope.names.any fun (n, k) => n == x && (k == .local || k == .cell)) else !(kindIs sc x .local)
  | e => !isComp e
def tupOk (sc : Scope) (ts : List Expr) : Expr → Bool
  | .Tuple vs _ _ => decide (swB sc ts vs = some none)
  | _ => true
def tgOk (sc : Scope) (et e : Expr) : Bool := match et with
  | .Name y py => asgOk sc y py e
  | .Tuple ts _ _ => tupOk sc ts e
  | _ => false
def pseudo : St → Bool
  | .frz _ => true
  | .drop _ => true
  | _ => false
def isBlk : St → Bool
  | .skip => true
  | .seq _ _ => true
  | _ => false
def ms (T : Tab) (N : List Str) (fn : Str → Bool) (sc : Scope) : St → List Stmt → Bool
  | .skip, sts => match sts with | [] => true | _ => false
  | .seq a b, sts => if pseudo a then ms T N fn sc b sts else match sts with
    | s :: rest => !isBlk a && ms T N fn sc a [s] && ms T N fn sc b rest
    | [] => false
  | .asg tg x, sts => match sts with
    | [s] => (match s with | .Assign [et] e _ => kd x == 0 && strictX x && mtT N fn sc tg et && mt.go T N fn sc x e && tgOk sc et e | _ => false)
    | _ => false
  | .asgO i x, sts => match sts with
    | [s] => (match s with | .Assign [.Name y py] e _ => kd x == 0 && freshX x && storeOk N fn sc i y && mt.go T N fn sc x e && asgOk sc y py e | _ => false)
    | _ => false
  | .asgO2 _ _, _ => false
  | .par i j a b, sts => match sts with
    | [s] => (match s with | .Assign [.Tuple [.Name x px, .Name y py] k p] (.Tuple [ea, eb] k2 p2) _ => kd a == 0 && kd b == 0 && strictX a && strictX b && decide (N[i]? = some x) && decide (N[j]? = some y) && (i != j) && kindIs sc x .local && kindIs sc y .local && notStar ea && notStar eb && decide (swB sc [.Name x px, .Name y py] [ea, eb] = some (some [x, y])) && mt.go T N fn sc a ea && mt.go T N fn sc b eb | _ => false)
    | _ => false
  | .aug o i x, sts => match sts with
    | [s] => (match s with | .AugAssign (.Name y _) op e _ => kd x == 0 && storeOk N fn sc i y && mt.go T N fn sc x e && ((decide (op = .Add) && decide (o = .add)) || (decide (op = .Sub) && decide (o = .sub))) | _ => false)
    | _ => false
  | .app i x, sts => match sts with
    | [s] => (match s with | .Expr (.Call (.Attribute (.Name y _) nm ap) [e] [] cp) _ => kd x == 0 && strictX x && nameOk N sc i y && decide (nm = ("append" : Str)) && (ap.endLine == cp.line) && notStar e && mt.go T N fn sc x e | _ => false)
    | _ => false
  | .ext i x, sts => match sts with
    | [s] => (match s with | .Expr (.Call (.Attribute (.Name y _) nm ap) [e] [] cp) _ => kd x == 0 && strictX x && nameOk N sc i y && decide (nm = ("extend" : Str)) && (ap.endLine == cp.line) && notStar e && mt.go T N fn sc x e | _ => false)
    | _ => false
  | .seti i k x, sts => match sts with
    | [s] => (match s with | .Assign [.Subscript (.Name y _) ek _] e _ => kd x == 0 && kd k == 0 && strictX x && notSlice ek && nameOk N sc i y && !isComp e && mt.go T N fn sc k ek && mt.go T N fn sc x e | _ => false)
    | _ => false
  | .augi i k x, sts => match sts with
    | [s] => (match s with | .AugAssign (.Subscript (.Name y _) ek _) .Add e _ => kd x == 0 && kd k == 0 && notSlice ek && nameOk N sc i y && mt.go T N fn sc k ek && mt.go T N fn sc x e | _ => false)
    | _ => false
  | .app2 _ _ _, _ => false
  | .ext2 _ _ _, _ => false
  | .ifs g a b, sts => match sts with
    | [s] => (match s with | .If eg sa sb _ => kd g == 0 && mt.go T N fn sc g eg && ms T N fn sc a sa && ms T N fn sc b sb | _ => false)
    | _ => false
  | .for_ tg it body _, sts => match sts with
    | [s] => (match s with | .For et ei sb [] _ => kd it == 2 && strictI it && notSet ei && (!needTup it || tgIsTup tg) && mtT N fn sc tg et && mt.go T N fn sc it ei && ms T N fn sc body sb | _ => false)
    | _ => false
  | .while_ g body _, sts => match sts with
    | [s] => (match s with | .While eg sb [] _ => kd g == 0 && mt.go T N fn sc g eg && ms T N fn sc body sb | _ => false)
    | _ => false
  | .ret x, sts => match sts with
    | [s] => (match s with | .Return (some e) _ => kd x == 0 && strictX x && mt.go T N fn sc x e | _ => false)
    | _ => false
  | .retN, sts => match sts with
    | [s] => (match s with | .Return none _ => true | _ => false)
    | _ => false
  | .expr x, sts => match sts with
    | [s] => (match s with | .Expr e _ => kd x == 0 && !isComp e && mt.go T N fn sc x e | _ => false)
    | _ => false
  | .frz _, _ => false
  | .drop _, _ => false
  | .rais, sts => match sts with
    | [_] => true
    | _ => false
section
variable {T : Tab} {c : Cal} {lv : Nat} {N : List Str}
structure SSOK (T : Tab) (c : Cal) (lv : Nat) (N : List Str) (x : St) : Prop where
  go : ∀ (X : Cx) (sts : List Stmt), Good T c lv X → X.env.scope.kind = .function → X.N = N → ms T N X.fn X.env.scope x sts = true → PSs X sts (tS X.K c x)
  one : isBlk x = false → ∀ (X : Cx) (st : Stmt), Good T c lv X → X.env.scope.kind = .function → X.N = N → ms T N X.fn X.env.scope x [st] = true → PS X st (tS X.K c x)
theorem ms_single {fn : Str → Bool} {sc : Scope} {x : St} {sts : List Stmt} (h : isBlk x = false) (m : ms T N fn sc x sts = true) : ∃ s, sts = [s] := by
  match sts, m with
  | [s], _ => exact ⟨s, rfl⟩
  | [], m => cases x <;> first | (cases (show true = false from h)) | (cases (show false = true from m))
  | s :: s2 :: r, m =>
    exfalso
    cases x <;> first | (cases (show true = false from h)) | (cases (show false = true from m)) | skip
    all_goals (cases s <;> first | (cases (show false = true from m)) | skip)
theorem SSOK.of {x : St} (hb : isBlk x = false) (h : ∀ (X : Cx) (st : Stmt), Good T c lv X → X.env.scope.kind = .function → X.N = N → ms T N X.fn X.env.scope x [st] = true → PS X st (tS X.K c x)) : SSOK T c lv N x := by
  refine ⟨fun X sts g hk n m => ?_, fun _ => h⟩
  obtain ⟨s, rfl⟩ := ms_single hb m
  exact pss_one (h X s g hk n m)
theorem swaps_none {e : Expr} {tg : Option Expr} {l : Nat} {env : PySem.Env} (h : isComp e = false) : swapsWith e tg l env = pure false := by
  cases e <;> first | rfl | (simp [isComp] at h)
theorem swaps_tup {e : Expr} {ts : List Expr} {k : Nat} {p : Pos} {l : Nat} {env : PySem.Env} : swapsWithSole [.Tuple ts k p] e l env = pure false := by
  cases e <;> rfl
theorem swaps_sub {e a b : Expr} {p : Pos} {l : Nat} {env : PySem.Env} : swapsWithSole [.Subscript a b p] e l env = pure false := by
  cases e <;> rfl
theorem swst_sub {e a b : Expr} {p : Pos} {env : PySem.Env} : swappedStores [.Subscript a b p] e env = pure none := by
  cases e <;> rfl
theorem swst_tup {e : Expr} {ts : List Expr} {k : Nat} {p : Pos} {env : PySem.Env} (h : notTuple e = true) : swappedStores [.Tuple ts k p] e env = pure none := by
  cases e <;> first | rfl | (simp [notTuple] at h)
theorem comp_of_mt {fn : Str → Bool} {sc : Scope} {x : Ex} {e : Expr} (k : kd x = 0) (m : mt.go T N fn sc x e = true) (hc : isComp e = true) : ∃ el tg it cnd own, x = .comp el tg it cnd own := by
  cases e <;> first | (cases (show false = true from hc)) | skip
  all_goals (cases x <;> first | exact ⟨_, _, _, _, _, rfl⟩ | (cases (show false = true from m)) | (cases k))
/-- name = value -/
theorem asg_nm {X : Cx} (g : Good T c lv X) (hk : X.env.scope.kind = .function) (n : X.N = N) {x : Ex} {i : Nat} {y : Str} {py pos : Pos} {e : Expr} (k : kd x = 0) (hs : storeOk N X.fn X.env.scope i y = true) (m : mt.go T N X.fn X.env.scope x e = true) (ha : asgOk X.env.scope y py e = true) :
    PS X (.Assign [.Name y py] e pos) (tAsg (tE X.K c x) (gName i)) := by
  obtain ⟨s1, s2, s3⟩ := storeOk_of hs
  subst n
  have plain : swapsWith e (some (.Name y py)) pos.line X.env = pure false → PS X (.Assign [.Name y py] e pos) (tAsg (tE X.K c x) (gName i)) := fun h => ps_set g.nd s1 s2 ((sound x).pe k X e g rfl m) h s3
  by_cases hc : isComp e = true
  · obtain ⟨el, tg, it, cnd, own, rfl⟩ := comp_of_mt k m hc
    obtain ⟨ee, et, ei, ifs, scope, p2, rfl, C⟩ := comp_ok (sound el) (sound it) (sound cnd) g rfl m
    unfold asgOk kindIs at ha
    simp only at ha
    have hb : X.env.blockKind = .function := by unfold PySem.Env.blockKind; rw [hk]; rfl
    split at ha
    · rename_i h1
      simp only [Bool.and_eq_true, beq_iff_eq, Bool.not_eq_true'] at h1 ha
      have hl : X.env.scope.names.lookup y = some .local := h1.1
      have h := ps_setLc (pos := p2) (spos := pos) (py := py) g.calm g.nd s1 hl (sw_true hk hl (by rw [h1.2]; simp) ha) C.pi C.ok C.pg C.pts C.pe (fun x => fset_none C.ns x)
      rw [blkOk_own] at h
      exact h.weaken fun D σ H hh => comp_go C.el C.tg σ H _ hh
    · rename_i h1
      refine plain ?_
      have hl : (X.env.kindOf y == some NameKind.local) = false := by
        have : (X.env.scope.names.lookup y == some NameKind.local) = false := by simpa using ha
        exact this
      unfold swapsWith
      simp only [hb, hl, Bool.and_false, Bool.false_and]
  · exact plain (swaps_none (by simpa using hc))
end
end G

set_option maxHeartbeats 2000000
namespace G
open PySem PySem.Spec PyProof.Rows L2
section
variable {T : Tab} {c : Cal} {lv : Nat} {N : List Str}
theorem q_skip : SSOK T c lv N .skip := by
  refine ⟨fun X sts g hk n m => ?_, fun z => nomatch z⟩
  cases sts with
  | nil => exact pss_nil.weaken fun D σ H ⟨P, os, env, t, Kn, Kr, rr, ev, qn, qr⟩ => qn os env t σ H ev rr (.refl rr)
  | cons s r => cases (show false = true from m)
theorem ms_seq {fn : Str → Bool} {sc : Scope} {a b : St} {sts : List Stmt} (m : ms T N fn sc (.seq a b) sts = true) : (pseudo a = true ∧ ms T N fn sc b sts = true) ∨ (pseudo a = false ∧ ∃ s rest, sts = s :: rest ∧ isBlk a = false ∧ ms T N fn sc a [s] = true ∧ ms T N fn sc b rest = true) := by
  cases hp : pseudo a with
  | true =>
    refine .inl ⟨rfl, ?_⟩
    have m' : (if pseudo a = true then ms T N fn sc b sts else _) = true := m
    rw [hp, if_pos rfl] at m'
    exact m'
  | false =>
    refine .inr ⟨rfl, ?_⟩
    have m' : (if pseudo a = true then ms T N fn sc b sts else _) = true := m
    rw [hp, if_neg Bool.false_ne_true] at m'
    cases sts with
    | nil => cases m'
    | cons s rest =>
      have m2 : (!isBlk a && ms T N fn sc a [s] && ms T N fn sc b rest) = true := m'
      simp only [Bool.and_eq_true, Bool.not_eq_true'] at m2
      exact ⟨s, rest, rfl, m2.1.1, m2.1.2, m2.2⟩
theorem q_seq {a b : St} (ha : SSOK T c lv N a) (hb : SSOK T c lv N b) : SSOK T c lv N (.seq a b) := by
  refine ⟨fun X sts g hk n m => ?_, fun z => nomatch z⟩
  rcases ms_seq m with ⟨hp, m⟩ | ⟨hp, s, rest, rfl, hbl, m1, m2⟩
  · refine (hb.go X sts g hk n m).weaken fun D σ H ⟨P, os, env, t, Kn, Kr, rr, ev, qn, qr⟩ => ?_
    cases a <;> first | (cases (show false = true from hp)) | skip
    · simp only [evS] at ev
      split at ev
      · rename_i xs hs
        obtain ⟨r1, f1⟩ := rr.frz hs
        exact ⟨P, _, _, t, Kn, Kr, r1, ev, fun os' env' t' σ' H' k r f => qn os' env' t' σ' H' k r (f1.trans f), qr⟩
      · exact ev.elim
    · simp only [evS] at ev
      exact ⟨P, _, _, t, Kn, Kr, rr.lose _, ev, fun os' env' t' σ' H' k r f => qn os' env' t' σ' H' k r (Frame.trans ⟨fun _ _ e _ _ => e, fun a h => ⟨.inl ((wipeO_sub os _).subset h), rr.npt ((wipeO_sub os _).subset h)⟩⟩ f), qr⟩
  · refine (pss_cons (ha.one hbl X s g hk n m1) (hb.go X rest g hk n m2)).weaken fun D σ H ⟨P, os, env, t, Kn, Kr, rr, ev, qn, qr⟩ => ?_
    simp only [evS] at ev
    exact ⟨P, os, env, t, _, Kr, rr, ev, fun os1 env1 t1 σ1 H1 k1 r1 f1 => ⟨P, os1, env1, t1, Kn, Kr, r1, k1, fun os' env' t' σ' H' k r f => qn os' env' t' σ' H' k r (f1.trans f), qr⟩, qr⟩
/-- a value is stored to a target -/
theorem asg_go {K : PySem.W.Frag} {tg : Tg} {x : Ex} (hx : strictX x = true) : ∀ D σ H, tS K c (.asg tg x) D σ H → tAsg (tE K c x) (tG K tg) D σ H := by
  intro D σ H ⟨P, os, env, t, Kn, Kr, rr, ev, qn, qr⟩
  simp only [evS] at ev
  refine ⟨P, os, env, t, _, rr, ev, fun d t1 v H1 k1 rr1 o1 => bind_ok k1 rr1 (o1.s hx) fun os' env' σ' kb r' hs _ _ => ?_⟩
  exact qn os' env' t1 σ' H1 kb r' (.of_grow o1.grow fun a h => ⟨.inl (hs a h), rr.npt (hs a h)⟩)
theorem q_asg (tg : Tg) (x : Ex) : SSOK T c lv N (.asg tg x) := by
  refine .of rfl fun X st g hk n m => ?_
  cases st <;> first | (cases (show false = true from m)) | skip
  rename_i tgs e pos
  match tgs, m with
  | [et], m =>
    have m' : (kd x == 0 && strictX x && mtT N X.fn X.env.scope tg et && mt.go T N X.fn X.env.scope x e && tgOk X.env.scope et e) = true := m
    simp only [Bool.and_eq_true, beq_iff_eq] at m'
    obtain ⟨⟨⟨⟨k1, h1⟩, h2⟩, h3⟩, h4⟩ := m'
    refine PS.weaken ?_ (asg_go h1)
    cases et <;> first | (cases (show false = true from h4)) | skip
    · cases tg with
      | nm i => exact asg_nm g hk n k1 h2 h3 h4
      | tup is => cases (show false = true from h2)
    · rename_i ts kk pp
      subst n
      refine ps_asg ((sound x).pe k1 X e g rfl h3) (pg_of g.nd g.calm h2) swaps_tup ?_ rfl
      by_cases ht : notTuple e = true
      · exact swst_tup ht
      · cases e <;> first | (exact absurd rfl ht) | skip
        exact sw_eq hk (of_decide_eq_true h4)
theorem q_asgO (i : Nat) (x : Ex) : SSOK T c lv N (.asgO i x) := by
  refine .of rfl fun X st g hk n m => ?_
  cases st <;> first | (cases (show false = true from m)) | skip
  rename_i tgs e pos
  match tgs, m with
  | [.Name y py], m =>
    have m' : (kd x == 0 && freshX x && storeOk N X.fn X.env.scope i y && mt.go T N X.fn X.env.scope x e && asgOk X.env.scope y py e) = true := m
    simp only [Bool.and_eq_true, beq_iff_eq] at m'
    obtain ⟨⟨⟨⟨k1, h1⟩, h2⟩, h3⟩, h4⟩ := m'
    refine (asg_nm g hk n k1 h2 h3 h4).weaken fun D σ H ⟨P, os, env, t, Kn, Kr, rr, ev, qn, qr⟩ => ?_
    simp only [evS] at ev
    refine ⟨P, os, env, t, _, rr, ev, fun d t1 v H1 k1 rr1 o1 => ?_⟩
    cases d <;> try exact False.elim k1
    obtain ⟨p, vs, rfl, e1, e2, e3⟩ := o1.f h1 _ rfl
    obtain ⟨r2, f2⟩ := rr.setOwn rr1 o1.grow (i := i) e1 e2 e3
    exact qn _ _ t1 _ H1 k1 r2 f2
theorem q_par (i j : Nat) (a b : Ex) : SSOK T c lv N (.par i j a b) := by
  refine .of rfl fun X st g hk n m => ?_
  cases st <;> first | (cases (show false = true from m)) | skip
  rename_i tgs e pos
  match tgs, e, m with
  | [.Tuple [.Name x px, .Name y py] k p], .Tuple [ea, eb] k2 p2, m =>
    have m' : (kd a == 0 && kd b == 0 && strictX a && strictX b && decide (N[i]? = some x) && decide (N[j]? = some y) && (i != j) && kindIs X.env.scope x .local && kindIs X.env.scope y .local && notStar ea && notStar eb && decide (swB X.env.scope [.Name x px, .Name y py] [ea, eb] = some (some [x, y])) && mt.go T N X.fn X.env.scope a ea && mt.go T N X.fn X.env.scope b eb) = true := m
    unfold kindIs at m'
    simp only [Bool.and_eq_true, beq_iff_eq, decide_eq_true_eq, bne_iff_ne] at m'
    obtain ⟨⟨⟨⟨⟨⟨⟨⟨⟨⟨⟨⟨⟨k1, k2⟩, s1⟩, s2⟩, n1⟩, n2⟩, nij⟩, l1⟩, l2⟩, st1⟩, st2⟩, sw⟩, m1⟩, m2⟩ := m'
    subst n
    refine (ps_par g.calm g.nd n1 n2 nij l1 l2 (pa_cons ((sound a).pe k1 X _ g rfl m1) (pa_cons ((sound b).pe k2 X _ g rfl m2) pa_nil (starEach_cons st2)) (starEach_cons st1)) (sw_eq hk sw) swaps_tup).weaken fun D σ H ⟨P, os, env, t, Kn, Kr, rr, ev, qn, qr⟩ => ?_
    simp only [evS] at ev
    refine ⟨P, os, env, t, _, rr, ev, fun d t1 v H1 k1 rr1 o1 => ⟨P, os, env, t1, _, rr1, k1, fun d2 t2 v2 H2 k2 rr2 o2 => ⟨v, v2, rfl, ?_⟩⟩⟩
    have r3 := rr2.setVal i ((o1.s s1).grow o2.grow rr1.ook.tp)
    have sub := flat_set_sub os i
    have r4 := r3.setVal j ((o2.s s2).mono (fun a o e _ => e) fun a z => .inl (z.elim .inl fun z => .inr (sub.subset z)))
    refine qn _ _ t2 _ H2 k2 r4 (.of_grow (o1.grow.trans o2.grow) fun a h => ?_)
    have := sub.subset ((flat_set_sub _ j).subset h)
    exact ⟨.inl this, rr.npt this⟩
theorem q_aug (o : Op2) (i : Nat) (x : Ex) : SSOK T c lv N (.aug o i x) := by
  refine .of rfl fun X st g hk n m => ?_
  cases st <;> first | (cases (show false = true from m)) | skip
  rename_i tg op e pos
  match tg, m with
  | .Name y py, m =>
    have m' : (kd x == 0 && storeOk N X.fn X.env.scope i y && mt.go T N X.fn X.env.scope x e && ((decide (op = .Add) && decide (o = .add)) || (decide (op = .Sub) && decide (o = .sub)))) = true := m
    simp only [Bool.and_eq_true, beq_iff_eq, Bool.or_eq_true, decide_eq_true_eq] at m'
    obtain ⟨⟨⟨k1, h2⟩, h3⟩, h4⟩ := m'
    obtain ⟨s1, s2, s3⟩ := storeOk_of h2
    subst n
    have pe := (sound x).pe k1 X e g rfl h3
    have fin : ∀ {K : PySem.W.Frag} {D σ H} {f : Int → Int → Int}, (∀ n m : Int, ∀ Kn : PyData → Prop, (match o with | .add => Kn (.int (n + m)) | .sub => Kn (.int (n - m)) | _ => False) → Kn (.int (f n m))) → tS K c (.aug o i x) D σ H → tAug i (tE K c x) (ipI f) D σ H := by
      intro K D σ H f hf ⟨P, os, env, t, Kn, Kr, rr, ev, qn, qr⟩
      simp only [evS] at ev
      split at ev
      · rename_i n0 hs
        obtain ⟨sv, as, e1, e2, e3, v, e4, r⟩ := rr.slots.get hs
        rw [e4] at e1
        cases r
        refine ⟨_, e1, P, os, env, t, _, rr, ev, fun d t1 v H1 k1 rr1 o1 => ?_⟩
        cases d <;> try exact False.elim k1
        rename_i m0
        refine ⟨n0, m0, rfl, o1.w.int, ?_⟩
        have k2 := hf n0 m0 (fun z => Kn (setS env i (some (.val z))) t1) (by cases o <;> exact k1)
        have r3 := rr1.setVal i (.int (f n0 m0))
        exact qn _ _ t1 _ H1 k2 r3 (.of_grow o1.grow fun a h => ⟨.inl ((flat_set_sub os i).subset h), rr.npt ((flat_set_sub os i).subset h)⟩)
      · exact ev.elim
    rcases h4 with ⟨rfl, rfl⟩ | ⟨rfl, rfl⟩
    · exact (ps_aug g.nd s1 s2 pe ip_add s3).weaken fun D σ H h => fin (fun n m Kn h => h) h
    · exact (ps_aug g.nd s1 s2 pe ip_sub s3).weaken fun D σ H h => fin (fun n m Kn h => h) h
/-- the slot of a list of one's own -/
theorem own_slot {K : PySem.W.Frag} {P : Par} {os : List (List Addr)} {env : Env} {t : Tp} {σ : List (Option V)} {H : Hp} (rr : RR K P os env t σ H) {i : Nat} {xs : List PyData} (hs : getS env i = some (.own xs)) : ∃ p vs, σ[i]? = some (some (.ref p)) ∧ H p = some (.lst vs) ∧ RepL P.pT (Own P os) H vs xs := by
  obtain ⟨sv, as, e1, e2, p, vs, e3, e4, e5, e6, e7, e8⟩ := rr.slots.get hs
  rw [e4] at e1
  exact ⟨p, vs, e1, e5, e8⟩
theorem pe_slot {X : Cx} (n : X.N = N) {i : Nat} {y : Str} {py : Pos} (h : nameOk N X.env.scope i y = true) : PE X (.Name y py) (tVar i) := by
  obtain ⟨n1, n2, n3, n4⟩ := nameOk_vis h
  exact pe_var (by rw [n]; exact n1) n2 n3 n4
theorem q_app (i : Nat) (x : Ex) : SSOK T c lv N (.app i x) := by
  refine .of rfl fun X st g hk n m => ?_
  cases st <;> first | (cases (show false = true from m)) | skip
  rename_i ex pos
  match ex, m with
  | .Call (.Attribute (.Name y py) nm ap) [e] [] cp, m =>
    have m' : (kd x == 0 && strictX x && nameOk N X.env.scope i y && decide (nm = ("append" : Str)) && (ap.endLine == cp.line) && notStar e && mt.go T N X.fn X.env.scope x e) = true := m
    simp only [Bool.and_eq_true, beq_iff_eq, decide_eq_true_eq] at m'
    obtain ⟨⟨⟨⟨⟨⟨k1, h1⟩, h2⟩, h3⟩, h4⟩, h5⟩, h6⟩ := m'
    subst h3
    refine (ps_expr (pe_bm PySem.F.plainAttrs_list PySem.F.slot_list_append PySem.F.type_list_append mt_append (pe_slot n h2) (pa_cons ((sound x).pe k1 X _ g n h6) pa_nil (starEach_cons h5)) rfl (by rw [starEach_cons h5]; rfl) (by rw [h4]; simp) (starEach_cons h5) rfl) rfl).weaken fun D σ H ⟨P, os, env, t, Kn, Kr, rr, ev, qn, qr⟩ => ?_
    simp only [evS] at ev
    split at ev
    · rename_i xs hs
      obtain ⟨p, vs, e1, e2, e3⟩ := own_slot rr hs
      refine ⟨.ref p, e1, .inl ⟨rfl, vs, .of e2⟩, P, os, env, t, _, rr, ev, fun d t1 v H1 k1 rr1 o1 => ?_⟩
      obtain ⟨p', vs', f1, f2, f3⟩ := own_slot rr1 hs
      rw [e1] at f1; cases f1
      obtain ⟨r2, fr⟩ := rr1.updOwn hs e1 f2 (f3.append (.cons (o1.s h1) .nil))
      refine ⟨p, vs', v, rfl, rfl, f2, by rw [f3.length]; exact k1.1, qn _ _ t1 σ _ k1.2 r2 ?_⟩
      exact (Frame.of_grow o1.grow fun a h => ⟨.inl h, rr.npt h⟩).trans fr
    · exact ev.elim
theorem q_ext (i : Nat) (x : Ex) : SSOK T c lv N (.ext i x) := by
  refine .of rfl fun X st g hk n m => ?_
  cases st <;> first | (cases (show false = true from m)) | skip
  rename_i ex pos
  match ex, m with
  | .Call (.Attribute (.Name y py) nm ap) [e] [] cp, m =>
    have m' : (kd x == 0 && strictX x && nameOk N X.env.scope i y && decide (nm = ("extend" : Str)) && (ap.endLine == cp.line) && notStar e && mt.go T N X.fn X.env.scope x e) = true := m
    simp only [Bool.and_eq_true, beq_iff_eq, decide_eq_true_eq] at m'
    obtain ⟨⟨⟨⟨⟨⟨k1, h1⟩, h2⟩, h3⟩, h4⟩, h5⟩, h6⟩ := m'
    subst h3
    refine (ps_expr (pe_bm PySem.F.plainAttrs_list PySem.F.slot_list_extend PySem.F.type_list_extend mt_extend (pe_slot n h2) (pa_cons ((sound x).pe k1 X _ g n h6) pa_nil (starEach_cons h5)) rfl (by rw [starEach_cons h5]; rfl) (by rw [h4]; simp) (starEach_cons h5) rfl) rfl).weaken fun D σ H ⟨P, os, env, t, Kn, Kr, rr, ev, qn, qr⟩ => ?_
    simp only [evS] at ev
    split at ev
    · rename_i xs hs
      obtain ⟨p, vs, e1, e2, e3⟩ := own_slot rr hs
      refine ⟨.ref p, e1, .inl ⟨rfl, vs, .of e2⟩, P, os, env, t, _, rr, ev, fun d t1 v H1 k1 rr1 o1 => ?_⟩
      cases d <;> try exact False.elim k1
      obtain ⟨p', vs', f1, f2, f3⟩ := own_slot rr1 hs
      rw [e1] at f1; cases f1
      have hstr := o1.s h1
      cases hstr with
      | lst ha hn rl =>
        obtain ⟨r2, fr⟩ := rr1.updOwn hs e1 f2 (f3.append rl)
        refine ⟨p, _, vs', _, rfl, rfl, f2, ha, by rw [f3.length, rl.length]; exact k1.1, qn _ _ t1 σ _ k1.2 r2 ?_⟩
        exact (Frame.of_grow o1.grow fun a h => ⟨.inl h, rr.npt h⟩).trans fr
    · exact ev.elim
theorem q_ret (x : Ex) : SSOK T c lv N (.ret x) := by
  refine .of rfl fun X st g hk n m => ?_
  cases st <;> first | (cases (show false = true from m)) | skip
  rename_i v pos
  match v, m with
  | some e, m =>
    have m' : (kd x == 0 && strictX x && mt.go T N X.fn X.env.scope x e) = true := m
    simp only [Bool.and_eq_true, beq_iff_eq] at m'
    refine (ps_ret ((sound x).pe m'.1.1 X _ g n m'.2)).weaken fun D σ H ⟨P, os, env, t, Kn, Kr, rr, ev, qn, qr⟩ => ?_
    simp only [evS] at ev
    exact ⟨P, os, env, t, _, rr, ev, fun d t1 v H1 k1 rr1 o1 => qr d t1 v H1 k1 (rr1.ret (o1.s m'.1.2))⟩
theorem q_retN : SSOK T c lv N .retN := by
  refine .of rfl fun X st g hk n m => ?_
  cases st <;> first | (cases (show false = true from m)) | skip
  rename_i v pos
  match v, m with
  | none, m => exact ps_retN.weaken fun D σ H ⟨P, os, env, t, Kn, Kr, rr, ev, qn, qr⟩ => qr .none t .non H ev (rr.ret .non)
theorem q_expr (x : Ex) : SSOK T c lv N (.expr x) := by
  refine .of rfl fun X st g hk n m => ?_
  cases st <;> first | (cases (show false = true from m)) | skip
  rename_i e pos
  have m' : (kd x == 0 && !isComp e && mt.go T N X.fn X.env.scope x e) = true := m
  simp only [Bool.and_eq_true, beq_iff_eq, Bool.not_eq_true'] at m'
  refine (ps_expr ((sound x).pe m'.1.1 X _ g n m'.2) (swaps_none m'.1.2)).weaken fun D σ H ⟨P, os, env, t, Kn, Kr, rr, ev, qn, qr⟩ => ?_
  simp only [evS] at ev
  exact ⟨P, os, env, t, _, rr, ev, fun d t1 v H1 k1 rr1 o1 => qn os env t1 σ H1 k1 rr1 (.of_grow o1.grow fun a h => ⟨.inl h, rr.npt h⟩)⟩
theorem q_ifs (g0 : Ex) {a b : St} (ha : SSOK T c lv N a) (hb : SSOK T c lv N b) : SSOK T c lv N (.ifs g0 a b) := by
  refine .of rfl fun X st g hk n m => ?_
  cases st <;> first | (cases (show false = true from m)) | skip
  rename_i eg sa sb pos
  have m' : (kd g0 == 0 && mt.go T N X.fn X.env.scope g0 eg && ms T N X.fn X.env.scope a sa && ms T N X.fn X.env.scope b sb) = true := m
  simp only [Bool.and_eq_true, beq_iff_eq] at m'
  obtain ⟨⟨⟨k1, h1⟩, h2⟩, h3⟩ := m'
  refine (ps_if ((sound g0).pt k1 X _ g n h1) (ha.go X _ g hk n h2) (hb.go X _ g hk n h3)).weaken fun D σ H ⟨P, os, env, t, Kn, Kr, rr, ev, qn, qr⟩ => ?_
  simp only [evS] at ev
  refine ⟨P, os, env, t, _, rr, ev, fun d t1 k1 => ?_, fun p t1 H1 k1 rr1 g1 => ?_⟩
  · cases d <;> first | exact ⟨_, rfl⟩ | exact False.elim k1
  · have f1 : Frame P os H os H1 := .of_grow g1 fun a h => ⟨.inl h, rr.npt h⟩
    cases p with
    | true =>
      simp only [if_true]
      exact ⟨P, os, env, t1, Kn, Kr, rr1, bWt k1, fun os' env' t' σ' H' k r f => qn os' env' t' σ' H' k r (f1.trans f), qr⟩
    | false =>
      simp only [Bool.false_eq_true, if_false]
      exact ⟨P, os, env, t1, Kn, Kr, rr1, bWf k1, fun os' env' t' σ' H' k r f => qn os' env' t' σ' H' k r (f1.trans f), qr⟩
theorem q_for (tg : Tg) (it : Ex) {body : St} (w : List Nat) (hb : SSOK T c lv N body) : SSOK T c lv N (.for_ tg it body w) := by
  refine .of rfl fun X st g hk n m => ?_
  cases st <;> first | (cases (show false = true from m)) | skip
  rename_i et ei sb oe pos
  match oe, m with
  | [], m =>
    have m' : (kd it == 2 && strictI it && notSet ei && (!needTup it || tgIsTup tg) && mtT N X.fn X.env.scope tg et && mt.go T N X.fn X.env.scope it ei && ms T N X.fn X.env.scope body sb) = true := m
    simp only [Bool.and_eq_true, beq_iff_eq, Bool.or_eq_true, Bool.not_eq_true'] at m'
    obtain ⟨⟨⟨⟨⟨⟨k1, h1⟩, h2⟩, h3⟩, h4⟩, h5⟩, h6⟩ := m'
    subst n
    have hp : PassesOwn (model X.prog X.w) X.A X.env X.xe := by rw [g.xe]; exact PassesOwn.never
    have nt : needTup it = true → ∃ es k p, et = .Tuple es k p := fun z => by
      rcases h3 with h3 | h3
      · rw [h3] at z; cases z
      · cases tg with
        | nm i => cases h3
        | tup is =>
          cases et <;> first | (cases (show false = true from h4)) | exact ⟨_, _, _, rfl⟩
    refine (ps_for hp g.calm ((sound it).pi k1 X et ei nt g rfl h5) (pg_of g.nd g.calm h4) (hb.go X sb g hk rfl h6) (fun x => fset_none h2 x)).weaken fun D σ H ⟨P, os, env, t, Kn, Kr, rr, ev, qn, qr⟩ => ?_
    simp only [evS] at ev
    refine ⟨P, os, env, t, _, rr, ev, fun l t1 H1 J kx rr1 g1 ⟨items, as, e1, S⟩ => ?_⟩
    subst e1
    have f0 : Frame P os H os H1 := .of_grow g1 fun a h => ⟨.inl h, rr.npt h⟩
    have kx' : forW (fun d e t K => bindT tg d (wipeS e w) fun e1 => evS c body e1 t K Kr) items env t1 fun e1 t2 => Kn (wipeS e1 w) t2 := kx
    generalize hf : (fun (d : PyData) (e : Env) (t : Tp) (K : Env → Tp → Prop) => bindT tg d (wipeS e w) fun e1 => evS c body e1 t K Kr) = f at kx'
    let Pv : Nat → L2.St → Hp → Prop := fun i σ H => ∃ os' env' t', RR X.K P os' env' t' σ H ∧ Frame P os H1 os' H ∧ forW f (items.drop i) env' t' fun e1 t2 => Kn (wipeS e1 w) t2
    refine for_it S.walk Pv ⟨os, env, t1, rr1, .refl rr1, by rw [List.drop_zero]; exact kx'⟩ (fun i σ H hi ⟨os', env', t', r, fr, kc⟩ a ha => ?_) (fun i x σ H H' hi ⟨os', env', t', r, fr, kc⟩ y => ?_) fun σ H ⟨os', env', t', r, fr, kc⟩ => ?_
    · obtain ⟨l1, l2, l3⟩ := S.live a ha
      cases qa : H1 a with
      | none => exact absurd qa l1
      | some o => exact fr.keep a o qa (fun z => l3 h1 (.inr z)) l2
    · have hdi : items[i]? = some items[i] := List.getElem?_eq_getElem hi
      have hO : ∀ a, Own P os' a → (Own P os a ∨ H1 a = none) := fun a z => z.elim (fun z => .inl (.inl z)) fun z => ((fr.own a z).1).elim (fun z => .inl (.inr z)) .inr
      obtain ⟨gH, rx'⟩ := y.rep hdi (fun a o e n => fr.keep a o e (fun z => n (.inr z)) fun z => n (rr1.ook.tp a z)) hO r.ook.live
      rw [drop_cons hdi] at kc
      have kc' : f items[i] env' t' fun e' t'' => forW f (items.drop (i + 1)) e' t'' fun e1 t2 => Kn (wipeS e1 w) t2 := kc
      rw [← hf] at kc'
      have r1 := (r.full gH).lose w
      have sub := wipeO_sub os' w
      have rx2 : Rep P.pT (Own P (wipeO os' w)) H' x items[i] := rx'.mono (fun a o e _ => e) fun a z => .inl (z.elim .inl fun z => .inr (sub.subset z))
      refine bind_ok kc' r1 rx2 fun os2 env2 σ2 kb r2 hsub hflat hwipe => ?_
      have f2 : Frame P os H1 os2 H' := fr.trans ⟨fun a o e _ _ => gH a o e (by simp), fun a h => ⟨.inl (sub.subset (hsub a h)), r.npt (sub.subset (hsub a h))⟩⟩
      exact ⟨P, os2, env2, t', _, Kr, r2, kb, fun os3 env3 t3 σ3 H3 k3 r3 f3 => ⟨os3, env3, t3, r3, f2.trans f3, by rw [← hf]; exact k3⟩, qr⟩
    · rw [List.drop_length] at kc
      have kend : Kn (wipeS env' w) t' := kc
      refine qn _ _ t' σ H kend (r.lose w) (f0.trans (fr.trans ⟨fun _ _ e _ _ => e, fun a h => ⟨.inl ((wipeO_sub os' w).subset h), r.npt ((wipeO_sub os' w).subset h)⟩⟩))
theorem q_while (g0 : Ex) {body : St} (w : List Nat) (hb : SSOK T c lv N body) : SSOK T c lv N (.while_ g0 body w) := by
  refine .of rfl fun X st g hk n m => ?_
  cases st <;> first | (cases (show false = true from m)) | skip
  rename_i eg sb oe pos
  match oe, m with
  | [], m =>
    have m' : (kd g0 == 0 && mt.go T N X.fn X.env.scope g0 eg && ms T N X.fn X.env.scope body sb) = true := m
    simp only [Bool.and_eq_true, beq_iff_eq] at m'
    obtain ⟨⟨k1, h1⟩, h2⟩ := m'
    have hp : PassesOwn (model X.prog X.w) X.A X.env X.xe := by rw [g.xe]; exact PassesOwn.never
    refine (ps_while hp ((sound g0).pt k1 X _ g n h1) (hb.go X sb g hk n h2)).weaken fun D σ H ⟨P, os, env, t, Kn, Kr, rr, ev, qn, qr⟩ => ?_
    simp only [evS] at ev
    obtain ⟨m0, ev⟩ := ev
    generalize hc : (fun (e : Env) (t : Tp) (K : Bool → Tp → Prop) => evE c g0 e t fun d t1 => boolW d fun p => K p t1) = cf at ev
    generalize hf : (fun (e : Env) (t : Tp) (K : Env → Tp → Prop) => evS c body e t (fun e1 t1 => K (wipeS e1 w) t1) Kr) = f at ev
    have lose : ∀ {os env t σ H}, RR X.K P os env t σ H → Frame P os H (wipeO os w) H := fun r => ⟨fun _ _ e _ _ => e, fun a h => ⟨.inl ((wipeO_sub _ w).subset h), r.npt ((wipeO_sub _ w).subset h)⟩⟩
    refine ⟨fun k σ1 H1 => ∃ os1 env1 t1, RR X.K P os1 env1 t1 σ1 H1 ∧ Frame P os H os1 H1 ∧ whileW cf f Kn k env1 t1, ⟨m0, wipeO os w, wipeS env w, t, rr.lose w, lose rr, ev⟩, ?_⟩
    rintro k σ1 H1 ⟨os1, env1, t1, r1, f1, ev1⟩
    cases k with
    | zero => exact ev1.elim
    | succ k =>
      have ev2 : cf env1 t1 fun b t' => if b = true then f env1 t' (whileW cf f Kn k) else Kn env1 t' := ev1
      rw [← hc] at ev2
      refine ⟨P, os1, env1, t1, _, r1, ev2, fun d t2 k2 => ?_, fun b t2 H2 k2 r2 g2 => ?_⟩
      · cases d <;> first | exact ⟨_, rfl⟩ | exact False.elim k2
      · have f2 : Frame P os H os1 H2 := f1.trans (.of_grow g2 fun a h => ⟨.inl h, r1.npt h⟩)
        cases b with
        | false =>
          simp only [Bool.false_eq_true, if_false]
          exact qn _ _ t2 σ1 H2 (bWf k2) r2 f2
        | true =>
          simp only [if_true]
          have k3 : f env1 t2 (whileW cf f Kn k) := by rw [← hc]; exact bWt k2
          rw [← hf] at k3
          refine ⟨fun σ3 H3 => ∃ os3 env3 t3, RR X.K P os3 env3 t3 σ3 H3 ∧ Frame P os H os3 H3 ∧ whileW cf f Kn k env3 t3, fun σ3 H3 h => ⟨k, Nat.lt_succ_self k, h⟩, P, os1, env1, t2, _, Kr, r2, k3, fun os3 env3 t3 σ3 H3 k4 r3 f3 => ?_, qr⟩
          exact ⟨wipeO os3 w, wipeS env3 w, t3, r3.lose w, (f2.trans f3).trans (lose r3), by rw [← hf]; exact k4⟩
end
end G

set_option maxHeartbeats 2000000
namespace G
open PySem PySem.Spec PyProof.Rows L2
theorem get_list {X : Cx} : PGet X (rIxL X.K) := by
  intro pins s σ H o i ov iv Q I ro ri h
  obtain ⟨p, xs, k, z, rfl, rfl, hq, he, q⟩ := h
  cases ro
  obtain ⟨t, rfl⟩ := ri
  obtain ⟨its, r, pl, hz⟩ := I.list hq
  obtain ⟨j, h1, h2, h3, h4, h5⟩ := atI_get he
  obtain ⟨w, ew, rw'⟩ := r.get h2
  have hl := r.length
  have hn := line63
  have fin : EP X pins σ Q w s := ⟨z, H, I, rw', q⟩
  by_cases h0 : 0 ≤ k
  · have hj : k.toNat = j := by
      rw [seqIndex_of h0 h5] at h1
      exact Option.some.inj h1
    exact wpAny_getItem_list pl.isList h0 (by omega) (by rw [hj]; simpa using ew) fin
  · have hj : (k + (its.toArray.size : Int)).toNat = j := by
      rw [seqIndex_neg (by omega) h4] at h1
      rw [List.size_toArray, ← hl]
      exact Option.some.inj h1
    exact wpAny_getItem_list_neg pl.isList (by omega) (by rw [List.size_toArray] <;> omega) (by omega) (by rw [hj]; simpa using ew) fin
theorem asg_sub {env : PySem.Env} {o i : Expr} {p : Pos} (h : notSlice i = true) : ∀ v, assign (.Subscript o i p) env v = (do
      let ov ← holding [v] (eval o env)
      let iv ← holding [v, ov] (eval i env)
      standAt p
      holding [v, ov, iv] (setItem ov iv v)
      release [v, ov, iv] []) := by
  intro v
  cases i <;> first | rfl | (simp [notSlice] at h)
theorem aug_sub {i : Expr} (h : notSlice i = true) : ∀ ov iv new, augStore i ov iv new = (do holding [new, ov, iv] (setItem ov iv new); release [new, ov, iv] []; pure .next) := by
  intro a b c
  cases i <;> first | rfl | (simp [notSlice] at h)
theorem ixN_at {α : Type} {xs : List α} {n : Int} {j : Nat} (h : ixN xs.length n = some j) : atI xs n = xs[j]? := by
  unfold atI
  rw [h]; rfl
section
variable {T : Tab} {c : Cal} {lv : Nat} {N : List Str}
theorem q_seti (i : Nat) (k x : Ex) : SSOK T c lv N (.seti i k x) := by
  refine .of rfl fun X st g hk n m => ?_
  cases st <;> first | (cases (show false = true from m)) | skip
  rename_i tgs e pos
  match tgs, m with
  | [.Subscript (.Name y py) ek ps], m =>
    have m' : (kd x == 0 && kd k == 0 && strictX x && notSlice ek && nameOk N X.env.scope i y && !isComp e && mt.go T N X.fn X.env.scope k ek && mt.go T N X.fn X.env.scope x e) = true := m
    simp only [Bool.and_eq_true, beq_iff_eq, Bool.not_eq_true'] at m'
    obtain ⟨⟨⟨⟨⟨⟨⟨k1, k2⟩, h1⟩, h2⟩, h3⟩, h4⟩, h5⟩, h6⟩ := m'
    refine (ps_asg ((sound x).pe k1 X e g n h6) (pg_sub (pe_slot n h3) ((sound k).pe k2 X ek g n h5) set_list (asg_sub h2)) swaps_sub swst_sub rfl).weaken fun D σ H ⟨P, os, env, t, Kn, Kr, rr, ev, qn, qr⟩ => ?_
    simp only [evS] at ev
    split at ev
    · rename_i xs hs
      refine ⟨P, os, env, t, _, rr, ev, fun d t1 v H1 kx rr1 o1 => ?_⟩
      obtain ⟨p, vs, e1, e2, e3⟩ := own_slot rr1 hs
      refine ⟨.ref p, e1, P, os, env, t1, _, rr1, kx, fun d2 t2 v2 H2 ky rr2 o2 => ?_⟩
      cases d2 <;> try exact False.elim ky
      rename_i kn
      have hw := o2.w.int
      subst hw
      obtain ⟨p', vs', f1, f2, f3⟩ := own_slot rr2 hs
      rw [e1] at f1; cases f1
      have ky' : match ixN xs.length kn with | some j => Kn (setS env i (some (.own (xs.set j d)))) t2 | none => False := ky
      cases hj : ixN xs.length kn with
      | none => rw [hj] at ky'; exact ky'.elim
      | some j =>
        rw [hj] at ky'
        have sv : Rep P.pT (Own P os) H2 v d := (o1.s h1).grow o2.grow rr1.ook.tp
        obtain ⟨r2, fr⟩ := rr2.updOwn hs e1 f2 (f3.set sv j)
        refine ⟨p, vs', kn, j, rfl, rfl, f2, by rw [f3.length]; exact hj, qn _ _ t2 σ _ ky' r2 ?_⟩
        exact (Frame.of_grow (o1.grow.trans o2.grow) fun a h => ⟨.inl h, rr.npt h⟩).trans fr
    · exact ev.elim
theorem q_augi (i : Nat) (k x : Ex) : SSOK T c lv N (.augi i k x) := by
  refine .of rfl fun X st g hk n m => ?_
  cases st <;> first | (cases (show false = true from m)) | skip
  rename_i tg op e pos
  match tg, op, m with
  | .Subscript (.Name y py) ek ps, .Add, m =>
    have m' : (kd x == 0 && kd k == 0 && notSlice ek && nameOk N X.env.scope i y && mt.go T N X.fn X.env.scope k ek && mt.go T N X.fn X.env.scope x e) = true := m
    simp only [Bool.and_eq_true, beq_iff_eq] at m'
    obtain ⟨⟨⟨⟨⟨k1, k2⟩, h2⟩, h3⟩, h5⟩, h6⟩ := m'
    refine (ps_augS (pe_slot n h3) ((sound k).pe k2 X ek g n h5) get_list ((sound x).pe k1 X e g n h6) ip_add set_list (aug_sub h2)).weaken fun D σ H ⟨P, os, env, t, Kn, Kr, rr, ev, qn, qr⟩ => ?_
    simp only [evS] at ev
    split at ev
    · rename_i xs hs
      obtain ⟨p, vs, e1, e2, e3⟩ := own_slot rr hs
      refine ⟨.ref p, e1, P, os, env, t, _, rr, ev, fun d t1 v H1 kx rr1 o1 => ?_⟩
      cases d <;> try exact False.elim kx
      rename_i kn
      have hw := o1.w.int
      subst hw
      obtain ⟨p', vs', f1, f2, f3⟩ := own_slot rr1 hs
      rw [e1] at f1; cases f1
      have kx' : match ixN xs.length kn with
        | some j => (match xs[j]? with | some (.int v) => evE c x env t1 fun d t2 => intW d fun m => Kn (setS env i (some (.own (xs.set j (.int (v + m)))))) t2 | _ => False)
        | none => False := kx
      cases hj : ixN xs.length kn with
      | none => rw [hj] at kx'; exact kx'.elim
      | some j =>
        rw [hj] at kx'
        simp only at kx'
        split at kx'
        · rename_i v0 hx
          obtain ⟨w, hw, rw'⟩ := f3.get hx
          cases rw'
          refine ⟨p, vs', kn, _, rfl, rfl, .of f2, by rw [ixN_at (by rw [f3.length]; exact hj)]; exact hw, P, os, env, t1, _, rr1, kx', fun d t2 v H2 ky rr2 o2 => ?_⟩
          cases d <;> try exact False.elim ky
          rename_i m0
          have hw2 := o2.w.int
          subst hw2
          obtain ⟨p2, vs2, g1, g2, g3⟩ := own_slot rr2 hs
          rw [e1] at g1; cases g1
          have sv : Rep P.pT (Own P os) H2 (.int (v0 + m0)) (.int (v0 + m0)) := .int _
          obtain ⟨r2, fr⟩ := rr2.updOwn hs e1 g2 (g3.set sv j)
          refine ⟨v0, m0, rfl, rfl, p, vs2, kn, j, rfl, rfl, g2, by rw [g3.length]; exact hj, qn _ _ t2 σ _ ky r2 ?_⟩
          exact (Frame.of_grow (o1.grow.trans o2.grow) fun a h => ⟨.inl h, rr.npt h⟩).trans fr
        · exact kx'.elim
    · exact ev.elim
theorem q_rais : SSOK T c lv N .rais := by
  refine .of rfl fun X st g hk n m => ?_
  refine PS.weaken (t := fun _ _ _ => False) ⟨fun p s σ H Q I q => q.elim⟩ fun D σ H ⟨P, os, env, t, Kn, Kr, rr, ev, qn, qr⟩ => ?_
  exact ev
theorem q_no {x : St} (h : ∀ fn sc sts, ms T N fn sc x sts = false) : SSOK T c lv N x := by
  refine ⟨fun X sts g hk n m => ?_, fun _ X st g hk n m => ?_⟩
  · rw [h] at m; cases m
  · rw [h] at m; cases m
theorem soundS : ∀ x, SSOK T c lv N x
  | .skip => q_skip
  | .seq a b => q_seq (soundS a) (soundS b)
  | .asg tg x => q_asg tg x
  | .asgO i x => q_asgO i x
  | .asgO2 _ _ => q_no fun _ _ _ => rfl
  | .par i j a b => q_par i j a b
  | .aug o i x => q_aug o i x
  | .app i x => q_app i x
  | .ext i x => q_ext i x
  | .seti i k x => q_seti i k x
  | .augi i k x => q_augi i k x
  | .app2 _ _ _ => q_no fun _ _ _ => rfl
  | .ext2 _ _ _ => q_no fun _ _ _ => rfl
  | .ifs g a b => q_ifs g (soundS a) (soundS b)
  | .for_ tg it b w => q_for tg it w (soundS b)
  | .while_ g b w => q_while g w (soundS b)
  | .ret x => q_ret x
  | .retN => q_retN
  | .expr x => q_expr x
  | .frz _ => q_no fun _ _ _ => rfl
  | .drop _ => q_no fun _ _ _ => rfl
  | .rais => q_rais
end
end G

set_option maxHeartbeats 2000000
namespace G
open PySem PySem.Spec PyProof.Rows L2
/-! ### defs -/
structure Fd where
  name : Str
  ps : List Str
  N : List Str
  kw : Bool
  body : St
abbrev inf (B : List Fd) : List DefI := B.map fun d => ⟨d.name, d.ps, d.kw⟩
def env0 (N : List Str) (ds : List PyData) : Env := ds.map (fun d => some (.val d)) ++ List.replicate (N.length - ds.length) none
/-- what the defs compute, calls so deep at most -/
def sem (B : List Fd) : Nat → Cal
  | 0, _, _, _, _ => False
  | k + 1, f, ds, t, K => match B[f]? with
    | some d => ds.length = d.ps.length ∧ evS (sem B k) d.body (env0 d.N ds) t (fun _ t' => K .none t') K
    | none => False
def scB (N ps : List Str) (sc : Scope) : Bool :=
  (match sc.kind with | .function => true | _ => false) && !sc.isCoroutine && !sc.isGenerator && decide N.Nodup && decide (N.take ps.length = ps) &&
  ps.all (fun x => sc.names.lookup x == some .local || sc.names.lookup x == some .cell) && sc.names.all fun y => y.2 != .free
theorem sc_of {N ps : List Str} {sc : Scope} (h : scB N ps sc = true) : FnScope N ps sc := by
  unfold scB at h
  simp only [Bool.and_eq_true, Bool.not_eq_true', decide_eq_true_eq, List.all_eq_true, Bool.or_eq_true, beq_iff_eq, bne_iff_ne] at h
  obtain ⟨⟨⟨⟨⟨⟨h1, h2⟩, h3⟩, h4⟩, h5⟩, h6⟩, h7⟩ := h
  refine ⟨?_, h2, h3, h4, h5, h6, h7⟩
  split at h1
  · assumption
  · cases h1
def allFn : Str → Bool := fun _ => true
theorem slots0 {K : PySem.W.Frag} {P : Par} {O : Addr → Prop} {H : Hp} : ∀ {vs : List V} {ds : List PyData} (m : Nat), RepL P.pT O H vs ds →
    SlotsOk K P O H (ds.map (fun d => some (.val d)) ++ List.replicate m none) (vs.map some ++ List.replicate m none) (List.replicate (vs.length + m) [])
  | _, _, 0, .nil => trivial
  | _, _, m + 1, .nil => by
    have := slots0 (K := K) (P := P) (O := O) (H := H) m .nil
    simp only [List.map_nil, List.nil_append, List.length_nil, Nat.zero_add] at this ⊢
    rw [List.replicate_succ, List.replicate_succ, List.replicate_succ]
    exact ⟨rfl, this⟩
  | v :: vs, d :: ds, m, .cons a b => by
    have := slots0 (K := K) m b
    rw [List.length_cons, show vs.length + 1 + m = (vs.length + m) + 1 by omega, List.replicate_succ]
    exact ⟨⟨rfl, v, rfl, a⟩, this⟩
theorem flat_nil (n : Nat) : (List.replicate n ([] : List Addr)).flatten = [] := by
  induction n with
  | zero => rfl
  | succ n ih => rw [List.replicate_succ, List.flatten_cons, ih]; rfl
theorem own_nil {P : Par} {n : Nat} {a : Addr} : Own P (List.replicate n []) a ↔ P.B a := by
  unfold Own
  rw [flat_nil]
  exact ⟨fun h => h.elim id fun z => (by simp at z), .inl⟩
/-- the invariant at a def's entry -/
theorem rr0 {K : PySem.W.Frag} {pT : Option Addr} {O : Addr → Prop} {H : Hp} {vs : List V} {ds : List PyData} {t : Tp} {N : List Str} (ok : OOk pT O H) (r : RepL pT O H vs ds) (ht : ∀ ts, t = some ts → ∃ p, pT = some p ∧ H p = some (.lst (ts.map .int))) :
    RR K ⟨O, pT, H⟩ (List.replicate (vs.length + (N.length - ds.length)) []) (env0 N ds) t (L2.start N vs) H := by
  refine ⟨?_, by rw [flat_nil]; exact .nil, ht, ok.tp, ok.live, .refl⟩
  have h := slots0 (K := K) (P := ⟨O, pT, H⟩) (N.length - ds.length) r
  have e : N.length - ds.length = N.length - vs.length := by rw [r.length]
  unfold L2.start env0
  rw [← e]
  exact h.map fun e s as _ h => h.mono (fun a o q _ => q) fun a z => .inl (own_nil.mp z)
section
variable {T : Tab} {P : Program} {w : World} {K : PySem.W.Frag} {mg : Str → Option Value} {base : Heap} {lv : Nat} {c : Cal}
/-- what is known of the file's names -/
structure Glb (T : Tab) (mg : Str → Option Value) : Prop where
  free : ∀ x ∈ bltNames, mg x = none
  glob : ∀ p ∈ T.gl, ∃ t, mg p.1 = some (.int p.2 t)
  rp : T.rp = false
/-- a def as it stands -/
structure DefOk (T : Tab) (K : PySem.W.Frag) (mg : Str → Option Value) (d : Fd) (st : Stmt) (a : Addr) (fd : FuncData) : Prop where
  mg : mg d.name = some (.ref a)
  fn : Fun K d.name d.name st a fd
  binds : Binds K fd d.ps []
  kws : d.kw = true → KWB K fd d.ps
  sc : scB d.N d.ps (defScope st) = true
def DrawOk (P : Program) (w : World) (K : PySem.W.Frag) (mg : Str → Option Value) (base : Heap) (lv : Nat) : Prop :=
  ∃ a fd, mg "_law_next" = some (.ref a) ∧ PySem.W.keepIn K (.ref a) = true ∧ Binds K fd ["drawn"] [] ∧ FnOk P w K mg base CX0 lv a fd ["drawn"] spDraw
def DefsOk (T : Tab) (c : Cal) (P : Program) (w : World) (K : PySem.W.Frag) (mg : Str → Option Value) (base : Heap) (lv : Nat) : Prop :=
  ∀ f d, T.D[f]? = some d → ∃ a fd, mg d.name = some (.ref a) ∧ PySem.W.keepIn K (.ref a) = true ∧ Binds K fd d.ps [] ∧ FnOk P w K mg base CX0 lv a fd d.ps (spOf c f) ∧ (d.kw = true → KWB K fd d.ps)
theorem good_of {T : Tab} {N ps : List Str} {x : Str} {sc : Scope} {f : Addr} {cdv : Value} {A : Around} {outer : List PySem.Env} {s : Shared} {H : Hp} {E : XK} (S : FnScope N ps sc) (hr : Room lv (A.deeper (envOfC x sc s.heap.objs.size f cdv)))
    (G : Glb T mg) (D : DefsOk T c P w K mg base lv) (W : DrawOk P w K mg base lv) : Good T c lv (cxOf CX0 P w K mg base N x sc f cdv A outer s H E).nox :=
  ⟨rfl, S.nd, hr, rfl, G.free, G.glob, fun z => absurd (G.rp.symm.trans z) (by decide), D, W⟩
theorem step {B : List Fd} {k f : Nat} {d : Fd} {st : Stmt} {a : Addr} {fd : FuncData} (hB : B[f]? = some d) (hT : T.D = inf B) (O : DefOk T K mg d st a fd) (m : ms T d.N allFn (defScope st) d.body (defBody st) = true)
    (G : Glb T mg) (D : DefsOk T (sem B k) P w K mg base lv) (W : DrawOk P w K mg base lv) : FnOk P w K mg base CX0 (lv + 1) a fd d.ps (spOf (sem B (k + 1)) f) := by
  have S := sc_of O.sc
  refine O.fn.ok S (fun vs H Q E h => ?_) (fun cdv A outer s H vs Q E hr h => ?_)
  · obtain ⟨pT, O', ds, t, Kx, ok, r, ht, ev, q⟩ := h
    have ev' : (match B[f]? with | some d => ds.length = d.ps.length ∧ evS (sem B k) d.body (env0 d.N ds) t (fun _ t' => Kx .none t') Kx | none => False) := ev
    rw [hB] at ev'
    rw [r.length]; exact ev'.1
  · obtain ⟨pT, O', ds, t, Kx, ok, r, ht, ev, q⟩ := h
    have ev' : (match B[f]? with | some d => ds.length = d.ps.length ∧ evS (sem B k) d.body (env0 d.N ds) t (fun _ t' => Kx .none t') Kx | none => False) := ev
    rw [hB] at ev'
    refine ⟨_, (soundS (T := T) (c := sem B k) (lv := lv) (N := d.N) d.body).go _ _ (good_of S hr G D W) S.kind rfl m, ⟨O', pT, H⟩, _, _, t, fun _ t' => Kx .none t', Kx, rr0 ok r ht, ev'.2, fun os' env' t' σ' H' kx rr fr => ?_, fun d t' v H' kx ro => ?_⟩
    · exact q .none t' .non H' kx rr.grow rr.tape (fun p e => rr.live p (rr.ptB p e)) .non
    · exact q d t' v H' kx ro.grow ro.tape ro.hl ro.rep
theorem defs0 {B : List Fd} (hT : T.D = inf B) (hD : ∀ (f : Nat) (d : Fd), B[f]? = some d → ∃ st a fd, DefOk T K mg d st a fd ∧ ms T d.N allFn (defScope st) d.body (defBody st) = true) : DefsOk T (sem B 0) P w K mg base 1 := by
  intro f d hd
  rw [hT] at hd
  unfold inf at hd
  rw [List.getElem?_map] at hd
  cases e : B[f]? with
  | none => rw [e] at hd; cases hd
  | some d0 =>
    rw [e] at hd; cases hd
    obtain ⟨st, a, fd, O, m⟩ := hD f d0 e
    refine ⟨a, fd, O.mg, O.fn.kp, O.binds, O.fn.ok (sc_of O.sc) (fun vs H Q E h => ?_) (fun cdv A outer s H vs Q E hr h => ?_), O.kws⟩
    · obtain ⟨pT, O', ds, t, Kx, ok, r, ht, ev, q⟩ := h
      exact (show False from ev).elim
    · obtain ⟨pT, O', ds, t, Kx, ok, r, ht, ev, q⟩ := h
      exact (show False from ev).elim
/-- every def does what sem tells -/
theorem defs_ok {B : List Fd} (hT : T.D = inf B) (hD : ∀ (f : Nat) (d : Fd), B[f]? = some d → ∃ st a fd, DefOk T K mg d st a fd ∧ ms T d.N allFn (defScope st) d.body (defBody st) = true) (G : Glb T mg) (W : DrawOk P w K mg base 1) : ∀ k, DefsOk T (sem B k) P w K mg base (k + 1)
  | 0 => defs0 hT hD
  | k + 1 => by
    have ih := defs_ok hT hD G W k
    intro f d hd
    have hd' := hd
    rw [hT] at hd
    unfold inf at hd
    rw [List.getElem?_map] at hd
    cases e : B[f]? with
    | none => rw [e] at hd; cases hd
    | some d0 =>
      rw [e] at hd; cases hd
      obtain ⟨st, a, fd, O, m⟩ := hD f d0 e
      obtain ⟨a1, f1, w1, w2, w3, w4⟩ := W
      exact ⟨a, fd, O.mg, O.fn.kp, O.binds, step e hT O m G ih ⟨a1, f1, w1, w2, w3, w4.mono (by omega)⟩, O.kws⟩
end
end G

set_option maxHeartbeats 2000000
namespace G
open PySem PySem.Spec PyProof.Rows L2
/-! ### the next number of the tape -/
theorem canLay_ints : ∀ ns : List Int, PyData.canLayAll0 (ns.map .int) = true ∧ PyData.depthAll (ns.map .int) = 0
  | [] => ⟨rfl, rfl⟩
  | n :: ns => by
    obtain ⟨h1, h2⟩ := canLay_ints ns
    simp only [List.map_cons, PyData.canLayAll0, PyData.canLay0, h1, PyData.depthAll, PyData.depth, h2]
    exact ⟨rfl, rfl⟩
theorem shaped_ints (ns : List Int) : eqOk (.list (ns.map .int)) := by
  obtain ⟨h1, h2⟩ := canLay_ints ns
  unfold eqOk SeqAt.shaped
  simp only [PyData.canLay0, h1, PyData.depth, h2, Bool.true_and, decide_eq_true_eq]
  omega
theorem eqv_nil (ns : List Int) : PyData.eqv (.list (ns.map .int)) (.list []) = ns.isEmpty := by
  cases ns <;> rfl
def nextB : List Stmt → Bool
  | [.If (.Compare (.Name y _) [.Eq] [.List [] _] _) [.Return (some (.Constant (.int 0) _ _)) _] [] _, .Return (some (.Call (.Attribute (.Name z _) nm ap) [.Constant (.int 0) _ _] [] cp)) _] =>
    decide (y = ("drawn" : Str)) && decide (z = ("drawn" : Str)) && decide (nm = ("pop" : Str)) && (ap.endLine == cp.line)
  | _ => false
section
variable {T : Tab} {P : Program} {w : World} {K : PySem.W.Frag} {mg : Str → Option Value} {base : Heap} {lv : Nat} {c : Cal}
theorem next_ok {x : Str} {st : Stmt} {a : Addr} {fd : FuncData} (F : Fun K x x st a fd) (hs : scB ["drawn"] ["drawn"] (defScope st) = true) (m : nextB (defBody st) = true) : FnOk P w K mg base CX0 (lv + 1) a fd ["drawn"] spDraw := by
  have S := sc_of hs
  refine F.ok S (fun vs H Q E h => ?_) (fun cdv A outer s H vs Q E hr h => ?_)
  · obtain ⟨p, ts, rfl, _⟩ := h; rfl
  · obtain ⟨p, ts, rfl, hp, q⟩ := h
    unfold nextB at m
    split at m
    · rename_i y p1 p2 p3 k1 p4 p5 p6 z p7 nm ap k2 p8 cp p9 hb
      simp only [Bool.and_eq_true, decide_eq_true_eq] at m
      obtain ⟨⟨⟨e1, e2⟩, e3⟩, h4⟩ := m
      subst e1 e2 e3
      rw [hb]
      have vis : Vis (defScope st) "drawn" := by
        rcases S.par "drawn" (by simp) with k | k
        · exact .inl k
        · exact .inr (.inl k)
      have hu : Around.units (A.deeper (envOfC x (defScope st) s.heap.objs.size a cdv)) + 64 < cLine := hr.units
      generalize hX : (cxOf CX0 P w K mg base ["drawn"] x (defScope st) a cdv A outer s H E).nox = X
      have pv : ∀ pos, PE X (.Name "drawn" pos) (tVar 0) := fun pos => by
        subst hX
        exact pe_var rfl vis (by decide) (by decide)
      have hu' : X.A.units + 64 < cLine := by subst hX; exact hu
      refine ⟨_, pss_cons (ps_if (pt_cmpR (ok_cmp hu' (o := .eq) rfl) (pv _) (pe_lst pa_nil) (behind_none rfl)) (pss_one (ps_ret pe_int)) pss_nil)
        (pss_one (ps_ret (pe_bm PySem.F.plainAttrs_list PySem.F.slot_list_pop PySem.F.type_list_pop mt_popAt (pv _) (pa_cons pe_int pa_nil) rfl rfl h4 rfl rfl))), ?_⟩
      refine ⟨.ref p, rfl, Nat.zero_le _, fun o no => ?_⟩
      have g1 : ∀ a u, H a = some u → (upd H o (.lst [])) a = some u := fun a u e => by rw [upd_ne (ne_of_none e no)]; exact e
      refine ⟨none, fun _ => False, .list (ts.map .int), .list [], fun z => z = .bool ts.isEmpty, ⟨fun _ e => (nomatch e), fun _ z => z.elim⟩, .inl (.lst (g1 _ _ hp) id (.of_ints ts)), .inl (.lst upd_same id .nil), ⟨shaped_ints ts, shaped_ints [], by rw [eqv_nil]⟩, fun z v H1 kz oz gz => ?_⟩
      subst kz
      have hv := oz.w.bool
      subst hv
      have g2 : ∀ a u, H a = some u → H1 a = some u := fun a u e => gz a u (g1 a u e) (by simp)
      obtain ⟨q1, q2⟩ := q H1 g2
      refine ⟨_, rfl, ?_⟩
      cases ts with
      | nil => exact q1 rfl
      | cons n ns =>
        refine ⟨.ref p, rfl, .inl ⟨rfl, _, .of (g2 _ _ hp)⟩, ?_⟩
        refine ⟨p, _, 0, 0, .int n, rfl, rfl, g2 _ _ hp, by decide, by decide, ?_, rfl, ?_⟩
        · rw [seqIndex_of (by decide) (by simp only [List.length_map, List.length_cons]; omega)]; rfl
        · exact q2 n ns rfl
    · cases m
end
end G

set_option maxHeartbeats 2000000
namespace G
open PySem PySem.Spec PyProof.Rows L2
/-! ### plain loops -/
theorem forW_inv {f : PyData → Env → Tp → (Env → Tp → Prop) → Prop} (I : Nat → Env → Tp → Prop) : ∀ (xs : List PyData) (n0 : Nat) {e : Env} {t : Tp} {K : Env → Tp → Prop}, I n0 e t →
    (∀ i x e t K', xs[i]? = some x → I (n0 + i) e t → (∀ e' t', I (n0 + i + 1) e' t' → K' e' t') → f x e t K') → (∀ e t, I (n0 + xs.length) e t → K e t) → forW f xs e t K
  | [], n0, e, t, K, h0, hs, hd => hd e t h0
  | x :: xs, n0, e, t, K, h0, hs, hd => by
    refine hs 0 x e t _ rfl h0 fun e' t' h => ?_
    refine forW_inv I xs (n0 + 1) h (fun i y e t K' hi hI hK => hs (i + 1) y e t K' hi (by rw [show n0 + (i + 1) = n0 + 1 + i by omega]; exact hI) fun e' t' z => hK e' t' (by rw [show n0 + 1 + i + 1 = n0 + (i + 1) + 1 by omega]; exact z)) fun e t h => hd e t (by rw [List.length_cons, show n0 + (xs.length + 1) = n0 + 1 + xs.length by omega]; exact h)
theorem rngD_at {lo : Int} {n i : Nat} {x : PyData} (h : (rngD lo n)[i]? = some x) : i < n ∧ x = .int (lo + i) := by
  unfold rngD at h
  rw [List.getElem?_map] at h
  by_cases hi : i < n
  · rw [List.getElem?_range hi] at h
    cases h; exact ⟨hi, rfl⟩
  · rw [List.getElem?_eq_none (by simpa using hi)] at h; cases h
theorem forW_rng {f : PyData → Env → Tp → (Env → Tp → Prop) → Prop} (I : Nat → Env → Tp → Prop) {lo : Int} {n : Nat} {e : Env} {t : Tp} {K : Env → Tp → Prop} (h0 : I 0 e t)
    (hs : ∀ i, i < n → ∀ e t (K' : Env → Tp → Prop), I i e t → (∀ e' t', I (i + 1) e' t' → K' e' t') → f (.int (lo + i)) e t K') (hd : ∀ e t, I n e t → K e t) : forW f (rngD lo n) e t K := by
  refine forW_inv I (rngD lo n) 0 h0 (fun i x e t K' hx hI hK => ?_) fun e t h => ?_
  · obtain ⟨hi, rfl⟩ := rngD_at hx
    rw [Nat.zero_add] at hI hK
    exact hs i hi e t K' hI hK
  · rw [rngD_len, Nat.zero_add] at h; exact hd e t h
theorem whileW_inv {c : Env → Tp → (Bool → Tp → Prop) → Prop} {f : Env → Tp → (Env → Tp → Prop) → Prop} {K : Env → Tp → Prop} (I : Nat → Env → Tp → Prop)
    (hs : ∀ m e t (K2 : Env → Tp → Prop), I m e t → (∀ m' e' t', m = m' + 1 → I m' e' t' → K2 e' t') → c e t fun b t' => if b = true then f e t' K2 else K e t') : ∀ m {e t}, I m e t → whileW c f K (m + 1) e t
  | 0, e, t, h => hs 0 e t _ h fun m' e' t' z => by omega
  | m + 1, e, t, h => hs (m + 1) e t _ h fun m' e' t' z h' => by
    have : m' = m := by omega
    subst this
    exact whileW_inv I hs m' h'
theorem compW_inv {f : PyData → Tp → (Option PyData → Tp → Prop) → Prop} (I : Nat → List PyData → Tp → Prop) : ∀ (xs : List PyData) (n0 : Nat) {acc : List PyData} {t : Tp} {K : List PyData → Tp → Prop}, I n0 acc t →
    (∀ i x acc t (K' : Option PyData → Tp → Prop), xs[i]? = some x → I (n0 + i) acc t → (∀ o t', I (n0 + i + 1) (match o with | some x => acc ++ [x] | none => acc) t' → K' o t') → f x t K') → (∀ acc t, I (n0 + xs.length) acc t → K acc t) → compW f xs acc t K
  | [], n0, e, t, K, h0, hs, hd => hd e t h0
  | x :: xs, n0, e, t, K, h0, hs, hd => by
    refine hs 0 x e t _ rfl h0 fun e' t' h => ?_
    refine compW_inv I xs (n0 + 1) h (fun i y e t K' hi hI hK => hs (i + 1) y e t K' hi (by rw [show n0 + (i + 1) = n0 + 1 + i by omega]; exact hI) fun e' t' z => hK e' t' (by rw [show n0 + 1 + i + 1 = n0 + (i + 1) + 1 by omega]; exact z)) fun e t h => hd e t (by rw [List.length_cons, show n0 + (xs.length + 1) = n0 + 1 + xs.length by omega]; exact h)
/-! ### sizes -/
theorem mulOk_small {i j : Int} (hi : i.natAbs < 2 ^ 60000000) (hj : j.natAbs < 2 ^ 60000000) : mulOk i j := by
  have one : ∀ n : Nat, n < 2 ^ 60000000 → n.log2 ≤ 60000000 := fun n h => by
    by_cases z : n = 0
    · rw [z]; exact Nat.zero_le _
    · exact Nat.le_of_lt ((Nat.log2_lt z).mpr h)
  unfold mulOk
  have h1 := one _ hi
  have h2 := one _ hj
  omega
theorem mulOk_of {i j : Int} {a b : Nat} (hi : i.natAbs < 2 ^ a) (hj : j.natAbs < 2 ^ b) (h : a + b < 134000000) : mulOk i j := by
  have one : ∀ (n a : Nat), n < 2 ^ a → n.log2 ≤ a := fun n a h => by
    by_cases z : n = 0
    · rw [z]; exact Nat.zero_le _
    · exact Nat.le_of_lt ((Nat.log2_lt z).mpr h)
  unfold mulOk
  have h1 := one _ _ hi
  have h2 := one _ _ hj
  omega
theorem divOk_of {i j : Int} (h0 : j ≠ 0) (hj : j.natAbs.log2 < 8970) : divOk i j := by
  refine ⟨h0, ?_⟩
  unfold Builtin.divisionGoesByPylong
  rw [Bool.and_eq_false_iff]
  left
  rw [decide_eq_false_iff_not]
  simp only []
  split <;> omega
theorem divOk_k {i j : Int} (h0 : 0 < j) (hj : j < 2 ^ 100) : divOk i j := by
  refine divOk_of (by omega) ?_
  have z : j.natAbs ≠ 0 := by omega
  have : j.natAbs < 2 ^ 100 := by omega
  have := (Nat.log2_lt z).mpr this
  omega
end G

set_option maxHeartbeats 2000000
namespace G
open PySem PySem.Spec PyProof.Rows L2
theorem x_listW {xs : List PyData} {K : List PyData → Prop} (h : K xs) : listW (.list xs) K := h
/-! ### the draws -/
def Bd : Int := 2147483629
def mixB : St := .seq (.asg (.nm 2) (.op .mod (.op .add (.op .add (.op .mul (.op .mod (.var 0) (.int 2147483647)) (.int 48271)) (.op .mul (.op .mul (.int 7919) (.var 1)) (.var 1))) (.int 104729)) (.int 2147483647)))
  (.seq (.ret (.op .mod (.op .mul (.var 2) (.var 2)) (.int 2147483629))) .skip)
def mixF : Fd := ⟨"_law_mixed", ["cell", "k"], ["cell", "k", "number"], false, mixB⟩
def e18 : Ex := .op .pow (.int 10) (.int 18)
def dr1 (m : Nat) : St := .for_ (.nm 4) (.irng1 (.int 12)) (.seq (.app 1 (.call m (.cons (.call m (.cons (.var 3) (.cons (.op .add (.op .mul (.int 3) (.var 4)) (.int 1)) .nil))) (.cons (.op .add (.op .add (.var 4) (.var 2)) (.int 2)) .nil)))) .skip) []
def dr2 : St := .while_ (.and (.op .ge (.var 3) e18) (.op .lt (.bi .len (.cons (.own 1) .nil)) (.int 900))) (.seq (.app 1 (.op .mod (.var 3) (.int 2147483629))) (.seq (.asg (.nm 3) (.op .fdiv (.var 3) (.int 2147483629))) .skip)) []
def drB (m : Nat) : St := .seq (.asg (.nm 3) (.bi .abs (.cons (.sidx 0 (.var 2)) .nil))) (.seq (.ifs (.op .lt (.var 3) e18) (.seq (dr1 m) .skip) .skip) (.seq dr2 (.seq (.ifs (.op .ge (.var 3) (.int 2147483629)) (.seq (.app 1 (.op .mod (.var 3) (.int 2147483629))) .skip) .skip) .skip)))
def drS (m : Nat) : St := .for_ (.nm 2) (.irng1 (.bi .min2 (.cons (.slen 0) (.cons (.int 63) .nil)))) (drB m) []
def drN : List Str := ["script", "drawn", "k", "cell", "j"]
theorem fmod_in (a : Int) {b : Int} (h : 0 < b) : 0 ≤ a.fmod b ∧ a.fmod b < b := ⟨Int.fmod_nonneg_of_pos a h, Int.fmod_lt_of_pos a h⟩
theorem nat_lt {i : Int} {n : Nat} (h1 : -(2 ^ n : Int) < i) (h2 : i < 2 ^ n) : i.natAbs < 2 ^ n := by
  have : ((2 ^ n : Nat) : Int) = (2 : Int) ^ n := by norm_cast
  omega
theorem mix_ok {B : List Fd} {k m : Nat} (hm : B[m]? = some mixF) {cell kk : Int} {t : Tp} {K : PyData → Tp → Prop} (hk : 0 ≤ kk ∧ kk < 1000) (q : ∀ r : Int, 0 ≤ r → r < Bd → K (.int r) t) : sem B (k + 1) m [.int cell, .int kk] t K := by
  show match B[m]? with | some d => _ ∧ evS (sem B k) d.body (env0 d.N [.int cell, .int kk]) t (fun _ t' => K .none t') K | none => False
  rw [hm]
  refine ⟨rfl, ?_⟩
  have b1 := fmod_in cell (b := 2147483647) (by omega)
  have b2 := fmod_in (cell.fmod 2147483647 * 48271 + 7919 * kk * kk + 104729) (b := 2147483647) (by omega)
  have b3 := fmod_in ((cell.fmod 2147483647 * 48271 + 7919 * kk * kk + 104729).fmod 2147483647 * (cell.fmod 2147483647 * 48271 + 7919 * kk * kk + 104729).fmod 2147483647) (b := 2147483629) (by omega)
  refine ⟨by decide, mulOk_of (a := 40) (b := 40) (by omega) (by decide) (by decide), mulOk_of (a := 40) (b := 40) (by decide) (by omega) (by decide), mulOk_of (a := 40) (b := 40) (by omega) (by omega) (by decide), by decide, mulOk_of (a := 40) (b := 40) (by omega) (by omega) (by decide), by decide, ?_⟩
  exact q _ b3.1 b3.2
/-- drawn numbers -/
def Drawn (ts : List Int) : Prop := ∀ x ∈ ts, 0 ≤ x ∧ x < Bd
theorem Drawn.app {ts : List Int} {x : Int} (h : Drawn ts) (h0 : 0 ≤ x) (h1 : x < Bd) : Drawn (ts ++ [x]) := fun y hy => by
  rcases List.mem_append.mp hy with hy | hy
  · exact h y hy
  · rw [List.mem_singleton] at hy; subst hy; exact ⟨h0, h1⟩
theorem map_app (ts : List Int) (x : Int) : ts.map PyData.int ++ [.int x] = (ts ++ [x]).map PyData.int := by simp
/-- the environment of the draws -/
def drE (ns ts : List Int) (a b c : Option Slot) : Env := [some (.scr ns), some (.own (ts.map .int)), a, b, c]
def SpMix (c : Cal) (m : Nat) : Prop := ∀ (cell kk : Int) (t : Tp) (K : PyData → Tp → Prop), 0 ≤ kk ∧ kk < 1000 → (∀ r : Int, 0 ≤ r → r < Bd → K (.int r) t) → c m [.int cell, .int kk] t K
theorem dr1_ok {c0 : Cal} {m : Nat} (hm : SpMix c0 m) {ns ts : List Int} {kk cell : Int} {c : Option Slot} {t : Tp} {Kn : Env → Tp → Prop} {Kr : PyData → Tp → Prop} (hk : 0 ≤ kk ∧ kk < 900) (hd : Drawn ts) (hl : ts.length < 100000)
    (q : ∀ ts' c', Drawn ts' → ts'.length ≤ ts.length + 12 → Kn (drE ns ts' (some (.val (.int kk))) (some (.val (.int cell))) c') t) : evS c0 (dr1 m) (drE ns ts (some (.val (.int kk))) (some (.val (.int cell))) c) t Kn Kr := by
  refine ⟨by decide, ?_⟩
  refine x_listW ?_
  refine forW_rng (fun i e t' => t' = t ∧ ∃ ts' c', e = drE ns ts' (some (.val (.int kk))) (some (.val (.int cell))) c' ∧ Drawn ts' ∧ ts'.length ≤ ts.length + i) ⟨rfl, ts, c, rfl, hd, by omega⟩ (fun i hi e t' K' ⟨ht, ts', c', he, h1, h2⟩ hK => ?_) (fun e t' ⟨ht, ts', c', he, h1, h2⟩ => ?_)
  · have hi : i < 12 := hi
    subst ht he
    refine ⟨mulOk_of (a := 40) (b := 40) (by decide) (by omega) (by decide), ?_⟩
    refine hm _ (3 * (0 + (i : Int)) + 1) _ _ (by omega) fun r r0 r1 => ?_
    refine hm _ (0 + (i : Int) + kk + 2) _ _ (by omega) fun r' r0' r1' => ?_
    refine ⟨by rw [List.length_map]; have : sizeLine = 2 ^ 24 := rfl; omega, ?_⟩
    refine hK _ _ ⟨rfl, ts' ++ [r'], some (.val (.int (0 + (i : Int)))), ?_, h1.app r0' r1', by rw [List.length_append, List.length_singleton]; omega⟩
    show _ = drE ns (ts' ++ [r']) _ _ _
    unfold drE
    rw [← map_app]; rfl
  · subst ht he
    exact q ts' c' h1 h2
theorem dr2_ok {c0 : Cal} {ns ts : List Int} {a c : Option Slot} {cell : Int} {t : Tp} {Kn : Env → Tp → Prop} {Kr : PyData → Tp → Prop} (hd : Drawn ts) (hl : ts.length < 100000)
    (q : ∀ ts' (cell' : Int), Drawn ts' → ts'.length ≤ max 900 ts.length → Kn (drE ns ts' a (some (.val (.int cell'))) c) t) : evS c0 dr2 (drE ns ts a (some (.val (.int cell))) c) t Kn Kr := by
  refine ⟨901, whileW_inv (fun m e t' => t' = t ∧ ∃ ts' cell', e = drE ns ts' a (some (.val (.int cell'))) c ∧ Drawn ts' ∧ ts'.length ≤ max 900 ts.length ∧ 900 ≤ ts'.length + m) (fun m e t' K2 ⟨ht, ts', cell', he, h1, h2, h3⟩ hK => ?_) 900 ⟨rfl, ts, cell, rfl, hd, by omega, by omega⟩⟩
  subst ht he
  have hlen : ((ts'.map PyData.int).length : Int) = ts'.length := by rw [List.length_map]
  refine ⟨by decide, ?_⟩
  by_cases c1 : (10 : Int) ^ 18 ≤ cell'
  · have e1 : decide ((10 : Int) ^ (18 : Int).toNat ≤ cell') = true := decide_eq_true c1
    show if decide ((10 : Int) ^ (18 : Int).toNat ≤ cell') = true then _ else _
    rw [e1, if_pos rfl]
    by_cases c2 : ts'.length < 900
    · have e2 : decide (((ts'.map PyData.int).length : Int) < 900) = true := decide_eq_true (by omega)
      show if decide (((ts'.map PyData.int).length : Int) < 900) = true then _ else _
      rw [e2, if_pos rfl]
      have b := fmod_in cell' (b := 2147483629) (by omega)
      refine ⟨by decide, by rw [List.length_map]; have : sizeLine = 2 ^ 24 := rfl; omega, divOk_k (by decide) (by decide), ?_⟩
      refine hK (m - 1) _ _ (by omega) ⟨rfl, ts' ++ [cell'.fmod 2147483629], cell'.fdiv 2147483629, ?_, h1.app b.1 b.2, by rw [List.length_append, List.length_singleton]; omega, by rw [List.length_append, List.length_singleton]; omega⟩
      unfold drE
      rw [← map_app]; rfl
    · have e2 : decide (((ts'.map PyData.int).length : Int) < 900) = false := decide_eq_false (by omega)
      show if decide (((ts'.map PyData.int).length : Int) < 900) = true then _ else _
      rw [e2, if_neg (by decide)]
      exact q _ _ h1 h2
  · have e1 : decide ((10 : Int) ^ (18 : Int).toNat ≤ cell') = false := decide_eq_false c1
    show if decide ((10 : Int) ^ (18 : Int).toNat ≤ cell') = true then _ else _
    rw [e1, if_neg (by decide)]
    exact q _ _ h1 h2
end G

set_option maxHeartbeats 2000000
namespace G
open PySem PySem.Spec PyProof.Rows L2
/-! ### steps of the plain evaluation -/
section
variable {c : Cal} {e : Env} {t : Tp} {Kn : Env → Tp → Prop} {Kr : PyData → Tp → Prop}
theorem x_seq {a b : St} (h : evS c a e t (fun e1 t1 => evS c b e1 t1 Kn Kr) Kr) : evS c (.seq a b) e t Kn Kr := h
theorem x_skip (h : Kn e t) : evS c .skip e t Kn Kr := h
theorem v_skip : evS c .skip e t Kn Kr = Kn e t := rfl
theorem v_asg {tg : Tg} {x : Ex} : evS c (.asg tg x) e t Kn Kr = evE c x e t fun d t1 => bindT tg d e fun e1 => Kn e1 t1 := rfl
theorem v_asgO {i : Nat} {x : Ex} : evS c (.asgO i x) e t Kn Kr = evE c x e t fun d t1 => listW d fun xs => Kn (setS e i (some (.own xs))) t1 := rfl
theorem v_par {i j : Nat} {a b : Ex} : evS c (.par i j a b) e t Kn Kr = evE c a e t fun x t1 => evE c b e t1 fun y t2 => Kn (setS (setS e i (some (.val x))) j (some (.val y))) t2 := rfl
theorem v_app {i : Nat} {x : Ex} : evS c (.app i x) e t Kn Kr = match getS e i with
    | some (.own xs) => evE c x e t fun d t1 => xs.length < sizeLine ∧ Kn (setS e i (some (.own (xs ++ [d])))) t1
    | _ => False := rfl
theorem v_ext {i : Nat} {x : Ex} : evS c (.ext i x) e t Kn Kr = match getS e i with
    | some (.own xs) => evE c x e t fun d t1 => listW d fun ys => xs.length + ys.length ≤ sizeLine ∧ Kn (setS e i (some (.own (xs ++ ys)))) t1
    | _ => False := rfl
theorem v_ifs {g : Ex} {a b : St} : evS c (.ifs g a b) e t Kn Kr = evE c g e t fun d t1 => boolW d fun p => if p = true then evS c a e t1 Kn Kr else evS c b e t1 Kn Kr := rfl
theorem v_for {tg : Tg} {it : Ex} {b : St} {w : List Nat} : evS c (.for_ tg it b w) e t Kn Kr = evE c it e t fun l t1 => listW l fun items =>
      forW (fun d e t K => bindT tg d (wipeS e w) fun e1 => evS c b e1 t K Kr) items e t1 fun e1 t2 => Kn (wipeS e1 w) t2 := rfl
theorem v_ret {x : Ex} : evS c (.ret x) e t Kn Kr = evE c x e t Kr := rfl
theorem v_expr {x : Ex} : evS c (.expr x) e t Kn Kr = evE c x e t fun _ t1 => Kn e t1 := rfl
theorem v_frz {i : Nat} : evS c (.frz i) e t Kn Kr = match getS e i with
    | some (.own xs) => Kn (setS e i (some (.val (.list xs)))) t
    | _ => False := rfl
theorem v_drop {is : List Nat} : evS c (.drop is) e t Kn Kr = Kn (wipeS e is) t := rfl
end
local macro_rules | `(tactic| walk_at "E") => `(tactic| dsimp only [v_skip, v_asg, v_asgO, v_par, v_app, v_ext, v_ifs, v_for, v_ret, v_expr, v_frz, v_drop, evE, getS, setS, wipeS, bindT, setAll, opW, boolW, intW, listW, seqW, biW, idxW])
theorem ite_k {p : Prop} [Decidable p] {A B : Prop} (h1 : p → A) (h2 : ¬ p → B) : if decide p = true then A else B := by
  by_cases h : p
  · rw [if_pos (decide_eq_true h)]; exact h1 h
  · rw [if_neg (by simp [h])]; exact h2 h
theorem drB_ok {c0 : Cal} {m : Nat} (hm : SpMix c0 m) {ns ts : List Int} {a b : Option Slot} {i : Nat} (hi : i < 63) (hn : i < ns.length) {t : Tp} {Kn : Env → Tp → Prop} {Kr : PyData → Tp → Prop} (hd : Drawn ts) (hl : ts.length < 70000)
    (q : ∀ ts' a' b' c', Drawn ts' → ts'.length ≤ ts.length + 1000 → Kn (drE ns ts' a' b' c') t) : evS c0 (drB m) (drE ns ts (some (.val (.int i))) a b) t Kn Kr := by
  have hk : L2.atI ns (i : Int) = some ns[i] := atI_nat (List.getElem?_eq_getElem hn)
  unfold drB drE
  refine x_seq ?_
  walk_at "E"
  rw [hk]
  walk_at "E"
  generalize hc : (if ns[i] < 0 then -ns[i] else ns[i]) = cell
  have tail : ∀ ts1 c1, Drawn ts1 → ts1.length ≤ ts.length + 12 → evS c0 (.seq dr2 (.seq (.ifs (.op .ge (.var 3) (.int 2147483629)) (.seq (.app 1 (.op .mod (.var 3) (.int 2147483629))) .skip) .skip) .skip)) (drE ns ts1 (some (.val (.int i))) (some (.val (.int cell))) c1) t Kn Kr := by
    intro ts1 c1 h1 h2
    refine x_seq (dr2_ok h1 (by omega) fun ts2 cell2 h3 h4 => ?_)
    unfold drE
    refine x_seq ?_
    walk_at "E"
    refine ite_k (fun g => ?_) (fun g => ?_)
    · have b := fmod_in cell2 (b := 2147483629) (by omega)
      refine x_seq ?_
      walk_at "E"
      refine ⟨by decide, by rw [List.length_map]; have : sizeLine = 2 ^ 24 := rfl; omega, ?_⟩
      have := q (ts2 ++ [cell2.fmod 2147483629]) (some (.val (.int i))) (some (.val (.int cell2))) c1 (h3.app b.1 b.2) (by rw [List.length_append, List.length_singleton]; omega)
      unfold drE at this
      rw [← map_app] at this
      exact this
    · exact q _ _ _ _ h3 (by omega)
  refine x_seq ?_
  unfold e18
  walk_at "E"
  refine ⟨by decide, ?_⟩
  refine ite_k (fun g => ?_) (fun g => ?_)
  · exact x_seq (dr1_ok hm (by omega) hd (by omega) fun ts1 c1 h1 h2 => tail ts1 c1 h1 h2)
  · exact tail ts b hd (by omega)
theorem drS_ok {c0 : Cal} {m : Nat} (hm : SpMix c0 m) {ns : List Int} {a b c : Option Slot} (hn : ns.length ≤ 63) {t : Tp} {Kn : Env → Tp → Prop} {Kr : PyData → Tp → Prop}
    (q : ∀ ts' a' b' c', Drawn ts' → Kn (drE ns ts' a' b' c') t) : evS c0 (drS m) (drE ns [] a b c) t Kn Kr := by
  have e1 : (if (63 : Int) < ns.length then (63 : Int) else ns.length) = ns.length := if_neg (by omega)
  show (_ ∧ _) ∧ _
  rw [e1]
  refine ⟨by omega, ?_⟩
  refine x_listW ?_
  refine forW_rng (fun i e t' => t' = t ∧ ∃ ts' a' b' c', e = drE ns ts' a' b' c' ∧ Drawn ts' ∧ ts'.length ≤ i * 1000) ⟨rfl, [], a, b, c, rfl, (fun _ z => by simp at z), by simp⟩ (fun i hi e t' K' ⟨ht, ts', a', b', c', he, h1, h2⟩ hK => ?_) (fun e t' ⟨ht, ts', a', b', c', he, h1, h2⟩ => ?_)
  · have hi : i < (ns.length : Int).toNat := hi
    subst ht he
    have := drB_ok (c0 := c0) hm (i := i) (by omega) (by omega) (a := b') (b := c') (t := t') (Kn := K') (Kr := Kr) h1 (by omega) fun ts2 a2 b2 c2 h3 h4 => hK _ _ ⟨rfl, ts2, a2, b2, c2, rfl, h3, by omega⟩
    show evS c0 (drB m) (drE ns ts' (some (.val (.int (0 + (i : Int))))) b' c') t' K' Kr
    rw [Int.zero_add]
    exact this
  · subst ht he
    exact q _ _ _ _ h1
end G

set_option maxHeartbeats 2000000
namespace G
open PySem PySem.Spec PyProof.Rows L2
def spDraws (K : PySem.W.Frag) : Sp := fun vs H Q _ => ∃ (a : Addr) (ns : List Int), vs = [.ref a] ∧ SqL K H a (ns.map V.int) ∧ ns.length ≤ 63 ∧ ∀ (H' : Hp) (p : Addr) (ts : List Int), (∀ b o, H b = some o → H' b = some o) → H p = none → H' p = some (.lst (ts.map .int)) → Drawn ts → Q (.ref p) H'
def drawsB (T : Tab) (m : Nat) (sc : Scope) : List Stmt → Bool
  | [s1, s2, .Return (some (.Name y _)) _] => ms T drN allFn sc (.asgO 1 (.lst .nil)) [s1] && ms T drN allFn sc (drS m) [s2] && nameOk drN sc 1 y
  | _ => false
section
variable {T : Tab} {P : Program} {w : World} {K : PySem.W.Frag} {mg : Str → Option Value} {base : Heap} {lv : Nat} {c : Cal}
theorem intsOf_map : ∀ ts : List Int, intsOf (ts.map .int) = some ts
  | [] => rfl
  | t :: ts => by
    show (intsOf (ts.map .int)).map (t :: ·) = _
    rw [intsOf_map ts]; rfl
theorem draws_ok {x : Str} {st : Stmt} {a : Addr} {fd : FuncData} {m : Nat} (F : Fun K x x st a fd) (hs : scB drN ["script"] (defScope st) = true) (hm : drawsB T m (defScope st) (defBody st) = true) (sp : SpMix c m)
    (G : Glb T mg) (D : DefsOk T c P w K mg base lv) (W : DrawOk P w K mg base lv) : FnOk P w K mg base CX0 (lv + 1) a fd ["script"] (spDraws K) := by
  have S := sc_of hs
  refine F.ok S (fun vs H Q E h => ?_) (fun cdv A outer s H vs Q E hr h => ?_)
  · obtain ⟨p, ts, rfl, _⟩ := h; rfl
  · obtain ⟨p, ns, rfl, hp, hn, q⟩ := h
    unfold drawsB at hm
    split at hm
    · rename_i s1 s2 y py rp hb
      simp only [Bool.and_eq_true] at hm
      obtain ⟨⟨h1, h2⟩, h3⟩ := hm
      rw [hb]
      have g := good_of (x := x) (f := a) (cdv := cdv) (outer := outer) (s := s) (H := H) (E := E) S hr G D W
      refine ⟨_, pss_cons ((soundS (T := T) (c := c) (lv := lv) (N := drN) (.asgO 1 (.lst .nil))).one rfl _ s1 g S.kind rfl h1) (pss_cons ((soundS (T := T) (c := c) (lv := lv) (N := drN) (drS m)).one rfl _ s2 g S.kind rfl h2) (pss_one (ps_ret (pe_slot (N := drN) rfl h3)))), ?_⟩
      have hsl : SqL K H p (ns.map V.int) → ((Rd H p (.lst (ns.map .int)) ∧ ¬ (fun _ => False) p) ∨ SqL K (fun _ => none) p (ns.map .int)) := fun h => h.elim (fun z => .inl ⟨z, id⟩) fun z => .inr (.inr z)
      have r0 : RR K ⟨fun _ => False, none, H⟩ [[], [], [], [], []] [some (.scr ns), none, none, none, none] none (L2.start drN [.ref p]) H := by
        refine ⟨⟨⟨rfl, p, rfl, ?_⟩, rfl, rfl, rfl, rfl, trivial⟩, by simp, fun _ e => (nomatch e), fun _ e => (nomatch e), fun _ z => z.elim, .refl⟩
        rcases hsl hp with z | z
        · exact .inl ⟨z.1, fun o => o.elim id fun o => by simp at o⟩
        · exact .inr z
      refine ⟨_, _, _, none, _, fun _ _ => False, r0, (show evS c (.asgO 1 (.lst .nil)) _ _ (fun e t => e = drE ns [] none none none ∧ t = none) _ from ⟨Nat.zero_le _, rfl, rfl⟩), fun os1 env1 t1 σ1 H1 ⟨k1, k2⟩ r1 f1 => ?_, fun _ _ _ _ z => z.elim⟩
      subst k1 k2
      refine ⟨_, _, _, none, _, fun _ _ => False, r1, drS_ok sp hn (Kn := fun e t => ∃ ts' a' b' c', Drawn ts' ∧ e = drE ns ts' a' b' c') (fun ts' a' b' c' hd => ⟨ts', a', b', c', hd, rfl⟩), fun os2 env2 t2 σ2 H2 ⟨ts', a', b', c', hd, he⟩ r2 f2 => ?_, fun _ _ _ _ z => z.elim⟩
      subst he
      obtain ⟨sv, as, e1, e2, p', vs, e3, e4, e5, e6, e7, e8⟩ := r2.slots.get (i := 1) (sl := .own (ts'.map .int)) rfl
      rw [e4] at e1
      have ev := e8.ints (intsOf_map ts')
      subst ev
      exact ⟨.ref p', e1, q H2 p' ts' (fun b o e => r2.grow b o e (by simp)) e6 e5 hd⟩
    · cases hm
/-! ### the law -/
def spLaw (K : PySem.W.Frag) : Sp := fun vs H Q _ => ∃ (a : Addr) (ns : List Int), vs = [.ref a] ∧ SqL K H a (ns.map V.int) ∧ ns.length ≤ 63 ∧ ∀ H', Q (.bl true) H'
def lawE (n i : Nat) : Env := setS (List.replicate n none) i (some (.val tapeD))
def lawB (T : Tab) (N : List Str) (i : Nat) (x : St) (sc : Scope) : List Stmt → Bool
  | .Assign [.Name y _] (.Call (.Name f _) [.Name z _] [] _) _ :: rest => decide (f = ("_law_draws" : Str)) && glOk sc f && nameOk N sc 0 z && storeOk N allFn sc i y && ms T N allFn sc x rest
  | _ => false
theorem slotsN {K : PySem.W.Frag} {P : Par} {O : Addr → Prop} {H : Hp} : ∀ (σ : List (Option V)), SlotsOk K P O H (List.replicate σ.length none) σ (List.replicate σ.length [])
  | [] => trivial
  | _ :: σ => by
    rw [List.length_cons, List.replicate_succ, List.replicate_succ]
    exact ⟨rfl, slotsN σ⟩
theorem set_nil (n i : Nat) : (List.replicate n ([] : List Addr)).set i [] = List.replicate n [] := by
  induction n generalizing i with
  | zero => rfl
  | succ n ih =>
    rw [List.replicate_succ]
    cases i with
    | zero => rfl
    | succ i => rw [List.set_cons_succ, ih]
theorem law_ok {x : Str} {st : Stmt} {a : Addr} {fd : FuncData} {N : List Str} {i : Nat} {body : St} (F : Fun K x x st a fd) (hs : scB N ["script"] (defScope st) = true) (hm : lawB T N i body (defScope st) (defBody st) = true)
    (G : Glb T mg) (D : DefsOk T c P w K mg base lv) (W : DrawOk P w K mg base lv)
    (hd : ∃ a fd, mg "_law_draws" = some (.ref a) ∧ PySem.W.keepIn K (.ref a) = true ∧ Binds K fd ["script"] [] ∧ FnOk P w K mg base CX0 lv a fd ["script"] (spDraws K))
    (plain : ∀ ts, Drawn ts → evS c body (lawE N.length i) (some ts) (fun _ _ => False) fun d _ => d = .bool true) : FnOk P w K mg base CX0 (lv + 1) a fd ["script"] (spLaw K) := by
  have S := sc_of hs
  refine F.ok S (fun vs H Q E h => ?_) (fun cdv A outer s H vs Q E hr h => ?_)
  · obtain ⟨p, ts, rfl, _⟩ := h; rfl
  · obtain ⟨p, ns, rfl, hp, hn, q⟩ := h
    unfold lawB at hm
    split at hm
    · rename_i y py f pf z pz cp pp rest hb
      simp only [Bool.and_eq_true, decide_eq_true_eq] at hm
      obtain ⟨⟨⟨⟨h1, h2⟩, h3⟩, h4⟩, h5⟩ := hm
      subst h1
      rw [hb]
      have g := good_of (x := x) (f := a) (cdv := cdv) (outer := outer) (s := s) (H := H) (E := E) S hr G D W
      obtain ⟨hg, hdb⟩ := glOk_gl (X := (cxOf CX0 P w K mg base N x (defScope st) a cdv A outer s H E).nox) h2
      obtain ⟨fa, ffd, m1, m2, m3, m4⟩ := hd
      obtain ⟨s1, s2, s3⟩ := storeOk_of h4
      refine ⟨_, pss_cons (ps_set S.nd s1 s2 (pe_call m4 g.room hg m1 m2 m3 .nil (E := fun _ _ _ => False) pass0 (pa_cons (pe_slot (N := N) rfl h3) pa_nil) hdb rfl rfl) (swaps_none rfl) (.inl rfl)) ((soundS (T := T) (c := c) (lv := lv) (N := N) body).go _ rest g S.kind rfl h5), ?_⟩
      have hz : (L2.start N [V.ref p])[0]? = some (some (.ref p)) := rfl
      have hlen : (L2.start N [V.ref p]).length = N.length := by
        have h0 : 1 ≤ N.length := by
          have := nameOk_vis h3
          have := this.1
          cases N with
          | nil => simp at this
          | cons => simp
        unfold L2.start
        simp
        omega
      refine ⟨.ref p, hz, p, ns, rfl, hp, hn, fun H' tp ts hG hN hT hD => ?_⟩
      have r0 : RR K ⟨fun b => b = tp, some tp, H'⟩ (List.replicate N.length []) (lawE N.length i) (some ts) ((L2.start N [.ref p]).set i (some (.ref tp))) H' := by
        have sl := slotsN (K := K) (P := ⟨fun b => b = tp, some tp, H'⟩) (O := Own ⟨fun b => b = tp, some tp, H'⟩ (List.replicate N.length [])) (H := H') (L2.start N [V.ref p])
        rw [hlen] at sl
        have sl2 := sl.set (e := some (.val tapeD)) (s := some (.ref tp)) (as := []) i ⟨rfl, _, rfl, .tape rfl⟩
        rw [set_nil] at sl2
        refine ⟨sl2, by rw [flat_nil]; exact .nil, fun ts' e => ?_, fun p' e => ?_, fun b z => ?_, .refl⟩
        · cases e; exact ⟨tp, rfl, hT⟩
        · cases e; rfl
        · have z : b = tp := z
          rw [z, hT]; simp
      refine ⟨_, _, _, _, _, _, r0, plain ts hD, fun _ _ _ _ _ z => z.elim, fun d t' v H2 e ro => ?_⟩
      subst e
      have := ro.rep
      cases this
      exact q H2
    · cases hm
end
end G

set_option maxHeartbeats 2000000
namespace G
open PySem PySem.Spec PyProof.Rows L2
/-! ### what the top has written -/
def DfAt (K : PySem.W.Frag) (x : Str) (st : Stmt) : Prop := ∃ a fd, PySem.W.nsIn K mainGlobals x = some (some (.ref a)) ∧ Fun K x x st a fd
theorem df_mk {K : PySem.W.Frag} {x : Str} {st : Stmt} {f : Addr} {oc : Value} {od an : Option Addr} {osl : Array (Option Value)} {kV doc pm cdv ct : Value} (a : PySem.W.nsIn K mainGlobals x = some (some (.ref f)))
    (l : K.lookup f = some ⟨oc, od, .func (PySem.W.fnOf x x (defArgs st) (defBody st) (defScope st) .none kV doc pm an cdv ct), osl⟩) (c : PySem.W.codeIn K cdv x = true) (k : PySem.W.keepIn K (.ref f) = true) : DfAt K x st := ⟨f, _, a, fun_mk l c k⟩
def BindsS (x : Str) (ps : List Str) (st : Stmt) : Prop := ∀ (kV doc pm : Value) (an : Option Addr) (cdv ct : Value) (us : List Value), us.length = ps.length →
  bindArgs (PySem.W.fnOf x x (defArgs st) (defBody st) (defScope st) .none kV doc pm an cdv ct) ⟨us, []⟩ = pure (ps.zip us)
def KBindsS (x : Str) (ps : List Str) (st : Stmt) : Prop := ∀ (kV doc pm : Value) (an : Option Addr) (cdv ct : Value) (us : List Value), us.length = ps.length →
  bindArgs (PySem.W.fnOf x x (defArgs st) (defBody st) (defScope st) .none kV doc pm an cdv ct) ⟨[], ps.zip us⟩ = pure (ps.zip us)
/-- what is seen of a def's text -/
structure TxtOk (T : Tab) (d : Fd) (st : Stmt) : Prop where
  b : BindsS d.name d.ps st
  kb : d.kw = true → KBindsS d.name d.ps st
  sc : scB d.N d.ps (defScope st) = true
  m : ms T d.N allFn (defScope st) d.body (defBody st) = true
theorem all2_nil {α : Type} {p : α → Prop} : ∀ x ∈ ([] : List α), p x := fun _ h => by simp at h
theorem all2_cons {α : Type} {p : α → Prop} {a : α} {l : List α} (h : p a) (r : ∀ x ∈ l, p x) : ∀ x ∈ a :: l, p x := fun x hx => by
  rcases List.mem_cons.mp hx with e | e
  · rw [e]; exact h
  · exact r x e
theorem all_of {l : PySem.W.OpenLaw} {w : World} {K : PySem.W.Frag} {h : Heap} {mg : Str → Option Value} {fa : Addr} (X : K.In h) (G : h.Ns mainGlobals mg) (hfa : mg "law" = some (.ref fa))
    {T : Tab} {B : List (Fd × Stmt)} (hT : T.D = inf (B.map (·.1))) (hrp : T.rp = false) {m : Nat} (hmix : (B.map (·.1))[m]? = some mixF)
    (ht : ∀ p ∈ B, TxtOk T p.1 p.2) {stN stD stL : Stmt} {N : List Str} {i k : Nat} {body : St}
    (n1 : nextB (defBody stN) = true) (n2 : scB ["drawn"] ["drawn"] (defScope stN) = true) (n3 : BindsS "_law_next" ["drawn"] stN)
    (d1 : drawsB T m (defScope stD) (defBody stD) = true) (d2 : scB drN ["script"] (defScope stD) = true) (d3 : BindsS "_law_draws" ["script"] stD)
    (l1 : lawB T N i body (defScope stL) (defBody stL) = true) (l2 : scB N ["script"] (defScope stL) = true) (l3 : BindsS "law" ["script"] stL)
    (plain : ∀ ts, Drawn ts → evS (sem (B.map (·.1)) (k + 2)) body (lawE N.length i) (some ts) (fun _ _ => False) fun d _ => d = .bool true)
    (hk : ∀ p ∈ B, DfAt K p.1.name p.2) (hN : DfAt K "_law_next" stN) (hD : DfAt K "_law_draws" stD) (hL : DfAt K "law" stL)
    (free : ∀ x ∈ bltNames, PySem.W.nsIn K mainGlobals x = some none) (glob : ∀ p ∈ T.gl, ∃ t, PySem.W.nsIn K mainGlobals p.1 = some (some (.int p.2 t))) :
    ∃ fd : FuncData, (∀ (s : Shared) (v : Value), BindsTo s fd ⟨[v], []⟩ [("script", v)]) ∧ ∀ base : Heap, K.In base → base.Ns mainGlobals mg → FnOk l.prog w K mg base CX0 (k + 4) fa fd ["script"] (spLaw K) := by
  obtain ⟨aL, fdL, gL, FL⟩ := hL
  have e := hfa.symm.trans (PySem.W.mg_of X G gL)
  cases e
  have bL := FL.binds l3
  refine ⟨fdL, fun s v => ?_, fun base KB GB => ?_⟩
  · obtain ⟨oc, od, kV, doc, pm, an, cdv, ct, osl, rfl, lk, hcd⟩ := FL.ex
    exact .of_eq (l3 kV doc pm an cdv ct [v] rfl)
  have GL : Glb T mg := ⟨fun x hx => PySem.W.mg_none_of X G (free x hx), fun p hp => by
    obtain ⟨t, z⟩ := glob p hp
    exact ⟨t, PySem.W.mg_of X G z⟩, hrp⟩
  obtain ⟨aN, fdN, gN, FN⟩ := hN
  have W : DrawOk l.prog w K mg base 1 := ⟨aN, fdN, PySem.W.mg_of X G gN, FN.kp, FN.binds n3, next_ok FN n2 n1⟩
  have W' : ∀ j, 1 ≤ j → DrawOk l.prog w K mg base j := fun j hj => by
    obtain ⟨a1, f1, w1, w2, w3, w4⟩ := W
    exact ⟨a1, f1, w1, w2, w3, w4.mono hj⟩
  have hDef : ∀ (f : Nat) (d : Fd), (B.map (·.1))[f]? = some d → ∃ st a fd, DefOk T K mg d st a fd ∧ ms T d.N allFn (defScope st) d.body (defBody st) = true := by
    intro f d hd
    rw [List.getElem?_map, Option.map_eq_some_iff] at hd
    obtain ⟨p, hp, rfl⟩ := hd
    have hm := List.mem_of_getElem? hp
    obtain ⟨a, fd, g, F⟩ := hk p hm
    obtain ⟨t1, t2, t3, t4⟩ := ht p hm
    refine ⟨p.2, a, fd, ⟨PySem.W.mg_of X G g, F, F.binds t1, fun z => ?_, t3⟩, t4⟩
    obtain ⟨oc, od, kV, doc, pm, an, cdv, ct, osl, rfl, lk, hcd⟩ := F.ex
    exact fun s ws _ hl => .of_eq (t2 z kV doc pm an cdv ct ws hl)
  have D := defs_ok hT hDef GL W
  have sp : SpMix (sem (B.map (·.1)) 1) m := fun cell kk t K' hk q => mix_ok hmix hk q
  obtain ⟨aD, fdD, gD, FD⟩ := hD
  have FD1 := draws_ok FD d2 d1 sp GL (D 1) (W' 2 (by omega))
  exact law_ok FL l2 l1 GL (D (k + 2)) (W' _ (by omega)) ⟨aD, fdD, PySem.W.mg_of X G gD, FD.kp, FD.binds d3, FD1.mono (by omega)⟩ plain
end G

set_option maxHeartbeats 2000000
namespace G
open PySem PySem.Spec PyProof.Rows L2
/-! ### steps of the plain evaluation, expressions -/
section
variable {c : Cal} {e : Env} {t : Tp} {K : PyData → Tp → Prop}
theorem y_var {i : Nat} : evE c (.var i) e t K = match getS e i with | some (.val d) => K d t | _ => False := rfl
theorem y_own {i : Nat} : evE c (.own i) e t K = match getS e i with | some (.own xs) => K (.list xs) t | _ => False := rfl
theorem y_int {n : Int} : evE c (.int n) e t K = K (.int n) t := rfl
theorem y_bl {n : Bool} : evE c (.bl n) e t K = K (.bool n) t := rfl
theorem y_non : evE c .non e t K = K .none t := rfl
theorem y_str {s : Str} : evE c (.str s) e t K = K (.str s) t := rfl
theorem y_glob {x : Str} {n : Int} : evE c (.glob x n) e t K = K (.int n) t := rfl
theorem y_nil : evE c .nil e t K = K (.list []) t := rfl
theorem y_cons {a as : Ex} : evE c (.cons a as) e t K = evE c a e t fun d t1 => evE c as e t1 fun l t2 => listW l fun ds => K (.list (d :: ds)) t2 := rfl
theorem y_tup {as : Ex} : evE c (.tup as) e t K = evE c as e t fun l t1 => listW l fun ds => ds.length ≤ sizeLine ∧ K (.tuple ds) t1 := rfl
theorem y_lst {as : Ex} : evE c (.lst as) e t K = evE c as e t fun l t1 => listW l fun ds => ds.length ≤ sizeLine ∧ K (.list ds) t1 := rfl
theorem y_op {o : Op2} {a b : Ex} : evE c (.op o a b) e t K = evE c a e t fun x t1 => evE c b e t1 fun y t2 => opW o x y fun z => K z t2 := rfl
theorem y_neg {a : Ex} : evE c (.neg a) e t K = evE c a e t fun x t1 => intW x fun i => K (.int (-i)) t1 := rfl
theorem y_not {a : Ex} : evE c (.not a) e t K = evE c a e t fun x t1 => boolW x fun b => K (.bool (!b)) t1 := rfl
theorem y_and {a b : Ex} : evE c (.and a b) e t K = evE c a e t fun x t1 => boolW x fun p => if p = true then evE c b e t1 fun y t2 => boolW y fun q => K (.bool q) t2 else K (.bool false) t1 := rfl
theorem y_or {a b : Ex} : evE c (.or a b) e t K = evE c a e t fun x t1 => boolW x fun p => if p = true then K (.bool true) t1 else evE c b e t1 fun y t2 => boolW y fun q => K (.bool q) t2 := rfl
theorem y_ife {g a b : Ex} : evE c (.ife g a b) e t K = evE c g e t fun x t1 => boolW x fun p => if p = true then evE c a e t1 K else evE c b e t1 K := rfl
theorem y_chain {o p : Op2} {a b d : Ex} : evE c (.chain o p a b d) e t K = evE c a e t fun x t1 => evE c b e t1 fun y t2 => opW o x y fun z => boolW z fun q => if q = true then evE c d e t2 fun w t3 => opW p y w fun z2 => boolW z2 fun q2 => K (.bool q2) t3 else K (.bool false) t2 := rfl
theorem y_call {f : Nat} {as : Ex} : evE c (.call f as) e t K = evE c as e t fun l t1 => listW l fun ds => c f ds t1 K := rfl
theorem y_bi {b : Bi} {as : Ex} : evE c (.bi b as) e t K = evE c as e t fun l t1 => listW l fun ds => biW b ds fun z => K z t1 := rfl
theorem y_isi {a : Ex} {ty : Ty} : evE c (.isi a ty) e t K = evE c a e t fun x t1 => x ≠ tapeD ∧ K (.bool (isiD x ty)) t1 := rfl
theorem y_idx {a b : Ex} : evE c (.idx a b) e t K = evE c a e t fun x t1 => evE c b e t1 fun y t2 => idxW x y fun z => K z t2 := rfl
theorem y_sl {a lo hi : Ex} : evE c (.sl a lo hi) e t K = evE c a e t fun x t1 => evE c lo e t1 fun l t2 => partW l fun lo' => evE c hi e t2 fun h t3 => partW h fun hi' => slW x lo' hi' fun z => K z t3 := rfl
theorem y_rev {a : Ex} : evE c (.rev a) e t K = evE c a e t fun x t1 => listW x fun xs => K (.list xs.reverse) t1 := rfl
theorem y_index {a b : Ex} : evE c (.index a b) e t K = evE c a e t fun x t1 => listW x fun xs => evE c b e t1 fun y t2 => (xs.all flatD = true ∧ flatD y = true) ∧ match findD y xs with | some j => K (.int (j : Nat)) t2 | none => False := rfl
theorem y_iseq {a : Ex} : evE c (.iseq a) e t K = evE c a e t fun x t1 => seqW x fun xs => K (.list xs) t1 := rfl
theorem y_irng1 {a : Ex} : evE c (.irng1 a) e t K = evE c a e t fun x t1 => intW x fun j => (-16777216 ≤ j ∧ j ≤ 16777216) ∧ K (.list (rngD 0 j.toNat)) t1 := rfl
theorem y_irng2 {a b : Ex} : evE c (.irng2 a b) e t K = evE c a e t fun x t1 => intW x fun i => evE c b e t1 fun y t2 => intW y fun j => (0 ≤ i ∧ i ≤ 16777216 ∧ -16777216 ≤ j ∧ j ≤ 16777216) ∧ K (.list (rngD i (j - i).toNat)) t2 := rfl
theorem y_izip {a b : Ex} : evE c (.izip a b) e t K = evE c a e t fun x t1 => seqW x fun xs => evE c b e t1 fun y t2 => seqW y fun ys => K (.list (zipD xs ys)) t2 := rfl
theorem y_ienum {a : Ex} : evE c (.ienum a) e t K = evE c a e t fun x t1 => seqW x fun xs => K (.list (enumD 0 xs)) t1 := rfl
theorem y_lrng {r : Ex} : evE c (.lrng r) e t K = evE c r e t K := rfl
theorem y_trng {r : Ex} : evE c (.trng r) e t K = evE c r e t fun l t1 => listW l fun ds => K (.tuple ds) t1 := rfl
theorem y_comp {el : Ex} {tg : Tg} {it g : Ex} {own : List Nat} : evE c (.comp el tg it g own) e t K = evE c it e t fun l t1 => listW l fun items =>
      compW (fun d t K2 => bindT tg d (wipeS e own) fun e2 => evE c g e2 t fun b t2 => boolW b fun p => if p = true then evE c el e2 t2 fun z t3 => K2 (some z) t3 else K2 none t2) items [] t1 fun acc t2 => K (.list acc) t2 := rfl
theorem x_draw {i : Nat} {ts : List Int} (hd : Drawn ts) (hg : getS e i = some (.val tapeD)) (q : ∀ n ts', 0 ≤ n → n < Bd → Drawn ts' → K (.int n) (some ts')) : evE c (.draw i) e (some ts) K := by
  show match getS e i, some ts with
    | some (.val (.dict [(.none, .none)])), some [] => K (.int 0) (some [])
    | some (.val (.dict [(.none, .none)])), some (n :: ns) => K (.int n) (some ns)
    | _, _ => False
  rw [hg]
  cases ts with
  | nil => exact q 0 [] (by decide) (by decide) hd
  | cons n ns => exact q n ns (hd n (by simp)).1 (hd n (by simp)).2 fun x hx => hd x (by simp [hx])
end
theorem forW_mem {f : PyData → Env → Tp → (Env → Tp → Prop) → Prop} (I : Env → Tp → Prop) {xs : List PyData} {e : Env} {t : Tp} {K : Env → Tp → Prop} (h0 : I e t)
    (hs : ∀ x ∈ xs, ∀ e t (K' : Env → Tp → Prop), I e t → (∀ e' t', I e' t' → K' e' t') → f x e t K') (hd : ∀ e t, I e t → K e t) : forW f xs e t K :=
  forW_inv (fun _ => I) xs 0 h0 (fun i x e t K' hx hI hK => hs x (List.mem_of_getElem? hx) e t K' hI hK) hd
theorem compW_mem {f : PyData → Tp → (Option PyData → Tp → Prop) → Prop} (I : Tp → Prop) (R : PyData → Prop) {xs : List PyData} {t : Tp} {K : List PyData → Tp → Prop} (h0 : I t)
    (hs : ∀ x ∈ xs, ∀ t (K' : Option PyData → Tp → Prop), I t → (∀ o t', I t' → (∀ d, o = some d → R d) → K' o t') → f x t K') (hd : ∀ acc t, I t → (∀ d ∈ acc, R d) → acc.length ≤ xs.length → K acc t) : compW f xs [] t K := by
  refine compW_inv (fun n acc t => I t ∧ (∀ d ∈ acc, R d) ∧ acc.length ≤ n) xs 0 ⟨h0, fun _ h => (by simp at h), by simp⟩ (fun i x acc t K' hx ⟨h1, h2, h3⟩ hK => ?_) (fun acc t ⟨h1, h2, h3⟩ => hd acc t h1 h2 (by omega))
  refine hs x (List.mem_of_getElem? hx) t K' h1 fun o t' h4 h5 => hK o t' ⟨h4, ?_, ?_⟩
  · cases o with
    | none => exact h2
    | some d =>
      intro y hy
      rcases List.mem_append.mp hy with hy | hy
      · exact h2 y hy
      · rw [List.mem_singleton] at hy; rw [hy]; exact h5 d rfl
  · cases o with
    | none => simp only []; omega
    | some d => simp only [List.length_append, List.length_singleton]; omega
theorem sem_at {B : List Fd} {k f : Nat} {d : Fd} {ds : List PyData} {t : Tp} {K : PyData → Tp → Prop} (hB : B[f]? = some d) (hl : ds.length = d.ps.length) (h : evS (sem B k) d.body (env0 d.N ds) t (fun _ t' => K .none t') K) : sem B (k + 1) f ds t K := by
  show match B[f]? with | some d => ds.length = d.ps.length ∧ evS (sem B k) d.body (env0 d.N ds) t (fun _ t' => K .none t') K | none => False
  rw [hB]
  exact ⟨hl, h⟩
theorem mem_rng {lo : Int} {n : Nat} {x : PyData} (h : x ∈ rngD lo n) : ∃ i : Nat, i < n ∧ x = .int (lo + i) := by
  obtain ⟨i, hi⟩ := List.getElem?_of_mem h
  exact ⟨i, rngD_at hi⟩
theorem eqOk_int (n : Int) : eqOk (.int n) := rfl
theorem eqOk_bool (n : Bool) : eqOk (.bool n) := rfl
theorem eqv_int (n m : Int) : PyData.eqv (.int n) (.int m) = decide (n = m) := by
  show (n == m) = _
  by_cases h : n = m <;> simp [h]
theorem ite_t {p : Bool} {A B : Prop} (h : p = true) (b : A) : if p = true then A else B := by
  rw [if_pos h]; exact b
theorem ite_f {p : Bool} {A B : Prop} (h : p = false) (b : B) : if p = true then A else B := by
  rw [h, if_neg (by decide)]; exact b
theorem szk {n : Nat} (h : Nat.ble n 16777216 = true) : n ≤ sizeLine := Nat.le_of_ble_eq_true h
end G

set_option maxHeartbeats 2000000
namespace G
open PySem PySem.Spec PyProof.Rows L2
def topS (i : Nat) : Stmt := PySem.Challenge.pw_heapsmeet_k56_how_many_are_enough.main.body.getD i (.Pass ⟨0, 0, 0, 0⟩)
def f_enough : Fd := ⟨"enough", ["directions", "many"], ["directions", "many"], true, (.seq (.ret (.op .add (.op .mul (.op .sub (.var 1) (.int 1)) (.op .add (.var 0) (.int 1))) (.int 1))) .skip)⟩
def f_law_whole : Fd := ⟨"_law_whole", ["stuff"], ["stuff"], false, (.seq (.ret (.and (.isi (.var 0) .int) (.not (.isi (.var 0) .bool)))) .skip)⟩
def Bs : List (Fd × Stmt) := [(f_enough, topS 1), (mixF, topS 3), (f_law_whole, topS 6)]
abbrev Bf : List Fd := Bs.map (·.1)
def Ts : Tab := ⟨inf Bf, [], false⟩
def lawN : List Str := ["script", "drawn", "great", "room", "wanted", "found"]
def lawX : St := (.seq (.asg (.nm 2) (.op .add (.int 61) (.op .mod (.draw 1) (.int 1000000)))) (.seq (.for_ (.nm 3) (.irng2 (.int 1) (.int 4)) (.seq (.for_ (.nm 4) (.iseq (.op .add (.lrng (.irng2 (.int 1) (.int 61))) (.lst (.cons (.var 2) .nil)))) (.seq (.asg (.nm 5) (.call 0 (.cons (.var 3) (.cons (.var 4) .nil)))) (.seq (.ifs (.or (.not (.call 2 (.cons (.var 5) .nil))) (.op .ne (.var 5) (.op .add (.op .mul (.op .sub (.var 4) (.int 1)) (.op .add (.var 3) (.int 1))) (.int 1)))) (.seq (.ret (.bl false)) .skip) .skip) .skip)) [4, 5]) (.seq (.ifs (.op .ne (.call 0 (.cons (.var 3) (.cons (.int 2) .nil))) (.op .add (.var 3) (.int 2))) (.seq (.ret (.bl false)) .skip) .skip) .skip)) [3, 4, 5]) (.seq (.ret (.bl true)) .skip)))
def lawI : Nat := 1
theorem txt_ok : ∀ p ∈ Bs, TxtOk Ts p.1 p.2 := all2_cons ⟨fun _ _ _ _ _ _ us hl => match us, hl with | [_, _], _ => rfl, (fun _ _ _ _ _ _ _ us hl => match us, hl with | [_, _], _ => rfl), by decide +kernel, by decide +kernel⟩
  (all2_cons ⟨fun _ _ _ _ _ _ us hl => match us, hl with | [_, _], _ => rfl, (fun h => (nomatch h)), by decide +kernel, by decide +kernel⟩
  (all2_cons ⟨fun _ _ _ _ _ _ us hl => match us, hl with | [_], _ => rfl, (fun h => (nomatch h)), by decide +kernel, by decide +kernel⟩
  (all2_nil)))
theorem n1 : nextB (defBody (topS 5)) = true := by decide +kernel
theorem n2 : scB ["drawn"] ["drawn"] (defScope (topS 5)) = true := by decide +kernel
theorem n3 : BindsS "_law_next" ["drawn"] (topS 5) := fun _ _ _ _ _ _ us hl => match us, hl with | [_], _ => rfl
theorem d1 : drawsB Ts 1 (defScope (topS 4)) (defBody (topS 4)) = true := by decide +kernel
theorem d2 : scB drN ["script"] (defScope (topS 4)) = true := by decide +kernel
theorem d3 : BindsS "_law_draws" ["script"] (topS 4) := fun _ _ _ _ _ _ us hl => match us, hl with | [_], _ => rfl
theorem l1 : lawB Ts lawN lawI lawX (defScope (topS 7)) (defBody (topS 7)) = true := by decide +kernel
theorem l2 : scB lawN ["script"] (defScope (topS 7)) = true := by decide +kernel
theorem l3 : BindsS "law" ["script"] (topS 7) := fun _ _ _ _ _ _ us hl => match us, hl with | [_], _ => rfl
local macro_rules | `(tactic| walk_at "E") => `(tactic| dsimp only [v_skip, v_asg, v_asgO, v_par, v_app, v_ext, v_ifs, v_for, v_ret, v_expr, v_frz, v_drop, y_var, y_own, y_int, y_bl, y_non, y_str, y_glob, y_nil, y_cons, y_tup, y_lst, y_op, y_neg, y_not, y_and, y_or, y_ife, y_chain, y_call, y_bi, y_isi, y_idx, y_sl, y_rev, y_index, y_iseq, y_irng1, y_irng2, y_izip, y_ienum, y_lrng, y_trng, y_comp, getS, setS, wipeS, bindT, setAll, opW, boolW, intW, listW, seqW, partW, slW, biW, idxW])
theorem whole_ok {k : Nat} {n : Int} {t : Tp} {K : PyData → Tp → Prop} (q : K (.bool true) t) : sem Bf (k + 1) 2 [.int n] t K := by
  refine sem_at (d := f_law_whole) rfl rfl ?_
  refine ⟨(by simp [tapeD]), ?_⟩
  exact ⟨(by simp [tapeD]), q⟩
theorem enough_ok {k : Nat} {d m : Int} {t : Tp} {K : PyData → Tp → Prop} (hd : d.natAbs < 2 ^ 100) (hm : m.natAbs < 2 ^ 100) (q : K (.int ((m - 1) * (d + 1) + 1)) t) : sem Bf (k + 1) 0 [.int d, .int m] t K := by
  refine sem_at (d := f_enough) rfl rfl ?_
  exact ⟨mulOk_of (a := 101) (b := 101) (by omega) (by omega) (by decide), q⟩
theorem plain0 {c : Cal} (hE : ∀ (d m : Int) t K, d.natAbs < 2 ^ 100 → m.natAbs < 2 ^ 100 → K (.int ((m - 1) * (d + 1) + 1)) t → c 0 [.int d, .int m] t K) (hW : ∀ (n : Int) t K, K (.bool true) t → c 2 [.int n] t K)
    (ts : List Int) (hd : Drawn ts) : evS c lawX (lawE lawN.length lawI) (some ts) (fun _ _ => False) fun d _ => d = .bool true := by
  unfold lawX
  refine x_seq ?_
  walk_at "E"
  refine x_draw hd rfl fun n ts' n0 n1 hd' => ?_
  walk_at "E"
  refine ⟨by decide, ?_⟩
  refine x_seq ?_
  have b := fmod_in n (b := 1000000) (by omega)
  generalize hg : 61 + n.fmod 1000000 = great
  have hgr : 61 ≤ great ∧ great < 2000000 := by omega
  walk_at "E"
  refine ⟨by decide, ?_⟩
  refine forW_mem (fun e t => t = some ts' ∧ ∃ a b c, e = [none, some (.val tapeD), some (.val (.int great)), a, b, c]) ⟨rfl, _, _, _, rfl⟩ (fun x hx e t K' ⟨h1, a, b, d, h2⟩ hK => ?_) (fun e t ⟨h1, a, b, d, h2⟩ => ?_)
  · obtain ⟨i, hi, rfl⟩ := mem_rng hx
    have hi : i < 3 := hi
    subst h1 h2
    refine x_seq ?_
    walk_at "E"
    generalize hr : 1 + (i : Int) = room
    refine ⟨by decide, szk rfl, szk rfl, ?_⟩
    refine forW_mem (fun e t => t = some ts' ∧ ∃ a b, e = [none, some (.val tapeD), some (.val (.int great)), some (.val (.int room)), a, b]) ⟨rfl, _, _, rfl⟩ (fun x hx e t K' ⟨h1, a, b, h2⟩ hK => ?_) (fun e t ⟨h1, a, b, h2⟩ => ?_)
    · obtain ⟨w, hw, rfl⟩ : ∃ w : Int, (0 ≤ w ∧ w < 2000000) ∧ x = .int w := by
        rcases List.mem_append.mp hx with hx | hx
        · obtain ⟨j, hj, rfl⟩ := mem_rng hx
          have hj : j < 60 := hj
          exact ⟨_, by omega, rfl⟩
        · rw [List.mem_singleton] at hx
          exact ⟨great, by omega, hx⟩
      subst h1 h2
      refine x_seq ?_
      walk_at "E"
      refine hE _ _ _ _ (by omega) (by omega) ?_
      refine x_seq ?_
      walk_at "E"
      refine hW _ _ _ ?_
      walk_at "E"
      refine ite_f rfl ⟨mulOk_of (a := 101) (b := 101) (by omega) (by omega) (by decide), rfl, rfl, ?_⟩
      rw [eqv_int, decide_eq_true rfl]
      refine ite_f rfl ?_
      exact hK _ _ ⟨rfl, _, _, rfl⟩
    · subst h1 h2
      refine x_seq ?_
      walk_at "E"
      refine hE _ _ _ _ (by omega) (by omega) ?_
      refine ⟨rfl, rfl, ?_⟩
      rw [eqv_int, decide_eq_true (by omega)]
      refine ite_f rfl ?_
      exact hK _ _ ⟨rfl, _, _, _, rfl⟩
  · subst h1 h2
    refine x_seq ?_
    exact rfl
theorem plain : ∀ ts, Drawn ts → evS (sem Bf (0 + 2)) lawX (lawE lawN.length lawI) (some ts) (fun _ _ => False) fun d _ => d = .bool true := fun ts hd =>
  plain0 (fun _ _ _ _ h1 h2 q => enough_ok h1 h2 q) (fun _ _ _ q => whole_ok q) ts hd
end G

open PySem PySem.W PyProof.Rows
set_option maxHeartbeats 0 in
theorem PySem.Challenge.cw_heapsmeet_k56_how_many_are_enough_holds : PySem.Challenge.rw_heapsmeet_k56_how_many_are_enough.Holds := by
  w_on; o_law; k_head; (case hw => w_witness2)
  k_fill
  refine L2.walk_of (l := PySem.Challenge.rw_heapsmeet_k56_how_many_are_enough) (n := 63) (k := 0 + 4) (x := "script") (CX := fun _ => L2.CX0) (sp := fun w => G.spLaw _) rfl (by decide) rfl ⟨rfl, by decide, by decide⟩ (fun w h Y => PySem.W.kIn_of Y) ?F (fun _ _ a ns hl _ hS => ⟨a, ns, rfl, hS, hl, fun _ => rfl⟩) (fun _ _ _ _ _ h => h)
  case F =>
    intro w mg fa h KX Gn hmg
    refine' G.all_of KX Gn hmg (T := G.Ts) (B := G.Bs) (m := 1) (k := 0) (i := G.lawI) rfl rfl rfl G.txt_ok G.n1 G.n2 G.n3 G.d1 G.d2 G.d3 G.l1 G.l2 G.l3 G.plain (G.all2_cons ?q0 (G.all2_cons ?q1 (G.all2_cons ?q2 (G.all2_nil)))) ?hN ?hD ?hL (G.all2_cons ?b0 (G.all2_cons ?b1 (G.all2_cons ?b2 (G.all2_cons ?b3 (G.all2_cons ?b4 (G.all2_cons ?b5 (G.all2_cons ?b6 (G.all2_cons ?b7 (G.all2_cons ?b8 (G.all2_cons ?b9 (G.all2_cons ?b10 (G.all2_cons ?b11 (G.all2_cons ?b12 (G.all2_cons ?b13 (G.all2_cons ?b14 (G.all2_cons ?b15 (G.all2_cons ?b16 (G.all2_cons ?b17 (G.all2_nil))))))))))))))))))) (G.all2_nil)
    case q0 => refine' G.df_mk ?a ?l ?c ?k; (case a => k_is); (case l => k_is); (case c => k_is); (case k => k_is)
    case q1 => refine' G.df_mk ?a ?l ?c ?k; (case a => k_is); (case l => k_is); (case c => k_is); (case k => k_is)
    case q2 => refine' G.df_mk ?a ?l ?c ?k; (case a => k_is); (case l => k_is); (case c => k_is); (case k => k_is)
    case hN => refine' G.df_mk ?a ?l ?c ?k; (case a => k_is); (case l => k_is); (case c => k_is); (case k => k_is)
    case hD => refine' G.df_mk ?a ?l ?c ?k; (case a => k_is); (case l => k_is); (case c => k_is); (case k => k_is)
    case hL => refine' G.df_mk ?a ?l ?c ?k; (case a => k_is); (case l => k_is); (case c => k_is); (case k => k_is)
    case b0 => k_is
    case b1 => k_is
    case b2 => k_is
    case b3 => k_is
    case b4 => k_is
    case b5 => k_is
    case b6 => k_is
    case b7 => k_is
    case b8 => k_is
    case b9 => k_is
    case b10 => k_is
    case b11 => k_is
    case b12 => k_is
    case b13 => k_is
    case b14 => k_is
    case b15 => k_is
    case b16 => k_is
    case b17 => k_is

