import PyProof.Rows.All
import Wide.All
import OpenK.AllK
import Wide.FinOn
import KE.DataEq
import KE.DataMinMax
import KE.DataAny
import KE.SortData
import KE.SortKeyHeap
import HandS.List
import HandS.ForMost
import HandS.ForExc
import HandS.Star
import HandS.Wide
import HandS.Flow
import HandS.Lambda
import HandS.Zip
import HandS.Exc
import HandS.Codes
import HandS.TupAny
import HandS.TupMul
import HandS.Conv
import HandS.Style
import KE.DataIsa
import KE.KRevSl
import KE.GoesMore
import HandS.TryOnly
import KE.KExcSuper
import HandS.ExcSuper
import KE.KSortKey
import HandS.EndTab
import HandS.HeadWalk
import HandS.HeadHook4
import HandS.Head2
import PySem.Challenge.RW_siftmarks_k02_whole_counting
set_option Elab.async false
set_option linter.all false
set_option maxRecDepth 100000
/-! SmA: a small language for the programs at hand: values are data (PyData), the few lists and dicts that are changed lie in a store; the evaluator. -/
namespace Sm
open PySem
abbrev D := PyData
/-- what a local name holds: data, or a thing that may be changed -/
inductive RV where
  | d (x : D)
  | r (i : Nat)
  deriving Inhabited
/-- what lies in the store -/
inductive MO where
  | lst (xs : List D)
  | dct (kvs : List (D × D))
  | gone
  deriving Inhabited
abbrev Sto := List MO
abbrev Lo := List (Option RV)
/-- a result: a value, an exception of class c with its fields, or none -/
inductive Rs (α : Type) where
  | ok (a : α) (st : Sto)
  | ex (c : Nat) (xs : List D) (st : Sto)
  | no
  deriving Inhabited
def Rs.bind {α β : Type} (r : Rs α) (f : α → Sto → Rs β) : Rs β :=
  match r with
  | .ok a st => f a st
  | .ex c xs st => .ex c xs st
  | .no => .no
def Rs.of {α : Type} (o : Option α) (st : Sto) : Rs α := match o with
  | some a => .ok a st
  | none => .no

/-- an assignment's target -/
inductive Tg where
  | n (i : Nat)
  | t (l : List Tg)
  deriving Inhabited
/-- built-ins -/
inductive Bl where
  | len | sum | all | any | min | max | abs | int | tuple | list | sorted | repr | str | rangeT | rangeL | sortLn
  | isI | isB | isT | isS | isD | isL
  deriving Inhabited, DecidableEq
mutual
inductive E where
  | c (x : D)
  | v (i : Nat)
  | tup (es : List (Bool × E))
  | lst (es : List (Bool × E))
  | bin (op : Operator) (a b : E)
  | neg (a : E)
  | cmp (op : CmpOp) (a b : E)
  | chain (op op' : CmpOp) (a b c : E)
  | and (a b : E)
  | or (a b : E)
  | not (a : E)
  | ife (t a b : E)
  | ix (a i : E)
  | sl (a : E) (lo hi : Option E)
  | rev (a : E)
  | call (f : Nat) (args : List E)
  | blt (b : Bl) (a : E)
  | lc (own : List Nat) (tg : Tg) (it : It) (ifs : Option E) (elt : E)
  | lc2 (own own1 : List Nat) (tg : Tg) (it : It) (ifs : Option E) (tg1 : Tg) (it1 : It) (ifs1 : Option E) (elt : E)
  | dc (own : List Nat) (tg : Tg) (it : It) (k v : E)
  | sortk (i : Nat) (key a : E)
  | refu (call due : E)
  | sumL (a b : E)         -- sum(lists, list)
  | popAt (o i : E)        -- o.pop(i)
  | new (a : E)            -- a new list (or dict) that may be changed
inductive It where
  | e (a : E)
  | r1 (a : E)
  | r2 (a b : E)
  | r3 (a b c : E)
  | en (a : E)
  | zp (a b : E)
  | items (a : E)
  | vals (a : E)
end
inductive S where
  | ex (e : E)
  | asg (t : Tg) (e : E)
  | par (is : List Nat) (es : List E)
  | aug (i : Nat) (op : Operator) (e : E)
  | put (o k e : E)                 -- o[k] = e
  | app (o e : E)                   -- o.append(e)
  | ins (o i e : E)                 -- o.insert(i, e)
  | ret (e : E)
  | iff (t : E) (a b : List S)
  | whl (t : E) (b : List S)
  | fr (tg : Tg) (it : It) (b : List S)
  | rais (c : Nat) (args : List E)
  | pass | brk | cont
  | frz (i : Nat)
structure Fn where
  np : Nat
  ns : Nat
  body : List S

/-! ### operations on data -/
/-- the longest list -/
def SZ : Nat := 16777216
theorem SZ_eq : SZ = sizeLine := by rw [sizeLine_eq]; rfl
def mulOk (i j : Int) : Bool := decide (i.natAbs < 2 ^ 64) || decide (j.natAbs < 2 ^ 64) || decide (i.natAbs.log2 + j.natAbs.log2 < 1000000)
def divOk (j : Int) : Bool := decide (0 < j) && decide (j.natAbs.log2 < 9000)
def powOk (i j : Int) : Bool := decide (0 ≤ j) && decide (j ≤ 1000000) && decide (i.natAbs < 2 ^ 64)
def szOk (n : Nat) : Bool := decide (n ≤ SZ)
def repL (xs : List D) (n : Nat) : List D := (List.replicate n xs).flatten
/-- bounds, so that the kernel does not count down from them -/
def geI (x : Int) (n : Nat) : Bool := match x with
  | .ofNat _ => true
  | .negSucc m => decide (m < n)
def ltI (x : Int) (n : Nat) : Bool := match x with
  | .ofNat m => decide (m < n)
  | .negSucc _ => true
theorem geI_eq (x : Int) (n : Nat) : geI x n = decide (-(n : Int) ≤ x) := by
  cases x with
  | ofNat m => simp only [geI, Int.ofNat_eq_natCast]; exact (decide_eq_true (by omega)).symm
  | negSucc m => simp only [geI]; exact decide_eq_decide.2 (by omega)
theorem ltI_eq (x : Int) (n : Nat) : ltI x n = decide (x < (n : Int)) := by
  cases x with
  | ofNat m => simp only [ltI, Int.ofNat_eq_natCast]; exact decide_eq_decide.2 (by omega)
  | negSucc m => simp only [ltI]; exact (decide_eq_true (by omega)).symm
def repOk (n : Nat) (k : Int) : Bool := geI k (2 ^ 63) && ltI k (2 ^ 63) && decide (n * k.toNat ≤ SZ)
theorem repOk_eq (n : Nat) (k : Int) : repOk n k = (decide (-(2 ^ 63) ≤ k) && decide (k < 2 ^ 63) && decide (n * k.toNat ≤ SZ)) := by
  simp only [repOk, geI_eq, ltI_eq]; rfl
def repTOk (n : Nat) (k : Int) : Bool := decide (k = 1) || (decide (0 < n) && decide (n ≤ 1000) && decide (2 ≤ k) && decide (k ≤ 1000))
def binD (op : Operator) (x y : D) : Option D :=
  match op, x, y with
  | .Add, .int i, .int j => some (.int (i + j))
  | .Add, .str i, .str j => if szOk (i.length + j.length) then some (.str (i ++ j)) else none
  | .Add, .tuple i, .tuple j => if szOk (i.length + j.length) then some (.tuple (i ++ j)) else none
  | .Add, .list i, .list j => if szOk (i.length + j.length) then some (.list (i ++ j)) else none
  | .Sub, .int i, .int j => some (.int (i - j))
  | .Mult, .int i, .int j => if mulOk i j then some (.int (i * j)) else none
  | .Mult, .tuple i, .int j => if repTOk i.length j then some (.tuple (repL i j.toNat)) else none
  | .Mult, .list i, .int j => if repOk i.length j then some (.list (repL i j.toNat)) else none
  | .FloorDiv, .int i, .int j => if divOk j then some (.int (i / j)) else none
  | .Mod, .int i, .int j => if 0 < j then some (.int (i % j)) else none
  | .Pow, .int i, .int j => if powOk i j then some (.int (i ^ j.toNat)) else none
  | _, _, _ => none
def eqOk (x y : D) : Bool := x.plain && y.plain && (decide (x.depth ≤ 64) || decide (y.depth ≤ 64))
def inOk (x : D) (ys : List D) : Bool := x.plain && PyData.plainAll ys && (decide (x.depth ≤ 64) || decide (PyData.depthAll ys ≤ 64))
def isNon : D → Bool
  | .none => true
  | _ => false
/-- keys of dicts -/
def keyIn (k : D) (kvs : List (D × D)) : Bool := kvs.any fun p => PyData.eqv p.1 k
def keyGet (k : D) : List (D × D) → Option D
  | [] => none
  | p :: r => if PyData.eqv p.1 k then some p.2 else keyGet k r
def keyPut (k v : D) : List (D × D) → List (D × D)
  | [] => [(k, v)]
  | p :: r => if PyData.eqv p.1 k then (p.1, v) :: r else p :: keyPut k v r
def ltOk (x y : D) : Bool := PySem.W.alike x y && !isNon x && (decide (x.depth ≤ 64) || decide (y.depth ≤ 64))
def cmpD (op : CmpOp) (x y : D) : Option Bool :=
  match op with
  | .Eq => if eqOk x y then some (PyData.eqv x y) else none
  | .NotEq => if eqOk x y then some (!PyData.eqv x y) else none
  | .Lt => match x, y with
    | .int i, .int j => some (decide (i < j))
    | _, _ => if ltOk x y then some (PySem.W.dataLt x y) else none
  | .LtE => match x, y with
    | .int i, .int j => some (decide (i ≤ j))
    | _, _ => none
  | .Gt => match x, y with
    | .int i, .int j => some (decide (j < i))
    | _, _ => none
  | .GtE => match x, y with
    | .int i, .int j => some (decide (j ≤ i))
    | _, _ => none
  | .Is => if isNon y then some (isNon x) else none
  | .IsNot => if isNon y then some (!isNon x) else none
  | .In => match y with
    | .tuple ys => if inOk x ys then some (ys.any fun z => PyData.eqv z x) else none
    | .list ys => if inOk x ys then some (ys.any fun z => PyData.eqv z x) else none
    | _ => none
  | .NotIn => match y with
    | .tuple ys => if inOk x ys then some (!ys.any fun z => PyData.eqv z x) else none
    | .list ys => if inOk x ys then some (!ys.any fun z => PyData.eqv z x) else none
    | _ => none
def ixD (x i : D) : Option D :=
  match x, i with
  | .tuple xs, .int i => L2.atI xs i
  | .list xs, .int i => L2.atI xs i
  | _, _ => none
def cutL (xs : List D) (lo hi : Option Int) : List D := (xs.drop (HT.sIx xs.length 0 lo)).take (HT.sIx xs.length xs.length hi - HT.sIx xs.length 0 lo)
def slD (x : D) (lo hi : Option Int) : Option D :=
  match x with
  | .tuple xs => some (.tuple (cutL xs lo hi))
  | .list xs => some (.list (cutL xs lo hi))
  | _ => none
/-- x[::-1] -/
def revD : D → Option D
  | .tuple xs => some (.tuple xs.reverse)
  | .list xs => some (.list xs.reverse)
  | _ => none
def negD : D → Option D
  | .int i => some (.int (-i))
  | _ => none
def truD : D → Option Bool
  | .none => some false
  | .bool b => some b
  | .int i => some (i != 0)
  | .list xs => some (!xs.isEmpty)
  | .tuple xs => some (!xs.isEmpty)
  | _ => none
def intsOf : List D → Option (List Int)
  | [] => some []
  | .int i :: r => (intsOf r).map (i :: ·)
  | _ => none
def boolsOf : List D → Option (List Bool)
  | [] => some []
  | .bool i :: r => (boolsOf r).map (i :: ·)
  | _ => none
def rangeN (lo hi : Int) : List D := (List.range (hi - lo).toNat).map fun (k : Nat) => .int (lo + (k : Int))
def rngOk (lo hi : Int) : Bool := geI lo (2 ^ 62) && ltI lo (2 ^ 62) && geI hi (2 ^ 62) && ltI hi (2 ^ 62) && ltI (hi - lo) 16777217
theorem rngOk_eq (lo hi : Int) : rngOk lo hi = (decide (-(2 ^ 62) ≤ lo) && decide (lo < 2 ^ 62) && decide (-(2 ^ 62) ≤ hi) && decide (hi < 2 ^ 62) && decide (hi - lo ≤ 16777216)) := by
  have e : ltI (hi - lo) 16777217 = decide (hi - lo ≤ 16777216) := by rw [ltI_eq]; exact decide_eq_decide.2 (by omega)
  simp only [rngOk, geI_eq, ltI_eq (n := 2 ^ 62), e]; rfl
def downN (hi lo : Int) : List D := (List.range (hi - lo).toNat).map fun (k : Nat) => .int (hi - (k : Int))
def seqOf : D → Option (List D)
  | .tuple xs => some xs
  | .list xs => some xs
  | _ => none
def bltD (b : Bl) (x : D) : Option D :=
  match b, x with
  | .len, .tuple xs => some (.int xs.length)
  | .len, .list xs => some (.int xs.length)
  | .sum, .list xs => (intsOf xs).map fun ns => .int ns.sum
  | .all, .list xs => (boolsOf xs).map fun bs => .bool (bs.all id)
  | .any, .list xs => (boolsOf xs).map fun bs => .bool (bs.any id)
  | .abs, .int i => some (.int (if i < 0 then -i else i))
  | .int, .int i => some (.int i)
  | .tuple, .tuple xs => some (.tuple xs)
  | .tuple, .list xs => some (.tuple xs)
  | .list, .tuple xs => some (.list xs)
  | .list, .list xs => some (.list xs)
  | .isI, x => some (.bool (match x with | .int _ => true | .bool _ => true | _ => false))
  | .isB, x => some (.bool (match x with | .bool _ => true | _ => false))
  | .isT, x => some (.bool (match x with | .tuple _ => true | _ => false))
  | .isS, x => some (.bool (match x with | .str _ => true | _ => false))
  | .isD, x => some (.bool (match x with | .dict _ => true | _ => false))
  | .isL, x => some (.bool (match x with | .list _ => true | _ => false))
  | _, _ => none
/-- sum(lists, list) -/
def lstsOf : List D → Option (List (List D))
  | [] => some []
  | .list xs :: r => (lstsOf r).map (xs :: ·)
  | _ => none
def sumLD (x y : D) : Option D := match x, y with
  | .list ds, .list es => match lstsOf ds with
    | some dss => if szOk (es.length + dss.flatten.length) then some (.list (es ++ dss.flatten)) else none
    | none => none
  | _, _ => none
/-- what is repr-ed: short data without dicts -/
def reprOk (x : D) : Bool := x.showable && !x.hasDict && decide (x.depth ≤ 64) && decide (x.shown.length + 64 ≤ SZ)

/-! ### the evaluator, one level of an expression over the evaluator of its parts -/
abbrev Ev := E → Lo → Sto → Rs RV
abbrev CF := Nat → List RV → Sto → Rs RV
/-- what is read: the datum, or what the changeable thing is now -/
def rdV (x : RV) (st : Sto) : Option D :=
  match x with
  | .d x => some x
  | .r i => match st[i]? with
    | some (.lst xs) => some (.list xs)
    | some (.dct kvs) => some (.dict kvs)
    | _ => none
def evD (f : Ev) (e : E) (lo : Lo) (st : Sto) : Rs D := (f e lo st).bind fun x st => Rs.of (rdV x st) st
/-- .. that is no changeable thing -/
def evP (f : Ev) (e : E) (lo : Lo) (st : Sto) : Rs D := (f e lo st).bind fun x st => match x with
  | .d x => .ok x st
  | .r _ => .no
def evPs (f : Ev) : List E → Lo → Sto → Rs (List D)
  | [], _, st => .ok [] st
  | e :: es, lo, st => (evP f e lo st).bind fun x st => (evPs f es lo st).bind fun xs st => .ok (x :: xs) st
def evRs (f : Ev) : List E → Lo → Sto → Rs (List RV)
  | [], _, st => .ok [] st
  | e :: es, lo, st => (f e lo st).bind fun x st => (evRs f es lo st).bind fun xs st => .ok (x :: xs) st
/-- a display's items -/
def evI (f : Ev) : List (Bool × E) → Lo → Sto → Rs (List D)
  | [], _, st => .ok [] st
  | (false, e) :: es, lo, st => (evP f e lo st).bind fun x st => (evI f es lo st).bind fun xs st => .ok (x :: xs) st
  | (true, e) :: es, lo, st => (evP f e lo st).bind fun x st => (Rs.of (seqOf x) st).bind fun ys st => (evI f es lo st).bind fun xs st => .ok (ys ++ xs) st
def ret (x : D) (st : Sto) : Rs RV := .ok (.d x) st
mutual
def bindT : Tg → D → Lo → Option Lo
  | .n i, x, lo => some (lo.set i (some (.d x)))
  | .t l, x, lo => match x with
    | .tuple xs => bindTs l xs lo
    | .list xs => bindTs l xs lo
    | _ => none
def bindTs : List Tg → List D → Lo → Option Lo
  | [], [], lo => some lo
  | t :: ts, x :: xs, lo => match bindT t x lo with
    | some lo => bindTs ts xs lo
    | none => none
  | _, _, _ => none
end
def wipeL (own : List Nat) (lo : Lo) : Lo := own.foldr (fun i lo => lo.set i none) lo
def zipOf (x y : D) : Option (List D × List D) := match seqOf x, seqOf y with
  | some xs, some ys => some (xs, ys)
  | _, _ => none
def evIt (f : Ev) (it : It) (lo : Lo) (st : Sto) : Rs (List D) :=
  match it with
  | .e a => (evP f a lo st).bind fun x st => Rs.of (seqOf x) st
  | .r1 a => (evP f a lo st).bind fun x st => match x with
    | .int j => if rngOk 0 j then .ok (rangeN 0 j) st else .no
    | _ => .no
  | .r2 a b => (evP f a lo st).bind fun x st => (evP f b lo st).bind fun y st => match x, y with
    | .int i, .int j => if rngOk i j then .ok (rangeN i j) st else .no
    | _, _ => .no
  | .r3 a b c => (evP f a lo st).bind fun x st => (evP f b lo st).bind fun y st => (evP f c lo st).bind fun w st => match x, y, w with
    | .int i, .int j, .int k => if rngOk j i && decide (k = -1) then .ok (downN i j) st else .no
    | _, _, _ => .no
  | .en a => (evP f a lo st).bind fun x st => (Rs.of (seqOf x) st).bind fun xs st =>
      .ok (xs.zipIdx.map fun (p : D × Nat) => PyData.tuple [.int (p.2 : Int), p.1]) st
  | .zp a b => (evP f a lo st).bind fun x st => (evP f b lo st).bind fun y st => (Rs.of (zipOf x y) st).bind fun (p : List D × List D) st =>
      .ok ((p.1.zip p.2).map fun (p : D × D) => PyData.tuple [p.1, p.2]) st
  | _ => .no
def asB (x : D) (st : Sto) : Rs Bool := Rs.of (truD x) st
/-- a test: and, or, not by their parts -/
def evT (f : Ev) (e : E) (lo : Lo) (st : Sto) : Rs Bool := (evD f e lo st).bind asB
/-- a clause's test -/
def evC (f : Ev) (c : Option E) (lo : Lo) (st : Sto) : Rs Bool := match c with
  | none => .ok true st
  | some c => evT f c lo st
/-- one clause: items, tests, the item made; nothing is raised within -/
def lcL (f : Ev) (own : List Nat) (tg : Tg) (ifs : Option E) (elt : E) (lo : Lo) : List D → Sto → Rs (List D)
  | [], st => .ok [] st
  | x :: xs, st => match bindT tg x (wipeL own lo) with
    | none => .no
    | some lo' =>
      match evC f ifs lo' st with
      | .ok true st => match evP f elt lo' st with
        | .ok y st => match lcL f own tg ifs elt lo xs st with
          | .ok ys st => .ok (y :: ys) st
          | _ => .no
        | _ => .no
      | .ok false st => lcL f own tg ifs elt lo xs st
      | _ => .no
def lc2L (f : Ev) (own own1 : List Nat) (tg : Tg) (ifs : Option E) (tg1 : Tg) (it1 : It) (ifs1 : Option E) (elt : E) (lo : Lo) : List D → Sto → Rs (List D)
  | [], st => .ok [] st
  | x :: xs, st => match bindT tg x (wipeL own lo) with
    | none => .no
    | some lo' =>
      match evC f ifs lo' st with
      | .ok true st => match evIt f it1 lo' st with
        | .ok zs st => match lcL f own1 tg1 ifs1 elt lo' zs st with
          | .ok ys st => match lc2L f own own1 tg ifs tg1 it1 ifs1 elt lo xs st with
            | .ok ys' st => .ok (ys ++ ys') st
            | _ => .no
          | _ => .no
        | _ => .no
      | .ok false st => lc2L f own own1 tg ifs tg1 it1 ifs1 elt lo xs st
      | _ => .no
def optI (f : Ev) (o : Option E) (lo : Lo) (st : Sto) : Rs (Option Int) :=
  match o with
  | none => .ok none st
  | some e => (evP f e lo st).bind fun x st => match x with
    | .int i => .ok (some i) st
    | _ => .no
/-- sorted by a key: the keys are reckoned item by item -/
def keysL (f : Ev) (i : Nat) (key : E) (lo : Lo) : List D → Sto → Rs (List D)
  | [], st => .ok [] st
  | x :: xs, st => match evP f key (lo.set i (some (.d x))) st with
    | .ok y st => match keysL f i key lo xs st with
      | .ok ys st => .ok (y :: ys) st
      | _ => .no
    | _ => .no
def isTup1 : D → Bool
  | .tuple (_ :: _) => true
  | _ => false
def isAtm : D → Bool
  | .none => false
  | .tuple _ => false
  | _ => true
def alikes (xs : List D) : Bool := xs.all fun x => xs.all fun y => PySem.W.alike x y
def sortable (xs : List D) : Bool := (xs.all isTup1 || xs.all isAtm) && alikes xs && xs.all (fun x => decide (x.depth ≤ 64))
def sortD (xs : List D) : List D := xs.mergeSort (PySem.W.dataLe false id)
def sortK (ks xs : List D) : List D := ((ks.zip xs).mergeSort (PySem.W.dataLe false Prod.fst)).map Prod.snd
-- data without lists
mutual
def noLst : D → Bool
  | .list _ => false
  | .dict _ => false
  | .tuple xs => noLsts xs
  | _ => true
def noLsts : List D → Bool
  | [] => true
  | x :: xs => noLst x && noLsts xs
end
def isTup : D → Bool
  | .tuple _ => true
  | _ => false
/-- sorted by length, then by itself -/
def keyLn : D → D
  | .tuple xs => .tuple [.int xs.length, .tuple xs]
  | x => x
def sortLn (xs : List D) : List D := xs.mergeSort (PySem.W.dataLe false keyLn)
def minOk (xs : List D) : Bool := alikes xs && xs.all (fun x => !isNon x) && PyData.plainAll xs && decide (PyData.depthAll xs ≤ 64)
def evF (cf : CF) (f : Ev) : Ev := fun e lo st =>
  match e with
  | .c x => ret x st
  | .v i => match lo[i]? with
    | some (some x) => .ok x st
    | _ => .no
  | .tup es => (evI f es lo st).bind fun xs st => if szOk xs.length then ret (.tuple xs) st else .no
  | .lst es => (evI f es lo st).bind fun xs st => if szOk xs.length then ret (.list xs) st else .no
  | .bin op a b => (evP f a lo st).bind fun x st => (evP f b lo st).bind fun y st => (Rs.of (binD op x y) st).bind ret
  | .neg a => (evP f a lo st).bind fun x st => (Rs.of (negD x) st).bind ret
  | .cmp op a b => (f a lo st).bind fun x st => (f b lo st).bind fun y st => (Rs.of (rdV x st) st).bind fun x st => (Rs.of (rdV y st) st).bind fun y st => (Rs.of (cmpD op x y) st).bind fun k st => ret (.bool k) st
  | .chain op op' a b c => (evP f a lo st).bind fun x st => (evP f b lo st).bind fun y st => (Rs.of (cmpD op x y) st).bind fun k st =>
      if k then (evP f c lo st).bind fun z st => (Rs.of (cmpD op' y z) st).bind fun k st => ret (.bool k) st else ret (.bool false) st
  | .and a b => (evP f a lo st).bind fun x st => (asB x st).bind fun k st => if k then f b lo st else ret x st
  | .or a b => (evP f a lo st).bind fun x st => (asB x st).bind fun k st => if k then ret x st else f b lo st
  | .not a => (evD f a lo st).bind fun x st => (asB x st).bind fun k st => ret (.bool (!k)) st
  | .ife t a b => (evT f t lo st).bind fun k st => if k then f a lo st else f b lo st
  | .ix a i => (f a lo st).bind fun x st => (evP f i lo st).bind fun y st => (Rs.of (rdV x st) st).bind fun x st => (Rs.of (ixD x y) st).bind ret
  | .popAt o i => (f o lo st).bind fun o st => match o with
    | .r j => match st[j]? with
      | some (.lst _) => (evP f i lo st).bind fun k st => match k, st[j]? with
        | .int k, some (.lst xs) => if decide (-(2 ^ 63) ≤ k) && decide (k < 2 ^ 63) then (match seqIndex? k xs.length with
          | some n => (match xs[n]? with
            | some y => ret y (st.set j (.lst (xs.eraseIdx n)))
            | none => .no)
          | none => .no) else .no
        | _, _ => .no
      | _ => .no
    | _ => .no
  | .sumL a b => (f a lo st).bind fun x st => (evP f b lo st).bind fun y st => (Rs.of (rdV x st) st).bind fun x st => (Rs.of (sumLD x y) st).bind ret
  | .sl a l h => (evP f a lo st).bind fun x st => (optI f l lo st).bind fun l st => (optI f h lo st).bind fun h st => (Rs.of (slD x l h) st).bind ret
  | .rev a => (evP f a lo st).bind fun x st => (Rs.of (revD x) st).bind ret
  | .call i args => (evRs f args lo st).bind fun xs st => cf i xs st
  | .blt .sorted a => (evD f a lo st).bind fun x st => match x with
    | .list ys => if sortable ys then ret (.list (sortD ys)) st else .no
    | _ => .no
  | .blt .sortLn a => (evD f a lo st).bind fun x st => match x with
    | .list ys => if ys.all isTup && noLsts ys && sortable (ys.map keyLn) && szOk ys.length then ret (.list (sortLn ys)) st else .no
    | _ => .no
  | .blt .min a => (evD f a lo st).bind fun x st => match seqOf x with
    | some (y :: ys) => if minOk (y :: ys) then ret (PySem.W.minD y ys) st else .no
    | _ => .no
  | .blt .max a => (evD f a lo st).bind fun x st => match seqOf x with
    | some (y :: ys) => if minOk (y :: ys) then ret (PySem.W.maxD y ys) st else .no
    | _ => .no
  | .blt .repr a => (evD f a lo st).bind fun x st => if reprOk x then ret (.str x.shown) st else .no
  | .blt b a => (evD f a lo st).bind fun x st => (Rs.of (bltD b x) st).bind ret
  | .lc own tg it ifs elt => (evIt f it lo st).bind fun xs st => if szOk xs.length then (match lcL f own tg ifs elt lo xs st with
    | .ok ys st => ret (.list ys) st
    | _ => .no) else .no
  | .lc2 own own1 tg it ifs tg1 it1 ifs1 elt => (evIt f it lo st).bind fun xs st => match lc2L f own own1 tg ifs tg1 it1 ifs1 elt lo xs st with
    | .ok ys st => if szOk ys.length then ret (.list ys) st else .no
    | _ => .no
  | .sortk i key a => (evP f a lo st).bind fun x st => match x with
    | .list xs => match keysL f i key lo xs st with
      | .ok ks st => if sortable ks then ret (.list (sortK ks xs)) st else .no
      | _ => .no
    | _ => .no
  | .new a => (evP f a lo st).bind fun x st => match x with
    | .list xs => .ok (.r st.length) (st ++ [.lst xs])
    | _ => .no
  | .refu call due => (evP f due lo st).bind fun y st => match f call lo st with
    | .ok _ st => ret (.bool false) st
    | .ex 0 [x] st => if reprOk x && reprOk y then ret (.bool (decide (x.shown = y.shown))) st else .no
    | _ => .no
  | _ => .no
def ev (cf : CF) : Nat → Ev
  | 0 => fun _ _ _ => .no
  | n + 1 => evF cf (ev cf n)

def isIntD : D → Bool
  | .int _ => true
  | _ => false
/-! ### statements -/
inductive Fl where
  | nx (lo : Lo)
  | rt (x : D)
  | bk (lo : Lo)
  | ct (lo : Lo)
abbrev Ex := S → Lo → Sto → Rs Fl
def exs (f : Ex) : List S → Lo → Sto → Rs Fl
  | [], lo, st => .ok (.nx lo) st
  | s :: r, lo, st => match f s lo st with
    | .ok (.nx lo) st => exs f r lo st
    | z => z
def forL (b : Lo → Sto → Rs Fl) (tg : Tg) : List D → Lo → Sto → Rs Fl
  | [], lo, st => .ok (.nx lo) st
  | x :: xs, lo, st => match bindT tg x lo with
    | none => .no
    | some lo => match b lo st with
      | .ok (.nx lo) st => forL b tg xs lo st
      | .ok (.ct lo) st => forL b tg xs lo st
      | .ok (.bk lo) st => .ok (.nx lo) st
      | z => z
def whL (t : Lo → Sto → Rs Bool) (b : Lo → Sto → Rs Fl) : Nat → Lo → Sto → Rs Fl
  | 0, _, _ => .no
  | n + 1, lo, st => match t lo st with
    | .ok true st => match b lo st with
      | .ok (.nx lo) st => whL t b n lo st
      | .ok (.ct lo) st => whL t b n lo st
      | .ok (.bk lo) st => .ok (.nx lo) st
      | z => z
    | .ok false st => .ok (.nx lo) st
    | .ex c xs st => .ex c xs st
    | .no => .no
def setAll : List Nat → List RV → Lo → Option Lo
  | [], [], lo => some lo
  | i :: is, x :: xs, lo => setAll is xs (lo.set i (some x))
  | _, _, _ => none
/-- a changeable thing becomes data -/
def thaw (i : Nat) (x : D) : Option RV → Option RV
  | some (.r j) => if j = i then some (.d x) else some (.r j)
  | z => z
def WF : Nat := 1000000000000
def exF (cf : CF) (en : Nat) (f : Ex) : Ex := fun s lo st =>
  match s with
  | .ex e => (ev cf en e lo st).bind fun _ st => .ok (.nx lo) st
  | .asg t e => match t with
    | .n i => (ev cf en e lo st).bind fun x st => .ok (.nx (lo.set i (some x))) st
    | t => (evP (ev cf en) e lo st).bind fun x st => match bindT t x lo with
      | some lo => .ok (.nx lo) st
      | none => .no
  | .par is es => (evRs (ev cf en) es lo st).bind fun xs st => match setAll is xs lo with
      | some lo => .ok (.nx lo) st
      | none => .no
  | .aug i op e => match lo[i]? with
    | some (some (.d x)) => (evP (ev cf en) e lo st).bind fun y st => (Rs.of (if isIntD x && isIntD y then binD op x y else none) st).bind fun z st => .ok (.nx (lo.set i (some (.d z)))) st
    | _ => .no
  | .put o k e => (evP (ev cf en) e lo st).bind fun x st => (ev cf en o lo st).bind fun o st => (evP (ev cf en) k lo st).bind fun k st => match o with
    | .r i => match st[i]?, k with
      | some (.lst xs), .int k => match L2.ixN xs.length k with
        | some j => .ok (.nx lo) (st.set i (.lst (xs.set j x)))
        | none => .no
      | _, _ => .no
    | _ => .no
  | .app o e => (ev cf en o lo st).bind fun o st => match o with
    | .r i => match st[i]? with
      | some (.lst _) => (evP (ev cf en) e lo st).bind fun x st => match st[i]? with
        | some (.lst xs) => if szOk (xs.length + 1) then .ok (.nx lo) (st.set i (.lst (xs ++ [x]))) else .no
        | _ => .no
      | _ => .no
    | _ => .no
  | .ins o i e => (ev cf en o lo st).bind fun o st => match o with
    | .r j => match st[j]? with
      | some (.lst _) => (evP (ev cf en) i lo st).bind fun k st => (evP (ev cf en) e lo st).bind fun x st => match k, st[j]? with
        | .int k, some (.lst xs) => if decide (0 ≤ k) && decide (k < 2 ^ 63) && szOk (xs.length + 1) then .ok (.nx lo) (st.set j (.lst (xs.take k.toNat ++ [x] ++ xs.drop k.toNat))) else .no
        | _, _ => .no
      | _ => .no
    | _ => .no
  | .ret e => (evP (ev cf en) e lo st).bind fun x st => .ok (.rt x) st
  | .iff t a b => (evT (ev cf en) t lo st).bind fun k st => if k then exs f a lo st else exs f b lo st
  | .whl t b => whL (evT (ev cf en) t) (exs f b) WF lo st
  | .fr tg it b => (evIt (ev cf en) it lo st).bind fun xs st => forL (exs f b) tg xs lo st
  | .rais c args => (evPs (ev cf en) args lo st).bind fun xs st => .ex c xs st
  | .pass => .ok (.nx lo) st
  | .brk => .ok (.bk lo) st
  | .cont => .ok (.ct lo) st
  | .frz i => match lo[i]? with
    | some (some (.r j)) => match st[j]? with
      | some (.lst xs) => .ok (.nx (lo.map (thaw j (.list xs)))) (st.set j .gone)
      | some (.dct kvs) => .ok (.nx (lo.map (thaw j (.dict kvs)))) (st.set j .gone)
      | _ => .no
    | _ => .ok (.nx lo) st
def exN (cf : CF) (en : Nat) : Nat → Ex
  | 0 => fun _ _ _ => .no
  | n + 1 => exF cf en (exN cf en n)

/-! ### calls: the level is the depth of calls within one another -/
def EN : Nat := 60
def SN : Nat := 40
def runF (cf : CF) (fn : Fn) (args : List RV) (st : Sto) : Rs RV :=
  if args.length = fn.np then
    match exs (exN cf EN SN) fn.body (args.map some ++ List.replicate (fn.ns - fn.np) none) st with
    | .ok (.rt x) st' => .ok (.d x) (st'.take st.length)
    | .ok (.nx _) st' => .ok (.d .none) (st'.take st.length)
    | .ex c xs st' => .ex c xs (st'.take st.length)
    | _ => .no
  else .no
def callF (P : List Fn) : Nat → CF
  | 0 => fun _ _ _ => .no
  | k + 1 => fun i args st => match P[i]? with
    | some fn => runF (callF P k) fn args st
    | none => .no
end Sm

set_option Elab.async false
set_option linter.all false
set_option maxRecDepth 100000
/-! SmB: what the evaluator's values stand for in the abstract heap; how the heap may go on. -/
namespace Sm
open PySem PySem.Spec PyProof.Rows L2
/-- a list of the written part -/
def KL (K : PySem.W.Frag) (a : Addr) (xs : List V) : Prop :=
  ∃ (its : List Value) (n : Nat), K.lookup a = some { cls := .type "list", data := .seq its.toArray n } ∧ its.length ≤ sizeLine ∧ Vals xs its
/-- a list that changes no more -/
def FzL (K : PySem.W.Frag) (H : Hp) (a : Addr) (xs : List V) : Prop := (∃ o, H a = some (.frz o (.lst xs))) ∨ KL K a xs
/-- a list that is read -/
def LsL (K : PySem.W.Frag) (H : Hp) (a : Addr) (xs : List V) : Prop := H a = some (.lst xs) ∨ FzL K H a xs
theorem LsL.sq {K : PySem.W.Frag} {H : Hp} {a : Addr} {xs : List V} (h : LsL K H a xs) : SqL K H a xs := by
  rcases h with h | ⟨o, h⟩ | ⟨its, n, h, z, r⟩
  · exact .inl (.inl h)
  · exact .inl (.inr ⟨o, h⟩)
  · exact .inr ⟨_, its.toArray, n, h, rfl, rfl, rfl, by simpa using z, by simpa using r⟩
theorem FzL.sq {K : PySem.W.Frag} {H : Hp} {a : Addr} {xs : List V} (h : FzL K H a xs) : SqL K H a xs := LsL.sq (.inr h)
theorem LsL.obj {X : Cx} {pins : List (Addr × Obj)} {σ : L2.St} {H : Hp} {s : Shared} (I : Inv X pins σ H s) {a : Addr} {xs : List V} (h : LsL X.K H a xs) :
    ∃ (its : List Value) (n : Nat), Vals xs its ∧ xs.length ≤ sizeLine ∧ s.heap.get? a = some { cls := .type "list", data := .seq its.toArray n } := by
  rcases h with h | ⟨o, h⟩ | ⟨its, n, h, z, r⟩
  · obtain ⟨z, its, n, r, e⟩ := I.hok a _ h
    exact ⟨its, n, r, z, e⟩
  · obtain ⟨_, z, its, n, r, e⟩ := I.hok a _ h
    exact ⟨its, n, r, z, e⟩
  · exact ⟨its, n, r, by rw [r.length]; exact z, I.kIn a _ h⟩
mutual
inductive Rp (K : PySem.W.Frag) (H : Hp) : V → D → Prop
  | non : Rp K H .non .none
  | bl (b : Bool) : Rp K H (.bl b) (.bool b)
  | int (i : Int) : Rp K H (.int i) (.int i)
  | str (x : Str) : Rp K H (.str x) (.str x)
  | tup {a : Addr} {xs : List V} {ds : List D} : SqT K H a xs → RpL K H xs ds → Rp K H (.ref a) (.tuple ds)
  | lst {a : Addr} {xs : List V} {ds : List D} : FzL K H a xs → RpL K H xs ds → Rp K H (.ref a) (.list ds)
inductive RpL (K : PySem.W.Frag) (H : Hp) : List V → List D → Prop
  | nil : RpL K H [] []
  | cons {v : V} {vs : List V} {d : D} {ds : List D} : Rp K H v d → RpL K H vs ds → RpL K H (v :: vs) (d :: ds)
end
/-- tuples and locked things stay -/
structure Keep (H H' : Hp) : Prop where
  tup : ∀ a xs, H a = some (.tup xs) → H' a = some (.tup xs)
  frz : ∀ a o u, H a = some (.frz o u) → H' a = some (.frz o u)
theorem Keep.refl (H : Hp) : Keep H H := ⟨fun _ _ h => h, fun _ _ _ h => h⟩
theorem Keep.trans {H H1 H2 : Hp} (a : Keep H H1) (b : Keep H1 H2) : Keep H H2 := ⟨fun c xs h => b.tup c xs (a.tup c xs h), fun c o u h => b.frz c o u (a.frz c o u h)⟩
theorem Keep.rd {H H' : Hp} (k : Keep H H') {a : Addr} {xs : List V} (h : Rd H a (.tup xs)) : Rd H' a (.tup xs) := by
  rcases h with h | ⟨o, h⟩
  · exact .inl (k.tup _ _ h)
  · exact .inr ⟨o, k.frz _ _ _ h⟩
theorem Keep.sqT {K : PySem.W.Frag} {H H' : Hp} (k : Keep H H') {a : Addr} {xs : List V} (h : SqT K H a xs) : SqT K H' a xs := by
  rcases h with h | h
  · exact .inl (k.rd h)
  · exact .inr h
theorem Keep.fzL {K : PySem.W.Frag} {H H' : Hp} (k : Keep H H') {a : Addr} {xs : List V} (h : FzL K H a xs) : FzL K H' a xs := by
  rcases h with ⟨o, h⟩ | h
  · exact .inl ⟨o, k.frz _ _ _ h⟩
  · exact .inr h
mutual
theorem Rp.keep {K : PySem.W.Frag} {H H' : Hp} (k : Keep H H') : ∀ {v : V} {d : D}, Rp K H v d → Rp K H' v d
  | _, _, .non => .non
  | _, _, .bl b => .bl b
  | _, _, .int i => .int i
  | _, _, .str x => .str x
  | _, _, .tup h r => .tup (k.sqT h) (RpL.keep k r)
  | _, _, .lst h r => .lst (k.fzL h) (RpL.keep k r)
theorem RpL.keep {K : PySem.W.Frag} {H H' : Hp} (k : Keep H H') : ∀ {v : List V} {d : List D}, RpL K H v d → RpL K H' v d
  | _, _, .nil => .nil
  | _, _, .cons h r => .cons (Rp.keep k h) (RpL.keep k r)
end
mutual
theorem Rp.dp {K : PySem.W.Frag} {H : Hp} : ∀ {v : V} {d : D}, Rp K H v d → Dp K H v d
  | _, _, .non => .non
  | _, _, .bl b => .bl b
  | _, _, .int i => .int i
  | _, _, .str x => .str x
  | _, _, .tup h r => .tup h (RpL.dp r)
  | _, _, .lst h r => .lst h.sq (RpL.dp r)
theorem RpL.dp {K : PySem.W.Frag} {H : Hp} : ∀ {v : List V} {d : List D}, RpL K H v d → DpAll K H v d
  | _, _, .nil => .nil
  | _, _, .cons h r => .cons (Rp.dp h) (RpL.dp r)
end
section
variable {K : PySem.W.Frag} {H : Hp}
theorem RpL.length : ∀ {v : List V} {d : List D}, RpL K H v d → v.length = d.length
  | _, _, .nil => rfl
  | _, _, .cons _ r => by rw [List.length_cons, List.length_cons, RpL.length r]
theorem RpL.append : ∀ {v w : List V} {d e : List D}, RpL K H v d → RpL K H w e → RpL K H (v ++ w) (d ++ e)
  | _, _, _, _, .nil, s => s
  | _, _, _, _, .cons h r, s => .cons h (RpL.append r s)
theorem RpL.get : ∀ {v : List V} {d : List D} {i : Nat} {x : V}, RpL K H v d → v[i]? = some x → ∃ y, d[i]? = some y ∧ Rp K H x y
  | _, _, _, _, .nil, e => by simp at e
  | _, _, 0, _, .cons h _, e => by simp at e; subst e; exact ⟨_, rfl, h⟩
  | _, _, i + 1, _, .cons _ r, e => by
    obtain ⟨y, h1, h2⟩ := RpL.get (i := i) r (by simpa using e)
    exact ⟨y, by simpa using h1, h2⟩
theorem RpL.get' : ∀ {v : List V} {d : List D} {i : Nat} {y : D}, RpL K H v d → d[i]? = some y → ∃ x, v[i]? = some x ∧ Rp K H x y
  | _, _, _, _, .nil, e => by simp at e
  | _, _, 0, _, .cons h _, e => by simp at e; subst e; exact ⟨_, rfl, h⟩
  | _, _, i + 1, _, .cons _ r, e => by
    obtain ⟨y, h1, h2⟩ := RpL.get' (i := i) r (by simpa using e)
    exact ⟨y, by simpa using h1, h2⟩
theorem RpL.take : ∀ {v : List V} {d : List D} (n : Nat), RpL K H v d → RpL K H (v.take n) (d.take n)
  | _, _, 0, _ => .nil
  | _, _, _ + 1, .nil => .nil
  | _, _, n + 1, .cons h r => .cons h (RpL.take n r)
theorem RpL.drop : ∀ {v : List V} {d : List D} (n : Nat), RpL K H v d → RpL K H (v.drop n) (d.drop n)
  | _, _, 0, h => h
  | _, _, _ + 1, .nil => .nil
  | _, _, n + 1, .cons _ r => RpL.drop n r
theorem RpL.set : ∀ {v : List V} {d : List D} {x : V} {y : D} (n : Nat), RpL K H v d → Rp K H x y → RpL K H (v.set n x) (d.set n y)
  | _, _, _, _, _, .nil, _ => .nil
  | _, _, _, _, 0, .cons _ r, h => .cons h r
  | _, _, _, _, n + 1, .cons h r, g => .cons h (RpL.set n r g)
theorem RpL.eraseIdx : ∀ {v : List V} {d : List D} (n : Nat), RpL K H v d → RpL K H (v.eraseIdx n) (d.eraseIdx n)
  | _, _, _, .nil => .nil
  | _, _, 0, .cons _ r => r
  | _, _, n + 1, .cons h r => .cons h (RpL.eraseIdx n r)
theorem RpL.reverse {v : List V} {d : List D} (h : RpL K H v d) : RpL K H v.reverse d.reverse := by
  induction v generalizing d with
  | nil => cases h; exact .nil
  | cons x v ih => cases h with | cons a b => rw [List.reverse_cons, List.reverse_cons]; exact (ih b).append (.cons a .nil)
theorem RpL.rep {v : List V} {d : List D} (h : RpL K H v d) : ∀ k : Nat, RpL K H (List.replicate k v).flatten (List.replicate k d).flatten
  | 0 => .nil
  | k + 1 => by
    rw [List.replicate_succ, List.replicate_succ, List.flatten_cons, List.flatten_cons]
    exact h.append (RpL.rep h k)
theorem RpL.ints : ∀ {v : List V} {d : List D} {ns : List Int}, RpL K H v d → intsOf d = some ns → v = ns.map V.int
  | _, _, ns, .nil, e => by simp only [intsOf, Option.some.injEq] at e; subst e; rfl
  | _, _, ns, .cons h r, e => by
    cases h <;> simp only [intsOf, Option.map_eq_some_iff, reduceCtorEq] at e
    obtain ⟨m, h1, rfl⟩ := e
    rw [RpL.ints r h1]; rfl
theorem RpL.bools : ∀ {v : List V} {d : List D} {ns : List Bool}, RpL K H v d → boolsOf d = some ns → v = ns.map V.bl
  | _, _, ns, .nil, e => by simp only [boolsOf, Option.some.injEq] at e; subst e; rfl
  | _, _, ns, .cons h r, e => by
    cases h <;> simp only [boolsOf, Option.map_eq_some_iff, reduceCtorEq] at e
    obtain ⟨m, h1, rfl⟩ := e
    rw [RpL.bools r h1]; rfl
theorem RpL.of_ints : ∀ ns : List Int, RpL K H (ns.map V.int) (ns.map PyData.int)
  | [] => .nil
  | n :: ns => .cons (.int n) (RpL.of_ints ns)
end

/-- the static side: written part, tables of code objects, the exceptions' classes (address, fields), what is wanted of an exception -/
structure Cz where
  K : PySem.W.Frag
  T : List (Addr × Str)
  cls : Nat → Option (Addr × List Str)
  W : XK
/-- a changeable thing that lives -/
def live (φ : List Addr) (st : Sto) (a : Addr) : Prop := ∃ (i : Nat) (o : MO), φ[i]? = some a ∧ st[i]? = some o ∧ o ≠ MO.gone
structure StOk (K : PySem.W.Frag) (φ : List Addr) (st : Sto) (H : Hp) : Prop where
  len : φ.length = st.length
  nd : ∀ (i j : Nat) (a : Addr) (o o' : MO), φ[i]? = some a → φ[j]? = some a → st[i]? = some o → st[j]? = some o' → o ≠ MO.gone → o' ≠ MO.gone → i = j
  lst : ∀ (i : Nat) (a : Addr) (xs : List D), φ[i]? = some a → st[i]? = some (MO.lst xs) → ∃ vs, H a = some (.lst vs) ∧ RpL K H vs xs
  dct : ∀ (i : Nat) (a : Addr) (xs : List (D × D)), φ[i]? = some a → st[i]? = some (MO.dct xs) → False
/-- nothing, or a table, stands there -/
def Fr (H : Hp) (a : Addr) : Prop := ∀ o, H a = some o → ∃ ps, o = .tbl ps
theorem Fr.of {H : Hp} {a : Addr} (h : H a = none) : Fr H a := fun o e => by rw [h] at e; cases e
theorem Fr.no {H : Hp} {a : Addr} {o : HO} (n : Fr H a) (h : H a = some o) (nt : ∀ ps, o ≠ .tbl ps) : False := by
  obtain ⟨ps, e⟩ := n o h
  exact nt ps e
/-- how heap and store may go on -/
structure Step (T : List (Addr × Str)) (φ : List Addr) (st : Sto) (H : Hp) (φ' : List Addr) (st' : Sto) (H' : Hp) : Prop where
  pre : ∃ ψ, φ' = φ ++ ψ ∧ ∀ a ∈ ψ, Fr H a
  gone : ∀ i : Nat, st[i]? = some MO.gone → st'[i]? = some MO.gone
  ext : ∀ a o, H a = some o → (∀ ps, o ≠ .tbl ps) → ¬ live φ st a → H' a = some o
  dom : ∀ a, Fr H' a → Fr H a
  tab : LamX.Tabs T H → LamX.Tabs T H'
section
variable {K : PySem.W.Frag} {T : List (Addr × Str)} {φ φ1 φ2 : List Addr} {st st1 st2 : Sto} {H H1 H2 : Hp}
theorem Step.refl : Step T φ st H φ st H := ⟨⟨[], by simp, by simp⟩, fun _ h => h, fun _ _ h _ _ => h, fun _ h => h, fun h => h⟩
theorem Step.trans (s : StOk K φ st H) (s1 : StOk K φ1 st1 H1) (a : Step T φ st H φ1 st1 H1) (b : Step T φ1 st1 H1 φ2 st2 H2) : Step T φ st H φ2 st2 H2 := by
  obtain ⟨ψ, e, n⟩ := a.pre
  obtain ⟨χ, e', n'⟩ := b.pre
  refine ⟨⟨ψ ++ χ, by rw [e', e, List.append_assoc], fun c hc => ?_⟩, fun i h => b.gone i (a.gone i h), fun c o h nt nl => ?_, fun c h => a.dom c (b.dom c h), fun h => b.tab (a.tab h)⟩
  · rcases List.mem_append.mp hc with h | h
    · exact n c h
    · exact a.dom c (n' c h)
  · refine b.ext c o (a.ext c o h nt nl) nt ?_
    rintro ⟨i, o', hi, hs, hg⟩
    rw [e] at hi
    by_cases hl : i < φ.length
    · rw [List.getElem?_append_left hl] at hi
      have hl2 : i < st.length := by rw [← s.len]; exact hl
      obtain ⟨o2, ho2⟩ : ∃ o2, st[i]? = some o2 := ⟨_, List.getElem?_eq_getElem hl2⟩
      refine nl ⟨i, o2, hi, ho2, fun q => ?_⟩
      rw [q] at ho2
      rw [a.gone i ho2] at hs
      exact hg (Option.some.inj hs).symm
    · rw [List.getElem?_append_right (by omega)] at hi
      exact (n c (List.mem_of_getElem? hi)).no h nt
theorem StOk.nolive_tup (s : StOk K φ st H) {a : Addr} {xs : List V} (h : H a = some (.tup xs)) : ¬ live φ st a := by
  rintro ⟨i, o, hi, hs, hg⟩
  cases o with
  | lst ys => obtain ⟨vs, e, _⟩ := s.lst i a ys hi hs; rw [h] at e; cases e
  | dct ys => exact s.dct i a ys hi hs
  | gone => exact hg rfl
theorem StOk.nolive_frz (s : StOk K φ st H) {a : Addr} {o : Obj} {u : HO} (h : H a = some (.frz o u)) : ¬ live φ st a := by
  rintro ⟨i, o, hi, hs, hg⟩
  cases o with
  | lst ys => obtain ⟨vs, e, _⟩ := s.lst i a ys hi hs; rw [h] at e; cases e
  | dct ys => exact s.dct i a ys hi hs
  | gone => exact hg rfl
theorem Step.keep (s : StOk K φ st H) (a : Step T φ st H φ1 st1 H1) : Keep H H1 :=
  ⟨fun c xs h => a.ext c _ h (by intro ps q; cases q) (s.nolive_tup h), fun c o u h => a.ext c _ h (by intro ps q; cases q) (s.nolive_frz h)⟩
/-- a live thing stands as a list -/
theorem StOk.live_at (s : StOk K φ st H) {a : Addr} (h : live φ st a) : ∃ vs, H a = some (.lst vs) := by
  obtain ⟨i, o, hi, hs, hg⟩ := h
  cases o with
  | lst ys => obtain ⟨vs, e, _⟩ := s.lst i a ys hi hs; exact ⟨vs, e⟩
  | dct ys => exact (s.dct i a ys hi hs).elim
  | gone => exact absurd rfl hg
end
/-- tables stay where all but lists that are changed stay -/
theorem tabs_ext {T : List (Addr × Str)} {H H' : Hp} (e : ∀ b o, H b = some o → (∀ xs, o ≠ .lst xs) → H' b = some o) (t : LamX.Tabs T H) : LamX.Tabs T H' := fun p hp => by
  obtain ⟨ps, h1, h2, h3⟩ := t p hp
  refine ⟨ps, e _ _ h1 (by intro xs q; cases q), h2, fun pos cv hc => ?_⟩
  obtain ⟨c, e1, e2⟩ := h3 pos cv hc
  exact ⟨c, e1, e _ _ e2 (by intro xs q; unfold LamX.CodeO at q; cases q)⟩
theorem grow_dom {H H' : Hp} (e : ∀ b o, H b = some o → H' b = some o) {a : Addr} (h : Fr H' a) : Fr H a := fun o q => h o (e a o q)
/-- nothing that stood is changed -/
theorem Step.grow {T : List (Addr × Str)} {φ : List Addr} {st : Sto} {H H' : Hp} (e : ∀ b o, H b = some o → H' b = some o) : Step T φ st H φ st H' :=
  ⟨⟨[], by simp, by simp⟩, fun _ h => h, fun a o h _ _ => e a o h, fun a h => grow_dom e h, tabs_ext fun b o h _ => e b o h⟩
theorem StOk.grow {K : PySem.W.Frag} {φ : List Addr} {st : Sto} {H H' : Hp} (s : StOk K φ st H) (e : ∀ b o, H b = some o → H' b = some o) : StOk K φ st H' :=
  ⟨s.len, s.nd, fun i a xs h1 h2 => by
    obtain ⟨vs, e1, r⟩ := s.lst i a xs h1 h2
    exact ⟨vs, e _ _ e1, r.keep ⟨fun a xs h => e _ _ h, fun a o u h => e _ _ h⟩⟩, s.dct⟩
theorem upd_old {H : Hp} {p : Addr} {u : HO} (n : H p = none) : ∀ b o, H b = some o → upd H p u b = some o := fun b o h => by
  rw [upd_ne (ne_of_none h n)]; exact h

/-- a name's value -/
def RpR (K : PySem.W.Frag) (φ : List Addr) (H : Hp) (v : V) : RV → Prop
  | .d x => Rp K H v x
  | .r i => ∃ a, φ[i]? = some a ∧ v = .ref a
theorem RpR.step {K : PySem.W.Frag} {T : List (Addr × Str)} {φ φ1 : List Addr} {st st1 : Sto} {H H1 : Hp} (s : StOk K φ st H) (a : Step T φ st H φ1 st1 H1) {v : V} {x : RV} (h : RpR K φ H v x) : RpR K φ1 H1 v x := by
  cases x with
  | d x => exact Rp.keep (a.keep s) h
  | r i =>
    obtain ⟨b, e, e'⟩ := h
    obtain ⟨ψ, ep, _⟩ := a.pre
    refine ⟨b, ?_, e'⟩
    rw [ep, List.getElem?_append_left]
    · exact e
    · exact (List.getElem?_eq_some_iff.mp e).1
/-- the local names -/
structure SimL (K : PySem.W.Frag) (φ : List Addr) (H : Hp) (lo : Lo) (σ : L2.St) : Prop where
  len : lo.length = σ.length
  get : ∀ (i : Nat) (x : RV), lo[i]? = some (some x) → ∃ v, σ[i]? = some (some v) ∧ RpR K φ H v x
theorem SimL.step {K : PySem.W.Frag} {T : List (Addr × Str)} {φ φ1 : List Addr} {st st1 : Sto} {H H1 : Hp} (s : StOk K φ st H) (a : Step T φ st H φ1 st1 H1) {lo : Lo} {σ : L2.St} (h : SimL K φ H lo σ) : SimL K φ1 H1 lo σ :=
  ⟨h.len, fun i x e => let ⟨v, h1, h2⟩ := h.get i x e; ⟨v, h1, h2.step s a⟩⟩
theorem SimL.set {K : PySem.W.Frag} {φ : List Addr} {H : Hp} {lo : Lo} {σ : L2.St} (h : SimL K φ H lo σ) (i : Nat) {v : V} {x : RV} (r : RpR K φ H v x) : SimL K φ H (lo.set i (some x)) (σ.set i (some v)) := by
  refine ⟨by simpa using h.len, fun j y e => ?_⟩
  by_cases hj : j = i
  · subst hj
    by_cases hl : j < lo.length
    · rw [List.getElem?_set_self hl] at e
      cases e
      exact ⟨v, List.getElem?_set_self (by rw [← h.len]; exact hl), r⟩
    · rw [List.getElem?_eq_none (by simpa using hl)] at e; cases e
  · rw [List.getElem?_set_ne (Ne.symm hj)] at e
    obtain ⟨w, h1, h2⟩ := h.get j y e
    exact ⟨w, by rw [List.getElem?_set_ne (Ne.symm hj)]; exact h1, h2⟩
theorem SimL.wipe {K : PySem.W.Frag} {φ : List Addr} {H : Hp} {lo : Lo} {σ : L2.St} (h : SimL K φ H lo σ) : ∀ own : List Nat, SimL K φ H (wipeL own lo) (L2.wipe σ own)
  | [] => h
  | i :: own => by
    have ih := SimL.wipe h own
    refine ⟨?_, fun j y e => ?_⟩
    · show ((wipeL own lo).set i none).length = ((L2.wipe σ own).set i none).length
      rw [List.length_set, List.length_set]; exact ih.len
    · have e : ((wipeL own lo).set i none)[j]? = some (some y) := e
      show ∃ v, ((L2.wipe σ own).set i none)[j]? = some (some v) ∧ _
      by_cases hj : j = i
      · subst hj
        by_cases hl : j < (wipeL own lo).length
        · rw [List.getElem?_set_self hl] at e; cases e
        · rw [List.getElem?_eq_none (by simpa using hl)] at e; cases e
      · rw [List.getElem?_set_ne (Ne.symm hj)] at e
        obtain ⟨w, h1, h2⟩ := ih.get j y e
        exact ⟨w, by rw [List.getElem?_set_ne (Ne.symm hj)]; exact h1, h2⟩

/-- what is wanted behind a result -/
def Post (z : Cz) (φ : List Addr) (st : Sto) (H : Hp) {α : Type} (r : Rs α) (Q : α → List Addr → Sto → Hp → Prop) : Prop :=
  match r with
  | .ok a st' => ∀ φ' H', Step z.T φ st H φ' st' H' → StOk z.K φ' st' H' → Q a φ' st' H'
  | .ex c xs st' => ∀ φ' H' d C fs vs, Step z.T φ st H φ' st' H' → StOk z.K φ' st' H' → z.cls c = some (C, fs) → vs.length = fs.length → RpL z.K H' vs xs → H' d = some (.xd (fs.zip vs)) → z.W (.ref C) (some d) H'
  | .no => False
section
variable {z : Cz} {φ : List Addr} {st : Sto} {H : Hp} {α β : Type}
theorem Post.bind (s : StOk z.K φ st H) {r : Rs α} {f : α → Sto → Rs β} {Q : β → List Addr → Sto → Hp → Prop} (h : Post z φ st H (r.bind f) Q) :
    Post z φ st H r fun a φ1 st1 H1 => StOk z.K φ1 st1 H1 ∧ Step z.T φ st H φ1 st1 H1 ∧ Post z φ1 st1 H1 (f a st1) Q := by
  cases r with
  | no => exact h
  | ex c xs st' => exact h
  | ok a st1 =>
    intro φ1 H1 p1 s1
    refine ⟨s1, p1, ?_⟩
    have h : Post z φ st H (f a st1) Q := h
    cases e : f a st1 with
    | no => rw [e] at h; exact h
    | ex c xs st2 =>
      rw [e] at h
      exact fun φ2 H2 d C fs vs p2 => h φ2 H2 d C fs vs (p1.trans s s1 p2)
    | ok b st2 =>
      rw [e] at h
      exact fun φ2 H2 p2 => h φ2 H2 (p1.trans s s1 p2)
theorem Post.mono {r : Rs α} {Q Q' : α → List Addr → Sto → Hp → Prop} (h : Post z φ st H r Q) (m : ∀ a φ' st' H', Step z.T φ st H φ' st' H' → StOk z.K φ' st' H' → Q a φ' st' H' → Q' a φ' st' H') : Post z φ st H r Q' := by
  cases r with
  | no => exact h
  | ex c xs st' => exact h
  | ok a st' => exact fun φ' H' p s => m a φ' st' H' p s (h φ' H' p s)
/-- a part that cannot be left out -/
theorem Post.of (s : StOk z.K φ st H) {o : Option α} {f : α → Sto → Rs β} {Q : β → List Addr → Sto → Hp → Prop} (h : Post z φ st H ((Rs.of o st).bind f) Q) : ∃ a, o = some a ∧ Post z φ st H (f a st) Q := by
  cases o with
  | none => exact (h : False).elim
  | some a => exact ⟨a, rfl, h⟩
theorem Post.here (s : StOk z.K φ st H) {a : α} {Q : α → List Addr → Sto → Hp → Prop} (h : Post z φ st H (.ok a st) Q) : Q a φ st H := h φ H .refl s
end
end Sm

set_option Elab.async false
set_option linter.all false
set_option maxRecDepth 100000
set_option maxHeartbeats 1000000
/-! SmC: operators, comparisons, subscripts over data, as rules of the hand layer. -/
namespace Sm
open PySem PySem.Spec PyProof.Rows L2
/-- an answer: whatever stands for r in a heap that has grown -/
def Out (K : PySem.W.Frag) (H : Hp) (Q : VK) (r : D) : Prop := ∀ v H', (∀ b o, H b = some o → H' b = some o) → Rp K H' v r → Q v H'
theorem keep_of {H H' : Hp} (e : ∀ b o, H b = some o → H' b = some o) : Keep H H' := ⟨fun a xs h => e _ _ h, fun a o u h => e _ _ h⟩
section
variable {X : Cx} {pins : List (Addr × Obj)} {σ : L2.St} {H : Hp} {s s1 : Shared} {Q : VK} {p : Addr} {vs : List V} {ds : List D}
theorem fin_lst (I1 : Inv X pins σ (upd H p (.lst vs)) s1) (hn : H p = none) (r : RpL X.K H vs ds) (q : Out X.K H Q (.list ds)) : EP X pins σ Q (.ref p) s1 := by
  obtain ⟨o, I2⟩ := I1.lock upd_same trivial
  rw [upd_upd] at I2
  exact ⟨.ref p, _, I2, rfl, q _ _ (upd_old hn) (.lst (.inl ⟨o, upd_same⟩) (r.keep (keep_of (upd_old hn))))⟩
theorem fin_tup (I1 : Inv X pins σ (upd H p (.tup vs)) s1) (hn : H p = none) (r : RpL X.K H vs ds) (q : Out X.K H Q (.tuple ds)) : EP X pins σ Q (.ref p) s1 :=
  ⟨.ref p, _, I1, rfl, q _ _ (upd_old hn) (.tup (SqT.of upd_same) (r.keep (keep_of (upd_old hn))))⟩
theorem fin_int {i : Int} {t : Tok} (I : Inv X pins σ H s) (q : Out X.K H Q (.int i)) : EP X pins σ Q (.int i t) { s with toks := s.toks + 1 } :=
  ⟨.int i, H, I.tok _, ⟨_, rfl⟩, q _ _ (fun _ _ h => h) (.int i)⟩
theorem fin_same {v : V} {u : Value} {d : D} (I : Inv X pins σ H s) (r : RelV v u) (h : Rp X.K H v d) (q : Out X.K H Q d) : EP X pins σ Q u s :=
  ⟨v, H, I, r, q _ _ (fun _ _ h => h) h⟩
theorem fin_bool {b : Bool} (I : Inv X pins σ H s) (q : Out X.K H Q (.bool b)) : EP X pins σ Q (.bool b) s :=
  ⟨.bl b, H, I, rfl, q _ _ (fun _ _ h => h) (.bl b)⟩
/-- a rule of the layer, its answer a number, a text, a truth value -/
theorem out_int {i : Int} (q : Out X.K H Q (.int i)) : Q (.int i) H := q _ _ (fun _ _ h => h) (.int i)
theorem out_str {i : Str} (q : Out X.K H Q (.str i)) : Q (.str i) H := q _ _ (fun _ _ h => h) (.str i)
theorem out_bl {i : Bool} (q : Out X.K H Q (.bool i)) : Q (.bl i) H := q _ _ (fun _ _ h => h) (.bl i)
end
section
variable {X : Cx}
theorem cat_listC {pins : List (Addr × Obj)} {σ : L2.St} {H : Hp} {s : Shared} {Q : VK} {l b : Addr} {xs zs : List V} {ds es : List D} (I : Inv X pins σ H s) (hl : LsL X.K H l xs) (hb : LsL X.K H b zs) (r : RpL X.K H xs ds) (r' : RpL X.K H zs es) (hz : ds.length + es.length ≤ sizeLine)
    (q : ∀ p vs s1, H p = none → Inv X pins σ (upd H p (.lst vs)) s1 → RpL X.K H vs (ds ++ es) → EP X pins σ Q (.ref p) s1) : wpAny (model X.prog X.w) X.A (binaryOp .Add (.ref l) (.ref b)) (EP X pins σ Q) X.xe s := by
  obtain ⟨its, n, rv, z1, e1⟩ := hl.obj I
  obtain ⟨its2, n2, rv2, z2, e2⟩ := hb.obj I
  have l1 := r.length; have l2 := r'.length; have l3 := rv.length; have l4 := rv2.length
  refine PySem.P.add_list e1 e2 ?_ (by rw [List.size_toArray, List.size_toArray]; omega)
  have ea : its.toArray ++ its2.toArray = (its ++ its2).toArray := by simp
  rw [ea]
  exact q _ _ _ I.fresh (I.lnew (t' := s.toks) (rv.append rv2) (by rw [List.length_append]; omega)) (r.append r')
theorem cat_list {pins : List (Addr × Obj)} {σ : L2.St} {H : Hp} {s : Shared} {Q : VK} {l b : Addr} {xs zs : List V} {ds es : List D} (I : Inv X pins σ H s) (hl : LsL X.K H l xs) (hb : LsL X.K H b zs) (r : RpL X.K H xs ds) (r' : RpL X.K H zs es) (hz : ds.length + es.length ≤ sizeLine)
    (q : Out X.K H Q (.list (ds ++ es))) : wpAny (model X.prog X.w) X.A (binaryOp .Add (.ref l) (.ref b)) (EP X pins σ Q) X.xe s :=
  cat_listC I hl hb r r' hz fun p vs s1 hn I1 rl => fin_lst I1 hn rl q
theorem rep_listC {pins : List (Addr × Obj)} {σ : L2.St} {H : Hp} {s : Shared} {Q : VK} {l : Addr} {k : Int} {t : Tok} {xs : List V} {ds : List D} (I : Inv X pins σ H s) (hl : LsL X.K H l xs) (r : RpL X.K H xs ds) (h1 : -(2 ^ 63) ≤ k) (h2 : k < 2 ^ 63) (hz : ds.length * k.toNat ≤ sizeLine)
    (q : ∀ p vs s1, H p = none → Inv X pins σ (upd H p (.lst vs)) s1 → RpL X.K H vs (repL ds k.toNat) → EP X pins σ Q (.ref p) s1) : wpAny (model X.prog X.w) X.A (binaryOp .Mult (.ref l) (.int k t)) (EP X pins σ Q) X.xe s := by
  obtain ⟨its, n, rv, z, e⟩ := hl.obj I
  have hl := rv.length
  have l1 := r.length
  rw [← l1] at hz
  have hlen : its.toArray.size * k.toNat ≤ sizeLine := by rw [List.size_toArray, ← hl]; exact hz
  have hcap : ¬ its.toArray.size * k.toNat > (2 ^ 63 - 1) / 8 := by
    have : (sizeLine : Nat) ≤ (2 ^ 63 - 1) / 8 := by decide
    omega
  have hfit : ¬ (!Builtin.List.listFitsIndex k) = true := by
    rw [fitsIndex_both h1 h2]
    exact Bool.false_ne_true
  have hlong : ¬ Builtin.List.listTooLong (its.toArray.size * k.toNat) = true := by
    rw [notLongL hlen]
    exact Bool.false_ne_true
  have hnew : List.foldl (fun x1 x2 => x1 ++ x2) #[] (List.replicate (if its.toArray.isEmpty = true then 0 else k.toNat) its.toArray) = (List.replicate k.toNat its).flatten.toArray := by
    have f0 : ∀ m : Nat, List.foldl (fun x1 x2 => x1 ++ x2) #[] (List.replicate m its.toArray) = (List.replicate m its).flatten.toArray := fun m => by
      have := foldl_rep its m []
      rw [List.nil_append] at this
      exact this
    rw [f0]
    cases its with
    | nil => simp
    | cons a r' => rw [if_neg (by simp)]
  refine wpAny_binaryOp_repeat_ref (T := "list") (U := "int") (by decide) ⟨_, e, rfl⟩ (fun s' => typeIs_int s' k t) noFill_list_mul F.fills_int_mul F.slot_int_rmul repeat_list F.slot_int_index.lookup
    (call_meets F.slot_int_rmul (typeIs_int s k t) F.entry_int_rmul (F.args_int_rmul_2 _ _) (int___rmul___int_list k t l its.toArray n)
      ⟨e, rfl, ⟨_, e, rfl⟩, call_meets F.slot_list_mul ⟨_, e, rfl⟩ F.entry_list_mul (F.args_list_mul_2 _ _) (AutoListH.list___mul___list_int_3 l its.toArray n k t hfit hcap hlong) ⟨e, ?_⟩⟩)
  rw [hnew]
  refine q _ _ _ I.fresh (I.lnew (t' := s.toks) (rv.rep k.toNat) ?_) (r.rep k.toNat)
  rw [PyProof.Rows.lm_len_rep_flat, Nat.mul_comm]; exact hz
theorem rep_list {pins : List (Addr × Obj)} {σ : L2.St} {H : Hp} {s : Shared} {Q : VK} {l : Addr} {k : Int} {t : Tok} {xs : List V} {ds : List D} (I : Inv X pins σ H s) (hl : LsL X.K H l xs) (r : RpL X.K H xs ds) (h1 : -(2 ^ 63) ≤ k) (h2 : k < 2 ^ 63) (hz : ds.length * k.toNat ≤ sizeLine)
    (q : Out X.K H Q (.list (repL ds k.toNat))) : wpAny (model X.prog X.w) X.A (binaryOp .Mult (.ref l) (.int k t)) (EP X pins σ Q) X.xe s :=
  rep_listC I hl r h1 h2 hz fun p vs s1 hn I1 rl => fin_lst I1 hn rl q
theorem tuple_mul1 (l : Addr) (items : Array Value) (n : Nat) (dd : Option Addr) (sl : Array (Option Value)) (u : Tok) :
    Meets (Builtin.«tuple.__mul__» ⟨[.ref l, .int 1 u], []⟩) (fun _ R s => s.heap.get? l = some { cls := .type "tuple", dict := dd, data := .seq items n, slots := sl } ∧ R (.ok (.ret (Value.ref l))) s) :=
  .of_wp fun prog w A R s h => by
    obtain ⟨hp, g, d, tk, os⟩ := s
    obtain ⟨hl, h⟩ := h
    have f1 := AutoSeq1.idx_int
    have c0 : (decide ((1 : Int) < -(2 ^ 63)) || decide ((1 : Int) ≥ 2 ^ 63)) = false := by decide
    have c1 : (items.isEmpty || (1 : Int) == 1) = true := by simp
    wp_walk using wpAny_loadPart' hl
    repeat (first
      | (refine wpAny_ite_false (decide_eq_false (by rw [c0]; exact Bool.false_ne_true)) ?_; wp_walk using wpAny_loadPart' hl)
      | (refine wpAny_ite_true (decide_eq_true c1) ?_; wp_walk using wpAny_loadPart' hl))
    exact ⟨_, rfl, h⟩
theorem rep_tup1 {pins : List (Addr × Obj)} {σ : L2.St} {H : Hp} {s : Shared} {Q : VK} {l : Addr} {t : Tok} {xs : List V} {ds : List D} (I : Inv X pins σ H s) (hT : SqT X.K H l xs) (r : RpL X.K H xs ds)
    (q : Out X.K H Q (.tuple ds)) : wpAny (model X.prog X.w) X.A (binaryOp .Mult (.ref l) (.int 1 t)) (EP X pins σ Q) X.xe s := by
  obtain ⟨its, rv, ⟨⟨cls, dd, data, sl⟩, ho, hc, n, hd⟩, hs⟩ := I.tuple hT
  simp only at hc hd
  subst hc hd
  refine wpAny_binaryOp_repeat_ref (T := "tuple") (U := "int") (by decide) ⟨_, ho, rfl⟩ (fun s' => typeIs_int s' 1 t) noFill_tuple_mul F.fills_int_mul F.slot_int_rmul repeat_tuple F.slot_int_index.lookup
    (call_meets F.slot_int_rmul (typeIs_int s 1 t) F.entry_int_rmul (F.args_int_rmul_2 _ _) (int_rmul_tuple 1 t l its.toArray n dd sl)
      ⟨ho, rfl, ⟨_, ho, rfl⟩, call_meets F.slot_tuple_mul ⟨_, ho, rfl⟩ F.entry_tuple_mul (F.args_tuple_mul_2 _ _) (tuple_mul1 l its.toArray n dd sl t) ⟨ho, ?_⟩⟩)
  exact fin_same I (v := .ref l) rfl (.tup hT r) q
theorem repL_one (ds : List D) : repL ds 1 = ds := by simp [repL]
theorem szOk_le {n : Nat} (h : szOk n = true) : n ≤ sizeLine := by rw [← SZ_eq]; exact of_decide_eq_true h
/-- the operator on data -/
def rBin (K : PySem.W.Frag) (op : Operator) : R2 := fun x y H Q => ∃ dx dy r, Rp K H x dx ∧ Rp K H y dy ∧ binD op dx dy = some r ∧ Out K H Q r
theorem op_bin (op : Operator) : OpR X (binaryOp op) (rBin X.K op) := by
  intro pins s σ H x y v u Q I rx ry h
  obtain ⟨dx, dy, r, hx, hy, e, q⟩ := h
  unfold binD at e
  split at e
  · injection e with e; subst e
    cases hx; cases hy
    exact op_add pins s σ H _ _ v u Q I rx ry ⟨_, _, rfl, rfl, out_int (X := X) q⟩
  · split at e
    · rename_i hz
      injection e with e; subst e
      cases hx; cases hy
      exact op_add_str pins s σ H _ _ v u Q I rx ry ⟨_, _, rfl, rfl, szOk_le hz, out_str (X := X) q⟩
    · cases e
  · split at e
    · rename_i hz
      injection e with e; subst e
      cases hx with | tup h1 r1 => cases hy with | tup h2 r2 =>
      have l1 := r1.length; have l2 := r2.length
      refine op_catA pins s σ H _ _ v u Q I rx ry ⟨_, _, _, _, rfl, rfl, h1, h2, by rw [l1, l2]; exact szOk_le hz, fun hn => ?_, fun _ hn => ?_, fun _ _ p hp => ?_⟩
      · subst hn; cases r1
        exact q _ _ (fun _ _ h => h) (.tup h2 (by simpa using r2))
      · subst hn; cases r2
        exact q _ _ (fun _ _ h => h) (.tup h1 (by simpa using r1))
      · exact q _ _ (upd_old hp) (.tup (SqT.of upd_same) ((r1.append r2).keep (keep_of (upd_old hp))))
    · cases e
  · split at e
    · rename_i hz
      injection e with e; subst e
      cases hx with | lst h1 r1 => cases hy with | lst h2 r2 =>
      cases rx; cases ry
      exact cat_list I (.inr h1) (.inr h2) r1 r2 (szOk_le hz) q
    · cases e
  · injection e with e; subst e
    cases hx; cases hy
    exact op_sub pins s σ H _ _ v u Q I rx ry ⟨_, _, rfl, rfl, out_int (X := X) q⟩
  · split at e
    · rename_i hz
      injection e with e; subst e
      cases hx; cases hy
      unfold mulOk at hz
      simp only [Bool.or_eq_true, decide_eq_true_eq] at hz
      rcases hz with (hz | hz) | hz
      · exact op_mul pins s σ H _ _ v u Q I rx ry ⟨_, _, rfl, rfl, .inl (by omega), out_int (X := X) q⟩
      · exact op_mul pins s σ H _ _ v u Q I rx ry ⟨_, _, rfl, rfl, .inr (by omega), out_int (X := X) q⟩
      · exact op_mulW pins s σ H _ _ v u Q I rx ry ⟨_, _, rfl, rfl, hz, out_int (X := X) q⟩
    · cases e
  · split at e
    · rename_i hz
      injection e with e; subst e
      cases hy
      cases hx with | tup h1 r1 =>
      unfold repTOk at hz
      simp only [Bool.or_eq_true, Bool.and_eq_true, decide_eq_true_eq] at hz
      rcases hz with hz | ⟨⟨⟨z1, z2⟩, z3⟩, z4⟩
      · subst hz
        cases rx
        obtain ⟨t, rfl⟩ := ry
        exact rep_tup1 I h1 r1 (by rw [show (1 : Int).toNat = 1 from rfl, repL_one] at q; exact q)
      · have l1 := r1.length
        refine op_repT pins s σ H _ _ v u Q I rx ry ⟨_, _, _, rfl, rfl, h1, fun hn => ?_, z3, z4, by rw [l1]; exact z2, fun p hp => ?_⟩
        · rw [hn] at l1; simp only [List.length_nil] at l1; omega
        · exact q _ _ (upd_old hp) (.tup (SqT.of upd_same) ((r1.rep _).keep (keep_of (upd_old hp))))
    · cases e
  · split at e
    · rename_i hz
      injection e with e; subst e
      cases hy
      cases hx with | lst h1 r1 =>
      rw [repOk_eq] at hz
      simp only [Bool.and_eq_true, decide_eq_true_eq] at hz
      cases rx
      obtain ⟨t, rfl⟩ := ry
      exact rep_list I (.inr h1) r1 hz.1.1 hz.1.2 (by rw [← SZ_eq]; exact hz.2) q
    · cases e
  · split at e
    · rename_i hz
      injection e with e; subst e
      cases hx; cases hy
      unfold divOk at hz
      simp only [Bool.and_eq_true, decide_eq_true_eq] at hz
      exact op_fdivW pins s σ H _ _ v u Q I rx ry ⟨_, _, rfl, rfl, hz, out_int (X := X) q⟩
    · cases e
  · split at e
    · rename_i hz
      injection e with e; subst e
      cases hx; cases hy
      exact op_mod pins s σ H _ _ v u Q I rx ry ⟨_, _, rfl, rfl, hz, out_int (X := X) q⟩
    · cases e
  · split at e
    · rename_i hz
      injection e with e; subst e
      cases hx; cases hy
      unfold powOk at hz
      simp only [Bool.and_eq_true, decide_eq_true_eq] at hz
      exact op_pow pins s σ H _ _ v u Q I rx ry ⟨_, _, rfl, rfl, ⟨hz.1.1, hz.1.2, hz.2⟩, out_int (X := X) q⟩
    · cases e
  · cases e
/-- -a -/
theorem un_negD : UnR X (unaryOp .USub) (fun x H Q => ∃ dx r, Rp X.K H x dx ∧ negD dx = some r ∧ Out X.K H Q r) := by
  intro pins s σ H x v Q I rx h
  obtain ⟨dx, r, hx, e, q⟩ := h
  unfold negD at e
  split at e
  · injection e with e; subst e
    cases hx
    exact un_neg pins s σ H _ v Q I rx ⟨_, rfl, out_int (X := X) q⟩
  · cases e
end
end Sm

set_option Elab.async false
set_option linter.all false
set_option maxRecDepth 100000
set_option maxHeartbeats 1000000
/-! SmD: comparisons, subscripts, slices over data. -/
namespace Sm
open PySem PySem.Spec PyProof.Rows L2
/-- what is read: data, or the list that lies in the store -/
def RpM (K : PySem.W.Frag) (H : Hp) (v : V) (d : D) : Prop := Rp K H v d ∨ ∃ a vs ds, v = .ref a ∧ d = .list ds ∧ H a = some (.lst vs) ∧ RpL K H vs ds
theorem RpM.dp {K : PySem.W.Frag} {H : Hp} {v : V} {d : D} (h : RpM K H v d) : Dp K H v d := by
  rcases h with h | ⟨a, vs, ds, rfl, rfl, h, r⟩
  · exact h.dp
  · exact .lst (SqL.of h) r.dp
theorem RpM.keep {K : PySem.W.Frag} {H H' : Hp} (e : ∀ b o, H b = some o → H' b = some o) {v : V} {d : D} (h : RpM K H v d) : RpM K H' v d := by
  rcases h with h | ⟨a, vs, ds, rfl, rfl, h, r⟩
  · exact .inl (h.keep (keep_of e))
  · exact .inr ⟨a, vs, ds, rfl, rfl, e _ _ h, r.keep (keep_of e)⟩
theorem RpM.list {K : PySem.W.Frag} {H : Hp} {v : V} {ds : List D} (h : RpM K H v (.list ds)) : ∃ a vs, v = .ref a ∧ LsL K H a vs ∧ RpL K H vs ds := by
  rcases h with h | ⟨a, vs, ds, rfl, e, h, r⟩
  · cases h with | lst h r => exact ⟨_, _, rfl, .inr h, r⟩
  · cases e
    exact ⟨_, _, rfl, .inl h, r⟩
theorem RpM.tuple {K : PySem.W.Frag} {H : Hp} {v : V} {ds : List D} (h : RpM K H v (.tuple ds)) : ∃ a vs, v = .ref a ∧ SqT K H a vs ∧ RpL K H vs ds := by
  rcases h with h | ⟨a, vs, ds, rfl, e, h, r⟩
  · cases h with | tup h r => exact ⟨_, _, rfl, h, r⟩
  · cases e
theorem RpM.int {K : PySem.W.Frag} {H : Hp} {v : V} {i : Int} (h : RpM K H v (.int i)) : v = .int i := by
  rcases h with h | ⟨a, vs, ds, rfl, e, h, r⟩
  · cases h; rfl
  · cases e
theorem RpM.bool {K : PySem.W.Frag} {H : Hp} {v : V} {i : Bool} (h : RpM K H v (.bool i)) : v = .bl i := by
  rcases h with h | ⟨a, vs, ds, rfl, e, h, r⟩
  · cases h; rfl
  · cases e
theorem RpM.str {K : PySem.W.Frag} {H : Hp} {v : V} {i : Str} (h : RpM K H v (.str i)) : v = .str i := by
  rcases h with h | ⟨a, vs, ds, rfl, e, h, r⟩
  · cases h; rfl
  · cases e
theorem RpM.non {K : PySem.W.Frag} {H : Hp} {v : V} {d : D} (h : RpM K H v d) : decide (v = .non) = isNon d := by
  rcases h with h | ⟨a, vs, ds, rfl, rfl, h, r⟩
  · cases h <;> simp [isNon]
  · simp [isNon]
/-- the comparison on data -/
def rCmpD (K : PySem.W.Frag) (op : CmpOp) : R2 := fun x y H Q => ∃ dx dy k, RpM K H x dx ∧ RpM K H y dy ∧ cmpD op dx dy = some k ∧ Q (.bl k) H
theorem room_min {X : Cx} (hu : X.A.units + 100 < cLine) {a b : Nat} (h : (decide (a ≤ 64) || decide (b ≤ 64)) = true) : X.A.units + min a b < cLine ∧ X.A.units + 1 + min b a < cLine := by
  simp only [Bool.or_eq_true, decide_eq_true_eq] at h
  omega
theorem op_cmpD {X : Cx} (hu : X.A.units + 100 < cLine) (op : CmpOp) : OpR X (compareOp op) (rCmpD X.K op) := by
  intro pins s σ H x y v u Q I rx ry h
  obtain ⟨dx, dy, k, hx, hy, e, q⟩ := h
  have fin : EP X pins σ Q (.bool k) s := ⟨.bl k, H, I, rfl, q⟩
  obtain ⟨as, ra⟩ := Dp.reads I dx x v hx.dp rx
  obtain ⟨bs, rb⟩ := Dp.reads I dy y u hy.dp ry
  unfold cmpD at e
  cases op with
  | Eq =>
    simp only at e
    split at e
    · rename_i hz
      injection e with e; subst e
      unfold eqOk at hz
      rw [Bool.and_eq_true, Bool.and_eq_true] at hz
      exact SeqAt.eq_plain ra rb hz.1.1 hz.1.2 (room_min hu hz.2).1 fin
    · cases e
  | NotEq =>
    simp only at e
    split at e
    · rename_i hz
      injection e with e; subst e
      unfold eqOk at hz
      rw [Bool.and_eq_true, Bool.and_eq_true] at hz
      exact SeqAt.ne_plain ra rb hz.1.1 hz.1.2 (room_min hu hz.2).1 fin
    · cases e
  | Lt =>
    simp only at e
    split at e
    · injection e with e; subst e
      cases hx.int; cases hy.int
      exact op_lt pins s σ H _ _ v u Q I rx ry ⟨_, _, rfl, rfl, q⟩
    · split at e
      · rename_i hz
        injection e with e; subst e
        unfold ltOk at hz
        rw [Bool.and_eq_true, Bool.and_eq_true] at hz
        have hn : dx ≠ .none := fun q => by rw [q] at hz; simp [isNon] at hz
        exact PySem.W.rcLt_alike dx dy X.A s v u as bs ra rb hz.1.1 hn (room_min hu hz.2).1 _ _ _ _ fin
      · cases e
  | LtE =>
    simp only at e
    split at e
    · injection e with e; subst e
      cases hx.int; cases hy.int
      exact op_le pins s σ H _ _ v u Q I rx ry ⟨_, _, rfl, rfl, q⟩
    · cases e
  | Gt =>
    simp only at e
    split at e
    · injection e with e; subst e
      cases hx.int; cases hy.int
      exact op_gt pins s σ H _ _ v u Q I rx ry ⟨_, _, rfl, rfl, q⟩
    · cases e
  | GtE =>
    simp only at e
    split at e
    · injection e with e; subst e
      cases hx.int; cases hy.int
      exact op_ge pins s σ H _ _ v u Q I rx ry ⟨_, _, rfl, rfl, q⟩
    · cases e
  | Is =>
    simp only at e
    split at e
    · rename_i hz
      injection e with e; subst e
      have hn := hy.non
      rw [hz] at hn
      exact op_isN pins s σ H x y v u Q I rx ry ⟨of_decide_eq_true hn, by rw [hx.non]; exact q⟩
    · cases e
  | IsNot =>
    simp only at e
    split at e
    · rename_i hz
      injection e with e; subst e
      have hn := hy.non
      rw [hz] at hn
      exact op_notN pins s σ H x y v u Q I rx ry ⟨of_decide_eq_true hn, by rw [hx.non]; exact q⟩
    · cases e
  | In =>
    simp only at e
    split at e
    · split at e
      · rename_i hz
        injection e with e; subst e
        unfold inOk at hz
        rw [Bool.and_eq_true, Bool.and_eq_true] at hz
        exact SeqAt.in_tuple_data rb ra hz.1.2 hz.1.1 (room_min hu hz.2).2 fin
      · cases e
    · split at e
      · rename_i hz
        injection e with e; subst e
        unfold inOk at hz
        rw [Bool.and_eq_true, Bool.and_eq_true] at hz
        exact SeqAt.in_list_data rb ra hz.1.2 hz.1.1 (room_min hu hz.2).2 fin
      · cases e
    · cases e
  | NotIn =>
    simp only at e
    split at e
    · split at e
      · rename_i hz
        injection e with e; subst e
        unfold inOk at hz
        rw [Bool.and_eq_true, Bool.and_eq_true] at hz
        exact SeqAt.notIn_tuple_data rb ra hz.1.2 hz.1.1 (room_min hu hz.2).2 fin
      · cases e
    · split at e
      · rename_i hz
        injection e with e; subst e
        unfold inOk at hz
        rw [Bool.and_eq_true, Bool.and_eq_true] at hz
        exact SeqAt.notIn_list_data rb ra hz.1.2 hz.1.1 (room_min hu hz.2).2 fin
      · cases e
    · cases e
theorem atI_rp {K : PySem.W.Frag} {H : Hp} {vs : List V} {ds : List D} {i : Int} {r : D} (h : RpL K H vs ds) (e : L2.atI ds i = some r) : ∃ v, L2.atI vs i = some v ∧ Rp K H v r := by
  unfold L2.atI at e ⊢
  rw [h.length]
  cases q : L2.ixN ds.length i with
  | none => rw [q] at e; cases e
  | some j =>
    rw [q] at e
    obtain ⟨v, h1, h2⟩ := h.get' (i := j) (y := r) e
    exact ⟨v, h1, h2⟩
/-- a[i] -/
def rIxD (K : PySem.W.Frag) : R2 := fun x y H Q => ∃ dx dy r, RpM K H x dx ∧ Rp K H y dy ∧ ixD dx dy = some r ∧ Out K H Q r
theorem ix_data {X : Cx} : IxR X (rIxD X.K) := by
  intro value slice pins s σ H x y v u Q I rx ry h hs
  obtain ⟨dx, dy, r, hx, hy, e, q⟩ := h
  unfold ixD at e
  split at e
  · obtain ⟨a, vs, rfl, hq, rl⟩ := hx.tuple
    cases hy
    obtain ⟨z, e1, rz⟩ := atI_rp rl e
    exact ix_tup value slice pins s σ H _ _ v u Q I rx ry ⟨_, _, _, z, rfl, rfl, hq, e1, q _ _ (fun _ _ h => h) rz⟩ hs
  · obtain ⟨a, vs, rfl, hq, rl⟩ := hx.list
    cases hy
    obtain ⟨z, e1, rz⟩ := atI_rp rl e
    exact ix_list value slice pins s σ H _ _ v u Q I rx ry ⟨_, _, _, z, rfl, rfl, hq.sq, e1, q _ _ (fun _ _ h => h) rz⟩ hs
  · cases e
/-- a[l:h] -/
def rSlD (K : PySem.W.Frag) : V → Option Int → Option Int → Hp → VK → Prop := fun x lo hi H Q => ∃ dx r, RpM K H x dx ∧ slD dx lo hi = some r ∧ Out K H Q r
theorem cut_all {vs : List V} {lo hi : Option Int} (h : HT.sIx vs.length 0 lo = 0 ∧ HT.sIx vs.length vs.length hi = vs.length) : cutV vs lo hi = vs := by
  unfold cutV
  rw [h.1, h.2]
  simp
theorem cutV_rp {K : PySem.W.Frag} {H : Hp} {vs : List V} {ds : List D} (h : RpL K H vs ds) (lo hi : Option Int) : RpL K H (cutV vs lo hi) (cutL ds lo hi) := by
  unfold cutV cutL
  rw [h.length]
  exact (h.drop _).take _
theorem sl_data {X : Cx} : SlR X (rSlD X.K) := by
  intro pins s σ H x v vl vu lo hi sl Q I rx hs pl pu h
  obtain ⟨dx, r, hx, e, q⟩ := h
  unfold slD at e
  split at e
  · injection e with e; subst e
    obtain ⟨a, vs, rfl, hq, rl⟩ := hx.tuple
    have rc := cutV_rp rl lo hi
    refine sl_tupA pins s σ H _ v vl vu lo hi sl Q I rx hs pl pu ⟨a, vs, rfl, hq, fun hw => ?_, fun _ p hp => ?_⟩
    · rw [cut_all hw] at rc
      exact q _ _ (fun _ _ h => h) (.tup hq rc)
    · exact q _ _ (upd_old hp) (.tup (SqT.of upd_same) (rc.keep (keep_of (upd_old hp))))
  · injection e with e; subst e
    obtain ⟨a, vs, rfl, hq, rl⟩ := hx.list
    cases rx
    obtain ⟨its, r, ht, hz⟩ := I.list hq.sq
    have hlen := r.length
    refine ⟨"list", _, slot_list_getitem.lookup, ht.isList.typeIs, ?_⟩
    refine wpAny_getItem_list_slice ht.isList hs pl pu .none (by simp) ?_ (by rw [List.size_toArray] <;> omega)
    rw [slicePick_cut, ← hlen]
    refine fin_lst (p := s.heap.objs.size) (vs := cutV vs lo hi) (I.laid (t' := s.toks) (fun b ob q => Heap.get?_push_of_some _ q) (Nat.le_refl _) ?_) (I.hok.fresh (Nat.le_refl _)) (cutV_rp rl lo hi) q
    exact ⟨Nat.le_trans (cutV_length vs lo hi) hz, _, 0, (r.drop (HT.sIx vs.length 0 lo)).take (HT.sIx vs.length vs.length hi - HT.sIx vs.length 0 lo), Heap.get?_push_size _ rfl⟩
  · cases e
end Sm

set_option Elab.async false
set_option linter.all false
set_option maxRecDepth 100000
set_option maxHeartbeats 1000000
/-! SmE: built-ins over data. -/
namespace Sm
open PySem PySem.Spec PyProof.Rows L2
section
variable {X : Cx}
def r1D (K : PySem.W.Frag) (g : D → Option D) : List V → Hp → VK → Prop := fun xs H Q => ∃ x d r, xs = [x] ∧ RpM K H x d ∧ g d = some r ∧ Out K H Q r
theorem cb_len : CallR X (.builtin "len") (r1D X.K fun d => bltD .len d) := by
  intro pins s σ H xs us Q I r h
  obtain ⟨x, d, y, rfl, hx, e, q⟩ := h
  unfold bltD at e
  cases d <;> simp only [Option.some.injEq, reduceCtorEq] at e
  · subst e
    obtain ⟨a, vs, rfl, hq, rl⟩ := hx.list
    exact call_len_seq pins s σ H _ us Q I r ⟨_, _, rfl, .inl hq.sq, by rw [rl.length]; exact out_int (X := X) q⟩
  · subst e
    obtain ⟨a, vs, rfl, hq, rl⟩ := hx.tuple
    exact call_len_seq pins s σ H _ us Q I r ⟨_, _, rfl, .inr hq, by rw [rl.length]; exact out_int (X := X) q⟩
theorem cb_sum (hc : X.calm = true) : CallR X (.builtin "sum") (r1D X.K fun d => bltD .sum d) := by
  intro pins s σ H xs us Q I r h
  obtain ⟨x, d, y, rfl, hx, e, q⟩ := h
  unfold bltD at e
  cases d <;> simp only [Option.map_eq_some_iff, reduceCtorEq] at e
  obtain ⟨ns, e1, rfl⟩ := e
  obtain ⟨a, vs, rfl, hq, rl⟩ := hx.list
  have := rl.ints e1
  subst this
  exact cr_sum hc pins s σ H _ us Q I r ⟨_, _, rfl, hq.sq, out_int (X := X) q⟩
theorem cb_all (hc : X.calm = true) : CallR X (.builtin "all") (r1D X.K fun d => bltD .all d) := by
  intro pins s σ H xs us Q I r h
  obtain ⟨x, d, y, rfl, hx, e, q⟩ := h
  unfold bltD at e
  cases d <;> simp only [Option.map_eq_some_iff, reduceCtorEq] at e
  obtain ⟨ns, e1, rfl⟩ := e
  obtain ⟨a, vs, rfl, hq, rl⟩ := hx.list
  have := rl.bools e1
  subst this
  exact cr_all hc pins s σ H _ us Q I r ⟨_, _, rfl, hq.sq, out_bl (X := X) q⟩
theorem cb_any (hc : X.calm = true) : CallR X (.builtin "any") (r1D X.K fun d => bltD .any d) := by
  intro pins s σ H xs us Q I r h
  obtain ⟨x, d, y, rfl, hx, e, q⟩ := h
  unfold bltD at e
  cases d <;> simp only [Option.map_eq_some_iff, reduceCtorEq] at e
  obtain ⟨ns, e1, rfl⟩ := e
  obtain ⟨a, vs, rfl, hq, rl⟩ := hx.list
  have := rl.bools e1
  subst this
  exact cr_any hc pins s σ H _ us Q I r ⟨_, _, rfl, hq.sq, out_bl (X := X) q⟩
theorem cb_abs : CallR X (.builtin "abs") (r1D X.K fun d => bltD .abs d) := by
  intro pins s σ H xs us Q I r h
  obtain ⟨x, d, y, rfl, hx, e, q⟩ := h
  unfold bltD at e
  cases d <;> simp only [Option.some.injEq, reduceCtorEq] at e
  subst e
  cases hx.int
  exact call_abs pins s σ H _ us Q I r ⟨_, rfl, out_int (X := X) q⟩
theorem cb_int : CallR X (.type "int") (r1D X.K fun d => bltD .int d) := by
  intro pins s σ H xs us Q I r h
  obtain ⟨x, d, y, rfl, hx, e, q⟩ := h
  unfold bltD at e
  cases d <;> simp only [Option.some.injEq, reduceCtorEq] at e
  subst e
  cases hx.int
  exact call_int1 pins s σ H _ us Q I r (.inl ⟨_, rfl, out_int (X := X) q⟩)
theorem cb_tuple : CallR X (.type "tuple") (r1D X.K fun d => bltD .tuple d) := by
  intro pins s σ H xs us Q I r h
  obtain ⟨x, d, y, rfl, hx, e, q⟩ := h
  unfold bltD at e
  cases d <;> simp only [Option.some.injEq, reduceCtorEq] at e
  · subst e
    obtain ⟨a, vs, rfl, hq, rl⟩ := hx.list
    exact call_tuple_of pins s σ H _ us Q I r ⟨_, _, rfl, .inl ⟨hq.sq, fun p hp => q _ _ (upd_old hp) (.tup (SqT.of upd_same) (rl.keep (keep_of (upd_old hp))))⟩⟩
  · subst e
    obtain ⟨a, vs, rfl, hq, rl⟩ := hx.tuple
    exact call_tuple_of pins s σ H _ us Q I r ⟨_, _, rfl, .inr ⟨hq, q _ _ (fun _ _ h => h) (.tup hq rl)⟩⟩
/-- a rule that makes a list: locked at once -/
theorem callr_frz {f : Value} {r : List V → Hp → VK → Prop} (h : CallR X f r) : CallR X f fun xs H Q => r xs H fun v H' => Q v H' ∨ ∃ a vs, v = .ref a ∧ H' a = some (.lst vs) ∧ ∀ o, Q v (upd H' a (.frz o (.lst vs))) := by
  intro pins s σ H xs us Q I rv hr
  refine thn (h pins s σ H xs us _ I rv hr) fun u s1 ⟨v, H1, I1, r1, q1⟩ => ?_
  rcases q1 with q1 | ⟨a, vs, rfl, e, q1⟩
  · exact ⟨v, H1, I1, r1, q1⟩
  · obtain ⟨o, I2⟩ := I1.lock e trivial
    exact ⟨_, _, I2, r1, q1 o⟩
theorem out_lst {K : PySem.W.Frag} {H : Hp} {Q : VK} {vs : List V} {ds : List D} (rl : RpL K H vs ds) (q : Out K H Q (.list ds)) {p : Addr} (hp : H p = none) (o : Obj) : Q (.ref p) (upd (upd H p (.lst vs)) p (.frz o (.lst vs))) := by
  rw [upd_upd]
  exact q _ _ (upd_old hp) (.lst (.inl ⟨o, upd_same⟩) (rl.keep (keep_of (upd_old hp))))
theorem cb_list : CallR X (.type "list") (r1D X.K fun d => bltD .list d) := by
  intro pins s σ H xs us Q I r h
  obtain ⟨x, d, y, rfl, hx, e, q⟩ := h
  unfold bltD at e
  cases d <;> simp only [Option.some.injEq, reduceCtorEq] at e
  · subst e
    obtain ⟨a, vs, rfl, hq, rl⟩ := hx.list
    exact callr_frz call_list_of pins s σ H _ us Q I r ⟨_, _, rfl, .inl hq.sq, fun p hp => .inr ⟨p, _, rfl, upd_same, out_lst rl q hp⟩⟩
  · subst e
    obtain ⟨a, vs, rfl, hq, rl⟩ := hx.tuple
    exact callr_frz call_list_of pins s σ H _ us Q I r ⟨_, _, rfl, .inr hq, fun p hp => .inr ⟨p, _, rfl, upd_same, out_lst rl q hp⟩⟩
/-- isinstance(x, T) -/
def rIsD (K : PySem.W.Frag) (b : Bl) (T : String) : List V → Hp → VK → Prop := fun xs H Q => ∃ x d r, xs = [x, .ty T] ∧ RpM K H x d ∧ bltD b d = some r ∧ Out K H Q r
section
variable {pins : List (Addr × Obj)} {s : Shared} {σ : L2.St} {H : Hp} {us : List Value} {Q : VK} {x : V} {T : String} {d : D}
theorem isD_pre (I : Inv X pins σ H s) (r : Vals [x, .ty T] us) (hx : RpM X.K H x d) : ∃ v as, us = [v, .type T] ∧ Reads s.heap v d as := by
  obtain ⟨u1, u2, rfl, r1, r2⟩ := vals2 r
  cases r2
  obtain ⟨as, ra⟩ := Dp.reads I d x u1 hx.dp r1
  exact ⟨_, as, rfl, ra⟩
end
theorem cb_isI : CallR X (.builtin "isinstance") (rIsD X.K .isI "int") := by
  intro pins s σ H xs us Q I r h
  obtain ⟨x, d, y, rfl, hx, e, q⟩ := h
  obtain ⟨v, as, rfl, ra⟩ := isD_pre I r hx
  simp only [bltD, Option.some.injEq] at e
  subst e
  exact PySem.W.isinstance_int_data ra fun tk _ => fin_bool (I.tok tk) (by cases d <;> exact q)
theorem cb_isB : CallR X (.builtin "isinstance") (rIsD X.K .isB "bool") := by
  intro pins s σ H xs us Q I r h
  obtain ⟨x, d, y, rfl, hx, e, q⟩ := h
  obtain ⟨v, as, rfl, ra⟩ := isD_pre I r hx
  simp only [bltD, Option.some.injEq] at e
  subst e
  exact PySem.W.isinstance_bool_data ra fun tk _ => fin_bool (I.tok tk) (by cases d <;> exact q)
theorem cb_isT : CallR X (.builtin "isinstance") (rIsD X.K .isT "tuple") := by
  intro pins s σ H xs us Q I r h
  obtain ⟨x, d, y, rfl, hx, e, q⟩ := h
  obtain ⟨v, as, rfl, ra⟩ := isD_pre I r hx
  simp only [bltD, Option.some.injEq] at e
  subst e
  exact PySem.W.isinstance_tuple_data ra fun tk _ => fin_bool (I.tok tk) (by cases d <;> exact q)
theorem cb_isS : CallR X (.builtin "isinstance") (rIsD X.K .isS "str") := by
  intro pins s σ H xs us Q I r h
  obtain ⟨x, d, y, rfl, hx, e, q⟩ := h
  obtain ⟨v, as, rfl, ra⟩ := isD_pre I r hx
  simp only [bltD, Option.some.injEq] at e
  subst e
  exact PySem.W.isinstance_str_data ra fun tk _ => fin_bool (I.tok tk) (by cases d <;> exact q)
theorem cb_isL : CallR X (.builtin "isinstance") (rIsD X.K .isL "list") := by
  intro pins s σ H xs us Q I r h
  obtain ⟨x, d, y, rfl, hx, e, q⟩ := h
  obtain ⟨v, as, rfl, ra⟩ := isD_pre I r hx
  simp only [bltD, Option.some.injEq] at e
  subst e
  exact PySem.W.isinstance_list_data ra fun tk _ => fin_bool (I.tok tk) (by cases d <;> exact q)
theorem cb_isD : CallR X (.builtin "isinstance") (rIsD X.K .isD "dict") := by
  intro pins s σ H xs us Q I r h
  obtain ⟨x, d, y, rfl, hx, e, q⟩ := h
  obtain ⟨v, as, rfl, ra⟩ := isD_pre I r hx
  simp only [bltD, Option.some.injEq] at e
  subst e
  exact PySem.W.isinstance_dict_data ra fun tk _ => fin_bool (I.tok tk) (by cases d <;> exact q)
/-- items as values -/
abbrev RvD (K : PySem.W.Frag) (H : Hp) (u : Value) (d : D) : Prop := ∃ v, RelV v u ∧ Rp K H v d
theorem eachRv {K : PySem.W.Frag} {H : Hp} : ∀ {vs : List V} {us : List Value} {ds : List D}, Vals vs us → RpL K H vs ds → PySem.W.EachIs (RvD K H) us ds
  | _, _, _, .nil, .nil => .nil
  | _, _, _, .cons r t, .cons h q => .cons ⟨_, r, h⟩ (eachRv t q)
theorem eachRv' {K : PySem.W.Frag} {H : Hp} : ∀ {us : List Value} {ds : List D}, PySem.W.EachIs (RvD K H) us ds → ∃ vs, Vals vs us ∧ RpL K H vs ds
  | _, _, .nil => ⟨[], .nil, .nil⟩
  | _, _, .cons ⟨v, r, h⟩ t => by
    obtain ⟨vs, h1, h2⟩ := eachRv' t
    exact ⟨v :: vs, .cons r h1, .cons h h2⟩
theorem rvReads {pins : List (Addr × Obj)} {s : Shared} {σ : L2.St} {H : Hp} (I : Inv X pins σ H s) {u : Value} {d : D} (h : RvD X.K H u d) : ∃ as, Reads s.heap u d as := by
  obtain ⟨v, r, h⟩ := h
  exact Dp.reads I d v u h.dp r
theorem alikes_of {xs : List D} (h : alikes xs = true) : PySem.W.AllAlike xs := fun d hd d' hd' => by
  unfold alikes at h
  exact List.all_eq_true.mp (List.all_eq_true.mp h d hd) d' hd'
theorem sortable_of {xs : List D} (h : sortable xs = true) : PySem.W.Sortable xs ∧ PySem.W.AllAlike xs ∧ ∀ x ∈ xs, x.depth ≤ 64 := by
  unfold sortable at h
  rw [Bool.and_eq_true, Bool.and_eq_true, Bool.or_eq_true] at h
  refine ⟨?_, alikes_of h.1.2, fun x hx => of_decide_eq_true (List.all_eq_true.mp h.2 x hx)⟩
  rcases h.1.1 with h | h
  · refine .inl fun d hd => ?_
    have := List.all_eq_true.mp h d hd
    unfold isTup1 at this
    split at this
    · exact ⟨_, _, rfl⟩
    · cases this
  · refine .inr fun d hd => ?_
    have := List.all_eq_true.mp h d hd
    unfold isAtm at this
    refine ⟨fun e => ?_, fun xs e => ?_⟩ <;> (rw [e] at this; cases this)
theorem cb_sorted (hu : X.A.units + 100 < cLine) : CallR X (.builtin "sorted") (fun xs H Q => ∃ x ds, xs = [x] ∧ RpM X.K H x (.list ds) ∧ sortable ds = true ∧ Out X.K H Q (.list (sortD ds))) := by
  intro pins s σ H xs us Q I r h
  obtain ⟨x, ds, rfl, hx, hs, q⟩ := h
  obtain ⟨a, vs, rfl, hq, rl⟩ := hx.list
  obtain ⟨u, rfl, rx⟩ := vals1 r
  cases rx
  obtain ⟨its, n, rv, hz, ho⟩ := hq.obj I
  obtain ⟨h1, h2, h3⟩ := sortable_of hs
  have l1 := rl.length
  refine PySem.W.sorted_data (enc := id) (R := RvD X.K H) ⟨_, ho, rfl, n, rfl⟩ (eachRv rv rl) ((eachRv rv rl).mono fun _ _ q => rvReads I q) (by simpa using h2) (by simpa using h1) (by omega) (fun b hb => by have := h3 b hb; show X.A.units + 2 + b.depth < _; omega) fun out hl hE => ?_
  obtain ⟨ws, w1, w2⟩ := eachRv' hE
  obtain ⟨e, he⟩ := sortedAll_at s.heap its (List.toArray out)
  refine fin_lst (p := s.heap.objs.size + 1) (I.laid (t' := s.toks) (fun b ob q => sortedAll_old q) (Nat.le_succ _) ⟨?_, out, e, w1, he⟩) (I.hok.fresh (Nat.le_succ _)) w2 q
  rw [w1.length, hl]; omega
theorem plain_at : ∀ {xs : List D} {i : Nat} {x : D}, PyData.plainAll xs = true → xs[i]? = some x → x.plain = true
  | [], _, _, _, e => by simp at e
  | y :: ys, 0, _, h, e => by
    simp only [List.getElem?_cons_zero, Option.some.injEq] at e
    subst e
    rw [PyData.plainAll, Bool.and_eq_true] at h
    exact h.1
  | y :: ys, i + 1, _, h, e => by
    rw [PyData.plainAll, Bool.and_eq_true] at h
    exact plain_at (i := i) h.2 (by simpa using e)
theorem min_pre {ds : List D} (hs : minOk ds = true) : PySem.W.AlikeAll ds ∧ PyData.plainAll ds = true ∧ PyData.depthAll ds ≤ 64 := by
  unfold minOk at hs
  rw [Bool.and_eq_true, Bool.and_eq_true, Bool.and_eq_true, decide_eq_true_eq] at hs
  refine ⟨⟨alikes_of hs.1.1.1, fun x hx e => ?_⟩, hs.1.2, hs.2⟩
  have := List.all_eq_true.mp hs.1.1.2 x hx
  rw [e] at this
  cases this
theorem min_fin {pins : List (Addr × Obj)} {s : Shared} {σ : L2.St} {H : Hp} {Q : VK} {ds : List D} {vs : List V} {its : List Value} {r : D} {i : Nat} {v : Value} {h' : Heap} {tk : Nat} {bs : List Addr} (I : Inv X pins σ H s) (rl : RpL X.K H vs ds) (rv : Vals vs its) (hp : PyData.plainAll ds = true)
    (hv : its.toArray[i]? = some v) (hrd : Reads h' v r bs) (hk : ∀ b o, s.heap.get? b = some o → h'.get? b = some o) (q : Out X.K H Q r) : EP X pins σ Q v { s with heap := h', toks := tk } := by
  have hv' : its[i]? = some v := by simpa using hv
  have hi : i < vs.length := by rw [rv.length]; exact (List.getElem?_eq_some_iff.mp hv').1
  obtain ⟨u, hu1, ru⟩ := rv.get (List.getElem?_eq_getElem hi)
  rw [hv'] at hu1; cases hu1
  obtain ⟨y, hy, ry⟩ := rl.get (List.getElem?_eq_getElem hi)
  have I1 : Inv X pins σ H { s with heap := h', toks := tk } := I.kept hk
  obtain ⟨as, ra⟩ := Dp.reads I1 y _ _ ry.dp ru
  have e := SeqAt.plain_unique y r v _ _ (plain_at hp hy) ra hrd
  subst e
  exact fin_same I1 ru ry q
theorem cb_min (hc : X.calm = true) (hu : X.A.units + 100 < cLine) : CallR X (.builtin "min") (fun xs H Q => ∃ x dx d ds, xs = [x] ∧ RpM X.K H x dx ∧ seqOf dx = some (d :: ds) ∧ minOk (d :: ds) = true ∧ Out X.K H Q (PySem.W.minD d ds)) := by
  intro pins s σ H xs us Q I r h
  obtain ⟨x, dx, d, ds, rfl, hx, hsq, hs, q⟩ := h
  obtain ⟨h1, h2, h3⟩ := min_pre hs
  obtain ⟨u, rfl, rx⟩ := vals1 r
  unfold seqOf at hsq
  split at hsq
  · cases hsq
    obtain ⟨a, vs, rfl, hq, rl⟩ := hx.tuple
    cases rx
    obtain ⟨its, rv, hp, hz⟩ := I.tuple hq
    obtain ⟨as, hr⟩ := Dp.readsAll I (d :: ds) vs its rl.dp rv
    exact PySem.W.min_tuple_data (I.ok.hd hc) hp (by simpa using hr) h1 (by omega) fun i v h' tk bs hv hrd hk => min_fin I rl rv h2 hv hrd hk q
  · cases hsq
    obtain ⟨a, vs, rfl, hq, rl⟩ := hx.list
    cases rx
    obtain ⟨its, n, rv, hz, ho⟩ := hq.obj I
    obtain ⟨as, hr⟩ := Dp.readsAll I (d :: ds) vs its rl.dp rv
    exact PySem.W.min_list_data (I.ok.hd hc) ⟨_, ho, rfl, n, rfl⟩ (by simpa using hr) h1 (by omega) fun i v h' tk bs hv hrd hk => min_fin I rl rv h2 hv hrd hk q
  · cases hsq
theorem cb_max (hc : X.calm = true) (hu : X.A.units + 100 < cLine) : CallR X (.builtin "max") (fun xs H Q => ∃ x dx d ds, xs = [x] ∧ RpM X.K H x dx ∧ seqOf dx = some (d :: ds) ∧ minOk (d :: ds) = true ∧ Out X.K H Q (PySem.W.maxD d ds)) := by
  intro pins s σ H xs us Q I r h
  obtain ⟨x, dx, d, ds, rfl, hx, hsq, hs, q⟩ := h
  obtain ⟨h1, h2, h3⟩ := min_pre hs
  obtain ⟨u, rfl, rx⟩ := vals1 r
  unfold seqOf at hsq
  split at hsq
  · cases hsq
    obtain ⟨a, vs, rfl, hq, rl⟩ := hx.tuple
    cases rx
    obtain ⟨its, rv, hp, hz⟩ := I.tuple hq
    obtain ⟨as, hr⟩ := Dp.readsAll I (d :: ds) vs its rl.dp rv
    exact PySem.W.max_tuple_data (I.ok.hd hc) hp (by simpa using hr) h1 (by omega) fun i v h' tk bs hv hrd hk => min_fin I rl rv h2 hv hrd hk q
  · cases hsq
    obtain ⟨a, vs, rfl, hq, rl⟩ := hx.list
    cases rx
    obtain ⟨its, n, rv, hz, ho⟩ := hq.obj I
    obtain ⟨as, hr⟩ := Dp.readsAll I (d :: ds) vs its rl.dp rv
    exact PySem.W.max_list_data (I.ok.hd hc) ⟨_, ho, rfl, n, rfl⟩ (by simpa using hr) h1 (by omega) fun i v h' tk bs hv hrd hk => min_fin I rl rv h2 hv hrd hk q
  · cases hsq
theorem reprOk_of {x : D} (h : reprOk x = true) : x.showable = true ∧ x.hasDict = false ∧ x.depth ≤ 64 ∧ x.shown.length + 64 ≤ sizeLine := by
  unfold reprOk at h
  rw [Bool.and_eq_true, Bool.and_eq_true, Bool.and_eq_true, decide_eq_true_eq, decide_eq_true_eq, SZ_eq] at h
  exact ⟨h.1.1.1, by simpa using h.1.1.2, h.1.2, h.2⟩
theorem repr_run {pins : List (Addr × Obj)} {s : Shared} {σ : L2.St} {H : Hp} {x : V} {u : Value} {d : D} {A : Around} {E : Value → Shared → Prop} {Q : Value → Shared → Prop} (hg : A.guards = some []) (hu : A.units + 100 < cLine) (I : Inv X pins σ H s) (rx : RelV x u) (hx : RpM X.K H x d) (ho : reprOk d = true)
    (q : ∀ h' t tk, (∀ b o, s.heap.get? b = some o → h'.get? b = some o) → Q (.str d.shown t) { s with heap := h', toks := tk }) : wpAny (model X.prog X.w) A (call (.builtin "repr") [u]) Q E s := by
  obtain ⟨h1, h2, h3, h4⟩ := reprOk_of ho
  obtain ⟨as, ra⟩ := Dp.reads I d x u hx.dp rx
  cases ra with
  | none => exact PySem.P.repr_of_none (q s.heap _ _ fun _ _ h => h)
  | bool b => exact PySem.P.repr_of_bool (by cases b <;> exact q s.heap _ _ fun _ _ h => h)
  | int i t => exact PySem.P.repr_of_int (by simpa [PyData.showable] using h1) (q s.heap _ _ fun _ _ h => h)
  | str z t => exact PySem.P.repr_of_str (q s.heap _ _ fun _ _ h => h) (by have : (PyData.shown (.str z)).length + 64 ≤ sizeLine := h4; simp only [PyData.shown] at this; omega)
  | list a b c e => exact repr_of_reads' (.list a b c e) h1 (fun e => by rw [h2] at e; cases e) hg (by omega) (fun _ _ h => h) (fun h' u tk hk => q h' u tk hk) (by omega)
  | tuple a b c e => exact repr_of_reads' (.tuple a b c e) h1 (fun e => by rw [h2] at e; cases e) hg (by omega) (fun _ _ h => h) (fun h' u tk hk => q h' u tk hk) (by omega)
  | dict a b c e f => cases h2
theorem cb_repr (hg : X.A.guards = some []) (hu : X.A.units + 100 < cLine) : CallR X (.builtin "repr") (fun xs H Q => ∃ x d, xs = [x] ∧ RpM X.K H x d ∧ reprOk d = true ∧ Q (.str d.shown) H) := by
  intro pins s σ H xs us Q I r h
  obtain ⟨x, d, rfl, hx, hs, q⟩ := h
  obtain ⟨u, rfl, rx⟩ := vals1 r
  refine repr_run hg hu I rx hx hs fun h' t tk hk => ?_
  have I1 : Inv X pins σ H { s with heap := h', toks := tk } := I.kept hk
  exact ⟨.str _, H, I1, ⟨t, rfl⟩, q⟩
end
end Sm

set_option Elab.async false
set_option linter.all false
set_option maxRecDepth 100000
set_option maxHeartbeats 2000000
/-! SmEb: sum(lists, list). -/
namespace Sm
open PySem PySem.Spec PyProof.Rows L2
abbrev lObj (vs : List Value) (n : Nat) : Obj := { cls := .type "list", data := .seq vs.toArray n }
section
variable {prog : Program} {w : World}
theorem args_sum_2 (a b : Value) : argsOk "sum" ⟨[a, b], []⟩ := by unfold argsOk; kernel_rfl
/-- one turn after another: t is the list so far -/
theorem sum_loopL {A : Around} {R : Result → Shared → Prop} {I l S : Addr} {items : List Value} (hh : A.in1.handled = none) (hSI : S ≠ I) (hlI : l ≠ I) (hlS : l ≠ S) :
    ∀ (its : List (List Value)) (i : Nat) (s : Shared) (t c n : Nat) (acc : List Value), items.length - i = its.length → i ≤ items.length → s.heap.IsListIter I l i → s.heap.IsList l items.toArray → s.heap.get? S = some (lObj [.ref t] c) → s.heap.get? t = some (lObj acc n) → t ≠ S →
      (∀ (j : Nat) (us : List Value), its[j]? = some us → ∃ b m, items[i + j]? = some (.ref b) ∧ b ≠ I ∧ b ≠ S ∧ s.heap.get? b = some (lObj us m)) → acc.length + its.flatten.length ≤ sizeLine →
      (∀ (h' : Heap) (tk : Nat) (t' n' : Nat), (∀ b o, b ≠ I → b ≠ S → s.heap.get? b = some o → h'.get? b = some o) → h'.get? t' = some (lObj (acc ++ its.flatten) n') → ((t' = t ∧ its = []) ∨ s.heap.objs.size ≤ t') → R (.ok (.ret (.ref t'))) { s with heap := h', toks := tk }) →
      codeAny (model prog w) A (.builtin "sum.loop" ⟨[.ref I, .ref S, rawInt 2, rawInt 0], []⟩) R s := by
  intro its
  induction its with
  | nil =>
    intro i s t c n acc hk hi hit hl hS ht htS hj hz hR
    have hin : items.toArray[i]? = none := by
      have : items.length - i = 0 := hk
      simp; omega
    refine codeAny_builtin F.entry_sum_loop ?_
    rw [Around.under_plainId F.plain_sum_loop _]
    show wpAny _ A.in1 (seqItems? (.ref S) >>= _) _ _ s
    refine wpAny_bind (wpAny_seqItems hS rfl ?_)
    show wpAny _ A.in1 (tryCatch (pyNext (.ref I)) _ >>= _) _ _ s
    refine wpAny_bind (wpAny_tryCatch (wpAny_pyNext_list_end hh hit hl hin fun h' he => ?_))
    have htI : t ≠ I := fun e => by
      obtain ⟨o, ho, hc, _⟩ := hit
      rw [e, ho] at ht
      rw [Option.some.inj ht] at hc
      exact absurd (show Value.type "list" = Value.type "list_iterator" from hc) (by decide)
    exact wpAny_pure (hR h' s.toks t n (fun b o hb _ e => he b o hb e) (by simpa using he t _ htI ht) (.inl ⟨rfl, rfl⟩))
  | cons us its ih =>
    intro i s t c n acc hk hi hit hl hS ht htS hj hz hR
    have htI : t ≠ I := fun e => by
      obtain ⟨o, ho, hc, _⟩ := hit
      rw [e, ho] at ht
      rw [Option.some.inj ht] at hc
      exact absurd (show Value.type "list" = Value.type "list_iterator" from hc) (by decide)
    obtain ⟨b, m, hb, hbI, hbS, ob⟩ := hj 0 us rfl
    refine codeAny_builtin F.entry_sum_loop ?_
    rw [Around.under_plainId F.plain_sum_loop _]
    show wpAny _ A.in1 (seqItems? (.ref S) >>= _) _ _ s
    refine wpAny_bind (wpAny_seqItems hS rfl ?_)
    show wpAny _ A.in1 (tryCatch (pyNext (.ref I)) _ >>= _) _ _ s
    refine wpAny_bind (wpAny_tryCatch (wpAny_pyNext_list_item (x := .ref b) hit hl (by simpa using hb) fun h1 hit1 hs1 => ?_))
    have k1 : ∀ a o, a ≠ I → s.heap.get? a = some o → h1.get? a = some o := fun a o ha e => (hs1.2 a ha).trans e
    have hS1 := k1 S _ hSI hS
    have ht1 := k1 t _ htI ht
    have hb1 := k1 b _ hbI ob
    simp only [List.flatten_cons, List.length_append] at hz
    have hz1 : us.length + its.flatten.length + acc.length ≤ sizeLine := by omega
    show wpAny _ A.in1 ((holding [Value.ref b] (binaryOp .Add (.ref t) (.ref b))).attempt >>= _) _ _ _
    refine wpAny_bind (wpAny_attempt (wpAny_holding (PySem.P.add_list ht1 hb1 ?_ (by simp; omega))))
    show wpAny _ A.in1 (updateSeq S (fun _ => #[Value.ref h1.objs.size]) >>= _) _ _ _
    have hS2 : (h1.push { cls := .type "list", data := .seq (acc.toArray ++ us.toArray) }).get? S = some (lObj [.ref t] c) := Heap.get?_push_of_some _ hS1
    refine wpAny_bind (wpAny_updateSeq hS2 rfl ?_)
    refine wpAny_bind (wpAny_letGo ?_)
    have hS3 := Heap.get?_update_self (Obj.mapSeq fun _ => #[Value.ref h1.objs.size]) hS2 rfl
    refine wpAny_bind (wpAny_updateSeq hS3 rfl (wpAny_pure ⟨plainId_quiet F.plain_sum_loop _, ?_⟩))
    have hS4 := Heap.get?_update_self (Obj.mapSeq fun _ => #[Value.ref h1.objs.size]) hS3 rfl
    generalize hH : ((h1.push { cls := .type "list", data := .seq (acc.toArray ++ us.toArray) }).update S (Obj.mapSeq fun _ => #[Value.ref h1.objs.size])).update S (Obj.mapSeq fun _ => #[Value.ref h1.objs.size]) = h4 at hS4 ⊢
    have up : ∀ a, a ≠ S → h4.get? a = (h1.push { cls := .type "list", data := .seq (acc.toArray ++ us.toArray) }).get? a := fun a ha => by
      rw [← hH, Heap.get?_update_other _ _ (Ne.symm ha), Heap.get?_update_other _ _ (Ne.symm ha)]
    have k4 : ∀ a o, a ≠ I → a ≠ S → s.heap.get? a = some o → h4.get? a = some o := fun a o h1' h2 e => (up a h2).trans (Heap.get?_push_of_some _ (k1 a o h1' e))
    have hSl : S < h1.objs.size := Heap.lt_size hS1
    have hnew : h4.get? h1.objs.size = some (lObj (acc ++ us) 0) := by
      rw [up _ (Nat.ne_of_gt hSl)]
      have := Heap.get?_push_size (h := h1) (o := ({ cls := .type "list", data := .seq (acc.toArray ++ us.toArray) } : Obj)) rfl
      rw [this]
      simp [lObj]
    refine ih (i + 1) { s with heap := h4 } h1.objs.size _ 0 (acc ++ us) (by simp at hk; omega) (by simp at hk; omega) ?_ ?_ hS4 hnew (Nat.ne_of_gt hSl) (fun j ws hjw => ?_) (by rw [List.length_append]; omega) (fun h' tk t' n' kk ht' hor => ?_)
    · obtain ⟨o, ho, r⟩ := hit1
      exact ⟨o, (up I (Ne.symm hSI)).trans (Heap.get?_push_of_some _ ho), r⟩
    · obtain ⟨o, ho, r⟩ := hl
      exact ⟨o, k4 _ _ hlI hlS ho, r⟩
    · obtain ⟨b', m', e1, e2, e3, e4⟩ := hj (j + 1) ws (by simpa using hjw)
      exact ⟨b', m', by rw [← e1]; congr 1; omega, e2, e3, k4 _ _ e2 e3 e4⟩
    · refine hR h' tk t' n' (fun a o h1' h2 e => kk a o h1' h2 (k4 a o h1' h2 e)) (by rw [ht', List.flatten_cons, List.append_assoc]) (.inr ?_)
      have z1 : s.heap.objs.size = h1.objs.size := hs1.1.symm
      rcases hor with ⟨e, _⟩ | e
      · rw [e]; omega
      · have z2 : h1.objs.size < h4.objs.size := Heap.lt_size hnew
        have e : h4.objs.size ≤ t' := e
        omega
theorem call_sum_lists {A : Around} {E : Value → Shared → Prop} {Q : Value → Shared → Prop} {s : Shared} {l t n : Nat} {items : List Value} {its : List (List Value)} {acc : List Value} (hh : A.in1.handled = none) (hl : s.heap.IsList l items.toArray) (ht : s.heap.get? t = some (lObj acc n)) (hlen : items.length = its.length)
    (hj : ∀ (j : Nat) (us : List Value), its[j]? = some us → ∃ b m, items[j]? = some (.ref b) ∧ s.heap.get? b = some (lObj us m)) (hz : acc.length + its.flatten.length ≤ sizeLine)
    (hR : ∀ (h' : Heap) (tk : Nat) (t' n' : Nat), (∀ b o, s.heap.get? b = some o → h'.get? b = some o) → h'.get? t' = some (lObj (acc ++ its.flatten) n') → ((t' = t ∧ its = []) ∨ s.heap.objs.size ≤ t') → Q (.ref t') { s with heap := h', toks := tk }) :
    wpAny (model prog w) A (call (.builtin "sum") [.ref l, .ref t]) Q E s := by
  refine call_function_tree F.kind_sum F.plain_sum F.entry_sum (args_sum_2 _ _) ?_
  unfold Builtin.«sum»
  simp only [List.length_cons, List.length_nil]
  rw [if_neg (by decide)]
  refine wpAny_bind (wpAny_of_eq (show Builtin.Builtins.bindParams "sum" ["start"] 0 ⟨[.ref t], []⟩ = pure [some (.ref t)] from rfl) ?_)
  refine wpAny_bind (wpAny_pyIter_list hl ?_)
  generalize hg : s.heap.push { cls := .type "list_iterator", data := .fields #[.ref l, .int 0 0] } = g
  have kg : ∀ a o, s.heap.get? a = some o → g.get? a = some o := fun a o e => by rw [← hg]; exact Heap.get?_push_of_some _ e
  have hI : g.IsListIter s.heap.objs.size l 0 := by rw [← hg]; exact ⟨_, Heap.get?_push_size _ rfl, rfl, rfl⟩
  have ty : Shared.TypeIs { s with heap := g } (.ref t) "list" := ⟨_, kg _ _ ht, rfl⟩
  refine wpAny_bind (wpAny_pure ?_)
  simp only [List.forIn_cons, List.forIn_nil]
  refine wpAny_bind (wpAny_bind (wpAny_bind (wpAny_isInstance (T := "list") (b := false) ty F.sub_list_str ?_)))
  simp only [Bool.false_eq_true, if_false]
  refine wpAny_pure (wpAny_bind (wpAny_bind (wpAny_isInstance (T := "list") (b := false) ty F.sub_list_bytes ?_)))
  simp only [Bool.false_eq_true, if_false]
  refine wpAny_pure (wpAny_bind (wpAny_bind (wpAny_isInstance (T := "list") (b := false) ty F.sub_list_bytearray ?_)))
  simp only [Bool.false_eq_true, if_false]
  refine wpAny_pure (wpAny_pure ?_)
  refine wpAny_bind (wpAny_newObj_type ?_)
  have hgI : s.heap.objs.size < g.objs.size := let ⟨_, ho, _⟩ := hI; Heap.lt_size ho
  have hlt : l < s.heap.objs.size := let ⟨_, ho, _⟩ := hl; Heap.lt_size ho
  have kn : ∀ a o, g.get? a = some o → (g.push (lObj [.ref t] 0)).get? a = some o := fun a o e => Heap.get?_push_of_some _ e
  refine wpAny_pure ⟨plainId_quiet F.plain_sum_loop _, sum_loopL (I := s.heap.objs.size) (l := l) (S := g.objs.size) (items := items) hh (Nat.ne_of_gt hgI) (Nat.ne_of_lt hlt) (Nat.ne_of_lt (Nat.lt_trans hlt hgI)) its 0 _ t 0 n acc (by simpa using hlen) (Nat.zero_le _) ?_ ?_ (Heap.get?_push_size _ rfl) (kn _ _ (kg _ _ ht)) (Nat.ne_of_lt (Nat.lt_trans (Heap.lt_size ht) hgI)) (fun j us e => ?_) hz fun h' tk t' n' kk e hor => ?_⟩
  · obtain ⟨o, ho, r⟩ := hI
    exact ⟨o, kn _ _ ho, r⟩
  · obtain ⟨o, ho, r⟩ := hl
    exact ⟨o, kn _ _ (kg _ _ ho), r⟩
  · obtain ⟨b, m, e1, e2⟩ := hj j us e
    exact ⟨b, m, by simpa using e1, Nat.ne_of_lt (Heap.lt_size e2), Nat.ne_of_lt (Nat.lt_trans (Heap.lt_size e2) hgI), kn _ _ (kg _ _ e2)⟩
  · refine hR h' tk t' n' (fun a o ho => kk a o (Nat.ne_of_lt (Heap.lt_size ho)) (Nat.ne_of_lt (Nat.lt_trans (Heap.lt_size ho) hgI)) (kn _ _ (kg _ _ ho))) e ?_
    rcases hor with h | h
    · exact .inl h
    · have z : (g.push (lObj [.ref t] 0)).objs.size ≤ t' := h
      rw [Heap.size_push] at z
      exact .inr (by omega)
end
/-! ### over data -/
section
variable {X : Cx} {pins : List (Addr × Obj)} {σ : L2.St} {H : Hp} {s : Shared}
theorem lists_raw (I : Inv X pins σ H s) : ∀ {vs : List V} {us : List Value} {ds : List D} {dss : List (List D)}, RpL X.K H vs ds → Vals vs us → lstsOf ds = some dss →
    ∃ its : List (List Value), us.length = its.length ∧ (∀ (j : Nat) (ws : List Value), its[j]? = some ws → ∃ b m, us[j]? = some (.ref b) ∧ s.heap.get? b = some (lObj ws m)) ∧ ∃ zs, Vals zs its.flatten ∧ RpL X.K H zs dss.flatten
  | _, _, _, dss, .nil, .nil, h => by
    simp only [lstsOf, Option.some.injEq] at h
    subst h
    exact ⟨[], rfl, fun j ws e => by simp at e, [], .nil, .nil⟩
  | _, _, d :: ds, dss, .cons r rr, .cons q qq, h => by
    cases d with
    | list xs =>
      simp only [lstsOf, Option.map_eq_some_iff] at h
      obtain ⟨dss', h1, rfl⟩ := h
      obtain ⟨its, q1, q2, zs, q3, q4⟩ := lists_raw I rr qq h1
      cases r with
      | lst g1 g2 =>
        rename_i a ws
        obtain ⟨us', n, rv, hz, ho⟩ := LsL.obj I (.inr g1)
        rename_i u us
        obtain rfl : u = Value.ref a := q
        refine ⟨us' :: its, by simp [q1], fun j ws' e => ?_, ws ++ zs, ?_, ?_⟩
        · cases j with
          | zero =>
            simp only [List.getElem?_cons_zero, Option.some.injEq] at e
            subst e
            exact ⟨a, n, rfl, ho⟩
          | succ j => simpa using q2 j ws' (by simpa using e)
        · rw [List.flatten_cons]; exact rv.append q3
        · rw [List.flatten_cons]; exact g2.append q4
    | _ => simp [lstsOf] at h
theorem cb_sumL (hh : X.A.handled = none) : CallR X (.builtin "sum") (fun xs H Q => ∃ x y dx dy r, xs = [x, y] ∧ RpM X.K H x dx ∧ Rp X.K H y dy ∧ sumLD dx dy = some r ∧ Out X.K H Q r) := by
  intro pins s σ H xs us Q I r h
  obtain ⟨x, y, dx, dy, res, rfl, hx, hy, hr, q⟩ := h
  unfold sumLD at hr
  split at hr
  · rename_i ds es
    split at hr
    · rename_i dss hd
      obtain ⟨hz, e⟩ := (show szOk (es.length + dss.flatten.length) = true ∧ PyData.list (es ++ dss.flatten) = res by
        split at hr
        · exact ⟨by assumption, Option.some.inj hr⟩
        · cases hr)
      subst e
      obtain ⟨a, vs, rfl, hq, rl⟩ := hx.list
      cases hy with
      | lst g1 g2 =>
        rename_i t ws
        obtain ⟨u, u2, rfl, rx, ry⟩ := vals2 r
        cases rx
        cases ry
        obtain ⟨its, n, rv, hz1, ho⟩ := hq.obj I
        obtain ⟨acc, n2, rv2, hz2, ho2⟩ := LsL.obj I (.inr g1)
        obtain ⟨itss, q1, q2, zs, q3, q4⟩ := lists_raw I rl rv hd
        have hz := szOk_le hz
        have l1 := g2.length; have l2 := rv2.length; have l3 := q4.length; have l4 := q3.length
        refine call_sum_lists (items := its) (its := itss) (acc := acc) hh ⟨_, ho, rfl, n, rfl⟩ ho2 q1 q2 (by omega) fun h' tk t' n' kk e hor => ?_
        rcases hor with ⟨h1, h2⟩ | hor
        · subst h1
          rw [h2] at l4
          have e0 : dss.flatten = [] := List.length_eq_zero_iff.mp (by rw [← l3, l4]; rfl)
          rw [e0, List.append_nil] at q
          exact fin_same (v := .ref _) (I.kept kk) rfl (.lst g1 g2) q
        · refine fin_lst (p := t') (I.laid (t' := tk) (fun b ob z => kk b ob z) hor ⟨?_, _, n', rv2.append q3, e⟩) (I.hok.fresh hor) (g2.append q4) q
          rw [List.length_append]; omega
    · cases hr
  · cases hr
end
end Sm

set_option Elab.async false
set_option linter.all false
set_option maxRecDepth 100000
set_option maxHeartbeats 1000000
/-! SmF: the readings by the evaluator; expressions. -/
namespace Sm
open PySem PySem.Spec PyProof.Rows L2
/-- what a global name stands for -/
inductive Gk where
  | fn (i np : Nat)
  | con (x : D)
  | cls (c nf : Nat)
  | bi
  | refu                 -- the law's own: whether something is refused
  deriving Inhabited
/-- a def keeps its promise, where nothing is being shown -/
structure FnG (P : Program) (w : World) (K : PySem.W.Frag) (mg : Str → Option Value) (base : Heap) (k : Nat) (f : Addr) (fd : FuncData) (ps : List Str) (sp : Sp) : Prop where
  len : ∀ vs H Q E, sp vs H Q E → vs.length = ps.length
  run : ∀ (A : Around) (outer : List Env) (s : Shared) (H : Hp) (args : Args) (us : List Value) (vs : List V) (Q : VK) (E : XK), Room k A → A.guards = some [] → Env0 P w K mg base A outer s H → BindsTo s fd args (ps.zip us) → Vals vs us → sp vs H Q E →
    codeAny (model P w) A (.call (.ref f) args) (CR (L2.CX P w) outer P w H s Q E) s
def RpRs (K : PySem.W.Frag) (φ : List Addr) (H : Hp) : List V → List RV → Prop := Paired (RpR K φ H)
/-- the promise of def i -/
def spF (K : PySem.W.Frag) (T : List (Addr × Str)) (cls : Nat → Option (Addr × List Str)) (cf : CF) (i : Nat) : Sp := fun vs H Q E =>
  ∃ φ st xs, StOk K φ st H ∧ LamX.Tabs T H ∧ RpRs K φ H vs xs ∧ Post ⟨K, T, cls, E⟩ φ st H (cf i xs st) fun x φ' _ H' => ∀ v, RpR K φ' H' v x → Q v H'
/-- what is known where code runs -/
structure Ok (X : Cx) (z : Cz) (cf : CF) (gl : List (Str × Gk)) (k : Nat) : Prop where
  hK : X.K = z.K
  calm : X.calm = true
  nd : X.N.Nodup
  room : Room (3 * k) X.A
  guards : X.A.guards = some []
  pass : Passes (L2.CX X.prog X.w) X z.W
  con : ∀ x d, gl.lookup x = some (.con d) → ∃ v u, X.mg x = some u ∧ RelV v u ∧ ∀ H, Rp z.K H v d
  bi : ∀ x, gl.lookup x = some .bi → X.mg x = none
  fn : ∀ x i np, gl.lookup x = some (.fn i np) → ∃ f fd ps, X.mg x = some (.ref f) ∧ PySem.W.keepIn X.K (.ref f) = true ∧ Binds X.K fd ps [] ∧ ps.length = np ∧ FnG X.prog X.w X.K X.mg X.base (3 * k) f fd ps (spF z.K z.T z.cls cf i)
theorem Ok.units {X : Cx} {z : Cz} {cf : CF} {gl : List (Str × Gk)} {k : Nat} (o : Ok X z cf gl k) : X.A.units + 100 < cLine := by have := o.room.un; omega
/-- the same within a comprehension: nothing is raised there -/
abbrev Cz.nox (z : Cz) : Cz := { z with W := fun _ _ _ => False }
theorem Ok.blk {X : Cx} {z : Cz} {cf : CF} {gl : List (Str × Gk)} {k : Nat} (o : Ok X z cf gl k) (s : Shared) (H : Hp) (scope : Scope) (cenv : Env) (fp : List Addr) : Ok (X.blk s H scope cenv fp) z.nox cf gl k :=
  ⟨o.hK, o.calm, o.nd, o.room, o.guards, fun _ _ _ _ _ _ _ c => by
    obtain ⟨_, _, _, _, _, _, _, _, _, _, _, _, h⟩ := c
    exact h.elim, o.con, o.bi, o.fn⟩

/-- an expression's reading: the evaluator's result -/
def tE (z : Cz) (f : Ev) (e : E) : TE := fun σ H Q => ∃ φ lo st, StOk z.K φ st H ∧ SimL z.K φ H lo σ ∧ LamX.Tabs z.T H ∧ Post z φ st H (f e lo st) fun x φ' _ H' => ∀ v, RpR z.K φ' H' v x → Q v H'
theorem _root_.L2.PE.imp {X : Cx} {e : Expr} {t t' : TE} (h : PE X e t) (m : ∀ σ H Q, t' σ H Q → t σ H Q) : PE X e t' := ⟨fun pins s σ H Q I q => h.run pins s σ H Q I (m σ H Q q)⟩
theorem _root_.L2.PT.imp {X : Cx} {e : Expr} {t t' : TT} (h : PT X e t) (m : ∀ σ H Q, t' σ H Q → t σ H Q) : PT X e t' := ⟨fun pins s σ H Q I q => h.run pins s σ H Q I (m σ H Q q)⟩
theorem _root_.L2.PA.imp {X : Cx} {e : List Expr} {t t' : TA} (h : PA X e t) (m : ∀ σ H Q, t' σ H Q → t σ H Q) : PA X e t' := ⟨fun pos pins s σ H Q I q => h.run pos pins s σ H Q I (m σ H Q q)⟩
theorem PE.none {X : Cx} {z : Cz} {f : Ev} {e : Expr} {ir : E} (h : ∀ lo st, f ir lo st = .no) : PE X e (tE z f ir) := ⟨fun pins s σ H Q I q => by
  obtain ⟨φ, lo, st, _, _, _, p⟩ := q
  rw [h] at p
  exact (p : False).elim⟩
/-- the evaluator's answer for e is good -/
def SE (X : Cx) (z : Cz) (cf : CF) (e : Expr) (ir : E) : Prop := ∀ m, PE X e (tE z (ev cf m) ir)
theorem SE.of {X : Cx} {z : Cz} {cf : CF} {e : Expr} {ir : E} (h : ∀ m, PE X e (tE z (evF cf (ev cf m)) ir)) : SE X z cf e ir := fun m => by
  cases m with
  | zero => exact PE.none fun _ _ => rfl
  | succ m => exact h m
/-- a thing that a rule has made is locked -/
theorem pe_frz {X : Cx} {e : Expr} {t : TE} (h : PE X e t) : PE X e fun σ H Q => t σ H fun v H' => Q v H' ∨ ∃ a vs, v = .ref a ∧ H' a = some (.lst vs) ∧ ∀ o, Q v (upd H' a (.frz o (.lst vs))) := by
  refine ⟨fun pins s σ H Q I hr => ?_⟩
  refine thn (h.run pins s σ H _ I hr) fun u s1 ⟨v, H1, I1, r1, q1⟩ => ?_
  rcases q1 with q1 | ⟨a, vs, rfl, e, q1⟩
  · exact ⟨v, H1, I1, r1, q1⟩
  · obtain ⟨o, I2⟩ := I1.lock e trivial
    exact ⟨_, _, I2, r1, q1 o⟩
section
variable {X : Cx} {z : Cz} {cf : CF} {gl : List (Str × Gk)} {k : Nat} {f : Ev} {σ : L2.St} {H : Hp} {φ : List Addr} {st : Sto} {lo : Lo}
/-- from the evaluator's bind to the part's reading -/
theorem tE.bind {β : Type} {e : E} {g : RV → Sto → Rs β} {P : β → List Addr → Sto → Hp → Prop} {R : VK} (s : StOk z.K φ st H) (l : SimL z.K φ H lo σ) (t : LamX.Tabs z.T H) (h : Post z φ st H ((f e lo st).bind g) P)
    (q : ∀ x v φ1 st1 H1, StOk z.K φ1 st1 H1 → SimL z.K φ1 H1 lo σ → LamX.Tabs z.T H1 → Step z.T φ st H φ1 st1 H1 → RpR z.K φ1 H1 v x → Post z φ1 st1 H1 (g x st1) P → R v H1) : tE z f e σ H R :=
  ⟨φ, lo, st, s, l, t, (Post.bind s h).mono fun x φ1 st1 H1 p1 s1 ⟨_, _, h1⟩ v rv => q x v φ1 st1 H1 s1 (l.step s p1) (p1.tab t) p1 rv h1⟩
theorem bind_assoc {α β γ : Type} (r : Rs α) (g : α → Sto → Rs β) (h : β → Sto → Rs γ) : (r.bind g).bind h = r.bind fun a st => (g a st).bind h := by
  cases r <;> rfl
/-- .. read as data -/
theorem tE.bindD {β : Type} {e : E} {g : D → Sto → Rs β} {P : β → List Addr → Sto → Hp → Prop} {R : VK} (s : StOk z.K φ st H) (l : SimL z.K φ H lo σ) (t : LamX.Tabs z.T H) (h : Post z φ st H ((evD f e lo st).bind g) P)
    (q : ∀ x v φ1 st1 H1, StOk z.K φ1 st1 H1 → SimL z.K φ1 H1 lo σ → LamX.Tabs z.T H1 → Step z.T φ st H φ1 st1 H1 → RpM z.K H1 v x → Post z φ1 st1 H1 (g x st1) P → R v H1) : tE z f e σ H R := by
  unfold evD at h
  rw [bind_assoc] at h
  refine tE.bind s l t h fun x v φ1 st1 H1 s1 l1 t1 p1 rv h1 => ?_
  obtain ⟨d, e1, h2⟩ := Post.of s1 h1
  refine q d v φ1 st1 H1 s1 l1 t1 p1 ?_ h2
  cases x with
  | d y => cases e1; exact .inl rv
  | r i =>
    obtain ⟨a, ea, rfl⟩ := rv
    simp only [rdV] at e1
    split at e1
    · rename_i xs hs
      cases e1
      obtain ⟨vs, h3, h4⟩ := s1.lst i a xs ea hs
      exact .inr ⟨a, vs, xs, rfl, rfl, h3, h4⟩
    · rename_i xs hs
      exact (s1.dct i a xs ea hs).elim
    · cases e1
/-- .. that is data -/
theorem tE.bindP {β : Type} {e : E} {g : D → Sto → Rs β} {P : β → List Addr → Sto → Hp → Prop} {R : VK} (s : StOk z.K φ st H) (l : SimL z.K φ H lo σ) (t : LamX.Tabs z.T H) (h : Post z φ st H ((evP f e lo st).bind g) P)
    (q : ∀ x v φ1 st1 H1, StOk z.K φ1 st1 H1 → SimL z.K φ1 H1 lo σ → LamX.Tabs z.T H1 → Step z.T φ st H φ1 st1 H1 → Rp z.K H1 v x → Post z φ1 st1 H1 (g x st1) P → R v H1) : tE z f e σ H R := by
  unfold evP at h
  rw [bind_assoc] at h
  refine tE.bind s l t h fun x v φ1 st1 H1 s1 l1 t1 p1 rv h1 => ?_
  cases x with
  | d y => exact q y v φ1 st1 H1 s1 l1 t1 p1 rv h1
  | r i => exact (h1 : False).elim
/-- the end: data in a heap that has grown -/
theorem out_ret {Q : VK} {r : D} (s : StOk z.K φ st H) (h : Post z φ st H (ret r st) fun x φ' _ H' => ∀ v, RpR z.K φ' H' v x → Q v H') : Out z.K H Q r := fun v H' e rv =>
  h φ H' (Step.grow e) (s.grow e) v rv
/-- an optional answer -/
theorem out_of {Q : VK} {o : Option D} (s : StOk z.K φ st H) (h : Post z φ st H ((Rs.of o st).bind ret) fun x φ' _ H' => ∀ v, RpR z.K φ' H' v x → Q v H') : ∃ r, o = some r ∧ Out z.K H Q r := by
  obtain ⟨r, e, h⟩ := Post.of s h
  exact ⟨r, e, out_ret s h⟩
theorem se_const (o : Ok X z cf gl k) {x : D} {e : Expr} {v : V} (h : PE X e (tC v)) (r : ∀ H, Rp z.K H v x) : SE X z cf e (.c x) := SE.of fun m => h.imp fun σ H Q ⟨φ, lo, st, s, l, t, p⟩ =>
  out_ret s p v H (fun _ _ h => h) (r H)
theorem se_var {i : Nat} {x : Str} {pos : Pos} (hi : X.N[i]? = some x) (hv : Vis X.env.scope x) (hd : (x == ("__debug__" : Str)) = false) (hcd : (x == ("__classdict__" : Str)) = false) : SE X z cf (.Name x pos) (.v i) := SE.of fun m => (pe_var hi hv hd hcd).imp fun σ H Q ⟨φ, lo, st, s, l, t, p⟩ => by
  have p : Post z φ st H (match lo[i]? with
    | some (some x) => .ok x st
    | _ => .no) (fun x φ' _ H' => ∀ v, RpR z.K φ' H' v x → Q v H') := p
  split at p
  · rename_i y hy
    obtain ⟨v, h1, h2⟩ := l.get i y hy
    exact ⟨v, h1, Post.here s p v h2⟩
  · exact (p : False).elim
theorem se_bin (o : Ok X z cf gl k) {a b : Expr} {ia ib : E} {op : Operator} {pos : Pos} (ha : SE X z cf a ia) (hb : SE X z cf b ib) : SE X z cf (.BinOp a op b pos) (.bin op ia ib) := SE.of fun m =>
  (pe_op (op_bin op) (ha m) (hb m)).imp fun σ H Q ⟨φ, lo, st, s, l, t, p⟩ => by
    refine tE.bindP s l t p fun x v φ1 st1 H1 s1 l1 t1 p1 rx h1 => ?_
    refine tE.bindP s1 l1 t1 h1 fun y u φ2 st2 H2 s2 l2 t2 p2 ry h2 => ?_
    obtain ⟨r, e, q⟩ := out_of s2 h2
    rw [o.hK]
    exact ⟨x, y, r, rx.keep (p2.keep s1), ry, e, q⟩
theorem se_neg (o : Ok X z cf gl k) {a : Expr} {ia : E} {pos : Pos} (ha : SE X z cf a ia) : SE X z cf (.UnaryOp .USub a pos) (.neg ia) := SE.of fun m =>
  (pe_un un_negD (ha m)).imp fun σ H Q ⟨φ, lo, st, s, l, t, p⟩ => by
    refine tE.bindP s l t p fun x v φ1 st1 H1 s1 l1 t1 p1 rx h1 => ?_
    obtain ⟨r, e, q⟩ := out_of s1 h1
    rw [o.hK]
    exact ⟨x, r, rx, e, q⟩
theorem RpM.step {v : V} {d : D} {φ1 : List Addr} {st1 : Sto} {H1 : Hp} (s : StOk z.K φ st H) (p : Step z.T φ st H φ1 st1 H1) (h : RpM z.K H v d) (hn : ∀ a vs, v = .ref a → H a = some (.lst vs) → ¬ live φ st a) : RpM z.K H1 v d := by
  rcases h with h | ⟨a, vs, ds, rfl, rfl, h, r⟩
  · exact .inl (h.keep (p.keep s))
  · exact .inr ⟨a, vs, ds, rfl, rfl, p.ext a _ h (by intro ps q; cases q) (hn a vs rfl h), r.keep (p.keep s)⟩
end
end Sm

set_option Elab.async false
set_option linter.all false
set_option maxRecDepth 100000
set_option maxHeartbeats 1000000
/-! SmG: tests, comparisons, and, or, displays, subscripts, built-ins, calls. -/
namespace Sm
open PySem PySem.Spec PyProof.Rows L2
/-- a test's reading -/
def tT (z : Cz) (f : Ev) (e : E) : TT := fun σ H Q => ∃ φ lo st, StOk z.K φ st H ∧ SimL z.K φ H lo σ ∧ LamX.Tabs z.T H ∧ Post z φ st H (evT f e lo st) fun b _ _ H' => Q b H'
def ST (X : Cx) (z : Cz) (cf : CF) (e : Expr) (ir : E) : Prop := ∀ m, PT X e (tT z (ev cf m) ir)
theorem PT.none {X : Cx} {z : Cz} {f : Ev} {e : Expr} {ir : E} (h : ∀ lo st, f ir lo st = .no) : PT X e (tT z f ir) := ⟨fun pins s σ H Q I q => by
  obtain ⟨φ, lo, st, _, _, _, p⟩ := q
  unfold evT evD at p
  rw [h] at p
  exact (p : False).elim⟩
theorem ST.of {X : Cx} {z : Cz} {cf : CF} {e : Expr} {ir : E} (h : ∀ m, PT X e (tT z (evF cf (ev cf m)) ir)) : ST X z cf e ir := fun m => by
  cases m with
  | zero => exact PT.none fun _ _ => rfl
  | succ m => exact h m
/-- whether a test is judged by its value's truth -/
def plainT : Expr → Bool
  | .UnaryOp .Not _ _ => false
  | .BoolOp _ _ _ => false
  | .IfExp _ _ _ _ => false
  | .Compare _ _ _ _ => false
  | _ => true
theorem plainT_ok {e : Expr} (h : plainT e = true) (env : Env) (whole : Sem Value) : isTrue e env whole = (do let v ← whole; standAt e.pos; holding [v] (truthy v)) := by
  cases e with
  | UnaryOp op a p => cases op <;> first | rfl | cases h
  | BoolOp _ _ _ => cases h
  | IfExp _ _ _ _ => cases h
  | Compare _ _ _ _ => cases h
  | _ => rfl
section
variable {X : Cx} {z : Cz} {cf : CF} {gl : List (Str × Gk)} {k : Nat} {f : Ev} {σ : L2.St} {H : Hp} {φ : List Addr} {st : Sto} {lo : Lo}
/-- .. a test -/
theorem tT.bind {β : Type} {e : E} {g : Bool → Sto → Rs β} {P : β → List Addr → Sto → Hp → Prop} {R : Bool → Hp → Prop} (s : StOk z.K φ st H) (l : SimL z.K φ H lo σ) (t : LamX.Tabs z.T H) (h : Post z φ st H ((evT f e lo st).bind g) P)
    (q : ∀ b φ1 st1 H1, StOk z.K φ1 st1 H1 → SimL z.K φ1 H1 lo σ → LamX.Tabs z.T H1 → Step z.T φ st H φ1 st1 H1 → Post z φ1 st1 H1 (g b st1) P → R b H1) : tT z f e σ H R :=
  ⟨φ, lo, st, s, l, t, (Post.bind s h).mono fun b φ1 st1 H1 p1 s1 ⟨_, _, h1⟩ => q b φ1 st1 H1 s1 (l.step s p1) (p1.tab t) p1 h1⟩
theorem rpM_of {x : RV} {v : V} {d : D} (s : StOk z.K φ st H) (rv : RpR z.K φ H v x) (e1 : rdV x st = some d) : RpM z.K H v d := by
  cases x with
  | d y => cases e1; exact .inl rv
  | r i =>
    obtain ⟨a, ea, rfl⟩ := rv
    simp only [rdV] at e1
    split at e1
    · rename_i xs hs
      cases e1
      obtain ⟨vs, h3, h4⟩ := s.lst i a xs ea hs
      exact .inr ⟨a, vs, xs, rfl, rfl, h3, h4⟩
    · rename_i xs hs
      exact (s.dct i a xs ea hs).elim
    · cases e1
theorem tru_rp {K : PySem.W.Frag} {v : V} {d : D} {b : Bool} (h : RpM K H v d) (e : truD d = some b) : TruV K v H b := by
  unfold truD at e
  split at e <;> first | (cases e; done) | skip
  · cases e
    rcases h with h | ⟨a, vs, ds, rfl, e, h, r⟩
    · cases h; exact rfl
    · cases e
  · cases e; cases h.bool; exact rfl
  · cases e; cases h.int; exact rfl
  · cases e
    obtain ⟨a, vs, rfl, hq, rl⟩ := h.list
    refine .inl ⟨vs, hq.sq, ?_⟩
    cases rl <;> rfl
  · cases e
    obtain ⟨a, vs, rfl, hq, rl⟩ := h.tuple
    refine .inr (.inl ⟨vs, hq, ?_⟩)
    cases rl <;> rfl
/-- a test by its value -/
theorem st_plain (o : Ok X z cf gl k) {e : Expr} {ir : E} (h : SE X z cf e ir) (hp : plainT e = true) : ST X z cf e ir := fun m => by
  refine (pt_truth (h m) (fun whole => plainT_ok hp X.env whole)).imp fun σ H Q ⟨φ, lo, st, s, l, t, p⟩ => ?_
  refine tE.bindD s l t p fun x v φ1 st1 H1 s1 l1 t1 p1 rx h1 => ?_
  cases hb : truD x with
  | none => unfold asB at h1; rw [hb] at h1; exact (h1 : False).elim
  | some b =>
    unfold asB at h1; rw [hb] at h1
    rw [o.hK]
    exact ⟨b, tru_rp rx hb, Post.here s1 h1⟩
theorem post_ret {α : Type} {a : α} {P : α → List Addr → Sto → Hp → Prop} (s : StOk z.K φ st H) (h : Post z φ st H (.ok a st) P) : P a φ st H := Post.here s h
theorem behind_no {e : Expr} (h : ∀ es n p, e ≠ .Set es n p) (op : CmpOp) : behindInMarks op e = false := by
  cases e with
  | Set es n p => exact absurd rfl (h es n p)
  | _ => rfl
theorem se_cmp (o : Ok X z cf gl k) {a b : Expr} {ia ib : E} {op : CmpOp} {pos : Pos} (ha : SE X z cf a ia) (hb : SE X z cf b ib) (hs : ∀ es n p, b ≠ .Set es n p) : SE X z cf (.Compare a [op] [b] pos) (.cmp op ia ib) ∧ ST X z cf (.Compare a [op] [b] pos) (.cmp op ia ib) := by
  have core : ∀ {m} {σ H} {φ lo st} {β : Type} {g : Bool → Sto → Rs β} {P : β → List Addr → Sto → Hp → Prop} {R : VK}, StOk z.K φ st H → SimL z.K φ H lo σ → LamX.Tabs z.T H →
      Post z φ st H ((ev cf m ia lo st).bind fun x st => (ev cf m ib lo st).bind fun y st => (Rs.of (rdV x st) st).bind fun x st => (Rs.of (rdV y st) st).bind fun y st => (Rs.of (cmpD op x y) st).bind g) P →
      (∀ c φ1 st1 H1, StOk z.K φ1 st1 H1 → Step z.T φ st H φ1 st1 H1 → LamX.Tabs z.T H1 → Post z φ1 st1 H1 (g c st1) P → R (.bl c) H1) → tOp (rCmpD X.K op) (tE z (ev cf m) ia) (tE z (ev cf m) ib) σ H R := by
    intro m σ H φ lo st β g P R s l t p q
    refine tE.bind s l t p fun x v φ1 st1 H1 s1 l1 t1 p1 rx h1 => ?_
    refine tE.bind s1 l1 t1 h1 fun y u φ2 st2 H2 s2 l2 t2 p2 ry h2 => ?_
    obtain ⟨dx, ex, h2⟩ := Post.of s2 h2
    obtain ⟨dy, ey, h2⟩ := Post.of s2 h2
    obtain ⟨c, ec, h2⟩ := Post.of s2 h2
    rw [o.hK]
    exact ⟨dx, dy, c, rpM_of s2 (rx.step s1 p2) ex, rpM_of s2 ry ey, ec, q c φ2 st2 H2 s2 (p1.trans s s1 p2) t2 h2⟩
  refine ⟨SE.of fun m => (pe_cmpR (op_cmpD o.units op) (ha m) (hb m) (behind_no hs op)).imp fun σ H Q ⟨φ, lo, st, s, l, t, p⟩ => ?_, ST.of fun m => (pt_cmpR (op_cmpD o.units op) (ha m) (hb m) (behind_no hs op)).imp fun σ H Q ⟨φ, lo, st, s, l, t, p⟩ => ?_⟩
  · refine core s l t p fun c φ1 st1 H1 s1 p1 t1 h1 => ?_
    exact h1 φ1 H1 .refl s1 (.bl c) (.bl c)
  · unfold evT evD at p
    simp only [evF, bind_assoc] at p
    refine core (g := fun k st => (ret (.bool k) st).bind fun x st => (Rs.of (rdV x st) st).bind asB) s l t p fun c φ1 st1 H1 s1 p1 t1 h1 => ⟨c, rfl, ?_⟩
    exact post_ret s1 h1
theorem se_chain (o : Ok X z cf gl k) {a b c : Expr} {ia ib ic : E} {op op' : CmpOp} {pos : Pos} (ha : SE X z cf a ia) (hb : SE X z cf b ib) (hc : SE X z cf c ic) (hs : ∀ es n p, c ≠ .Set es n p) :
    SE X z cf (.Compare a [op, op'] [b, c] pos) (.chain op op' ia ib ic) ∧ ST X z cf (.Compare a [op, op'] [b, c] pos) (.chain op op' ia ib ic) := by
  have hm : lastMarks [op, op'] [b, c] = false := behind_no hs op'
  have core : ∀ {m} {σ H} {φ lo st} {β : Type} {g : RV → Sto → Rs β} {P : β → List Addr → Sto → Hp → Prop} {R : VK}, StOk z.K φ st H → SimL z.K φ H lo σ → LamX.Tabs z.T H →
      Post z φ st H (((evP (ev cf m) ia lo st).bind fun x st => (evP (ev cf m) ib lo st).bind fun y st => (Rs.of (cmpD op x y) st).bind fun k st =>
      if k then (evP (ev cf m) ic lo st).bind fun z st => (Rs.of (cmpD op' y z) st).bind fun k st => ret (.bool k) st else ret (.bool false) st).bind g) P →
      (∀ c φ1 st1 H1, StOk z.K φ1 st1 H1 → Post z φ1 st1 H1 (g (.d (.bool c)) st1) P → R (.bl c) H1) → tChain (rCmpD X.K op) (rCmpD X.K op') (tE z (ev cf m) ia) (tE z (ev cf m) ib) (tE z (ev cf m) ic) σ H R := by
    intro m σ H φ lo st β g P R s l t p q
    simp only [bind_assoc] at p
    refine tE.bindP s l t p fun x v φ1 st1 H1 s1 l1 t1 p1 rx h1 => ?_
    refine tE.bindP s1 l1 t1 h1 fun y u φ2 st2 H2 s2 l2 t2 p2 ry h2 => ?_
    obtain ⟨c1, ec, h2⟩ := Post.of s2 h2
    rw [o.hK]
    refine ⟨x, y, c1, .inl (rx.keep (p2.keep s1)), .inl ry, ec, c1, rfl, ?_⟩
    cases c1 with
    | false =>
      rw [if_neg Bool.false_ne_true] at h2 ⊢
      exact q false φ2 st2 H2 s2 h2
    | true =>
      rw [if_pos rfl] at h2 ⊢
      simp only [bind_assoc] at h2
      refine tE.bindP s2 l2 t2 h2 fun w u3 φ3 st3 H3 s3 l3 t3 p3 rw' h3 => ?_
      obtain ⟨c3, ec3, h3⟩ := Post.of s3 h3
      exact ⟨y, w, c3, .inl (ry.keep (p3.keep s2)), .inl rw', ec3, q c3 φ3 st3 H3 s3 h3⟩
  refine ⟨SE.of fun m => (pe_chain (op_cmpD o.units op) (op_cmpD o.units op') (ha m) (hb m) (hc m) hm).imp fun σ H Q ⟨φ, lo, st, s, l, t, p⟩ => ?_, ST.of fun m => (pt_chain (op_cmpD o.units op) (op_cmpD o.units op') (ha m) (hb m) (hc m) hm).imp fun σ H Q ⟨φ, lo, st, s, l, t, p⟩ => ?_⟩
  · refine core (g := fun x st => .ok x st) s l t (by
      have e : ∀ r : Rs RV, (r.bind fun x st => .ok x st) = r := fun r => by cases r <;> rfl
      rw [e]; exact p) fun c φ1 st1 H1 s1 h1 => ?_
    exact h1 φ1 H1 .refl s1 (.bl c) (.bl c)
  · unfold evT evD at p
    rw [bind_assoc] at p
    refine core s l t p fun c φ1 st1 H1 s1 h1 => ⟨c, rfl, ?_⟩
    exact post_ret s1 h1
end
end Sm

set_option Elab.async false
set_option linter.all false
set_option maxRecDepth 100000
set_option maxHeartbeats 1000000
/-! SmH: and, or, not, if-else, displays, subscripts, built-ins, calls. -/
namespace Sm
open PySem PySem.Spec PyProof.Rows L2
section
variable {X : Cx} {z : Cz} {cf : CF} {gl : List (Str × Gk)} {k : Nat} {f : Ev} {σ : L2.St} {H : Hp} {φ : List Addr} {st : Sto} {lo : Lo}
theorem bindE {β γ : Type} {r : Rs D} {g : D → Sto → Rs β} {h : β → Sto → Rs γ} : ((r.bind g).bind h) = r.bind fun a st => (g a st).bind h := bind_assoc r g h
/-- the value of a, then by its truth -/
theorem tE.bindB {β : Type} {e : E} {g : D → Bool → Sto → Rs β} {P : β → List Addr → Sto → Hp → Prop} {R : VK} (s : StOk z.K φ st H) (l : SimL z.K φ H lo σ) (t : LamX.Tabs z.T H) (h : Post z φ st H ((evP f e lo st).bind fun x st => (asB x st).bind fun b st => g x b st) P)
    (q : ∀ x b v φ1 st1 H1, StOk z.K φ1 st1 H1 → SimL z.K φ1 H1 lo σ → LamX.Tabs z.T H1 → Rp z.K H1 v x → TruV z.K v H1 b → truD x = some b → Post z φ1 st1 H1 (g x b st1) P → R v H1) : tE z f e σ H R := by
  refine tE.bindP s l t h fun x v φ1 st1 H1 s1 l1 t1 p1 rx h1 => ?_
  obtain ⟨b, e1, h2⟩ := Post.of s1 h1
  exact q x b v φ1 st1 H1 s1 l1 t1 rx (tru_rp (.inl rx) e1) e1 h2
theorem evP_evD {e : E} {β : Type} {g : D → Sto → Rs β} {P : β → List Addr → Sto → Hp → Prop} (h : Post z φ st H ((evP f e lo st).bind g) P) : Post z φ st H ((evD f e lo st).bind g) P := by
  unfold evP at h
  unfold evD
  cases q : f e lo st with
  | no => rw [q] at h; exact h
  | ex c xs st1 => rw [q] at h; exact h
  | ok x st1 =>
    rw [q] at h
    cases x with
    | d y => exact h
    | r i => exact (h : False).elim
theorem asB_eq {x : D} {b : Bool} (e : truD x = some b) (st : Sto) : asB x st = .ok b st := by unfold asB; rw [e]; rfl
theorem evT_bind {e : E} {β : Type} {g : D → Bool → Sto → Rs β} {P : β → List Addr → Sto → Hp → Prop} (h : Post z φ st H ((evP f e lo st).bind fun x st => (asB x st).bind fun b st => g x b st) P)
    (hg : ∀ x b st, truD x = some b → g x b st = g (.bool b) b st) : Post z φ st H ((evT f e lo st).bind fun b st => g (.bool b) b st) P := by
  unfold evT
  rw [bind_assoc]
  have h2 := evP_evD h
  cases q : evD f e lo st with
  | no => rw [q] at h2; exact h2
  | ex c xs st1 => rw [q] at h2; exact h2
  | ok x st1 =>
    rw [q] at h2
    cases hb : truD x with
    | none => unfold asB Rs.bind at h2; simp only [Rs.bind, hb, Rs.of] at h2; exact (h2 : False).elim
    | some b =>
      have h2 : Post z φ st H ((asB x st1).bind fun b st => g x b st) P := h2
      rw [asB_eq hb] at h2
      show Post z φ st H ((asB x st1).bind fun b st => g (.bool b) b st) P
      rw [asB_eq hb]
      have h3 : Post z φ st H (g x b st1) P := h2
      rw [hg x b st1 hb] at h3
      exact h3
theorem ret_tru {x : D} {b : Bool} (e : truD x = some b) (st : Sto) : ((ret x st).bind fun x st => (Rs.of (rdV x st) st).bind asB) = .ok b st := by
  show asB x st = _
  exact asB_eq e st
theorem se_and (o : Ok X z cf gl k) {a b : Expr} {rest : List Expr} {ia ib : E} {pos : Pos} (ha : SE X z cf a ia) (ta : ST X z cf a ia) (hb : SE X z cf (.BoolOp .And (b :: rest) pos) ib) (tb : ∀ m, PW X (.BoolOp .And (b :: rest) pos) (tT z (ev cf m) ib)) :
    SE X z cf (.BoolOp .And (a :: b :: rest) pos) (.and ia ib) ∧ ∀ m, PW X (.BoolOp .And (a :: b :: rest) pos) (tT z (ev cf m) (.and ia ib)) := by
  refine ⟨SE.of fun m => (pe_andT (ha m) (hb m)).imp fun σ H Q ⟨φ, lo, st, s, l, t, p⟩ => ?_, fun m => ?_⟩
  · refine tE.bindB s l t p fun x b v φ1 st1 H1 s1 l1 t1 rx tv e1 h1 => ?_
    rw [o.hK]
    refine ⟨b, tv, ?_⟩
    cases b with
    | true => rw [if_pos rfl] at h1 ⊢; exact ⟨φ1, lo, st1, s1, l1, t1, h1⟩
    | false => rw [if_neg Bool.false_ne_true] at h1 ⊢; exact h1 φ1 H1 .refl s1 v rx
  · cases m with
    | zero => exact ⟨fun whole pins s σ H Q I q => by obtain ⟨φ, lo, st, _, _, _, p⟩ := q; exact (p : False).elim⟩
    | succ m =>
      have hw := pw_and (pos := pos) (ta m) (tb m)
      refine ⟨fun whole pins s σ H Q I q => hw.run whole pins s σ H Q I ?_⟩
      obtain ⟨φ, lo, st, s, l, t, p⟩ := q
      have p : Post z φ st H ((((evP (ev cf m) ia lo st).bind fun x st => (asB x st).bind fun k st => if k then ev cf m ib lo st else ret x st).bind fun x st => Rs.of (rdV x st) st).bind asB) (fun b _ _ H' => Q b H') := p
      rw [bind_assoc, bind_assoc] at p
      have p := evT_bind (g := fun x k st => ((if k then ev cf m ib lo st else ret x st).bind fun x st => (Rs.of (rdV x st) st).bind asB)) (by
        have e : ∀ (x : D) (st : Sto), ((asB x st).bind fun b st => (if b = true then ev cf m ib lo st else ret x st).bind fun x st => (Rs.of (rdV x st) st).bind asB) = (((asB x st).bind fun k st => if k = true then ev cf m ib lo st else ret x st).bind fun x st => (Rs.of (rdV x st) st).bind asB) := fun x st => (bind_assoc _ _ _).symm
        simp only [e]
        exact p) (fun x b st hb => by
          cases b with
          | true => rfl
          | false => simp only [if_neg Bool.false_ne_true, ret_tru hb, ret_tru (show truD (.bool false) = some false from rfl)])
      refine tT.bind s l t p fun b φ1 st1 H1 s1 l1 t1 p1 h1 => ?_
      cases b with
      | true =>
        rw [if_pos rfl] at h1 ⊢
        exact ⟨φ1, lo, st1, s1, l1, t1, by unfold evT evD; rw [bind_assoc]; exact h1⟩
      | false =>
        rw [if_neg Bool.false_ne_true] at h1 ⊢
        exact Post.here s1 h1
theorem se_or (o : Ok X z cf gl k) {a b : Expr} {rest : List Expr} {ia ib : E} {pos : Pos} (ha : SE X z cf a ia) (ta : ST X z cf a ia) (hb : SE X z cf (.BoolOp .Or (b :: rest) pos) ib) (tb : ∀ m, PW X (.BoolOp .Or (b :: rest) pos) (tT z (ev cf m) ib)) :
    SE X z cf (.BoolOp .Or (a :: b :: rest) pos) (.or ia ib) ∧ ∀ m, PW X (.BoolOp .Or (a :: b :: rest) pos) (tT z (ev cf m) (.or ia ib)) := by
  refine ⟨SE.of fun m => (pe_orT (ha m) (hb m)).imp fun σ H Q ⟨φ, lo, st, s, l, t, p⟩ => ?_, fun m => ?_⟩
  · refine tE.bindB s l t p fun x b v φ1 st1 H1 s1 l1 t1 rx tv e1 h1 => ?_
    rw [o.hK]
    refine ⟨b, tv, ?_⟩
    cases b with
    | true => rw [if_pos rfl] at h1 ⊢; exact h1 φ1 H1 .refl s1 v rx
    | false => rw [if_neg Bool.false_ne_true] at h1 ⊢; exact ⟨φ1, lo, st1, s1, l1, t1, h1⟩
  · cases m with
    | zero => exact ⟨fun whole pins s σ H Q I q => by obtain ⟨φ, lo, st, _, _, _, p⟩ := q; exact (p : False).elim⟩
    | succ m =>
      have hw := pw_or (pos := pos) (ta m) (tb m)
      refine ⟨fun whole pins s σ H Q I q => hw.run whole pins s σ H Q I ?_⟩
      obtain ⟨φ, lo, st, s, l, t, p⟩ := q
      have p : Post z φ st H ((((evP (ev cf m) ia lo st).bind fun x st => (asB x st).bind fun k st => if k then ret x st else ev cf m ib lo st).bind fun x st => Rs.of (rdV x st) st).bind asB) (fun b _ _ H' => Q b H') := p
      rw [bind_assoc, bind_assoc] at p
      have p := evT_bind (g := fun x k st => ((if k then ret x st else ev cf m ib lo st).bind fun x st => (Rs.of (rdV x st) st).bind asB)) (by
        have e : ∀ (x : D) (st : Sto), ((asB x st).bind fun b st => (if b = true then ret x st else ev cf m ib lo st).bind fun x st => (Rs.of (rdV x st) st).bind asB) = (((asB x st).bind fun k st => if k = true then ret x st else ev cf m ib lo st).bind fun x st => (Rs.of (rdV x st) st).bind asB) := fun x st => (bind_assoc _ _ _).symm
        simp only [e]
        exact p) (fun x b st hb => by
          cases b with
          | false => rfl
          | true => simp only [if_pos, ret_tru hb, ret_tru (show truD (.bool true) = some true from rfl)])
      refine tT.bind s l t p fun b φ1 st1 H1 s1 l1 t1 p1 h1 => ?_
      cases b with
      | false =>
        rw [if_neg Bool.false_ne_true] at h1 ⊢
        exact ⟨φ1, lo, st1, s1, l1, t1, by unfold evT evD; rw [bind_assoc]; exact h1⟩
      | true =>
        rw [if_pos rfl] at h1 ⊢
        exact Post.here s1 h1
theorem se_one {a : Expr} {ia : E} {op : BoolOp} {pos : Pos} (ha : SE X z cf a ia) (ta : ST X z cf a ia) : SE X z cf (.BoolOp op [a] pos) ia ∧ ∀ m, PW X (.BoolOp op [a] pos) (tT z (ev cf m) ia) :=
  ⟨fun m => pe_one (ha m), fun m => by cases op <;> first | exact pw_and1 (ta m) | exact pw_or1 (ta m)⟩
theorem se_not (o : Ok X z cf gl k) {a : Expr} {ia : E} {pos : Pos} (ha : SE X z cf a ia) (ta : ST X z cf a ia) : SE X z cf (.UnaryOp .Not a pos) (.not ia) ∧ ST X z cf (.UnaryOp .Not a pos) (.not ia) := by
  refine ⟨SE.of fun m => (pe_notT (ha m)).imp fun σ H Q ⟨φ, lo, st, s, l, t, p⟩ => ?_, ST.of fun m => (pt_not (ta m)).imp fun σ H Q ⟨φ, lo, st, s, l, t, p⟩ => ?_⟩
  · refine tE.bindD s l t p fun x v φ1 st1 H1 s1 l1 t1 p1 rx h1 => ?_
    obtain ⟨b, e1, h2⟩ := Post.of s1 h1
    rw [o.hK]
    exact ⟨b, tru_rp rx e1, h2 φ1 H1 .refl s1 _ (.bl _)⟩
  · have p : Post z φ st H ((((evD (ev cf m) ia lo st).bind fun x st => (asB x st).bind fun k st => ret (.bool (!k)) st).bind fun x st => Rs.of (rdV x st) st).bind asB) (fun b _ _ H' => Q b H') := p
    have e : ((((evD (ev cf m) ia lo st).bind fun x st => (asB x st).bind fun k st => ret (.bool (!k)) st).bind fun x st => Rs.of (rdV x st) st).bind asB) = (evT (ev cf m) ia lo st).bind fun b st => .ok (!b) st := by
      unfold evT
      simp only [bind_assoc]
      rfl
    rw [e] at p
    refine tT.bind s l t p fun b φ1 st1 H1 s1 l1 t1 p1 h1 => Post.here s1 h1
theorem se_ife (o : Ok X z cf gl k) {c a b : Expr} {ic ia ib : E} {pos : Pos} (tc : ST X z cf c ic) (ha : SE X z cf a ia) (ta : ST X z cf a ia) (hb : SE X z cf b ib) (tb : ST X z cf b ib) :
    SE X z cf (.IfExp c a b pos) (.ife ic ia ib) ∧ ST X z cf (.IfExp c a b pos) (.ife ic ia ib) := by
  refine ⟨SE.of fun m => (pe_ifExp (tc m) (ha m) (hb m)).imp fun σ H Q ⟨φ, lo, st, s, l, t, p⟩ => ?_, ST.of fun m => ⟨fun pins s σ H Q I ⟨φ, lo, st, s', l, t, p⟩ => ?_⟩⟩
  · refine tT.bind s l t p fun x φ1 st1 H1 s1 l1 t1 p1 h1 => ?_
    cases x with
    | true => rw [if_pos rfl] at h1 ⊢; exact ⟨φ1, lo, st1, s1, l1, t1, h1⟩
    | false => rw [if_neg Bool.false_ne_true] at h1 ⊢; exact ⟨φ1, lo, st1, s1, l1, t1, h1⟩
  · have p : Post z φ st H ((((evT (ev cf m) ic lo st).bind fun k st => if k then ev cf m ia lo st else ev cf m ib lo st).bind fun x st => Rs.of (rdV x st) st).bind asB) (fun b _ _ H' => Q b H') := p
    simp only [bind_assoc] at p
    have ht : tT z (ev cf m) ic σ H fun c H1 => if c = true then tT z (ev cf m) ia σ H1 Q else tT z (ev cf m) ib σ H1 Q := by
      refine tT.bind s' l t p fun x φ1 st1 H1 s1 l1 t1 p1 h1 => ?_
      cases x with
      | true => rw [if_pos rfl] at h1 ⊢; exact ⟨φ1, lo, st1, s1, l1, t1, by unfold evT evD; rw [bind_assoc]; exact h1⟩
      | false => rw [if_neg Bool.false_ne_true] at h1 ⊢; exact ⟨φ1, lo, st1, s1, l1, t1, by unfold evT evD; rw [bind_assoc]; exact h1⟩
    refine isTrue_IfExp (thn ((tc m).run pins s σ H _ I ht) fun c s1 ⟨H1, I1, q1⟩ => ?_)
    cases c with
    | true => exact (ta m).run pins s1 σ H1 Q I1 q1
    | false => exact (tb m).run pins s1 σ H1 Q I1 q1
end
end Sm

set_option Elab.async false
set_option linter.all false
set_option maxRecDepth 100000
set_option maxHeartbeats 1000000
/-! SmI: argument lists, displays, subscripts, built-ins, calls of defs. -/
namespace Sm
open PySem PySem.Spec PyProof.Rows L2
def notStar : Expr → Bool
  | .Starred _ _ => false
  | _ => true
theorem star_each {e : Expr} (h : notStar e = true) (es : List Expr) (env : Env) : starEach (e :: es) env = (false, eval e env) :: starEach es env := by
  cases e <;> first | rfl | cases h
theorem back_any {es : List Expr} (h : ∀ e ∈ es, notStar e = true) (pos : Pos) (env : Env) : (backTo pos (starEach es env)).any (·.1) = false := by
  induction es with
  | nil => rfl
  | cons e es ih =>
    rw [star_each (h e (by simp))]
    show (false || (backTo pos (starEach es env)).any (·.1)) = false
    rw [ih fun e he => h e (by simp [he])]
    rfl
section
variable {X : Cx} {z : Cz} {cf : CF} {gl : List (Str × Gk)} {k : Nat} {f : Ev} {σ : L2.St} {H : Hp} {φ : List Addr} {st : Sto} {lo : Lo}
theorem rpRs_step {T : List (Addr × Str)} {K : PySem.W.Frag} {φ φ1 : List Addr} {st st1 : Sto} {H H1 : Hp} (s : StOk K φ st H) (p : Step T φ st H φ1 st1 H1) {vs : List V} {xs : List RV} (h : RpRs K φ H vs xs) : RpRs K φ1 H1 vs xs := Paired.mapP h fun _ _ r => r.step s p
/-- arguments -/
def tA (z : Cz) (f : Ev) (es : List E) : TA := fun σ H Q => ∃ φ lo st, StOk z.K φ st H ∧ SimL z.K φ H lo σ ∧ LamX.Tabs z.T H ∧ Post z φ st H (evRs f es lo st) fun xs φ' _ H' => ∀ vs, RpRs z.K φ' H' vs xs → Q vs H'
def SA (X : Cx) (z : Cz) (cf : CF) (es : List Expr) (irs : List E) : Prop := ∀ m, PA X es (tA z (ev cf m) irs)
theorem sa_nil : SA X z cf [] [] := fun m => pa_nil.imp fun σ H Q ⟨φ, lo, st, s, l, t, p⟩ => Post.here s p [] .nil
theorem sa_cons {e : Expr} {es : List Expr} {ir : E} {irs : List E} (hn : notStar e = true) (he : SE X z cf e ir) (hr : SA X z cf es irs) : SA X z cf (e :: es) (ir :: irs) := fun m =>
  (pa_cons (he m) (hr m) (star_each hn es X.env)).imp fun σ H Q ⟨φ, lo, st, s, l, t, p⟩ => by
    refine tE.bind s l t p fun x v φ1 st1 H1 s1 l1 t1 p1 rx h1 => ?_
    refine ⟨φ1, lo, st1, s1, l1, t1, (Post.bind s1 h1).mono fun xs φ2 st2 H2 p2 s2 ⟨_, _, h2⟩ vs rv => ?_⟩
    exact Post.here s2 h2 (v :: vs) (.cons (rx.step s1 p2) rv)
/-- what is drawn out of the evaluator's bind -/
theorem tA.bind {β : Type} {es : List E} {g : List RV → Sto → Rs β} {P : β → List Addr → Sto → Hp → Prop} {R : List V → Hp → Prop} (s : StOk z.K φ st H) (l : SimL z.K φ H lo σ) (t : LamX.Tabs z.T H) (h : Post z φ st H ((evRs f es lo st).bind g) P)
    (q : ∀ xs vs φ1 st1 H1, StOk z.K φ1 st1 H1 → SimL z.K φ1 H1 lo σ → LamX.Tabs z.T H1 → Step z.T φ st H φ1 st1 H1 → RpRs z.K φ1 H1 vs xs → Post z φ1 st1 H1 (g xs st1) P → R vs H1) : tA z f es σ H R :=
  ⟨φ, lo, st, s, l, t, (Post.bind s h).mono fun xs φ1 st1 H1 p1 s1 ⟨_, _, h1⟩ vs rv => q xs vs φ1 st1 H1 s1 (l.step s p1) (p1.tab t) p1 rv h1⟩
/-- a display's items -/
def tI (z : Cz) (f : Ev) (es : List (Bool × E)) : TA := fun σ H Q => ∃ φ lo st, StOk z.K φ st H ∧ SimL z.K φ H lo σ ∧ LamX.Tabs z.T H ∧ Post z φ st H (evI f es lo st) fun xs φ' _ H' => ∀ vs, RpL z.K H' vs xs → Q vs H'
def SI (X : Cx) (z : Cz) (cf : CF) (es : List Expr) (irs : List (Bool × E)) : Prop := ∀ m, PA X es (tI z (ev cf m) irs)
theorem si_nil : SI X z cf [] [] := fun m => pa_nil.imp fun σ H Q ⟨φ, lo, st, s, l, t, p⟩ => Post.here s p [] .nil
theorem si_cons {e : Expr} {es : List Expr} {ir : E} {irs : List (Bool × E)} (hn : notStar e = true) (he : SE X z cf e ir) (hr : SI X z cf es irs) : SI X z cf (e :: es) ((false, ir) :: irs) := fun m =>
  (pa_cons (he m) (hr m) (star_each hn es X.env)).imp fun σ H Q ⟨φ, lo, st, s, l, t, p⟩ => by
    refine tE.bindP s l t p fun x v φ1 st1 H1 s1 l1 t1 p1 rx h1 => ?_
    refine ⟨φ1, lo, st1, s1, l1, t1, (Post.bind s1 h1).mono fun xs φ2 st2 H2 p2 s2 ⟨_, _, h2⟩ vs rv => ?_⟩
    exact Post.here s2 h2 (v :: vs) (.cons (rx.keep (p2.keep s1)) rv)
theorem seq_rp {K : PySem.W.Frag} {H : Hp} {v : V} {d : D} {ds : List D} (h : Rp K H v d) (e : seqOf d = some ds) : ∃ a vs, v = .ref a ∧ (SqT K H a vs ∨ SqL K H a vs) ∧ RpL K H vs ds := by
  unfold seqOf at e
  split at e
  · cases e
    cases h with | tup h r => exact ⟨_, _, rfl, .inl h, r⟩
  · cases e
    cases h with | lst h r => exact ⟨_, _, rfl, .inr h.sq, r⟩
  · cases e
theorem si_star (o : Ok X z cf gl k) {e : Expr} {es : List Expr} {ir : E} {irs : List (Bool × E)} {p : Pos} (he : SE X z cf e ir) (hr : SI X z cf es irs) : SI X z cf (.Starred e p :: es) ((true, ir) :: irs) := fun m =>
  (StX.pa_star (he m) (hr m) rfl).imp fun σ H Q ⟨φ, lo, st, s, l, t, p⟩ => by
    refine tE.bindP s l t p fun x v φ1 st1 H1 s1 l1 t1 p1 rx h1 => ?_
    obtain ⟨ds, e1, h2⟩ := Post.of s1 h1
    obtain ⟨a, vs, rfl, hq, rl⟩ := seq_rp rx e1
    rw [o.hK]
    refine ⟨a, vs, rfl, hq, φ1, lo, st1, s1, l1, t1, (Post.bind s1 h2).mono fun xs φ2 st2 H2 p2 s2 ⟨_, _, h3⟩ ws rv => ?_⟩
    exact Post.here s2 h3 (vs ++ ws) ((rl.keep (p2.keep s1)).append rv)
theorem tI.bind {β : Type} {es : List (Bool × E)} {g : List D → Sto → Rs β} {P : β → List Addr → Sto → Hp → Prop} {R : List V → Hp → Prop} (s : StOk z.K φ st H) (l : SimL z.K φ H lo σ) (t : LamX.Tabs z.T H) (h : Post z φ st H ((evI f es lo st).bind g) P)
    (q : ∀ xs vs φ1 st1 H1, StOk z.K φ1 st1 H1 → SimL z.K φ1 H1 lo σ → LamX.Tabs z.T H1 → Step z.T φ st H φ1 st1 H1 → RpL z.K H1 vs xs → Post z φ1 st1 H1 (g xs st1) P → R vs H1) : tI z f es σ H R :=
  ⟨φ, lo, st, s, l, t, (Post.bind s h).mono fun xs φ1 st1 H1 p1 s1 ⟨_, _, h1⟩ vs rv => q xs vs φ1 st1 H1 s1 (l.step s p1) (p1.tab t) p1 rv h1⟩
theorem ite_no {α : Type} {c : Prop} [Decidable c] {a : Rs α} {P : α → List Addr → Sto → Hp → Prop} (h : Post z φ st H (if c then a else .no) P) : c ∧ Post z φ st H a P := by
  by_cases hc : c
  · rw [if_pos hc] at h; exact ⟨hc, h⟩
  · rw [if_neg hc] at h; exact (h : False).elim
theorem se_tup (o : Ok X z cf gl k) {es : List Expr} {irs : List (Bool × E)} {n : Nat} {pos : Pos} (h : SI X z cf es irs) : SE X z cf (.Tuple es n pos) (.tup irs) := SE.of fun m =>
  (pe_tup (h m)).imp fun σ H Q ⟨φ, lo, st, s, l, t, p⟩ => by
    refine tI.bind s l t p fun xs vs φ1 st1 H1 s1 l1 t1 p1 rv h1 => ?_
    obtain ⟨hz, h2⟩ := ite_no h1
    refine ⟨by rw [rv.length]; exact szOk_le hz, fun p hp => ?_⟩
    exact out_ret s1 h2 _ _ (upd_old hp) (.tup (SqT.of upd_same) (rv.keep (keep_of (upd_old hp))))
theorem se_lst (o : Ok X z cf gl k) {es : List Expr} {irs : List (Bool × E)} {pos : Pos} (h : SI X z cf es irs) : SE X z cf (.List es pos) (.lst irs) := SE.of fun m =>
  (pe_frz (pe_lst (h m))).imp fun σ H Q ⟨φ, lo, st, s, l, t, p⟩ => by
    refine tI.bind s l t p fun xs vs φ1 st1 H1 s1 l1 t1 p1 rv h1 => ?_
    obtain ⟨hz, h2⟩ := ite_no h1
    refine ⟨by rw [rv.length]; exact szOk_le hz, fun p hp => .inr ⟨p, vs, rfl, upd_same, out_lst rv (out_ret s1 h2) hp⟩⟩
theorem plainIx {i : Expr} (h : ∀ a b c d, i ≠ .Slice a b c d) : PlainIx i := fun o j => by
  cases i with
  | Slice a b c d => exact absurd rfl (h a b c d)
  | _ => rfl
theorem se_ix (o : Ok X z cf gl k) {a i : Expr} {ia ii : E} {pos : Pos} (hi : ∀ a b c d, i ≠ .Slice a b c d) (ha : SE X z cf a ia) (hb : SE X z cf i ii) : SE X z cf (.Subscript a i pos) (.ix ia ii) := SE.of fun m =>
  (pe_ix ix_data (ha m) (hb m) (plainIx hi)).imp fun σ H Q ⟨φ, lo, st, s, l, t, p⟩ => by
    refine tE.bind s l t p fun x v φ1 st1 H1 s1 l1 t1 p1 rx h1 => ?_
    refine tE.bindP s1 l1 t1 h1 fun y u φ2 st2 H2 s2 l2 t2 p2 ry h2 => ?_
    obtain ⟨dx, ex, h2⟩ := Post.of s2 h2
    obtain ⟨r, e, q⟩ := out_of s2 h2
    rw [o.hK]
    exact ⟨dx, y, r, rpM_of s2 (rx.step s1 p2) ex, ry, e, q⟩
/-- an optional bound -/
def tO (z : Cz) (f : Ev) (e : Option E) : TO := fun σ H Q => ∃ φ lo st, StOk z.K φ st H ∧ SimL z.K φ H lo σ ∧ LamX.Tabs z.T H ∧ Post z φ st H (optI f e lo st) fun x _ _ H' => Q x H'
def SO (X : Cx) (z : Cz) (cf : CF) (e : Option Expr) (ir : Option E) : Prop := ∀ m, PO X e (tO z (ev cf m) ir)
theorem PO.imp {X : Cx} {e : Option Expr} {t t' : TO} (h : PO X e t) (m : ∀ σ H Q, t' σ H Q → t σ H Q) : PO X e t' := ⟨fun pins s σ H Q I q => h.run pins s σ H Q I (m σ H Q q)⟩
theorem so_none : SO X z cf none none := fun m => PO.imp po_none fun σ H Q ⟨φ, lo, st, s, l, t, p⟩ => Post.here s p
theorem so_some {e : Expr} {ir : E} (h : SE X z cf e ir) : SO X z cf (some e) (some ir) := fun m => PO.imp (po_some (h m)) fun σ H Q ⟨φ, lo, st, s, l, t, p⟩ => by
  refine tE.bindP s l t p fun x v φ1 st1 H1 s1 l1 t1 p1 rx h1 => ?_
  cases x with
  | int i => cases rx; exact ⟨i, rfl, Post.here s1 h1⟩
  | _ => exact (h1 : False).elim
theorem tO.bind {β : Type} {e : Option E} {g : Option Int → Sto → Rs β} {P : β → List Addr → Sto → Hp → Prop} {R : Option Int → Hp → Prop} (s : StOk z.K φ st H) (l : SimL z.K φ H lo σ) (t : LamX.Tabs z.T H) (h : Post z φ st H ((optI f e lo st).bind g) P)
    (q : ∀ x φ1 st1 H1, StOk z.K φ1 st1 H1 → SimL z.K φ1 H1 lo σ → LamX.Tabs z.T H1 → Step z.T φ st H φ1 st1 H1 → Post z φ1 st1 H1 (g x st1) P → R x H1) : tO z f e σ H R :=
  ⟨φ, lo, st, s, l, t, (Post.bind s h).mono fun x φ1 st1 H1 p1 s1 ⟨_, _, h1⟩ => q x φ1 st1 H1 s1 (l.step s p1) (p1.tab t) p1 h1⟩
theorem se_sl (o : Ok X z cf gl k) {a : Expr} {lo' hi' : Option Expr} {ia : E} {il ih : Option E} {p2 pos : Pos} (ha : SE X z cf a ia) (hl : SO X z cf lo' il) (hh : SO X z cf hi' ih) : SE X z cf (.Subscript a (.Slice lo' hi' none p2) pos) (.sl ia il ih) := SE.of fun m =>
  (pe_slice sl_data (ha m) (hl m) (hh m)).imp fun σ H Q ⟨φ, lo, st, s, l, t, p⟩ => by
    refine tE.bindP s l t p fun x v φ1 st1 H1 s1 l1 t1 p1 rx h1 => ?_
    refine tO.bind s1 l1 t1 h1 fun i φ2 st2 H2 s2 l2 t2 p2 h2 => ?_
    refine tO.bind s2 l2 t2 h2 fun j φ3 st3 H3 s3 l3 t3 p3 h3 => ?_
    obtain ⟨r, e, q⟩ := out_of s3 h3
    rw [o.hK]
    exact ⟨x, r, .inl ((rx.keep (p2.keep s1)).keep (p3.keep s2)), e, q⟩
/-! ### built-ins of one argument -/
theorem pa1 {a : Expr} {ta : TE} (h : PE X a ta) (hn : notStar a = true) : PA X [a] (tCons ta tNil) := pa_cons h pa_nil (star_each hn [] X.env)
theorem pe_b1 {x : Str} {id : String} {r : List V → Hp → VK → Prop} {a : Expr} {ta : TE} {p pos : Pos} (hc : CallR X (.builtin id) r) (hg : Gl X x) (hm : X.mg x = none) (hv : bootBuiltins x = some (.builtin id)) (hn : x ≠ "__name__") (hd : (x == ("__debug__" : Str)) = false) (h : PE X a ta) (hs : notStar a = true) :
    PE X (.Call (.Name x p) [a] [] pos) (tCB r (tCons ta tNil)) := pe_callB hc hg hm hv (pa1 h hs) hn hd (star_each hs [] X.env) (by rfl)
theorem pe_t1 {x : Str} {id : String} {r : List V → Hp → VK → Prop} {a : Expr} {ta : TE} {p pos : Pos} (hc : CallR X (.type id) r) (hg : Gl X x) (hm : X.mg x = none) (hv : bootBuiltins x = some (.type id)) (hn : x ≠ "__name__") (hd : (x == ("__debug__" : Str)) = false) (h : PE X a ta) (hs : notStar a = true) :
    PE X (.Call (.Name x p) [a] [] pos) (tCB r (tCons ta tNil)) := pe_callTy hc hg hm hv (pa1 h hs) hn hd (star_each hs [] X.env) (by rfl)
/-- a built-in that gives g of the datum -/
theorem se_b1 (o : Ok X z cf gl k) {b : Bl} {e : Expr} {a : Expr} {ia : E} (ha : SE X z cf a ia) (hb : ∀ f lo st, evF cf f (.blt b ia) lo st = (evD f ia lo st).bind fun x st => (Rs.of (bltD b x) st).bind ret)
    (h : ∀ m, PE X e (tCB (r1D X.K fun d => bltD b d) (tCons (tE z (ev cf m) ia) tNil))) : SE X z cf e (.blt b ia) := SE.of fun m =>
  (h m).imp fun σ H Q ⟨φ, lo, st, s, l, t, p⟩ => by
    rw [hb] at p
    refine tE.bindD s l t p fun x v φ1 st1 H1 s1 l1 t1 p1 rx h1 => ?_
    obtain ⟨r, e, q⟩ := out_of s1 h1
    rw [o.hK]
    exact ⟨v, x, r, rfl, rx, e, q⟩
end
end Sm

set_option Elab.async false
set_option linter.all false
set_option maxRecDepth 100000
/-! SmIb: xs[::-1] for data (lists and tuples). -/
namespace Sm
open PySem PySem.Spec L2 PyProof.Rows
section
variable {prog : Program} {w : World} {A : Around} {E : Value → Shared → Prop} {s : Shared}
theorem adjust_rev (n : Nat) : Builtin.Slice.sliceAdjust none none (-1) (n : Int) = ((n : Int) - 1, -1) := by
  have h1 : (-1 : Int) < 0 := by omega
  unfold Builtin.Slice.sliceAdjust
  simp only [h1, if_true]
theorem places_rev (n : Nat) : Builtin.Slice.slicePlaces ((n : Int) - 1) (-1) (-1) = n := by
  unfold Builtin.Slice.slicePlaces
  have h1 : ¬ (-1 : Int) > 0 := by omega
  simp only [h1, if_false, Int.neg_neg, Int.ediv_one]
  split <;> omega
theorem sliceApplied_rev {sl : Addr} {vs : Value} {n : Nat} {Q : Int × Int × Nat → Shared → Prop} (hs : s.heap.IsSliceOf sl .none .none vs) (ps : IsPart vs (some (-1)))
    (h : Q ((n : Int) - 1, -1, n) s) : wpAny (model prog w) A (Builtin.Slice.sliceApplied (.ref sl) (pure (n : Int))) Q E s := by
  obtain ⟨os, hos, hcs, hds⟩ := id hs
  unfold Builtin.Slice.sliceApplied Builtin.Slice.sliceFields
  refine wpAny_bind (wpAny_bind (wpAny_field hos hds (x := .none) rfl (wpAny_bind (wpAny_field hos hds (x := .none) rfl (wpAny_bind (wpAny_field hos hds (x := vs) rfl (wpAny_pure ?_)))))))
  refine wpAny_bind (HT.slicePart_ ps ?_)
  show wpAny _ _ (if ((-1 : Int) == 0) = true then _ else _) _ _ s
  rw [if_neg (by decide)]
  refine wpAny_bind (HT.slicePart_ .none (wpAny_bind (HT.slicePart_ .none (wpAny_bind (wpAny_pure ?_)))))
  show wpAny _ _ (match Builtin.Slice.sliceAdjust none none (-1) (n : Int) with | (lo, hi) => pure (lo, (-1 : Int), Builtin.Slice.slicePlaces lo hi (-1))) _ _ s
  rw [adjust_rev n]
  show wpAny _ _ (pure ((n : Int) - 1, (-1 : Int), Builtin.Slice.slicePlaces ((n : Int) - 1) (-1) (-1))) _ _ s
  rw [places_rev]
  exact wpAny_pure h
theorem fmR_congr {α β : Type} {f g : α → Option β} : ∀ {l : List α}, (∀ a ∈ l, f a = g a) → l.filterMap f = l.filterMap g
  | [], _ => rfl
  | a :: l, h => by rw [List.filterMap_cons, List.filterMap_cons, h a (by simp), fmR_congr (l := l) fun b hb => h b (by simp [hb])]
theorem pick_rev (xs : Array Value) : ((List.range xs.size).filterMap fun (m : Nat) => xs[((xs.size : Int) - 1 + (m : Int) * (-1)).toNat]?).toArray = xs.toList.reverse.toArray := by
  have e : ((List.range xs.size).filterMap fun (m : Nat) => xs[((xs.size : Int) - 1 + (m : Int) * (-1)).toNat]?) = ((List.range xs.size).map fun k => xs.size - 1 - k).filterMap (xs[·]?) := by
    rw [List.filterMap_map]
    refine fmR_congr fun m hm => ?_
    have := List.mem_range.1 hm
    have e2 : ((xs.size : Int) - 1 + (m : Int) * (-1)).toNat = xs.size - 1 - m := by omega
    simp only [Function.comp_apply, e2]
  rw [e, PySem.W.krv_range, List.filterMap_reverse, PySem.W.krv_all]
theorem getItem_tuple_rev {t sl : Addr} {items : Array Value} {vs : Value} {Q : Value → Shared → Prop} (ht : IsTup s.heap t items) (hs : s.heap.IsSliceOf sl .none .none vs) (ps : IsPart vs (some (-1)))
    (h : Q (.ref s.heap.objs.size) { s with heap := s.heap.push { cls := .type "tuple", data := .seq items.toList.reverse.toArray } })
    (hsz : items.size ≤ sizeLine) : wpAny (model prog w) A (getItem (.ref t) (.ref sl)) Q E s := by
  have htake : sizeOk (.seq items.toList.reverse.toArray) := by
    show items.toList.reverse.toArray.size ≤ sizeLine
    rw [List.size_toArray, List.length_reverse, Array.length_toList]
    exact hsz
  obtain ⟨os, hos, hcs, hds⟩ := id hs
  have hTs : s.TypeIs (.ref sl) "slice" := ⟨os, hos, hcs⟩
  unfold getItem
  try with_reducible refine wpAny_holding ?_
  first | refine wpAny_bind (wpAny_pure ?_) | skip
  refine wpAny_bind (wpAny_sequenceKey ht.typeIs (by decide) ?_)
  refine wpAny_bind (wpAny_callSpecial?_slot (name := Str.ofString "__getitem__") ht.typeIs PyProof.Rows.slot_tuple_getitem
    (wpAny_call_entry PyProof.Rows.slot_tuple_getitem ht.typeIs entry_tuple_getitem ?_ (args_tuple_getitem _ _)))
  show wpAny _ _ (Builtin.Tuple.tupleItemsOf (.ref t) >>= _) _ _ s
  refine wpAny_bind (tupleItemsOf_ ht ?_)
  refine wpAny_bind (wpAny_typeOf hTs ?_)
  rw [if_pos (by decide)]
  refine wpAny_bind (sliceApplied_rev hs ps ?_)
  have hno : ¬ (((((items.size : Int) - 1) == 0 && (-1 : Int) == 1 && items.size == items.size)) = true) := by
    intro q
    rw [Bool.and_eq_true, Bool.and_eq_true] at q
    exact absurd q.1.2 (by decide)
  show wpAny _ _ (if (((items.size : Int) - 1) == 0 && (-1 : Int) == 1 && items.size == items.size) = true then _ else _) _ _ s
  rw [if_neg hno, pick_rev]
  first
    | exact wpAny_bind (m := Builtin.Tuple.tupleExact _) (wpAny_newObj_type (wpAny_pure ⟨_, rfl, wpAny_pure h⟩) htake)
    | exact wpAny_bind (m := Builtin.Tuple.tupleExact _) (wpAny_newObj_type (wpAny_bind (wpAny_pure (wpAny_pure ⟨_, rfl, wpAny_pure h⟩))) htake)
    | exact wpAny_bind (wpAny_bind (m := Builtin.Tuple.tupleExact _) (wpAny_newObj_type (wpAny_pure (wpAny_pure ⟨_, rfl, wpAny_pure h⟩)) htake))
    | exact wpAny_bind (wpAny_bind (m := Builtin.Tuple.tupleExact _) (wpAny_newObj_type (wpAny_pure ⟨_, rfl, wpAny_pure h⟩) htake))
end
def tRevD (K : PySem.W.Frag) (te : TE) : TE := fun σ H Q => te σ H fun x H1 => ∃ d r, RpM K H1 x d ∧ revD d = some r ∧ Out K H1 Q r
theorem pe_revD {X : Cx} {e : Expr} {te : TE} {k : Nat} {p1 p2 p3 pos : Pos} (he : PE X e te) : PE X (.Subscript e (.Slice none none (some (.UnaryOp .USub (.Constant (.int 1) k p1) p2)) p3) pos) (tRevD X.K te) := by
  refine ⟨fun pins s σ H Q I h => ?_⟩
  refine Subscript_ (thn (he.run pins s σ H _ I h) fun v s1 ⟨x, H1, I1, r1, q1⟩ => ?_)
  obtain ⟨d, r, hx, er, q⟩ := q1
  have hst : PO X (some (.UnaryOp .USub (.Constant (.int 1) k p1) p2)) (tPart (tUn (rU fun i => .int (-i)) (tC (.int 1)))) := po_some (pe_un un_neg pe_int)
  refine wpAny_Slice (thn (po_none.run pins s1 σ H1 (fun o H2 => o = none ∧ H2 = H1) I1 ⟨rfl, rfl⟩) fun vl s2 ⟨l, H2, I2, pl, el, e2⟩ => ?_)
  subst el e2
  refine thn (po_none.run pins s2 σ H2 (fun o H3 => o = none ∧ H3 = H2) I2 ⟨rfl, rfl⟩) fun vu s3 ⟨u, H3, I3, pu, eu, e3⟩ => ?_
  subst eu e3
  refine thn (hst.run pins s3 σ H3 (fun o H4 => o = some (-1) ∧ H4 = H3) I3 ⟨1, rfl, -1, rfl, rfl, rfl⟩) fun vs s4 ⟨o, H4, I4, ps, eo, e4⟩ => ?_
  subst eo e4
  cases pl
  cases pu
  have I5 : Inv X pins σ H4 { s4 with heap := s4.heap.push { cls := .type "slice", data := .fields #[.none, .none, vs] } } := I4.kept (t' := s4.toks) fun b ob q => Heap.get?_push_of_some _ q
  show wpAny (model X.prog X.w) X.A (subscriptTail e (.Slice none none (some (.UnaryOp .USub (.Constant (.int 1) k p1) p2)) p3) v (.ref s4.heap.objs.size)) (EP X pins σ Q) X.xe { s4 with heap := s4.heap.push { cls := .type "slice", data := .fields #[.none, .none, vs] } }
  unfold revD at er
  split at er
  · injection er with er; subst er
    obtain ⟨a, ws, rfl, hq, rl⟩ := hx.tuple
    cases r1
    obtain ⟨its, rv, ht, hz⟩ := I5.tuple hq
    have hlen := rv.length
    refine tail_any (ops := [.ref a, .ref s4.heap.objs.size]) ht.typeIs (PyProof.Rows.slot_tuple_getitem.lookup) ?_ (by with_unfolding_all rfl)
    refine getItem_tuple_rev ht (Heap.IsSliceOf.new _ .none .none vs) ps ?_ (by rw [List.size_toArray]; omega)
    have hp := I5.hok.fresh (Nat.le_refl _)
    refine ⟨.ref _, _, I5.laid (t' := s4.toks) (o := .tup ws.reverse) (fun b ob q => Heap.get?_push_of_some _ q) (Nat.le_refl _) ?_, rfl, q _ _ (upd_old hp) (.tup (SqT.of upd_same) (rl.reverse.keep (keep_of (upd_old hp))))⟩
    exact ⟨by rw [List.length_reverse]; exact hz, _, rv.reverse, IsTup.new _ _⟩
  · injection er with er; subst er
    obtain ⟨a, ws, rfl, hq, rl⟩ := hx.list
    cases r1
    obtain ⟨its, rv, ht, hz⟩ := I5.list hq.sq
    have hlen := rv.length
    refine tail_any (ops := [.ref a, .ref s4.heap.objs.size]) ht.isList.typeIs (PySem.slot_list_getitem.lookup) ?_ (by with_unfolding_all rfl)
    refine wpAny_getItem_list_slice ht.isList (Heap.IsSliceOf.new _ .none .none vs) .none .none ps (by decide) ?_ (by rw [List.size_toArray]; omega)
    rw [PySem.W.krv_pick]
    refine fin_lst (vs := ws.reverse) (I5.laid (t' := s4.toks) (fun b ob q => Heap.get?_push_of_some _ q) (Nat.le_refl _) ?_) (I5.hok.fresh (Nat.le_refl _)) rl.reverse q
    exact ⟨by rw [List.length_reverse]; exact hz, _, 0, rv.reverse, Heap.get?_push_size _ rfl⟩
  · cases er
section
variable {X : Cx} {z : Cz} {cf : CF} {gl : List (Str × Gk)} {k : Nat}
theorem se_rev (o : Ok X z cf gl k) {a : Expr} {ia : E} {kd : Nat} {p1 p2 p3 pos : Pos} (ha : SE X z cf a ia) : SE X z cf (.Subscript a (.Slice none none (some (.UnaryOp .USub (.Constant (.int 1) kd p1) p2)) p3) pos) (.rev ia) := SE.of fun m =>
  (pe_revD (ha m)).imp fun σ H Q ⟨φ, lo, st, s, l, t, p⟩ => by
    refine tE.bindP s l t p fun x v φ1 st1 H1 s1 l1 t1 p1 rx h1 => ?_
    obtain ⟨r, e, q⟩ := out_of s1 h1
    rw [o.hK]
    exact ⟨x, r, .inl rx, e, q⟩
end
end Sm

set_option Elab.async false
set_option linter.all false
set_option maxRecDepth 100000
set_option maxHeartbeats 1000000
/-! SmJ: built-ins, calls of defs. -/
namespace Sm
open PySem PySem.Spec PyProof.Rows L2
section
variable {X : Cx} {z : Cz} {cf : CF} {gl : List (Str × Gk)} {k : Nat} {f : Ev} {σ : L2.St} {H : Hp} {φ : List Addr} {st : Sto} {lo : Lo} {x : Str} {p pos : Pos} {a : Expr} {ia : E}
theorem se_len (o : Ok X z cf gl k) (hg : Gl X "len") (hm : gl.lookup ("len" : Str) = some .bi) (ha : SE X z cf a ia) (hs : notStar a = true) : SE X z cf (.Call (.Name "len" p) [a] [] pos) (.blt .len ia) :=
  se_b1 o ha (fun _ _ _ => rfl) fun m => pe_b1 cb_len hg (o.bi _ hm) rfl (by decide) rfl (ha m) hs
theorem se_sum (o : Ok X z cf gl k) (hg : Gl X "sum") (hm : gl.lookup ("sum" : Str) = some .bi) (ha : SE X z cf a ia) (hs : notStar a = true) : SE X z cf (.Call (.Name "sum" p) [a] [] pos) (.blt .sum ia) :=
  se_b1 o ha (fun _ _ _ => rfl) fun m => pe_b1 (cb_sum o.calm) hg (o.bi _ hm) rfl (by decide) rfl (ha m) hs
theorem se_all (o : Ok X z cf gl k) (hg : Gl X "all") (hm : gl.lookup ("all" : Str) = some .bi) (ha : SE X z cf a ia) (hs : notStar a = true) : SE X z cf (.Call (.Name "all" p) [a] [] pos) (.blt .all ia) :=
  se_b1 o ha (fun _ _ _ => rfl) fun m => pe_b1 (cb_all o.calm) hg (o.bi _ hm) rfl (by decide) rfl (ha m) hs
theorem se_any (o : Ok X z cf gl k) (hg : Gl X "any") (hm : gl.lookup ("any" : Str) = some .bi) (ha : SE X z cf a ia) (hs : notStar a = true) : SE X z cf (.Call (.Name "any" p) [a] [] pos) (.blt .any ia) :=
  se_b1 o ha (fun _ _ _ => rfl) fun m => pe_b1 (cb_any o.calm) hg (o.bi _ hm) rfl (by decide) rfl (ha m) hs
theorem se_abs (o : Ok X z cf gl k) (hg : Gl X "abs") (hm : gl.lookup ("abs" : Str) = some .bi) (ha : SE X z cf a ia) (hs : notStar a = true) : SE X z cf (.Call (.Name "abs" p) [a] [] pos) (.blt .abs ia) :=
  se_b1 o ha (fun _ _ _ => rfl) fun m => pe_b1 cb_abs hg (o.bi _ hm) rfl (by decide) rfl (ha m) hs
theorem se_int (o : Ok X z cf gl k) (hg : Gl X "int") (hm : gl.lookup ("int" : Str) = some .bi) (ha : SE X z cf a ia) (hs : notStar a = true) : SE X z cf (.Call (.Name "int" p) [a] [] pos) (.blt .int ia) :=
  se_b1 o ha (fun _ _ _ => rfl) fun m => pe_t1 cb_int hg (o.bi _ hm) rfl (by decide) rfl (ha m) hs
theorem se_tuple (o : Ok X z cf gl k) (hg : Gl X "tuple") (hm : gl.lookup ("tuple" : Str) = some .bi) (ha : SE X z cf a ia) (hs : notStar a = true) : SE X z cf (.Call (.Name "tuple" p) [a] [] pos) (.blt .tuple ia) :=
  se_b1 o ha (fun _ _ _ => rfl) fun m => pe_t1 cb_tuple hg (o.bi _ hm) rfl (by decide) rfl (ha m) hs
theorem se_list (o : Ok X z cf gl k) (hg : Gl X "list") (hm : gl.lookup ("list" : Str) = some .bi) (ha : SE X z cf a ia) (hs : notStar a = true) : SE X z cf (.Call (.Name "list" p) [a] [] pos) (.blt .list ia) :=
  se_b1 o ha (fun _ _ _ => rfl) fun m => pe_t1 cb_list hg (o.bi _ hm) rfl (by decide) rfl (ha m) hs
theorem se_sorted (o : Ok X z cf gl k) (hg : Gl X "sorted") (hm : gl.lookup ("sorted" : Str) = some .bi) (ha : SE X z cf a ia) (hs : notStar a = true) : SE X z cf (.Call (.Name "sorted" p) [a] [] pos) (.blt .sorted ia) := SE.of fun m =>
  (pe_b1 (callr_frz (cb_sorted o.units)) hg (o.bi _ hm) rfl (by decide) rfl (ha m) hs).imp fun σ H Q ⟨φ, lo, st, s, l, t, p⟩ => by
    refine tE.bindD s l t p fun x v φ1 st1 H1 s1 l1 t1 p1 rx h1 => ?_
    cases x with
    | list ys =>
      obtain ⟨hz, h2⟩ := ite_no h1
      rw [o.hK]
      exact ⟨v, ys, rfl, rx, hz, fun v' H' e r => .inl (out_ret s1 h2 v' H' e r)⟩
    | _ => exact (h1 : False).elim
theorem se_min (o : Ok X z cf gl k) (hg : Gl X "min") (hm : gl.lookup ("min" : Str) = some .bi) (ha : SE X z cf a ia) (hs : notStar a = true) : SE X z cf (.Call (.Name "min" p) [a] [] pos) (.blt .min ia) := SE.of fun m =>
  (pe_b1 (cb_min o.calm o.units) hg (o.bi _ hm) rfl (by decide) rfl (ha m) hs).imp fun σ H Q ⟨φ, lo, st, s, l, t, p⟩ => by
    refine tE.bindD s l t p fun x v φ1 st1 H1 s1 l1 t1 p1 rx h1 => ?_
    cases hsq : seqOf x with
    | none => rw [hsq] at h1; exact (h1 : False).elim
    | some l =>
      rw [hsq] at h1
      cases l with
      | nil => exact (h1 : False).elim
      | cons y ys =>
        obtain ⟨hz, h2⟩ := ite_no h1
        rw [o.hK]
        exact ⟨v, x, y, ys, rfl, rx, hsq, hz, out_ret s1 h2⟩
theorem se_max (o : Ok X z cf gl k) (hg : Gl X "max") (hm : gl.lookup ("max" : Str) = some .bi) (ha : SE X z cf a ia) (hs : notStar a = true) : SE X z cf (.Call (.Name "max" p) [a] [] pos) (.blt .max ia) := SE.of fun m =>
  (pe_b1 (cb_max o.calm o.units) hg (o.bi _ hm) rfl (by decide) rfl (ha m) hs).imp fun σ H Q ⟨φ, lo, st, s, l, t, p⟩ => by
    refine tE.bindD s l t p fun x v φ1 st1 H1 s1 l1 t1 p1 rx h1 => ?_
    cases hsq : seqOf x with
    | none => rw [hsq] at h1; exact (h1 : False).elim
    | some l =>
      rw [hsq] at h1
      cases l with
      | nil => exact (h1 : False).elim
      | cons y ys =>
        obtain ⟨hz, h2⟩ := ite_no h1
        rw [o.hK]
        exact ⟨v, x, y, ys, rfl, rx, hsq, hz, out_ret s1 h2⟩
theorem se_repr (o : Ok X z cf gl k) (hg : Gl X "repr") (hm : gl.lookup ("repr" : Str) = some .bi) (ha : SE X z cf a ia) (hs : notStar a = true) : SE X z cf (.Call (.Name "repr" p) [a] [] pos) (.blt .repr ia) := SE.of fun m =>
  (pe_b1 (cb_repr o.guards o.units) hg (o.bi _ hm) rfl (by decide) rfl (ha m) hs).imp fun σ H Q ⟨φ, lo, st, s, l, t, p⟩ => by
    refine tE.bindD s l t p fun x v φ1 st1 H1 s1 l1 t1 p1 rx h1 => ?_
    obtain ⟨hz, h2⟩ := ite_no h1
    rw [o.hK]
    exact ⟨v, x, rfl, rx, hz, out_ret s1 h2 _ _ (fun _ _ h => h) (.str _)⟩
/-- isinstance -/
theorem se_isD (o : Ok X z cf gl k) {b : Bl} {T : String} {y : Str} {p2 : Pos} (hc : CallR X (.builtin "isinstance") (rIsD X.K b T)) (hg : Gl X "isinstance") (hm : gl.lookup ("isinstance" : Str) = some .bi) (hg2 : Gl X y) (hm2 : gl.lookup y = some .bi)
    (hv : bootBuiltins y = some (.type T)) (hn : y ≠ "__name__") (hd : (y == ("__debug__" : Str)) = false) (hb : ∀ f lo st, evF cf f (.blt b ia) lo st = (evD f ia lo st).bind fun x st => (Rs.of (bltD b x) st).bind ret) (ha : SE X z cf a ia) (hs : notStar a = true) :
    SE X z cf (.Call (.Name "isinstance" p) [a, .Name y p2] [] pos) (.blt b ia) := SE.of fun m =>
  (pe_callB hc hg (o.bi _ hm) rfl (pa_cons (ha m) (pa_cons (pe_bltn (v := .ty T) hg2 (o.bi _ hm2) hv rfl hn hd) pa_nil (by rfl)) (star_each hs _ X.env)) (by decide) rfl (star_each hs _ X.env) (by
    rw [star_each (e := .Name y p2) rfl]; rfl)).imp fun σ H Q ⟨φ, lo, st, s, l, t, p⟩ => by
    rw [hb] at p
    refine tE.bindD s l t p fun x v φ1 st1 H1 s1 l1 t1 p1 rx h1 => ?_
    obtain ⟨r, e, q⟩ := out_of s1 h1
    rw [o.hK]
    exact ⟨v, x, r, rfl, rx, e, q⟩
theorem se_sumL (o : Ok X z cf gl k) (hg : Gl X "sum") (hm : gl.lookup ("sum" : Str) = some .bi) {b : Expr} {ib : E} (ha : SE X z cf a ia) (hb : SE X z cf b ib) (hs : notStar a = true) (hs2 : notStar b = true) : SE X z cf (.Call (.Name "sum" p) [a, b] [] pos) (.sumL ia ib) := SE.of fun m =>
  (pe_callB (cb_sumL o.room.hd) hg (o.bi _ hm) rfl (pa_cons (ha m) (pa1 (hb m) hs2) (star_each hs _ X.env)) (by decide) rfl (star_each hs _ X.env) (by
    rw [star_each hs2]; rfl)).imp fun σ H Q ⟨φ, lo, st, s, l, t, p⟩ => by
    refine tE.bind s l t p fun x v φ1 st1 H1 s1 l1 t1 p1 rx h1 => ?_
    refine tE.bindP s1 l1 t1 h1 fun y u φ2 st2 H2 s2 l2 t2 p2 ry h2 => ?_
    obtain ⟨dx, ex, h2⟩ := Post.of s2 h2
    obtain ⟨r, e, q⟩ := out_of s2 h2
    rw [o.hK]
    exact ⟨v, u, dx, y, r, rfl, rpM_of s2 (rx.step s1 p2) ex, ry, e, q⟩
/-! ### calls of defs -/
variable {j : Nat} {fa : Addr} {fd : FuncData} {ps : List Str} {sp : Sp} {E1 : XK} {e : Expr} {es : List Expr} {t : TA}
theorem run_fnG {pins : List (Addr × Obj)} {σ : L2.St} {H : Hp} {s : Shared} {Q : VK} {us : List Value} {vs : List V} (F : FnG X.prog X.w X.K X.mg X.base k fa fd ps sp) (hr : Room k X.A) (hgu : X.A.guards = some []) (hb : Binds X.K fd ps []) (hx : Passes (L2.CX X.prog X.w) X E1)
    (I : Inv X pins σ H s) (r : Vals vs us) (h : sp vs H Q E1) : wpAny (model X.prog X.w) X.A (call (.ref fa) us) (EP X pins σ Q) X.xe s := by
  have hl : (us ++ []).length = ps.length := by rw [List.append_nil, ← r.length]; exact F.len _ _ _ _ h
  have hbd := hb s us I.kIn hl
  rw [List.append_nil] at hbd
  refine wpAny_call (codeAny_mono (F.run X.A X.stack s H ⟨us, []⟩ us vs Q E1 hr hgu I.env0 hbd r h) fun r s' hq => ?_)
  cases r with
  | error e => exact hx pins σ H s e s' I hq
  | ok fl =>
    cases fl with
    | ret u => exact I.after hq
    | next => exact False.elim hq
    | brk => exact False.elim hq
    | cont => exact False.elim hq
theorem pe_callG (F : FnG X.prog X.w X.K X.mg X.base k fa fd ps sp) (hr : Room k X.A) (hgu : X.A.guards = some []) (hg : Gl X x) (hm : X.mg x = some (.ref fa)) (hk : PySem.W.keepIn X.K (.ref fa) = true) (hb : Binds X.K fd ps []) (hx : Passes (L2.CX X.prog X.w) X E1)
    (ha : PA X (e :: es) t) (hdb : (x == ("__debug__" : Str)) = false) (he : starEach (e :: es) X.env = (false, eval e X.env) :: starEach es X.env) (hpl : (backTo pos (starEach es X.env)).any (·.1) = false) :
    PE X (.Call (.Name x p) (e :: es) [] pos) fun σ H Q => t σ H fun vs H1 => sp vs H1 Q E1 := by
  refine ⟨fun pins s σ H Q I h => ?_⟩
  refine wpAny_Call_Name_kw (ld_glob I hg hm ?_ hdb)
  refine PySem.W.callWith_K (h₀ := X.base) I.ok.mod.kin hk (thn (ha.run pos pins s σ H _ I h) fun us s1 ⟨vs, H1, I1, r, q⟩ => ⟨I1.kIn, ?_⟩) he hpl
  exact run_fnG F hr hgu hb hx I1 r q
theorem pe_callG0 (F : FnG X.prog X.w X.K X.mg X.base k fa fd ps sp) (hr : Room k X.A) (hgu : X.A.guards = some []) (hg : Gl X x) (hm : X.mg x = some (.ref fa)) (hk : PySem.W.keepIn X.K (.ref fa) = true) (hb : Binds X.K fd ps []) (hx : Passes (L2.CX X.prog X.w) X E1)
    (hdb : (x == ("__debug__" : Str)) = false) : PE X (.Call (.Name x p) [] [] pos) fun σ H Q => sp [] H Q E1 := by
  refine ⟨fun pins s σ H Q I h => ?_⟩
  refine wpAny_Call_Name_kw (ld_glob I hg hm ?_ hdb)
  exact PySem.W.callWith_K0 I.kIn hk (run_fnG (us := []) F hr hgu hb hx I .nil h)
theorem se_call (o : Ok X z cf gl k) {i np : Nat} {irs : List E} (hg : Gl X x) (hm : gl.lookup x = some (.fn i np)) (hdb : (x == ("__debug__" : Str)) = false) (ha : SA X z cf (e :: es) irs) (hs : ∀ e' ∈ e :: es, notStar e' = true) : SE X z cf (.Call (.Name x p) (e :: es) [] pos) (.call i irs) := SE.of fun m => by
  obtain ⟨f, fd, ps, h1, h2, h3, h4, F⟩ := o.fn x i np hm
  refine (pe_callG F o.room o.guards hg h1 h2 h3 o.pass (ha m) hdb (star_each (hs e (by simp)) es X.env) (back_any (fun e he => hs e (by simp [he])) pos X.env)).imp fun σ H Q ⟨φ, lo, st, s, l, t, p⟩ => ?_
  exact tA.bind s l t p fun xs vs φ1 st1 H1 s1 l1 t1 p1 rx h1 => ⟨φ1, st1, xs, s1, t1, rx, h1⟩
theorem se_call0 (o : Ok X z cf gl k) {i np : Nat} (hg : Gl X x) (hm : gl.lookup x = some (.fn i np)) (hdb : (x == ("__debug__" : Str)) = false) : SE X z cf (.Call (.Name x p) [] [] pos) (.call i []) := SE.of fun m => by
  obtain ⟨f, fd, ps, h1, h2, h3, h4, F⟩ := o.fn x i np hm
  exact (pe_callG0 F o.room o.guards hg h1 h2 h3 o.pass hdb).imp fun σ H Q ⟨φ, lo, st, s, l, t, p⟩ => ⟨φ, st, [], s, t, .nil, p⟩
end
end Sm

set_option Elab.async false
set_option linter.all false
set_option maxRecDepth 100000
set_option maxHeartbeats 1000000
/-! SmK: what loops and comprehensions walk: range, lists, tuples, enumerate, zip. -/
namespace Sm
open PySem PySem.Spec PyProof.Rows L2
/-! ### enumerate(tuple) -/
theorem meets_enumerate_newB1 {v : Value} {o : Obj} {H : Heap → Prop} (B : Begins v o H) :
    Meets (Builtin.«enumerate.__new__» ⟨[.type "enumerate", v], []⟩) (fun _ R s => H s.heap ∧
      R (.ok (.ret (.ref (s.heap.push o).objs.size))) { s with heap := (s.heap.push o).push { cls := .type "enumerate", data := .fields #[.none, .bool false, .ref s.heap.objs.size, rawInt 0, .none, .none] } }) :=
  .of_wp fun prog w A R s h => by
    obtain ⟨hp, g, d, tk, os⟩ := s; obtain ⟨h1, h⟩ := h
    have hsub := sub_enumerate
    have q1 : ∀ {A' : Around} {E : Value → Shared → Prop} {Q : Value → Shared → Prop}, Q (.ref hp.objs.size) ⟨hp.push o, g, d, tk, os⟩ → wpAny (model prog w) A' (pyIter v) Q E ⟨hp, g, d, tk, os⟩ :=
      fun q => B.iter prog w _ _ ⟨hp, g, d, tk, os⟩ _ h1 q
    wp_walk using q1
    refine wpAny_stack_any fun st => wpAny_pure ?_
    split
    · rename_i c _ _ _ _ _
      cases (c == Value.type "enumerate")
      · wp_walk using q1
        exact ⟨_, rfl, h⟩
      · wp_walk using q1
        exact ⟨_, rfl, h⟩
    · wp_walk using q1
      exact ⟨_, rfl, h⟩
theorem call_enumerate_tuple {prog : Program} {w : World} {A : Around} {E : Value → Shared → Prop} {s : Shared} {l : Addr} {items : Array Value} {Q : Value → Shared → Prop} (hL : s.heap.IsTuple l items)
    (h : ∀ h', IsEnum h' (s.heap.objs.size + 1) s.heap.objs.size 0 .none → h'.IsTupleIter s.heap.objs.size l 0 → h'.objs.size = s.heap.objs.size + 2 →
      (∀ b o, s.heap.get? b = some o → h'.get? b = some o) → Q (.ref (s.heap.objs.size + 1)) { s with heap := h' }) :
    wpAny (model prog w) A (call (.type "enumerate") [.ref l]) Q E s := by
  refine callType_new F.called_enumerate (by decide) (F.typeCall_enumerate_1 _) (F.newCall_enumerate_1 _) (fun obj => F.args_object_init_2 obj _) F.entry_enumerate_new
    (meets_enumerate_newB1 (begins_tuple l items)) ⟨hL, ?_⟩
  have hz : (s.heap.push { cls := .type "tuple_iterator", data := .fields #[.ref l, .int 0 0] }).objs.size = s.heap.objs.size + 1 := Heap.size_push ..
  show _ ∧ _
  rw [hz]
  have he : IsEnum ((s.heap.push { cls := .type "tuple_iterator", data := .fields #[.ref l, .int 0 0] }).push
      { cls := .type "enumerate", data := .fields #[.none, .bool false, .ref s.heap.objs.size, rawInt 0, .none, .none] }) (s.heap.objs.size + 1) s.heap.objs.size 0 .none := by
    have := Heap.get?_push_size (s.heap.push { cls := .type "tuple_iterator", data := .fields #[.ref l, .int 0 0] })
      (o := { cls := .type "enumerate", data := .fields #[.none, .bool false, .ref s.heap.objs.size, rawInt 0, .none, .none] }) rfl
    rw [hz] at this; exact this
  refine ⟨⟨_, he, rfl⟩, h _ he ⟨_, Heap.get?_push_of_some _ (Heap.get?_push_size _ rfl), rfl, rfl⟩ (by rw [Heap.size_push, hz]) fun b o x => Heap.get?_push_of_some _ (Heap.get?_push_of_some _ x)⟩
def IteT (K : PySem.W.Frag) (a : Addr) : L2.It :=
  ⟨fun i H => ∃ (xs : List V) (x : V), SqT K H a xs ∧ xs[i]? = some x, fun i H v H' => ∃ T x, v = .ref T ∧ H T = none ∧ H' = upd H T (.tup [.int (i : Nat), x]) ∧ ∀ xs, SqT K H a xs → xs[i]? = some x, fun i H => ∃ xs : List V, SqT K H a xs ∧ xs.length ≤ i⟩
theorem turn_enumT {P : Program} {w : World} {K : PySem.W.Frag} {elts : List Expr} {kk : Nat} {tpos : Pos} (a e it : Addr) :
    Turn P w K (.Tuple elts kk tpos) (IteT K a) [e, it] e (fun i h => (∃ old, IsEnum h e it ((i : Nat) : Int) old) ∧ h.IsTupleIter it a i ∧ e ≠ it) where
  mem := by simp
  obj := fun i h st b hb => by
    obtain ⟨⟨old, he⟩, ⟨o, ho, hc, hd⟩, _⟩ := st
    have e' : b = e ∨ b = it := by simpa using hb
    rcases e' with z | z
    · rw [z]; exact ⟨_, he, fun v q => nomatch q⟩
    · rw [z]; exact ⟨o, ho, fun v q => by rw [hd] at q; cases q⟩
  keep := fun i h h' st k => let ⟨⟨old, he⟩, hi, hne⟩ := st; ⟨⟨old, k e (by simp) _ he⟩, hi.at fun o q => k it (by simp) o q, hne⟩
  item := by
    intro X hP hw hK hc i pins s σ H E I hf st hg
    subst hP hw hK
    obtain ⟨⟨old, he⟩, hit, hne⟩ := st
    obtain ⟨xs, x, hq, hx⟩ := hg
    obtain ⟨its, rv, p, hz⟩ := I.tuple hq
    obtain ⟨u, hu, ru⟩ := rv.get hx
    have hel : e < s.heap.objs.size := Heap.lt_size he
    have hil : it < s.heap.objs.size := by obtain ⟨_, q, _⟩ := hit; exact Heap.lt_size q
    have p : s.heap.IsTuple a its.toArray := p
    have hea : e ≠ a := by
      rintro rfl
      obtain ⟨o, q1, q2, _⟩ := p
      rw [he] at q1; cases q1; exact absurd (show Value.type "enumerate" = Value.type "tuple" from q2) (by decide)
    have hia : a ≠ it := by
      rintro rfl
      obtain ⟨o, q1, q2, _⟩ := p
      obtain ⟨o', q3, q4, _⟩ := hit
      rw [q3] at q1; cases q1
      rw [q4] at q2; exact absurd q2 (by decide)
    have hil' : i < its.toArray.size := by
      have := (List.getElem?_eq_some_iff.mp hu).1
      simpa using this
    refine wpAny_pyNext_enum_itemD (Draws.tuple (show X.A.in1.handled = none from I.ok.hd hc) it a hia its.toArray) he ⟨hit, p⟩ hil' hne (by simp [hne, hea]) fun x' h' tk hx' ho hit' hT hsz hk => ?_
    have hx' : its.toArray[i]? = some x' := hx'
    obtain rfl : x' = u := by
      have : its[i]? = some x' := by simpa using hx'
      rw [hu] at this; exact (Option.some.inj this).symm
    refine ⟨_, rfl, wpAny_letOwnedTupleGo_enum (s := { s with heap := h', toks := tk + 1 }) ho fun h'' he' sb => ?_⟩
    have hT2 : h''.get? s.heap.objs.size = some { cls := .type "tuple", data := .seq #[.int i tk, x'] } := (sb.2 _ (Nat.ne_of_gt hel)).trans hT
    have new : ObjOk X.prog X.w (upd H s.heap.objs.size (.tup [.int (i : Nat), x])) h'' s.heap.objs.size (.tup [.int (i : Nat), x]) :=
      ⟨by show 2 ≤ sizeLine; decide, [.int i tk, x'], .cons ⟨_, rfl⟩ (.cons ru .nil), ⟨_, hT2, rfl, _, rfl⟩⟩
    have I1 : Inv X pins σ (upd H s.heap.objs.size (.tup [.int (i : Nat), x])) { s with heap := h'', toks := tk + 1 } :=
      I.turnedNew (ch := [e, it]) (fun b ob hb q => (sb.2 b (fun z => hb (by simp [z]))).trans (hk b ob (fun z => hb (by simp [z])) (fun z => hb (by simp [z])) q)) hf (Nat.le_refl _) new
    refine ⟨.ref s.heap.objs.size, _, I1, rfl, ⟨_, x, rfl, I.hok.fresh (Nat.le_refl _), rfl, fun ys hy => by rw [I.tuple_inj hy hq]; exact hx⟩, ⟨⟨x', ?_⟩, hit'.1.at fun o q => (sb.2 it (Ne.symm hne)).trans q, hne⟩, fun b hb => ?_⟩
    · have e1 : ((i + 1 : Nat) : Int) = (i : Int) + 1 := by omega
      rw [e1]; exact he'
    · have hb' : b < s.heap.objs.size := by
        have e' : b = e ∨ b = it := by simpa using hb
        rcases e' with z | z
        · rw [z]; exact hel
        · rw [z]; exact hil
      rw [upd_ne (Nat.ne_of_lt hb')]
      exact (hf b hb).1
  done := by
    intro X hP hw hK hc i pins s σ H E I hf st hg
    subst hP hw hK
    obtain ⟨⟨old, he⟩, hit, hne⟩ := st
    obtain ⟨xs, hq, hx⟩ := hg
    obtain ⟨its, rv, p, hz⟩ := I.tuple hq
    obtain ⟨f0, f1, f2, f3, f4, f5⟩ := hf it (by simp)
    have hl := rv.length
    have p : s.heap.IsTuple a its.toArray := p
    have hia : a ≠ it := by
      rintro rfl
      obtain ⟨o, q1, q2, _⟩ := p
      obtain ⟨o', q3, q4, _⟩ := hit
      rw [q3] at q1; cases q1
      rw [q4] at q2; exact absurd q2 (by decide)
    have hT : s.TypeIs (.ref e) "enumerate" := ⟨_, he, rfl⟩
    unfold pyNext
    refine wpAny_bind (wpAny_attempt (wpAny_callSpecial?_slot (name := Str.ofString "__next__") hT F.slot_enumerate_next
      (wpAny_call_entry F.slot_enumerate_next hT F.entry_enumerate_next ?_ (F.args_enumerate_next_1 _))))
    show wpAny _ _ (field (.ref e) 2 >>= _) _ _ _
    refine wpAny_bind (wpAny_field he rfl (x := .ref it) rfl ?_)
    refine wpAny_bind (wpAny_nextOf_tuple_end (show X.A.in1.handled = none from I.ok.hd hc) hit p (by simp; omega) fun h' x he' hx' => ?_)
    obtain ⟨o, ho, hc'⟩ := hx'
    refine wpAny_bind (wpAny_isInstance (T := "StopIteration") (b := true) ⟨o, ho, hc'⟩ isSubtype_stop ?_)
    exact wpAny_pure ⟨rfl, I.turned (t' := s.toks) (fun b o hb q => he' b o hb q) f0 f1 f3 f4 f5⟩
  self := fun A i s Q E st h => let ⟨⟨_, he⟩, _⟩ := st; wpAny_pyIter_enum he h
def iEnumA (K : PySem.W.Frag) (ta : TA) : TI := fun σ H R => ta σ H fun vs H1 => ∃ a xs, vs = [.ref a] ∧ ((SqL K H1 a xs ∧ R (Ite K a) H1) ∨ (SqT K H1 a xs ∧ R (IteT K a) H1))
theorem pi_enumA {X : Cx} {e : Expr} {ta : TA} {p pos tpos : Pos} {elts : List Expr} {kk : Nat} (hg : Gl X "enumerate") (hm : X.mg "enumerate" = none) (ha : PA X [e] ta) (hs : starEach [e] X.env = [(false, eval e X.env)]) :
    PI X (.Tuple elts kk tpos) (.Call (.Name "enumerate" p) [e] [] pos) (iEnumA X.K ta) := by
  refine ⟨fun pins s σ H R I h => ?_⟩
  refine Call_ (ld_blt I hg hm boot_enumerate (PyProof.Rows.callWith_type1 (thn (ha.run pos pins s σ H _ I h) fun us s1 ⟨vs, H1, I1, r1, q1⟩ => ?_) hs rfl))
  obtain ⟨a, xs, ex, q⟩ := q1
  subst ex
  cases r1 with
  | cons r rr =>
    cases rr
    cases r
    have two : ∀ b, b ∈ [s1.heap.objs.size + 1, s1.heap.objs.size] → FpOk X pins H1 b := fun b hb => by
      have e' : b = s1.heap.objs.size + 1 ∨ b = s1.heap.objs.size := by simpa using hb
      have hle : s1.heap.objs.size ≤ b := by
        rcases e' with z | z
        · rw [z]; exact Nat.le_add_right _ _
        · rw [z]; exact Nat.le_refl _
      exact I1.fpOk hle (I1.hok.fresh hle)
    rcases q with ⟨hq, q⟩ | ⟨hq, q⟩
    · obtain ⟨its, rv, p', hz⟩ := I1.list hq
      refine call_enumerate_list p'.isList fun h' he hit hsz hk => wpAny_pyIter_enum he ?_
      have I2 : Inv X pins σ H1 { s1 with heap := h' } := I1.kept (t' := s1.toks) hk
      exact ⟨s1.heap.objs.size + 1, [s1.heap.objs.size + 1, s1.heap.objs.size], _, _, H1, rfl, I2, turn_enum a (s1.heap.objs.size + 1) s1.heap.objs.size, ⟨⟨.none, he⟩, hit, Nat.succ_ne_self _⟩, two, q⟩
    · obtain ⟨its, rv, p', hz⟩ := I1.tuple hq
      refine call_enumerate_tuple (show s1.heap.IsTuple a its.toArray from p') fun h' he hit hsz hk => wpAny_pyIter_enum he ?_
      have I2 : Inv X pins σ H1 { s1 with heap := h' } := I1.kept (t' := s1.toks) hk
      exact ⟨s1.heap.objs.size + 1, [s1.heap.objs.size + 1, s1.heap.objs.size], _, _, H1, rfl, I2, turn_enumT a (s1.heap.objs.size + 1) s1.heap.objs.size, ⟨⟨.none, he⟩, hit, Nat.succ_ne_self _⟩, two, q⟩
end Sm

set_option Elab.async false
set_option linter.all false
set_option maxRecDepth 100000
set_option maxHeartbeats 2000000
/-! SmKb: zip of a list and a tuple, either first (the library has two lists, two tuples). A side is a list (true) or a tuple (false). -/
namespace Sm
open PySem PySem.Spec PyProof.Rows L2
def SdI (b : Bool) (h : Heap) (it l : Addr) (k : Nat) : Prop := ∃ o, h.get? it = some o ∧ o.cls = .type (if b then "list_iterator" else "tuple_iterator") ∧ o.data = .fields #[.ref l, .int k 0]
def SdL (b : Bool) (h : Heap) (l : Addr) (xs : Array Value) : Prop := ∃ o, h.get? l = some o ∧ o.cls = .type (if b then "list" else "tuple") ∧ ∃ n, o.data = .seq xs n
theorem SdI.up {b : Bool} {h h' : Heap} {it l k : Nat} (x : SdI b h it l k) (e : ∀ o, h.get? it = some o → h'.get? it = some o) : SdI b h' it l k := let ⟨o, q, r⟩ := x; ⟨o, e o q, r⟩
theorem SdL.up {b : Bool} {h h' : Heap} {l : Nat} {xs : Array Value} (x : SdL b h l xs) (e : ∀ o, h.get? l = some o → h'.get? l = some o) : SdL b h' l xs := let ⟨o, q, r⟩ := x; ⟨o, e o q, r⟩
section
variable {prog : Program} {w : World} {A : Around} {E : Value → Shared → Prop} {s : Shared}
theorem sd_item {b : Bool} {it l i : Nat} {xs : Array Value} {x : Value} {Q : Value → Shared → Prop} (h1 : SdI b s.heap it l i) (h2 : SdL b s.heap l xs) (hx : xs[i]? = some x)
    (q : ∀ h', SdI b h' it l (i + 1) → Heap.SameBut it s.heap h' → Q x { s with heap := h' }) : wpAny (model prog w) A (Builtin.SmallTypes.nextOf (.ref it)) Q E s := by
  cases b with
  | true => exact wpAny_nextOf_list_item h1 h2 hx q
  | false => exact RZ.nextOf_tuple_item h1 h2 hx q
theorem sd_end {b : Bool} {it l i : Nat} {xs : Array Value} {Q : Value → Shared → Prop} (hh : A.handled = none) (h1 : SdI b s.heap it l i) (h2 : SdL b s.heap l xs) (hx : xs[i]? = none)
    (q : ∀ h' e, Heap.ExtBut it s.heap h' → (∃ o, h'.get? e = some o ∧ o.cls = .type "StopIteration") → E (.ref e) { s with heap := h' }) : wpAny (model prog w) A (Builtin.SmallTypes.nextOf (.ref it)) Q E s := by
  cases b with
  | true => exact wpAny_nextOf_list_end hh h1 h2 hx q
  | false => exact RZ.nextOf_tuple_end hh h1 h2 hx q
variable {b1 b2 : Bool} {z TI TO i1 i2 l1 l2 k1 k2 : Nat} {xs ys : Array Value} {x y a b : Value}
theorem sz_item {Q : Value → Shared → Prop} (D : ZipApart z TI TO i1 i2 l1 l2) (hz : IsZip s.heap z TI TO .none) (hTI : IsPair s.heap TI (.ref i1) (.ref i2)) (hTO : IsPair s.heap TO a b)
    (h1 : SdI b1 s.heap i1 l1 k1) (h2 : SdI b2 s.heap i2 l2 k2) (hl1 : SdL b1 s.heap l1 xs) (hl2 : SdL b2 s.heap l2 ys) (hx : xs[k1]? = some x) (hy : ys[k2]? = some y)
    (q : ∀ h', IsZip h' z TI TO (rawInt s.heap.objs.size) → IsPair h' TO x y → SdI b1 h' i1 l1 (k1 + 1) → SdI b2 h' i2 l2 (k2 + 1) → IsPair h' s.heap.objs.size x y → h'.objs.size = s.heap.objs.size + 1 →
      (∀ c o, c ≠ z → c ≠ TO → c ≠ i1 → c ≠ i2 → s.heap.get? c = some o → h'.get? c = some o) → Q (.ref s.heap.objs.size) { s with heap := h' }) :
    wpAny (model prog w) A (Builtin.«zip.__next__» ⟨[.ref z], []⟩) (fun fin s' => ∃ v, fin = .done (.ret v) ∧ Q v s') E s := by
  show wpAny _ _ (field (.ref z) 2 >>= _) _ _ _; refine wpAny_bind (wpAny_field hz rfl (x := .bool false) rfl ?_)
  show wpAny _ _ (field (.ref z) 3 >>= _) _ _ _; refine wpAny_bind (wpAny_field hz rfl (x := .ref TI) rfl (wpAny_bind (wpAny_seqItems hTI rfl ?_)))
  show wpAny _ _ (Builtin.SmallTypes.ownedTupleIsFree (.ref z) >>= _) _ _ _; refine wpAny_bind ?_; unfold Builtin.SmallTypes.ownedTupleIsFree
  refine wpAny_bind (wpAny_field hz rfl (x := .none) rfl (wpAny_pure ?_)); simp only [if_true]
  refine wpAny_bind (wpAny_rule (wpAny_bind (wpAny_field hz rfl (x := .ref TO) rfl (wpAny_bind (wpAny_setField_rec hz (by simp) fun g1 z1 s1 => ?_)))))
  replace z1 : IsZip g1 z TI TO .ellipsis := z1
  refine wpAny_bind ?_; simp only [List.zipIdx_cons, List.zipIdx_nil, List.forIn_cons, List.forIn_nil]
  have e1 : ∀ c o, c ≠ z → s.heap.get? c = some o → g1.get? c = some o := fun c o n e => s1.extBut _ _ n e
  refine wpAny_bind (wpAny_bind (wpAny_onRaise ?_)); show wpAny _ _ (Builtin.SmallTypes.nextOf (.ref i1) >>= _) _ _ _
  refine wpAny_bind (sd_item (h1.up fun o e => e1 _ o D.i1z e) (hl1.up fun o e => e1 _ o D.l1z e) hx fun g2 j1 s2 => wpAny_pure ?_)
  have e2 : ∀ c o, c ≠ z → c ≠ i1 → s.heap.get? c = some o → g2.get? c = some o := fun c o n n' e => s2.extBut _ _ n' (e1 c o n e)
  have o2 : IsPair g2 TO a b := e2 _ _ D.TOz D.TOi1 hTO
  refine wpAny_bind (wpAny_seqItems o2 rfl (wpAny_bind (wpAny_updateSeq_pair o2 fun g3 o3 s3 => wpAny_bind (wpAny_letGo (wpAny_pure ?_)))))
  replace o3 : IsPair g3 TO x b := o3
  have e3 : ∀ c o, c ≠ z → c ≠ i1 → c ≠ TO → s.heap.get? c = some o → g3.get? c = some o := fun c o n n' n2 e => s3.extBut _ _ n2 (e2 c o n n' e)
  refine wpAny_bind (wpAny_bind (wpAny_onRaise ?_)); show wpAny _ _ (Builtin.SmallTypes.nextOf (.ref i2) >>= _) _ _ _
  refine wpAny_bind (sd_item (h2.up fun o e => e3 _ o D.i2z D.i12.symm D.TOi2.symm e) (hl2.up fun o e => e3 _ o D.l2z D.l2i1 D.l2TO e) hy fun g4 j2 s4 => wpAny_pure ?_)
  have o4 : IsPair g4 TO x b := s4.extBut _ _ D.TOi2 o3
  refine wpAny_bind (wpAny_seqItems o4 rfl (wpAny_bind (wpAny_updateSeq_pair o4 fun g5 o5 s5 => wpAny_bind (wpAny_letGo (wpAny_pure (wpAny_pure ?_))))))
  replace o5 : IsPair g5 TO x y := o5
  have e5 : ∀ c o, c ≠ z → c ≠ TO → c ≠ i1 → c ≠ i2 → s.heap.get? c = some o → g5.get? c = some o := fun c o n n1 n2 n3 e => s5.extBut _ _ n1 (s4.extBut _ _ n3 (e3 c o n n2 n1 e))
  refine wpAny_bind (wpAny_seqItems o5 rfl (wpAny_bind (wpAny_newTuple ?_)))
  have sz : g5.objs.size = s.heap.objs.size := by rw [s5.1, s4.1, s3.1, s2.1, s1.1]
  have z5 : IsZip g5 z TI TO .ellipsis := s5.extBut _ _ D.TOz.symm (s4.extBut _ _ D.i2z.symm (s3.extBut _ _ D.TOz.symm (s2.extBut _ _ D.i1z.symm z1)))
  have j1' : SdI b1 g5 i1 l1 (k1 + 1) := j1.up fun o e => s5.extBut _ _ D.TOi1.symm (s4.extBut _ _ D.i12 (s3.extBut _ _ D.TOi1.symm e))
  have j2' : SdI b2 g5 i2 l2 (k2 + 1) := j2.up fun o e => s5.extBut _ _ D.TOi2.symm e
  have zl : z < g5.objs.size := Heap.lt_size z5
  show wpAny _ _ (Builtin.SmallTypes.ownedTupleHandOut (.ref z) (.ref g5.objs.size) >>= _) _ _ _; refine wpAny_bind ?_; unfold Builtin.SmallTypes.ownedTupleHandOut
  have z6 : IsZip (g5.push { cls := .type "tuple", data := .seq #[x, y] }) z TI TO .ellipsis := Heap.get?_push_of_some _ z5
  refine wpAny_bind (wpAny_setField_rec z6 (by simp) fun g7 z7 s7 => ?_)
  replace z7 : IsZip g7 z TI TO (rawInt g5.objs.size) := z7
  refine wpAny_setField_rec z7 (by simp) fun g8 z8 s8 => ?_
  replace z8 : IsZip g8 z TI TO (rawInt g5.objs.size) := z8
  have up : ∀ c o, c ≠ z → g5.get? c = some o → g8.get? c = some o := fun c o n e => s8.extBut _ _ n (s7.extBut _ _ n (Heap.get?_push_of_some _ e))
  have T8 : IsPair g8 g5.objs.size x y := s8.extBut _ _ (Nat.ne_of_gt zl) (s7.extBut _ _ (Nat.ne_of_gt zl) (Heap.get?_push_size _ rfl))
  have w8 : g8.objs.size = g5.objs.size + 1 := by rw [s8.1, s7.1, Heap.size_push]
  rw [sz] at z8 T8 w8; refine wpAny_pure ⟨_, rfl, ?_⟩; show Q (.ref g5.objs.size) _; rw [sz]
  exact q g8 z8 (up _ _ D.TOz o5) (j1'.up fun o e => up _ o D.i1z e) (j2'.up fun o e => up _ o D.i2z e) T8 w8 fun c o n n1 n2 n3 e => up c o n (e5 c o n n1 n2 n3 e)
theorem sz_end {Q : Fin → Shared → Prop} (hh : A.handled = none) (D : ZipApart z TI TO i1 i2 l1 l2) (hz : IsZip s.heap z TI TO .none) (hTI : IsPair s.heap TI (.ref i1) (.ref i2)) (hTO : IsPair s.heap TO a b)
    (h1 : SdI b1 s.heap i1 l1 k1) (h2 : SdI b2 s.heap i2 l2 k2) (hl1 : SdL b1 s.heap l1 xs) (hl2 : SdL b2 s.heap l2 ys) (hend : xs[k1]? = none ∨ ys[k2]? = none)
    (q : ∀ h' e, (∀ c o, c ≠ z → c ≠ TO → c ≠ i1 → c ≠ i2 → s.heap.get? c = some o → h'.get? c = some o) → (∃ o, h'.get? e = some o ∧ o.cls = .type "StopIteration") → E (.ref e) { s with heap := h' }) :
    wpAny (model prog w) A (Builtin.«zip.__next__» ⟨[.ref z], []⟩) Q E s := by
  show wpAny _ _ (field (.ref z) 2 >>= _) _ _ _; refine wpAny_bind (wpAny_field hz rfl (x := .bool false) rfl ?_)
  show wpAny _ _ (field (.ref z) 3 >>= _) _ _ _; refine wpAny_bind (wpAny_field hz rfl (x := .ref TI) rfl (wpAny_bind (wpAny_seqItems hTI rfl ?_)))
  show wpAny _ _ (Builtin.SmallTypes.ownedTupleIsFree (.ref z) >>= _) _ _ _; refine wpAny_bind ?_; unfold Builtin.SmallTypes.ownedTupleIsFree
  refine wpAny_bind (wpAny_field hz rfl (x := .none) rfl (wpAny_pure ?_)); simp only [if_true]
  refine wpAny_bind (wpAny_rule (wpAny_bind (wpAny_field hz rfl (x := .ref TO) rfl (wpAny_bind (wpAny_setField_rec hz (by simp) fun g1 z1 s1 => ?_)))))
  replace z1 : IsZip g1 z TI TO .ellipsis := z1
  refine wpAny_bind ?_; simp only [List.zipIdx_cons, List.zipIdx_nil, List.forIn_cons, List.forIn_nil]
  have e1 : ∀ c o, c ≠ z → s.heap.get? c = some o → g1.get? c = some o := fun c o n e => s1.extBut _ _ n e
  have stop : ∀ {g g' : Heap} {e : Nat}, IsZip g z TI TO .ellipsis → (∃ o, g.get? e = some o ∧ o.cls = .type "StopIteration") → Heap.SameBut z g g' → ∃ o, g'.get? e = some o ∧ o.cls = .type "StopIteration" := fun {g g' e} hzz he hs => by
    obtain ⟨o, ho, hc⟩ := he
    exact ⟨o, hs.extBut _ _ (fun x => by subst x; rw [hzz] at ho; cases ho; simp at hc) ho, hc⟩
  refine wpAny_bind (wpAny_bind (wpAny_onRaise ?_)); show wpAny _ _ (Builtin.SmallTypes.nextOf (.ref i1) >>= _) _ _ _
  cases hx : xs[k1]? with
  | none =>
    refine wpAny_bind (sd_end hh (h1.up fun o e => e1 _ o D.i1z e) (hl1.up fun o e => e1 _ o D.l1z e) hx fun g2 e s2 he => ?_)
    have z2 : IsZip g2 z TI TO .ellipsis := s2 _ _ D.i1z.symm z1
    exact wpAny_setField_rec z2 (by simp) fun g3 _ s3 => q g3 e (fun c o n _ n2 _ x => s3.extBut _ _ n (s2 _ _ n2 (e1 c o n x))) (stop z2 he s3)
  | some x =>
    have hy : ys[k2]? = none := hend.elim (fun h => by rw [hx] at h; cases h) id
    refine wpAny_bind (sd_item (h1.up fun o e => e1 _ o D.i1z e) (hl1.up fun o e => e1 _ o D.l1z e) hx fun g2 j1 s2 => wpAny_pure ?_)
    have e2 : ∀ c o, c ≠ z → c ≠ i1 → s.heap.get? c = some o → g2.get? c = some o := fun c o n n' e => s2.extBut _ _ n' (e1 c o n e)
    have o2 : IsPair g2 TO a b := e2 _ _ D.TOz D.TOi1 hTO
    refine wpAny_bind (wpAny_seqItems o2 rfl (wpAny_bind (wpAny_updateSeq_pair o2 fun g3 o3 s3 => wpAny_bind (wpAny_letGo (wpAny_pure ?_)))))
    have e3 : ∀ c o, c ≠ z → c ≠ i1 → c ≠ TO → s.heap.get? c = some o → g3.get? c = some o := fun c o n n' n2 e => s3.extBut _ _ n2 (e2 c o n n' e)
    refine wpAny_bind (wpAny_bind (wpAny_onRaise ?_)); show wpAny _ _ (Builtin.SmallTypes.nextOf (.ref i2) >>= _) _ _ _
    refine wpAny_bind (sd_end hh (h2.up fun o e => e3 _ o D.i2z D.i12.symm D.TOi2.symm e) (hl2.up fun o e => e3 _ o D.l2z D.l2i1 D.l2TO e) hy fun g4 e s4 he => ?_)
    have z4 : IsZip g4 z TI TO .ellipsis := s4 _ _ D.i2z.symm (s3.extBut _ _ D.TOz.symm (s2.extBut _ _ D.i1z.symm z1))
    exact wpAny_setField_rec z4 (by simp) fun g5 _ s5 => q g5 e (fun c o n n1 n2 n3 x => s5.extBut _ _ n (s4 _ _ n3 (e3 c o n n2 n1 x))) (stop z4 he s5)
theorem nz_item {Q : Option Value → Shared → Prop} (D : ZipApart z TI TO i1 i2 l1 l2) (hz : IsZip s.heap z TI TO .none) (hTI : IsPair s.heap TI (.ref i1) (.ref i2)) (hTO : IsPair s.heap TO a b)
    (h1 : SdI b1 s.heap i1 l1 k1) (h2 : SdI b2 s.heap i2 l2 k2) (hl1 : SdL b1 s.heap l1 xs) (hl2 : SdL b2 s.heap l2 ys) (hx : xs[k1]? = some x) (hy : ys[k2]? = some y)
    (q : ∀ h', IsZip h' z TI TO (rawInt s.heap.objs.size) → IsPair h' TO x y → SdI b1 h' i1 l1 (k1 + 1) → SdI b2 h' i2 l2 (k2 + 1) → IsPair h' s.heap.objs.size x y → h'.objs.size = s.heap.objs.size + 1 →
      (∀ c o, c ≠ z → c ≠ TO → c ≠ i1 → c ≠ i2 → s.heap.get? c = some o → h'.get? c = some o) → Q (some (.ref s.heap.objs.size)) { s with heap := h' }) :
    wpAny (model prog w) A (pyNext (.ref z)) Q E s := by
  have hT : s.TypeIs (.ref z) "zip" := ⟨_, hz, rfl⟩
  unfold pyNext; exact wpAny_bind (wpAny_attempt (wpAny_callSpecial?_slot (name := Str.ofString "__next__") hT F.slot_zip_next (wpAny_call_entry F.slot_zip_next hT F.entry_zip_next
    (sz_item D hz hTI hTO h1 h2 hl1 hl2 hx hy fun h' a1 a2 a3 a4 a5 a6 a7 => wpAny_pure (q h' a1 a2 a3 a4 a5 a6 a7)) (F.args_zip_next_1 _))))
theorem nz_end {Q : Option Value → Shared → Prop} (hh : A.handled = none) (D : ZipApart z TI TO i1 i2 l1 l2) (hz : IsZip s.heap z TI TO .none) (hTI : IsPair s.heap TI (.ref i1) (.ref i2)) (hTO : IsPair s.heap TO a b)
    (h1 : SdI b1 s.heap i1 l1 k1) (h2 : SdI b2 s.heap i2 l2 k2) (hl1 : SdL b1 s.heap l1 xs) (hl2 : SdL b2 s.heap l2 ys) (hend : xs[k1]? = none ∨ ys[k2]? = none)
    (q : ∀ h', (∀ c o, c ≠ z → c ≠ TO → c ≠ i1 → c ≠ i2 → s.heap.get? c = some o → h'.get? c = some o) → Q none { s with heap := h' }) : wpAny (model prog w) A (pyNext (.ref z)) Q E s := by
  have hT : s.TypeIs (.ref z) "zip" := ⟨_, hz, rfl⟩
  unfold pyNext; refine wpAny_bind (wpAny_attempt (wpAny_callSpecial?_slot (name := Str.ofString "__next__") hT F.slot_zip_next (wpAny_call_entry F.slot_zip_next hT F.entry_zip_next (sz_end hh D hz hTI hTO h1 h2 hl1 hl2 hend fun h' e hk he => ?_) (F.args_zip_next_1 _))))
  obtain ⟨o, ho, hc⟩ := he
  exact wpAny_bind (wpAny_isInstance (T := "StopIteration") (b := true) ⟨o, ho, hc⟩ isSubtype_stop (wpAny_pure (q _ hk)))
end
/-! ### zip(a, b) made -/
def itO (b : Bool) (l : Addr) : Obj := { cls := .type (if b then "list_iterator" else "tuple_iterator"), data := .fields #[.ref l, .int 0 0] }
abbrev zH1 (b : Bool) (h : Heap) (l : Addr) : Heap := h.push (itO b l)
abbrev zH2 (b c : Bool) (h : Heap) (l m : Addr) : Heap := (zH1 b h l).push (itO c m)
abbrev zH3 (b c : Bool) (h : Heap) (l m : Addr) : Heap := (zH2 b c h l m).push { cls := .type "tuple", data := .seq #[.ref h.objs.size, .ref (zH1 b h l).objs.size] }
abbrev zH4 (b c : Bool) (h : Heap) (l m : Addr) : Heap := (zH3 b c h l m).push { cls := .type "tuple", data := .seq #[.none, .none] }
abbrev zH5 (b c : Bool) (h : Heap) (l m : Addr) : Heap := (zH4 b c h l m).push { cls := .type "zip", data := .fields #[.none, .bool false, .bool false, .ref (zH2 b c h l m).objs.size, .ref (zH3 b c h l m).objs.size] }
theorem new_LT (l m : Addr) (xs ys : Array Value) : Meets (Builtin.«zip.__new__» ⟨[.type "zip", .ref l, .ref m], []⟩) (fun _ R s => s.heap.IsList l xs ∧ s.heap.IsTuple m ys ∧ R (.ok (.ret (.ref (zH4 true false s.heap l m).objs.size))) { s with heap := zH5 true false s.heap l m }) :=
  .of_wp fun prog w A R s h => by
    obtain ⟨hp, g, d, tk, os⟩ := s; obtain ⟨q1, q2, h⟩ := h
    have hsub := sub_zip
    have p1 : Heap.IsList (Shared.heap ⟨hp, g, d, tk, os⟩) l xs := q1
    have p2 : Heap.IsTuple (Shared.heap ⟨hp.push { cls := .type "list_iterator", data := .fields #[.ref l, .int 0 0] }, g, d, tk, os⟩) m ys := Heap.IsTuple.push q2 _
    wp_walk using wpAny_pyIter_list p1, wpAny_pyIter_tuple p2
    exact ⟨_, rfl, h⟩
theorem new_TL (l m : Addr) (xs ys : Array Value) : Meets (Builtin.«zip.__new__» ⟨[.type "zip", .ref l, .ref m], []⟩) (fun _ R s => s.heap.IsTuple l xs ∧ s.heap.IsList m ys ∧ R (.ok (.ret (.ref (zH4 false true s.heap l m).objs.size))) { s with heap := zH5 false true s.heap l m }) :=
  .of_wp fun prog w A R s h => by
    obtain ⟨hp, g, d, tk, os⟩ := s; obtain ⟨q1, q2, h⟩ := h
    have hsub := sub_zip
    have p1 : Heap.IsTuple (Shared.heap ⟨hp, g, d, tk, os⟩) l xs := q1
    have p2 : Heap.IsList (Shared.heap ⟨hp.push { cls := .type "tuple_iterator", data := .fields #[.ref l, .int 0 0] }, g, d, tk, os⟩) m ys := Heap.IsList.push q2 _
    wp_walk using wpAny_pyIter_tuple p1, wpAny_pyIter_list p2
    exact ⟨_, rfl, h⟩
theorem new_S (b c : Bool) (l m : Addr) (xs ys : Array Value) : Meets (Builtin.«zip.__new__» ⟨[.type "zip", .ref l, .ref m], []⟩) (fun _ R s => SdL b s.heap l xs ∧ SdL c s.heap m ys ∧ R (.ok (.ret (.ref (zH4 b c s.heap l m).objs.size))) { s with heap := zH5 b c s.heap l m }) := by
  cases b <;> cases c
  · exact RZ.meets_zipT_new l m xs ys
  · exact new_TL l m xs ys
  · exact new_LT l m xs ys
  · exact meets_zip_new l m xs ys
section
variable {prog : Program} {w : World} {A : Around} {E : Value → Shared → Prop} {s : Shared}
theorem call_zipS {b c : Bool} {l m : Nat} {xs ys : Array Value} {Q : Value → Shared → Prop} (h1 : SdL b s.heap l xs) (h2 : SdL c s.heap m ys)
    (q : ∀ h', IsZip h' (s.heap.objs.size + 4) (s.heap.objs.size + 2) (s.heap.objs.size + 3) .none → IsPair h' (s.heap.objs.size + 2) (.ref s.heap.objs.size) (.ref (s.heap.objs.size + 1)) → IsPair h' (s.heap.objs.size + 3) .none .none → SdI b h' s.heap.objs.size l 0 → SdI c h' (s.heap.objs.size + 1) m 0 →
      (∀ a o, s.heap.get? a = some o → h'.get? a = some o) → Q (.ref (s.heap.objs.size + 4)) { s with heap := h' }) : wpAny (model prog w) A (call (.type "zip") [.ref l, .ref m]) Q E s := by
  refine callType_new F.called_zip (by decide) (F.typeCall_zip_2 _ _) (F.newCall_zip_2 _ _) (fun obj => F.args_object_init_3 obj _ _) F.entry_zip_new (new_S b c l m xs ys) ⟨h1, h2, ?_⟩
  have n1 : (zH1 b s.heap l).objs.size = s.heap.objs.size + 1 := Heap.size_push ..
  have n2 : (zH2 b c s.heap l m).objs.size = s.heap.objs.size + 2 := by rw [Heap.size_push, n1]
  have n3 : (zH3 b c s.heap l m).objs.size = s.heap.objs.size + 3 := by rw [Heap.size_push, n2]
  have n4 : (zH4 b c s.heap l m).objs.size = s.heap.objs.size + 4 := by rw [Heap.size_push, n3]
  have fr : (itO b l).isFreed = false := by cases b <;> rfl
  have fr2 : (itO c m).isFreed = false := by cases c <;> rfl
  have w5 : (zH5 b c s.heap l m).get? (zH4 b c s.heap l m).objs.size = some _ := Heap.get?_push_size _ rfl
  have u4 : ∀ a o, (zH4 b c s.heap l m).get? a = some o → (zH5 b c s.heap l m).get? a = some o := fun a o e => Heap.get?_push_of_some _ e
  have u3 : ∀ a o, (zH3 b c s.heap l m).get? a = some o → (zH5 b c s.heap l m).get? a = some o := fun a o e => u4 a o (Heap.get?_push_of_some _ e)
  have u2 : ∀ a o, (zH2 b c s.heap l m).get? a = some o → (zH5 b c s.heap l m).get? a = some o := fun a o e => u3 a o (Heap.get?_push_of_some _ e)
  have u1 : ∀ a o, (zH1 b s.heap l).get? a = some o → (zH5 b c s.heap l m).get? a = some o := fun a o e => u2 a o (Heap.get?_push_of_some _ e)
  have w4 : (zH5 b c s.heap l m).get? (zH3 b c s.heap l m).objs.size = some _ := u4 _ _ (Heap.get?_push_size _ rfl)
  have w3 : (zH5 b c s.heap l m).get? (zH2 b c s.heap l m).objs.size = some _ := u3 _ _ (Heap.get?_push_size _ rfl)
  have w2 : (zH5 b c s.heap l m).get? (zH1 b s.heap l).objs.size = some (itO c m) := u2 _ _ (Heap.get?_push_size _ fr2)
  have w1 : (zH5 b c s.heap l m).get? s.heap.objs.size = some (itO b l) := u1 _ _ (Heap.get?_push_size _ fr)
  rw [n2, n3, n4] at w5
  rw [n1, n2] at w3
  rw [n3] at w4
  rw [n1] at w2
  show _ ∧ _
  rw [n4]
  exact ⟨⟨_, w5, rfl⟩, q _ w5 w3 w4 ⟨_, w1, rfl, rfl⟩ ⟨_, w2, rfl, rfl⟩ fun a o e => u1 a o (Heap.get?_push_of_some _ e)⟩
end
/-! ### a walk of it -/
def SqS (b : Bool) (K : PySem.W.Frag) (H : Hp) (a : Addr) (xs : List V) : Prop := if b then SqL K H a xs else SqT K H a xs
section
variable {X : Cx} {pins : List (Addr × Obj)} {σ : L2.St} {H : Hp} {s : Shared} {b : Bool} {a : Addr} {xs ys : List V}
theorem SqS.at (I : Inv X pins σ H s) (h : SqS b X.K H a xs) : ∃ its : List Value, Vals xs its ∧ SdL b s.heap a its.toArray := by
  cases b with
  | true =>
    obtain ⟨its, r, p, _⟩ := I.list (show SqL X.K H a xs from h)
    exact ⟨its, r, p.isList⟩
  | false =>
    obtain ⟨its, r, p, _⟩ := I.tuple (show SqT X.K H a xs from h)
    exact ⟨its, r, p⟩
theorem SqS.inj (I : Inv X pins σ H s) (h : SqS b X.K H a xs) (h' : SqS b X.K H a ys) : xs = ys := by
  cases b with
  | true => exact I.list_inj (show SqL X.K H a xs from h) (show SqL X.K H a ys from h')
  | false => exact I.tuple_inj (show SqT X.K H a xs from h) (show SqT X.K H a ys from h')
end
def ItzS (b c : Bool) (K : PySem.W.Frag) (l m : Addr) : L2.It :=
  ⟨fun i H => ∃ (xs ys : List V) (x y : V), SqS b K H l xs ∧ SqS c K H m ys ∧ xs[i]? = some x ∧ ys[i]? = some y,
    fun i H v H' => ∃ T x y, v = .ref T ∧ H T = none ∧ H' = upd H T (.tup [x, y]) ∧ (∀ xs, SqS b K H l xs → xs[i]? = some x) ∧ ∀ ys, SqS c K H m ys → ys[i]? = some y,
    fun i H => ∃ xs ys : List V, SqS b K H l xs ∧ SqS c K H m ys ∧ (xs.length ≤ i ∨ ys.length ≤ i)⟩
theorem turn_zS {P : Program} {w : World} {K : PySem.W.Frag} {b c : Bool} {elts : List Expr} {kk : Nat} {tpos : Pos} {l m z TI TO i1 i2 : Nat} (D : ZipApart z TI TO i1 i2 l m) :
    Turn P w K (.Tuple elts kk tpos) (ItzS b c K l m) [z, TI, TO, i1, i2] z (fun i h => IsZip h z TI TO .none ∧ IsPair h TI (.ref i1) (.ref i2) ∧ (∃ x y, IsPair h TO x y) ∧ SdI b h i1 l i ∧ SdI c h i2 m i) where
  mem := List.mem_cons_self
  obj := fun i h ⟨hz, hTI, ⟨x, y, hTO⟩, ⟨o1, e1, _, d1⟩, ⟨o2, e2, _, d2⟩⟩ a ha => by
    simp only [List.mem_cons, List.not_mem_nil, or_false] at ha
    rcases ha with rfl | rfl | rfl | rfl | rfl
    · exact ⟨_, hz, fun v q => nomatch q⟩
    · exact ⟨_, hTI, fun v q => nomatch q⟩
    · exact ⟨_, hTO, fun v q => nomatch q⟩
    · exact ⟨o1, e1, fun v q => by rw [d1] at q; cases q⟩
    · exact ⟨o2, e2, fun v q => by rw [d2] at q; cases q⟩
  keep := fun i h h' ⟨hz, hTI, ⟨x, y, hTO⟩, h1, h2⟩ k =>
    ⟨k z (by simp) _ hz, k TI (by simp) _ hTI, ⟨x, y, k TO (by simp) _ hTO⟩, h1.up fun o q => k i1 (by simp) o q, h2.up fun o q => k i2 (by simp) o q⟩
  item := by
    rintro X rfl rfl rfl hc i pins s σ H E I hf ⟨hz, hTI, ⟨x0, y0, hTO⟩, h1, h2⟩ ⟨xs, ys, x, y, qx, qy, hx, hy⟩
    obtain ⟨its, rv, p⟩ := qx.at I
    obtain ⟨jts, rw', p2⟩ := qy.at I
    obtain ⟨u, hu, ru⟩ := rv.get hx
    obtain ⟨u2, hu2, ru2⟩ := rw'.get hy
    have hzl : z < s.heap.objs.size := Heap.lt_size hz
    have lt : ∀ a ∈ [z, TI, TO, i1, i2], a < s.heap.objs.size := fun a ha => by
      simp only [List.mem_cons, List.not_mem_nil, or_false] at ha
      rcases ha with rfl | rfl | rfl | rfl | rfl
      · exact hzl
      · exact Heap.lt_size hTI
      · exact Heap.lt_size hTO
      · obtain ⟨_, e, _⟩ := h1; exact Heap.lt_size e
      · obtain ⟨_, e, _⟩ := h2; exact Heap.lt_size e
    refine nz_item D hz hTI hTO h1 h2 p p2 (x := u) (y := u2) (by simpa using hu) (by simpa using hu2) fun h' z' TO' h1' h2' hT hsz hk => ⟨_, rfl, wpAny_letOwnedTupleGo_zip (s := { s with heap := h' }) z' fun h'' z'' sb => ?_⟩
    have T2 : h''.get? s.heap.objs.size = some { cls := .type "tuple", data := .seq #[u, u2] } := (sb.2 _ (Nat.ne_of_gt hzl)).trans hT
    have ok : ObjOk X.prog X.w (upd H s.heap.objs.size (.tup [x, y])) h'' s.heap.objs.size (.tup [x, y]) := ⟨by show 2 ≤ sizeLine; decide, [u, u2], .cons ru (.cons ru2 .nil), ⟨_, T2, rfl, _, rfl⟩⟩
    have old : ∀ a o, a ∉ [z, TI, TO, i1, i2] → s.heap.get? a = some o → h''.get? a = some o := fun a o ha q => by
      simp only [List.mem_cons, List.not_mem_nil, or_false, not_or] at ha
      exact (sb.2 a ha.1).trans (hk a o ha.1 ha.2.2.1 ha.2.2.2.1 ha.2.2.2.2 q)
    have I1 := I.turnedNew (t' := s.toks) (ch := [z, TI, TO, i1, i2]) old hf (Nat.le_refl _) ok
    refine ⟨.ref s.heap.objs.size, _, I1, rfl, ⟨_, x, y, rfl, I.hok.fresh (Nat.le_refl _), rfl, fun l hl => by rw [hl.inj I qx]; exact hx, fun l hl => by rw [hl.inj I qy]; exact hy⟩, ⟨z'', (sb.2 _ D.TIz).trans (hk _ _ D.TIz D.TITO D.TIi1 D.TIi2 hTI), ⟨u, u2, (sb.2 _ D.TOz).trans TO'⟩, h1'.up fun o q => (sb.2 _ D.i1z).trans q, h2'.up fun o q => (sb.2 _ D.i2z).trans q⟩, fun a ha => ?_⟩
    rw [upd_ne (Nat.ne_of_lt (lt a ha))]
    exact (hf a ha).1
  done := by
    rintro X rfl rfl rfl hc i pins s σ H E I hf ⟨hz, hTI, ⟨x0, y0, hTO⟩, h1, h2⟩ ⟨xs, ys, qx, qy, hend⟩
    obtain ⟨its, rv, p⟩ := qx.at I
    obtain ⟨jts, rw', p2⟩ := qy.at I
    have l1 := rv.length
    have l2 := rw'.length
    have he : its.toArray[i]? = none ∨ jts.toArray[i]? = none := hend.elim (fun q => .inl (by simp; omega)) fun q => .inr (by simp; omega)
    refine nz_end (I.ok.hd hc) D hz hTI hTO h1 h2 p p2 he fun h' hk => ⟨rfl, I.turnedL (t' := s.toks) (ch := [z, TI, TO, i1, i2]) (fun a o ha q => ?_) hf⟩
    simp only [List.mem_cons, List.not_mem_nil, or_false, not_or] at ha
    exact hk a o ha.1 ha.2.2.1 ha.2.2.2.1 ha.2.2.2.2 q
  self := fun A i s Q E st h => wpAny_pyIter_zip st.1 h
def iZipS (K : PySem.W.Frag) (ta : TA) : TI := fun σ H R => ta σ H fun vs H1 => ∃ (b c : Bool) (l m : Addr) (xs ys : List V), vs = [.ref l, .ref m] ∧ SqS b K H1 l xs ∧ SqS c K H1 m ys ∧ R (ItzS b c K l m) H1
theorem pi_zipS {X : Cx} {e e2 : Expr} {ta : TA} {p pos tpos : Pos} {elts : List Expr} {kk : Nat} (hg : Gl X "zip") (hm : X.mg "zip" = none) (ha : PA X [e, e2] ta) (hs : starEach [e, e2] X.env = (false, eval e X.env) :: starEach [e2] X.env) (hpl : (backTo pos (starEach [e2] X.env)).any (·.1) = false) :
    PI X (.Tuple elts kk tpos) (.Call (.Name "zip" p) [e, e2] [] pos) (iZipS X.K ta) := by
  refine ⟨fun pins s σ H R I h => Call_ (ld_blt I hg hm PyProof.Rows.boot_zip (PyProof.Rows.callWith_type1 (thn (ha.run pos pins s σ H _ I h) fun us s1 ⟨vs, H1, I1, r1, q1⟩ => ?_) hs hpl))⟩
  obtain ⟨b, c, l, m, xs, ys, rfl, qx, qy, q⟩ := q1
  obtain ⟨u, u2, rfl, r, r'⟩ := r1.two
  cases r
  cases r'
  obtain ⟨its, rv, p1⟩ := qx.at I1
  obtain ⟨jts, rw', p2⟩ := qy.at I1
  have ll : l < s1.heap.objs.size := let ⟨_, e, _⟩ := p1; Heap.lt_size e
  have lm : m < s1.heap.objs.size := let ⟨_, e, _⟩ := p2; Heap.lt_size e
  refine call_zipS p1 p2 fun h' hz hTI hTO h1 h2 hk => wpAny_pyIter_zip hz ⟨_, _, _, _, H1, rfl, I1.kept (t' := s1.toks) hk, turn_zS (PySem.W.ktu_apart s1.heap.objs.size l m ll lm), ⟨hz, hTI, ⟨_, _, hTO⟩, h1, h2⟩, fun a ha => ?_, q⟩
  have hle : s1.heap.objs.size ≤ a := by
    simp only [List.mem_cons, List.not_mem_nil, or_false] at ha
    rcases ha with rfl | rfl | rfl | rfl | rfl <;> omega
  exact I1.fpOk hle (I1.hok.fresh hle)
end Sm

set_option Elab.async false
set_option linter.all false
set_option maxRecDepth 100000
set_option maxHeartbeats 1000000
/-! SmL: what is walked, by the evaluator's items; targets. -/
namespace Sm
open PySem PySem.Spec PyProof.Rows L2
/-- an iterator gives these items, as long as what stands stays -/
structure Wk (K : PySem.W.Frag) (J : L2.It) (ds : List D) (H : Hp) : Prop where
  go : ∀ i H', Keep H H' → i < ds.length → J.go i H'
  yl : ∀ i H' x H'', Keep H H' → J.yld i H' x H'' → i < ds.length → ∃ d, ds[i]? = some d ∧ Rp K H'' x d ∧ (∀ b o, H' b = some o → H'' b = some o)
  st : ∀ i H', Keep H H' → ds.length ≤ i → J.stop i H'
section
variable {K : PySem.W.Frag} {H : Hp}
theorem tup_inj {a : Addr} {xs ys : List V} (h1 : SqT K H a xs) (h2 : SqT K H a ys) : True := trivial
theorem Wk.range (lo : Int) (n : Nat) : Wk K (Itr lo n) ((List.range n).map fun (k : Nat) => .int (lo + (k : Int))) H :=
  ⟨fun i H' _ h => show i < n by simpa using h, fun i H' x H'' _ ⟨e1, e2⟩ h => by
    subst e1 e2
    have h : i < n := by simpa using h
    exact ⟨.int (lo + i), by simp [h], .int _, fun _ _ h => h⟩, fun i H' _ h => show n ≤ i by simpa using h⟩
theorem Wk.down (hi : Int) (n : Nat) : Wk K (Itc hi (-1) n) ((List.range n).map fun (k : Nat) => .int (hi - (k : Int))) H :=
  ⟨fun i H' _ h => show i < n by simpa using h, fun i H' x H'' _ ⟨e1, e2⟩ h => by
    subst e1 e2
    have h : i < n := by simpa using h
    have e : hi + (i : Nat) * (-1) = hi - (i : Int) := by omega
    rw [e]
    exact ⟨.int (hi - i), by simp [h], .int _, fun _ _ h => h⟩, fun i H' _ h => show n ≤ i by simpa using h⟩
theorem Wk.tup {a : Addr} {vs : List V} {ds : List D} (h : SqT K H a vs) (r : RpL K H vs ds) : Wk K (Itt K a) ds H :=
  ⟨fun i H' k hi => ⟨vs, vs[i]'(by rw [r.length]; exact hi), k.sqT h, by simp⟩, fun i H' x H'' k ⟨e1, e2⟩ hi => by
    subst e1
    have q := e2 vs (k.sqT h)
    obtain ⟨d, h1, h2⟩ := (r.keep k).get q
    exact ⟨d, h1, h2, fun _ _ h => h⟩, fun i H' k hi => ⟨vs, k.sqT h, by rw [r.length]; exact hi⟩⟩
theorem Wk.lst {a : Addr} {vs : List V} {ds : List D} (h : FzL K H a vs) (r : RpL K H vs ds) : Wk K (Itl K a) ds H :=
  ⟨fun i H' k hi => ⟨vs, vs[i]'(by rw [r.length]; exact hi), (k.fzL h).sq, by simp⟩, fun i H' x H'' k ⟨e1, e2⟩ hi => by
    subst e1
    have q := e2 vs (k.fzL h).sq
    obtain ⟨d, h1, h2⟩ := (r.keep k).get q
    exact ⟨d, h1, h2, fun _ _ h => h⟩, fun i H' k hi => ⟨vs, (k.fzL h).sq, by rw [r.length]; exact hi⟩⟩
theorem en_at {ds : List D} {i : Nat} {d : D} (h : ds[i]? = some d) : (ds.zipIdx.map fun (p : D × Nat) => PyData.tuple [.int (p.2 : Int), p.1])[i]? = some (.tuple [.int (i : Int), d]) := by
  rw [List.getElem?_map, List.getElem?_zipIdx, h]
  simp
theorem en_rp {H H'' : Hp} {T : Addr} {i : Nat} {x : V} {d : D} (n : H T = none) (e : H'' = upd H T (.tup [.int (i : Nat), x])) (r : Rp K H x d) : Rp K H'' (.ref T) (.tuple [.int (i : Int), d]) := by
  subst e
  exact .tup (SqT.of upd_same) (.cons (.int _) (.cons (r.keep (keep_of (upd_old n))) .nil))
theorem Wk.enL {a : Addr} {vs : List V} {ds : List D} (h : FzL K H a vs) (r : RpL K H vs ds) : Wk K (Ite K a) (ds.zipIdx.map fun (p : D × Nat) => PyData.tuple [.int (p.2 : Int), p.1]) H :=
  ⟨fun i H' k hi => ⟨vs, vs[i]'(by rw [r.length]; simpa using hi), (k.fzL h).sq, by simp⟩, fun i H' x H'' k ⟨T, y, e0, e1, e2, e3⟩ hi => by
    subst e0
    have q := e3 vs (k.fzL h).sq
    obtain ⟨d, h1, h2⟩ := (r.keep k).get q
    exact ⟨_, en_at h1, en_rp e1 e2 h2, by subst e2; exact upd_old e1⟩, fun i H' k hi => ⟨vs, (k.fzL h).sq, by rw [r.length]; simpa using hi⟩⟩
theorem Wk.enT {a : Addr} {vs : List V} {ds : List D} (h : SqT K H a vs) (r : RpL K H vs ds) : Wk K (IteT K a) (ds.zipIdx.map fun (p : D × Nat) => PyData.tuple [.int (p.2 : Int), p.1]) H :=
  ⟨fun i H' k hi => ⟨vs, vs[i]'(by rw [r.length]; simpa using hi), k.sqT h, by simp⟩, fun i H' x H'' k ⟨T, y, e0, e1, e2, e3⟩ hi => by
    subst e0
    have q := e3 vs (k.sqT h)
    obtain ⟨d, h1, h2⟩ := (r.keep k).get q
    exact ⟨_, en_at h1, en_rp e1 e2 h2, by subst e2; exact upd_old e1⟩, fun i H' k hi => ⟨vs, k.sqT h, by rw [r.length]; simpa using hi⟩⟩
theorem zp_at {ds es : List D} {i : Nat} {d e : D} (h : ds[i]? = some d) (h' : es[i]? = some e) : ((ds.zip es).map fun (p : D × D) => PyData.tuple [p.1, p.2])[i]? = some (.tuple [d, e]) := by
  rw [List.getElem?_map, List.getElem?_zip_eq_some (z := (d, e)) |>.mpr ⟨h, h'⟩]
  rfl
theorem zp_rp {H H'' : Hp} {T : Addr} {x y : V} {d e : D} (n : H T = none) (e' : H'' = upd H T (.tup [x, y])) (r : Rp K H x d) (s : Rp K H y e) : Rp K H'' (.ref T) (.tuple [d, e]) := by
  subst e'
  exact .tup (SqT.of upd_same) (.cons (r.keep (keep_of (upd_old n))) (.cons (s.keep (keep_of (upd_old n))) .nil))
theorem zp_lt {ds es : List D} {i : Nat} (h : i < ((ds.zip es).map fun (p : D × D) => PyData.tuple [p.1, p.2]).length) : i < ds.length ∧ i < es.length := by
  rw [List.length_map, List.length_zip] at h; omega
theorem zp_ge {ds es : List D} {i : Nat} (h : ((ds.zip es).map fun (p : D × D) => PyData.tuple [p.1, p.2]).length ≤ i) : ds.length ≤ i ∨ es.length ≤ i := by
  rw [List.length_map, List.length_zip] at h; omega
/-- a locked list, a tuple -/
def FzS (b : Bool) (K : PySem.W.Frag) (H : Hp) (a : Addr) (xs : List V) : Prop := if b then FzL K H a xs else SqT K H a xs
theorem FzS.sq {b : Bool} {H' : Hp} (k : Keep H H') {a : Addr} {xs : List V} (h : FzS b K H a xs) : SqS b K H' a xs := by
  cases b with
  | true => exact (k.fzL (show FzL K H a xs from h)).sq
  | false => exact k.sqT (show SqT K H a xs from h)
theorem Wk.zpS {b c : Bool} {l m : Addr} {vs ws : List V} {ds es : List D} (h : FzS b K H l vs) (r : RpL K H vs ds) (h' : FzS c K H m ws) (r' : RpL K H ws es) : Wk K (ItzS b c K l m) ((ds.zip es).map fun (p : D × D) => PyData.tuple [p.1, p.2]) H :=
  ⟨fun i H' k hi => ⟨vs, ws, vs[i]'(by rw [r.length]; exact (zp_lt hi).1), ws[i]'(by rw [r'.length]; exact (zp_lt hi).2), h.sq k, h'.sq k, by simp, by simp⟩, fun i H' x H'' k ⟨T, y, y', e0, e1, e2, e3, e4⟩ hi => by
    subst e0
    obtain ⟨d, h1, h2⟩ := (r.keep k).get (e3 vs (h.sq k))
    obtain ⟨e, h3, h4⟩ := (r'.keep k).get (e4 ws (h'.sq k))
    exact ⟨_, zp_at h1 h3, zp_rp e1 e2 h2 h4, by subst e2; exact upd_old e1⟩, fun i H' k hi => ⟨vs, ws, h.sq k, h'.sq k, by rw [r.length, r'.length]; exact zp_ge hi⟩⟩
theorem seq_fz {v : V} {d : D} {xs : List D} (h : Rp K H v d) (e : seqOf d = some xs) : ∃ (b : Bool) (a : Addr) (vs : List V), v = .ref a ∧ FzS b K H a vs ∧ RpL K H vs xs := by
  unfold seqOf at e
  split at e
  · cases e
    cases h with | tup h r => exact ⟨false, _, _, rfl, h, r⟩
  · cases e
    cases h with | lst h r => exact ⟨true, _, _, rfl, h, r⟩
  · cases e
end
/-- over a list or a tuple -/
def iSeq (K : PySem.W.Frag) (tl : TE) : TI := fun σ H R => tl σ H fun x H1 => ∃ a, x = .ref a ∧ ((∃ xs, SqL K H1 a xs ∧ R (Itl K a) H1) ∨ ∃ xs, SqT K H1 a xs ∧ R (Itt K a) H1)
theorem pi_seq {X : Cx} {tg l : Expr} {tl : TE} (hl : PE X l tl) : PI X tg l (iSeq X.K tl) := by
  refine ⟨fun pins s σ H R I h => ?_⟩
  refine thn (hl.run pins s σ H _ I h) fun v s1 ⟨x, H1, I1, r1, q1⟩ => ?_
  obtain ⟨a, e, q⟩ := q1
  subst e
  cases r1
  have fr : ∀ b ∈ [s1.heap.objs.size], FpOk X pins H1 b := fun b hb => by
    have e : b = s1.heap.objs.size := by simpa using hb
    subst e
    exact I1.fpOk (Nat.le_refl _) (I1.hok.fresh (Nat.le_refl _))
  rcases q with ⟨xs, hq, q⟩ | ⟨xs, hq, q⟩
  · obtain ⟨its, rv, p, hz⟩ := I1.list hq
    refine wpAny_pyIter_list p.isList ?_
    exact ⟨s1.heap.objs.size, [s1.heap.objs.size], _, _, H1, rfl, I1.kept (t' := s1.toks) fun b o e => Heap.get?_push_of_some _ e, turn_list a _, ⟨_, Heap.get?_push_size _ rfl, rfl, rfl⟩, fr, q⟩
  · obtain ⟨its, rv, p, hz⟩ := I1.tuple hq
    refine wpAny_pyIter_tuple (show s1.heap.IsTuple a its.toArray from p) ?_
    exact ⟨s1.heap.objs.size, [s1.heap.objs.size], _, _, H1, rfl, I1.kept (t' := s1.toks) fun b o e => Heap.get?_push_of_some _ e, turn_tuple a _, ⟨_, Heap.get?_push_size _ rfl, rfl, rfl⟩, fr, q⟩
/-- an iterator's reading -/
def tW (z : Cz) (f : Ev) (it : It) : TI := fun σ H R => ∃ φ lo st, StOk z.K φ st H ∧ SimL z.K φ H lo σ ∧ LamX.Tabs z.T H ∧ Post z φ st H (evIt f it lo st) fun ds _ _ H' => ∀ J, Wk z.K J ds H' → R J H'
def SW (X : Cx) (z : Cz) (cf : CF) (tg e : Expr) (it : It) : Prop := ∀ m, PI X tg e (tW z (ev cf m) it)
theorem _root_.L2.PI.imp {X : Cx} {tg e : Expr} {t t' : TI} (h : PI X tg e t) (m : ∀ σ H Q, t' σ H Q → t σ H Q) : PI X tg e t' := ⟨fun pins s σ H Q I q => h.run pins s σ H Q I (m σ H Q q)⟩
section
variable {X : Cx} {z : Cz} {cf : CF} {gl : List (Str × Gk)} {k : Nat} {f : Ev} {σ : L2.St} {H : Hp} {φ : List Addr} {st : Sto} {lo : Lo} {p pos : Pos} {tg a b : Expr} {ia ib : E}
theorem sw_e (o : Ok X z cf gl k) (ha : SE X z cf a ia) : SW X z cf tg a (.e ia) := fun m => (pi_seq (ha m)).imp fun σ H R ⟨φ, lo, st, s, l, t, p⟩ => by
  refine tE.bindP s l t p fun x v φ1 st1 H1 s1 l1 t1 p1 rx h1 => ?_
  rw [o.hK]
  cases hx : seqOf x with
  | none => rw [hx] at h1; exact (h1 : False).elim
  | some ds =>
    rw [hx] at h1
    have h2 := Post.here s1 h1
    unfold seqOf at hx
    split at hx
    · cases hx
      cases rx with | tup h r => exact ⟨_, rfl, .inr ⟨_, h, h2 _ (.tup h r)⟩⟩
    · cases hx
      cases rx with | lst h r => exact ⟨_, rfl, .inl ⟨_, h.sq, h2 _ (.lst h r)⟩⟩
    · cases hx
theorem rng_of {lo hi : Int} (h : rngOk lo hi = true) : -(2 ^ 62) ≤ lo ∧ lo < 2 ^ 62 ∧ -(2 ^ 62) ≤ hi ∧ hi < 2 ^ 62 := by
  rw [rngOk_eq] at h
  simp only [Bool.and_eq_true, decide_eq_true_eq] at h
  exact ⟨h.1.1.1.1, h.1.1.1.2, h.1.1.2, h.1.2⟩
theorem star1 {e : Expr} (h : notStar e = true) (env : Env) : starEach [e] env = [(false, eval e env)] := star_each h [] env
theorem star2 {e e' : Expr} (h : notStar e = true) (h' : notStar e' = true) (env : Env) : starEach [e, e'] env = [(false, eval e env), (false, eval e' env)] := by
  rw [star_each h, star1 h']
theorem sw_r1 (o : Ok X z cf gl k) (hg : Gl X "range") (hm : gl.lookup ("range" : Str) = some .bi) (ha : SE X z cf a ia) (hs : notStar a = true) : SW X z cf tg (.Call (.Name "range" p) [a] [] pos) (.r1 ia) := fun m =>
  (pi_range1 hg (o.bi _ hm) (pa1 (ha m) hs) (star1 hs _)).imp fun σ H R ⟨φ, lo, st, s, l, t, p⟩ => by
  refine tE.bindP s l t p fun x v φ1 st1 H1 s1 l1 t1 p1 rx h1 => ?_
  cases x with
  | int j =>
    cases rx
    obtain ⟨hr, h2⟩ := ite_no h1
    obtain ⟨_, _, q1, q2⟩ := rng_of hr
    have h3 := Post.here s1 h2
    refine ⟨j, rfl, q1, q2, h3 _ ?_⟩
    have := Wk.range (K := z.K) (H := H1) 0 j.toNat
    unfold rangeN
    rw [Int.sub_zero]
    exact this
  | _ => exact (h1 : False).elim
theorem sw_r2 (o : Ok X z cf gl k) (hg : Gl X "range") (hm : gl.lookup ("range" : Str) = some .bi) (ha : SE X z cf a ia) (hb : SE X z cf b ib) (hs : notStar a = true) (hs' : notStar b = true) : SW X z cf tg (.Call (.Name "range" p) [a, b] [] pos) (.r2 ia ib) := fun m =>
  (pi_range2 hg (o.bi _ hm) (pa_cons (ha m) (pa1 (hb m) hs') (star_each hs _ _)) (star2 hs hs' _) (star1 hs' _)).imp fun σ H R ⟨φ, lo, st, s, l, t, p⟩ => by
  refine tE.bindP s l t p fun x v φ1 st1 H1 s1 l1 t1 p1 rx h1 => ?_
  refine tE.bindP s1 l1 t1 h1 fun y u φ2 st2 H2 s2 l2 t2 p2 ry h2 => ?_
  cases x with
  | int i =>
    cases y with
    | int j =>
      cases rx; cases ry
      obtain ⟨hr, h2⟩ := ite_no h2
      have h3 := Post.here s2 h2
      exact ⟨i, j, rfl, rng_of hr, h3 _ (Wk.range i (j - i).toNat)⟩
    | _ => exact (h2 : False).elim
  | _ => exact (h2 : False).elim
theorem sw_r3 (o : Ok X z cf gl k) {b c : Expr} {ib ic : E} (hg : Gl X "range") (hm : gl.lookup ("range" : Str) = some .bi) (ha : SE X z cf a ia) (hb : SE X z cf b ib) (hc : SE X z cf c ic) (hs : notStar a = true) (hs' : notStar b = true) (hs2 : notStar c = true) : SW X z cf tg (.Call (.Name "range" p) [a, b, c] [] pos) (.r3 ia ib ic) := fun m =>
  (pi_range3 hg (o.bi _ hm) (pa_cons (ha m) (pa_cons (hb m) (pa1 (hc m) hs2) (star_each hs' _ _)) (star_each hs _ _)) (star_each hs _ _) (by rw [star_each hs', star_each hs2]; rfl)).imp fun σ H R ⟨φ, lo, st, s, l, t, p⟩ => by
  refine tE.bindP s l t p fun x v φ1 st1 H1 s1 l1 t1 p1 rx h1 => ?_
  refine tE.bindP s1 l1 t1 h1 fun y u φ2 st2 H2 s2 l2 t2 p2 ry h2 => ?_
  refine tE.bindP s2 l2 t2 h2 fun w q φ3 st3 H3 s3 l3 t3 p3 rw' h3 => ?_
  cases x with
  | int i =>
    cases y with
    | int j =>
      cases w with
      | int n =>
        cases rx; cases ry; cases rw'
        obtain ⟨hr, h4⟩ := ite_no h3
        rw [Bool.and_eq_true, decide_eq_true_eq] at hr
        obtain ⟨hr, rfl⟩ := hr
        obtain ⟨q1, q2, q3, q4⟩ := rng_of hr
        have h5 := Post.here s3 h4
        exact ⟨i, j, -1, _, rfl, RgC.neg q3 q4 q1 q2, h5 _ (Wk.down i (i - j).toNat)⟩
      | _ => exact (h3 : False).elim
    | _ => exact (h3 : False).elim
  | _ => exact (h3 : False).elim
theorem sw_en (o : Ok X z cf gl k) {elts : List Expr} {kk : Nat} {tpos : Pos} (hg : Gl X "enumerate") (hm : gl.lookup ("enumerate" : Str) = some .bi) (ha : SE X z cf a ia) (hs : notStar a = true) : SW X z cf (.Tuple elts kk tpos) (.Call (.Name "enumerate" p) [a] [] pos) (.en ia) := fun m =>
  (pi_enumA hg (o.bi _ hm) (pa1 (ha m) hs) (star1 hs _)).imp fun σ H R ⟨φ, lo, st, s, l, t, p⟩ => by
  refine tE.bindP s l t p fun x v φ1 st1 H1 s1 l1 t1 p1 rx h1 => ?_
  rw [o.hK]
  obtain ⟨ds, hx, h2⟩ := Post.of s1 h1
  have h3 := Post.here s1 h2
  unfold seqOf at hx
  split at hx
  · cases hx
    cases rx with | tup h r => exact ⟨_, _, rfl, .inr ⟨h, h3 _ (.enT h r)⟩⟩
  · cases hx
    cases rx with | lst h r => exact ⟨_, _, rfl, .inl ⟨h.sq, h3 _ (.enL h r)⟩⟩
  · cases hx
theorem sw_zp (o : Ok X z cf gl k) {elts : List Expr} {kk : Nat} {tpos : Pos} (hg : Gl X "zip") (hm : gl.lookup ("zip" : Str) = some .bi) (ha : SE X z cf a ia) (hb : SE X z cf b ib) (hs : notStar a = true) (hs' : notStar b = true) : SW X z cf (.Tuple elts kk tpos) (.Call (.Name "zip" p) [a, b] [] pos) (.zp ia ib) := fun m =>
  (pi_zipS hg (o.bi _ hm) (pa_cons (ha m) (pa1 (hb m) hs') (star_each hs _ _)) (star_each hs _ _) (by rw [star1 hs']; rfl)).imp fun σ H R ⟨φ, lo, st, s, l, t, p⟩ => by
  refine tE.bindP s l t p fun x v φ1 st1 H1 s1 l1 t1 p1 rx h1 => ?_
  refine tE.bindP s1 l1 t1 h1 fun y u φ2 st2 H2 s2 l2 t2 p2 ry h2 => ?_
  rw [o.hK]
  have rx := rx.keep (p2.keep s1)
  obtain ⟨⟨ds, es⟩, hx, h2⟩ := Post.of s2 h2
  have h3 := Post.here s2 h2
  unfold zipOf at hx
  split at hx
  · rename_i xs ys e1 e2
    cases hx
    obtain ⟨b, a, vs, rfl, q1, q2⟩ := seq_fz rx e1
    obtain ⟨c, a', ws, rfl, q3, q4⟩ := seq_fz ry e2
    exact ⟨b, c, a, a', vs, ws, rfl, q1.sq (Keep.refl _), q3.sq (Keep.refl _), h3 _ (.zpS q1 q2 q3 q4)⟩
  · cases hx
end
end Sm

set_option Elab.async false
set_option linter.all false
set_option maxRecDepth 100000
set_option maxHeartbeats 1000000
/-! SmM: targets, list comprehensions. -/
namespace Sm
open PySem PySem.Spec PyProof.Rows L2
/-! ### targets -/
mutual
def gT (K : PySem.W.Frag) : Tg → TG
  | .n i => gName i
  | .t l => fun v σ H Q => gTup K l.length (gTs K l) v σ H Q ∨ gLst K l.length (gTs K l) v σ H Q
def gTs (K : PySem.W.Frag) : List Tg → TGs
  | [] => gNil
  | t :: ts => gCons (gT K t) (gTs K ts)
end
mutual
def tgN : Tg → List Nat
  | .n i => [i]
  | .t l => tgNs l
def tgNs : List Tg → List Nat
  | [] => []
  | t :: ts => tgN t ++ tgNs ts
end
def AgreeBut (l : List Nat) (σ σ' : L2.St) : Prop := σ'.length = σ.length ∧ ∀ j : Nat, j ∉ l → σ'[j]? = σ[j]?
theorem AgreeBut.trans {l l' : List Nat} {σ σ' σ'' : L2.St} (h : AgreeBut l σ σ') (h' : AgreeBut l' σ' σ'') : AgreeBut (l ++ l') σ σ'' :=
  ⟨h'.1.trans h.1, fun j hj => by
    rw [List.mem_append, not_or] at hj
    exact (h'.2 j hj.2).trans (h.2 j hj.1)⟩
section
variable {K : PySem.W.Frag} {φ : List Addr} {H : Hp}
mutual
theorem tg_ok : ∀ (t : Tg) {d : D} {lo lo' : Lo} {v : V} {σ : L2.St} {Q : L2.St → Hp → Prop}, bindT t d lo = some lo' → Rp K H v d → SimL K φ H lo σ → (∀ σ', SimL K φ H lo' σ' → AgreeBut (tgN t) σ σ' → Q σ' H) → gT K t v σ H Q
  | .n i, d, lo, lo', v, σ, Q, e, r, l, q => by
    simp only [bindT, Option.some.injEq] at e
    subst e
    simp only [gT]
    refine q _ (l.set i r) ⟨List.length_set, fun j hj => ?_⟩
    rw [List.getElem?_set_ne]
    intro h; exact hj (by simp [tgN, h])
  | .t ts, d, lo, lo', v, σ, Q, e, r, l, q => by
    cases d with
    | tuple xs =>
      simp only [bindT] at e
      cases r with
      | tup h rr =>
        rename_i a vs
        simp only [gT]
        exact tgs_ok ts e rr l q |>.elim fun hl hg => .inl ⟨a, vs, rfl, h, hl, hg⟩
    | list xs =>
      simp only [bindT] at e
      cases r with
      | lst h rr =>
        rename_i a vs
        simp only [gT]
        exact tgs_ok ts e rr l q |>.elim fun hl hg => .inr ⟨a, vs, rfl, h.sq, hl, hg⟩
    | _ => simp [bindT] at e
theorem tgs_ok : ∀ (ts : List Tg) {ds : List D} {lo lo' : Lo} {vs : List V} {σ : L2.St} {Q : L2.St → Hp → Prop}, bindTs ts ds lo = some lo' → RpL K H vs ds → SimL K φ H lo σ → (∀ σ', SimL K φ H lo' σ' → AgreeBut (tgNs ts) σ σ' → Q σ' H) → vs.length = ts.length ∧ gTs K ts vs σ H Q
  | [], ds, lo, lo', vs, σ, Q, e, r, l, q => by
    cases ds with
    | nil =>
      cases r
      simp only [bindTs, Option.some.injEq] at e
      subst e
      exact ⟨rfl, by simp only [gTs]; exact ⟨rfl, q σ l ⟨rfl, fun _ _ => rfl⟩⟩⟩
    | cons d ds => simp [bindTs] at e
  | t :: ts, ds, lo, lo', vs, σ, Q, e, r, l, q => by
    cases ds with
    | nil => simp [bindTs] at e
    | cons d ds =>
      cases r with
      | cons r rr =>
        rename_i v vs
        simp only [bindTs] at e
        split at e
        · rename_i lo1 e1
          have key : ∀ σ1, SimL K φ H lo1 σ1 → AgreeBut (tgN t) σ σ1 → vs.length = ts.length ∧ gTs K ts vs σ1 H Q := fun σ1 l1 a1 => tgs_ok ts e rr l1 fun σ2 l2 a2 => q σ2 l2 (by simp only [tgNs]; exact a1.trans a2)
          have hlen : vs.length = ts.length := by
            have := key (σ.take σ.length) 
            exact tgs_len ts e rr
          refine ⟨by simp [hlen], ?_⟩
          simp only [gTs]
          exact ⟨v, vs, rfl, tg_ok t e1 r l fun σ1 l1 a1 => (key σ1 l1 a1).2⟩
        · cases e
theorem tgs_len : ∀ (ts : List Tg) {ds : List D} {lo lo' : Lo} {vs : List V}, bindTs ts ds lo = some lo' → RpL K H vs ds → vs.length = ts.length
  | [], ds, lo, lo', vs, e, r => by
    cases ds with
    | nil => cases r; rfl
    | cons d ds => simp [bindTs] at e
  | t :: ts, ds, lo, lo', vs, e, r => by
    cases ds with
    | nil => simp [bindTs] at e
    | cons d ds =>
      cases r with
      | cons r rr =>
        simp only [bindTs] at e
        split at e
        · simp [tgs_len ts e rr]
        · cases e
end
end
/-- a name that is stored here -/
def TgOk (X : Cx) (x : Str) : Prop := Loc X.env.scope x ∧ (X.fn x = true ∨ X.env.scope.names.lookup x = some .local)
mutual
def trT (N : List Str) (names : List (Str × NameKind)) : Expr → Option Tg
  | .Name x _ => match names.lookup x with
    | some .local => (N.idxOf? x).map .n
    | some .cell => (N.idxOf? x).map .n
    | _ => none
  | .Tuple es _ _ => (trTs N names es).map .t
  | _ => none
def trTs (N : List Str) (names : List (Str × NameKind)) : List Expr → Option (List Tg)
  | [] => some []
  | e :: es => match trT N names e, trTs N names es with
    | some t, some ts => some (t :: ts)
    | _, _ => none
end
theorem idx_at {N : List Str} {x : Str} {i : Nat} (h : N.idxOf? x = some i) : N[i]? = some x := by
  rw [List.idxOf?_eq_some_iff] at h
  obtain ⟨hl, h1, _⟩ := h
  rw [List.getElem?_eq_getElem hl]
  simpa using h1
theorem trT_star {N : List Str} {names : List (Str × NameKind)} {e : Expr} {t : Tg} (h : trT N names e = some t) : notStar e = true := by
  cases e <;> first | rfl | (simp [trT] at h)
theorem asg_each {e : Expr} (h : notStar e = true) (es : List Expr) (env : Env) : assignEach (e :: es) env = (false, assign e env) :: assignEach es env := by
  cases e <;> first | rfl | cases h
section
variable {X : Cx} {N : List Str} {names : List (Str × NameKind)}
theorem trTs_each : ∀ {es : List Expr} {ts : List Tg}, trTs N names es = some ts → ∀ env, (assignEach es env).length = ts.length ∧ (assignEach es env).findIdx? (·.1) = none
  | [], ts, h, env => by simp only [trTs, Option.some.injEq] at h; subst h; exact ⟨rfl, rfl⟩
  | e :: es, ts, h, env => by
    simp only [trTs] at h
    split at h
    · rename_i t ts' h1 h2
      cases h
      rw [asg_each (trT_star h1)]
      obtain ⟨q1, q2⟩ := trTs_each h2 env
      exact ⟨by simp [q1], by rw [List.findIdx?_cons]; simp [q2]⟩
    · cases h
mutual
theorem trT_ok (hN : X.N = N) (hd : X.N.Nodup) (hc : X.calm = true) (hx : ∀ x, names.lookup x = some .local ∨ names.lookup x = some .cell → TgOk X x) : ∀ {e : Expr} {t : Tg}, trT N names e = some t → PG X e (gT X.K t)
  | .Name x p, t, h => by
    simp only [trT] at h
    have core : ∀ (hl : names.lookup x = some .local ∨ names.lookup x = some .cell), (N.idxOf? x).map Tg.n = some t → PG X (.Name x p) (gT X.K t) := fun hl h => by
      rw [Option.map_eq_some_iff] at h
      obtain ⟨i, h1, rfl⟩ := h
      obtain ⟨q1, q2⟩ := hx x hl
      exact pg_name hd (by rw [hN]; exact idx_at h1) q1 q2
    split at h
    · rename_i e; exact core (.inl e) h
    · rename_i e; exact core (.inr e) h
    · cases h
  | .Tuple es n p, t, h => by
    simp only [trT, Option.map_eq_some_iff] at h
    obtain ⟨ts, h1, rfl⟩ := h
    obtain ⟨q1, q2⟩ := trTs_each h1 X.env
    have g1 : PG X (.Tuple es n p) (gTup X.K ts.length (gTs X.K ts)) := pg_tup hc (trTs_ok hN hd hc hx h1) q1 q2
    have g2 : PG X (.Tuple es n p) (gLst X.K ts.length (gTs X.K ts)) := pg_lst hc (trTs_ok hN hd hc hx h1) q1 q2
    exact ⟨fun pins s σ H v u Q I r h => h.elim (fun h => g1.run pins s σ H v u Q I r h) fun h => g2.run pins s σ H v u Q I r h⟩
  | .Constant .., _, h | .BoolOp .., _, h | .NamedExpr .., _, h | .BinOp .., _, h | .UnaryOp .., _, h | .Lambda .., _, h | .IfExp .., _, h | .Dict .., _, h | .Set .., _, h | .ListComp .., _, h | .SetComp .., _, h | .DictComp .., _, h | .GeneratorExp .., _, h | .Await .., _, h
  | .Yield .., _, h | .YieldFrom .., _, h | .Compare .., _, h | .Call .., _, h | .Attribute .., _, h | .Subscript .., _, h | .Starred .., _, h | .List .., _, h | .Slice .., _, h => by simp [trT] at h
theorem trTs_ok (hN : X.N = N) (hd : X.N.Nodup) (hc : X.calm = true) (hx : ∀ x, names.lookup x = some .local ∨ names.lookup x = some .cell → TgOk X x) : ∀ {es : List Expr} {ts : List Tg}, trTs N names es = some ts → PGs X es (gTs X.K ts)
  | [], ts, h => by simp only [trTs, Option.some.injEq] at h; subst h; exact pgs_nil
  | e :: es, ts, h => by
    simp only [trTs] at h
    split at h
    · rename_i t ts' h1 h2
      cases h
      exact pgs_cons (trT_ok hN hd hc hx h1) (trTs_ok hN hd hc hx h2) (by rw [asg_each (trT_star h1)]; rfl)
    · cases h
end
end
end Sm

set_option Elab.async false
set_option linter.all false
set_option maxRecDepth 100000
set_option maxHeartbeats 1000000
/-! SmN: list comprehensions. -/
namespace Sm
open PySem PySem.Spec PyProof.Rows L2
section
variable {K : PySem.W.Frag} {T : List (Addr × Str)} {φ φ1 φ2 : List Addr} {st st1 st2 : Sto} {H H1 H2 : Hp} {a : Addr}
theorem dead_none (s : StOk K φ st H) (h : H a = none) : ¬ live φ st a := fun l => by
  obtain ⟨vs, e⟩ := s.live_at l
  rw [h] at e; cases e
theorem Step.dead (s : StOk K φ st H) (p : Step T φ st H φ1 st1 H1) {vs : List V} (h : H a = some (.lst vs)) (n : ¬ live φ st a) : ¬ live φ1 st1 a := by
  rintro ⟨i, o', hi, hs, hg⟩
  obtain ⟨ψ, e, nn⟩ := p.pre
  rw [e] at hi
  by_cases hl : i < φ.length
  · rw [List.getElem?_append_left hl] at hi
    have hl2 : i < st.length := by rw [← s.len]; exact hl
    obtain ⟨o2, ho2⟩ : ∃ o2, st[i]? = some o2 := ⟨_, List.getElem?_eq_getElem hl2⟩
    refine n ⟨i, o2, hi, ho2, fun q => ?_⟩
    rw [q] at ho2
    rw [p.gone i ho2] at hs
    exact hg (Option.some.inj hs).symm
  · rw [List.getElem?_append_right (by omega)] at hi
    exact (nn a (List.mem_of_getElem? hi)).no h (by intro ps q; cases q)
theorem keep_own {vs : List V} {u : HO} (h : H a = some (.lst vs)) : Keep H (upd H a u) :=
  ⟨fun c xs e => (by
    rw [upd_ne]
    · exact e
    · rintro rfl; rw [h] at e; cases e), fun c o w e => (by
    rw [upd_ne]
    · exact e
    · rintro rfl; rw [h] at e; cases e)⟩
/-- a list of our own, no part of the store -/
theorem StOk.own {vs : List V} {u : HO} (s : StOk K φ st H) (n : ¬ live φ st a) (h : H a = some (.lst vs)) : StOk K φ st (upd H a u) :=
  ⟨s.len, s.nd, fun i b xs h1 h2 => by
    obtain ⟨ws, e, r⟩ := s.lst i b xs h1 h2
    exact ⟨ws, (by
      rw [upd_ne]
      · exact e
      · rintro rfl; exact n ⟨i, _, h1, h2, by simp⟩), r.keep (keep_own h)⟩, s.dct⟩
theorem tabs_own {vs : List V} {u : HO} (h : H a = some (.lst vs)) (t : LamX.Tabs T H) : LamX.Tabs T (upd H a u) :=
  tabs_ext (fun b o e ne => by
    rw [upd_ne]
    · exact e
    · rintro rfl; rw [h] at e; cases e; exact absurd rfl (ne vs)) t
theorem Step.own {vs : List V} {u : HO} (p : Step T φ st H φ1 st1 H1) (n : Fr H a) (h : H1 a = some (.lst vs)) : Step T φ st H φ1 st1 (upd H1 a u) :=
  ⟨p.pre, p.gone, fun b o e nt nl => (by
    rw [upd_ne]
    · exact p.ext b o e nt nl
    · rintro rfl; exact n.no e nt), fun b e => (by
    by_cases hb : b = a
    · subst hb; exact n
    · exact p.dom b fun o q => e o (by rw [upd_ne hb]; exact q)), fun t => tabs_own h (p.tab t)⟩
end
theorem wipe_get {σ : L2.St} {j : Nat} : ∀ {vs : List Nat}, j ∈ vs → (L2.wipe σ vs)[j]? = if j < σ.length then some none else none
  | v :: vs, h => by
    show ((L2.wipe σ vs).set v none)[j]? = _
    by_cases hv : v = j
    · subst hv
      by_cases hl : v < σ.length
      · rw [List.getElem?_set_self (by rw [L2.wipe_length]; exact hl), if_pos hl]
      · rw [List.getElem?_eq_none (by rw [List.length_set, L2.wipe_length]; omega), if_neg hl]
    · rw [List.getElem?_set_ne hv]
      rcases List.mem_cons.mp h with e | h
      · exact absurd e.symm hv
      · exact wipe_get h
theorem wipe_agree {own l : List Nat} {σ σ2 : L2.St} (h : AgreeBut l (L2.wipe σ own) σ2) (hs : ∀ j ∈ l, j ∈ own) : L2.wipe σ2 own = L2.wipe σ own := by
  have hl : σ2.length = σ.length := h.1.trans (L2.wipe_length _ _)
  apply List.ext_getElem?
  intro j
  by_cases hj : j ∈ own
  · rw [wipe_get hj, wipe_get hj, hl]
  · rw [L2.wipe_out hj, h.2 j fun hm => hj (hs j hm), L2.wipe_out hj]
/-- a clause's tests -/
def tC (z : Cz) (f : Ev) (c : Option E) : TT := fun σ H Q => ∃ φ lo st, StOk z.K φ st H ∧ SimL z.K φ H lo σ ∧ LamX.Tabs z.T H ∧ Post z φ st H (evC f c lo st) fun b _ _ H' => Q b H'
def SC (X : Cx) (z : Cz) (cf : CF) (ifs : List Expr) (c : Option E) : Prop := ∀ m, PTs X ifs (tC z (ev cf m) c)
theorem _root_.L2.PTs.imp {X : Cx} {e : List Expr} {t t' : TT} (h : PTs X e t) (m : ∀ σ H Q, t' σ H Q → t σ H Q) : PTs X e t' := ⟨fun pins s σ H Q I q => h.run pins s σ H Q I (m σ H Q q)⟩
section
variable {X : Cx} {z : Cz} {cf : CF} {gl : List (Str × Gk)} {k : Nat} {f : Ev} {σ : L2.St} {H : Hp} {φ : List Addr} {st : Sto} {lo : Lo}
theorem sc_nil : SC X z cf [] none := fun m => L2.PTs.imp pts_nil fun σ H Q ⟨φ, lo, st, s, l, t, p⟩ => Post.here s p
theorem sc_one {e : Expr} {ir : E} (h : ST X z cf e ir) : SC X z cf [e] (some ir) := fun m => L2.PTs.imp (pts_one (h m)) fun σ H Q q => q
/-- Q, or a new list that may be locked -/
def orL (Q : VK) : VK := fun v H' => Q v H' ∨ ∃ a vs, v = .ref a ∧ H' a = some (.lst vs) ∧ ∀ o, Q v (upd H' a (.frz o (.lst vs)))
theorem lcL_cons {own : List Nat} {t : Tg} {c : Option E} {e : E} {x : D} {xs : List D} {rest : List D} {stf : Sto} (h : lcL f own t c e lo (x :: xs) st = .ok rest stf) :
    ∃ lo', bindT t x (wipeL own lo) = some lo' ∧ ∃ b st1, evC f c lo' st = .ok b st1 ∧ match b with
      | true => ∃ y st2 ys, evP f e lo' st1 = .ok y st2 ∧ lcL f own t c e lo xs st2 = .ok ys stf ∧ rest = y :: ys
      | false => lcL f own t c e lo xs st1 = .ok rest stf := by
  simp only [lcL] at h
  split at h
  · cases h
  · rename_i lo' e1
    refine ⟨lo', e1, ?_⟩
    split at h
    · rename_i st1 e2
      refine ⟨true, st1, e2, ?_⟩
      split at h
      · rename_i y st2 e3
        split at h
        · rename_i ys st3 e4
          cases h
          exact ⟨y, st2, ys, e3, e4, rfl⟩
        · cases h
      · cases h
    · rename_i st1 e2
      exact ⟨false, st1, e2, h⟩
    · cases h
/-- one clause's turns -/
theorem lc_read {K : PySem.W.Frag} {own : List Nat} {t : Tg} {it : It} {c : Option E} {e : E} {R : VK} {P : RV → List Addr → Sto → Hp → Prop} (hK : K = z.K) (hown : ∀ j ∈ tgN t, j ∈ own) (s : StOk z.K φ st H) (l : SimL z.K φ H lo σ) (tb : LamX.Tabs z.T H)
    (p : Post z φ st H ((evIt f it lo st).bind fun xs st => if szOk xs.length then (match lcL f own t c e lo xs st with
    | .ok ys st => ret (.list ys) st
    | _ => .no) else .no) P)
    (hR : ∀ φ1 st1 H1 D vs ys φ' stf H', StOk z.K φ1 st1 H1 → H1 D = none → Fr H D → Step z.T φ1 st1 H1 φ' stf H' → Step z.T φ st H φ' stf H' → StOk z.K φ' stf H' → ¬ live φ' stf D → H' D = some (.lst vs) → RpL z.K H' vs ys → Post z φ1 st1 H1 (ret (.list ys) stf) P → R (.ref D) H') :
    tLc (tW z f it) (gT K t) (tC z.nox f c) (tE z.nox f e) own σ H R := by
  refine ⟨φ, lo, st, s, l, tb, (Post.bind s p).mono fun ds φ1 st1 H1 p1 s1 ⟨_, _, h1⟩ J wk D hD => ?_⟩
  obtain ⟨hz, h1⟩ := ite_no h1
  cases hl : lcL f own t c e lo ds st1 with
  | no => rw [hl] at h1; exact (h1 : False).elim
  | ex c' xs st' => rw [hl] at h1; exact (h1 : False).elim
  | ok ys stf =>
  rw [hl] at h1
  have l1 := l.step s p1
  have tb1 := p1.tab tb
  refine ⟨fun i m H' => m = ds.length - i ∧ i ≤ ds.length ∧ ∃ φ' st' dn rest vs, lcL f own t c e lo (ds.drop i) st' = .ok rest stf ∧ dn ++ rest = ys ∧ H' D = some (.lst vs) ∧ RpL z.K H' vs dn ∧ vs.length ≤ i ∧
    Step z.T φ1 st1 H1 φ' st' H' ∧ StOk z.K φ' st' H' ∧ ¬ live φ' st' D, ⟨ds.length, rfl, Nat.zero_le _, φ1, st1, [], ys, [], hl, rfl, upd_same, .nil, Nat.le_refl _, Step.grow (upd_old hD), s1.grow (upd_old hD), dead_none s1 hD⟩, ?_⟩
  rintro i m H' ⟨rfl, hi, φ', st', dn, rest, vs, hr, hys, hd, rl, hvl, p2, s2, nl⟩
  have k2 := p2.keep s1
  by_cases hlt : i < ds.length
  · refine .inr ⟨wk.go i H' k2 hlt, _, fun H' w => ⟨ds.length - (i + 1), by omega, w⟩, fun x H'' hy => ?_⟩
    obtain ⟨d, hd1, rx, gr⟩ := wk.yl i H' x H'' k2 hy hlt
    have hdrop : ds.drop i = d :: ds.drop (i + 1) := by
      rw [List.drop_eq_getElem_cons hlt]
      congr 1
      rw [List.getElem?_eq_getElem hlt] at hd1
      exact Option.some.inj hd1
    rw [hdrop] at hr
    obtain ⟨lo', hb, b, st3, hc, hr⟩ := lcL_cons hr
    -- the heap with the new item
    have p3 : Step z.T φ' st' H' φ' st' H'' := Step.grow gr
    have s3 := s2.grow gr
    have l3 : SimL z.K φ' H'' (wipeL own lo) (L2.wipe σ own) := (((l1.step s1 p2).step s2 p3).wipe own)
    have hd3 : H'' D = some (.lst vs) := gr _ _ hd
    have rl3 := rl.keep (p3.keep s2)
    have tb3 := p3.tab (p2.tab tb1)
    have p13 := p2.trans s1 s2 p3
    rw [hK]
    refine tg_ok t hb rx l3 fun σ2 l4 ag => ⟨wipe_agree ag hown, φ', lo', st', s3, l4, tb3, ?_⟩
    rw [hc]
    intro φ4 H4 p4 s4
    have nl4 := Step.dead s3 p4 hd3 nl
    have hd4 : H4 D = some (.lst vs) := p4.ext D _ hd3 (by intro ps q; cases q) nl
    have rl4 := rl3.keep (p4.keep s3)
    have p14 := p13.trans s1 s3 p4
    have tb4 := p4.tab tb3
    cases b with
    | false =>
      simp only [Bool.false_eq_true, if_false]
      exact ⟨trivial, hlt, φ4, st3, dn, rest, vs, hr, hys, hd4, rl4, by omega, p14, s4, nl4⟩
    | true =>
      simp only [if_true]
      obtain ⟨y, st5, ys', he, hr2, hr3⟩ := hr
      subst hr3
      have he' : f e lo' st3 = .ok (.d y) st5 := by
        unfold evP at he
        cases hq : f e lo' st3 with
        | no => rw [hq] at he; cases he
        | ex c' xs st' => rw [hq] at he; cases he
        | ok x st' =>
          rw [hq] at he
          cases x with
          | d y' => cases he; rfl
          | r i => cases he
      refine ⟨φ4, lo', st3, s4, l4.step s3 p4, tb4, ?_⟩
      rw [he']
      intro φ5 H5 p5 s5 v rv
      have rv : Rp z.K H5 v y := rv
      have nl5 := Step.dead s4 p5 hd4 nl4
      have hd5 : H5 D = some (.lst vs) := p5.ext D _ hd4 (by intro ps q; cases q) nl4
      have rl5 := rl4.keep (p5.keep s4)
      have p15 := p14.trans s1 s4 p5
      refine ⟨vs, hd5, ?_, trivial, hlt, φ5, st5, dn ++ [y], ys', vs ++ [v], hr2, by simpa using hys, upd_same, (rl5.append (.cons rv .nil)).keep (keep_own hd5), by simp; omega, p15.own (.of hD) hd5, s5.own nl5 hd5, nl5⟩
      have := szOk_le hz
      have : ds.length ≤ sizeLine := by first | exact this | omega
      omega
  · have he : i = ds.length := by omega
    subst he
    rw [List.drop_length] at hr
    simp only [lcL, Rs.ok.injEq] at hr
    obtain ⟨hr1, hr2⟩ := hr
    subst hr1 hr2
    rw [List.append_nil] at hys
    subst hys
    exact .inl ⟨wk.st _ H' k2 (Nat.le_refl _), hR φ1 st1 H1 D vs _ φ' _ H' s1 hD (p1.dom D (.of hD)) p2 (p1.trans s s1 p2) s2 nl hd rl h1⟩
/-- the new list is locked -/
theorem lock_read {Q : VK} {φ1 : List Addr} {st1 : Sto} {H1 : Hp} {D : Addr} {vs : List V} {ys : List Sm.D} {φ' : List Addr} {stf : Sto} {H' : Hp} (s1 : StOk z.K φ1 st1 H1) (hD : H1 D = none) (p2 : Step z.T φ1 st1 H1 φ' stf H') (s2 : StOk z.K φ' stf H') (nl : ¬ live φ' stf D) (hd : H' D = some (.lst vs)) (rl : RpL z.K H' vs ys)
    (h1 : Post z φ1 st1 H1 (ret (.list ys) stf) fun x φ' _ H' => ∀ v, RpR z.K φ' H' v x → Q v H') (o : Obj) : Q (.ref D) (upd H' D (.frz o (.lst vs))) :=
  h1 φ' _ (p2.own (.of hD) hd) (s2.own nl hd) (.ref D) (Rp.lst (.inl ⟨o, upd_same⟩) (rl.keep (keep_own hd)))
/-- a list that is made, as it comes -/
def tU (z : Cz) (f : Ev) (e : E) : TE := fun σ H Q => ∃ φ lo st, StOk z.K φ st H ∧ SimL z.K φ H lo σ ∧ LamX.Tabs z.T H ∧ Post z φ st H (f e lo st) fun x φ' st' H' => ∃ xs, x = .d (.list xs) ∧ ∀ p vs, H' p = some (.lst vs) → ¬ live φ' st' p → Fr H p → RpL z.K H' vs xs → Q (.ref p) H'
end
end Sm

set_option Elab.async false
set_option linter.all false
set_option maxRecDepth 100000
set_option maxHeartbeats 1000000
/-! SmO: list comprehensions of two clauses; as values. -/
namespace Sm
open PySem PySem.Spec PyProof.Rows L2
section
variable {X : Cx} {z : Cz} {cf : CF} {gl : List (Str × Gk)} {k : Nat} {f : Ev} {σ : L2.St} {H : Hp} {φ : List Addr} {st : Sto} {lo : Lo}
theorem evP_ok {e : E} {lo' : Lo} {st3 st5 : Sto} {y : D} (he : evP f e lo' st3 = .ok y st5) : f e lo' st3 = .ok (.d y) st5 := by
  unfold evP at he
  cases hq : f e lo' st3 with
  | no => rw [hq] at he; cases he
  | ex c' xs st' => rw [hq] at he; cases he
  | ok x st' =>
    rw [hq] at he
    cases x with
    | d y' => cases he; rfl
    | r i => cases he
theorem lc2L_cons {own own1 : List Nat} {t t1 : Tg} {it1 : It} {c c1 : Option E} {e : E} {x : D} {xs : List D} {rest : List D} {stf : Sto} (h : lc2L f own own1 t c t1 it1 c1 e lo (x :: xs) st = .ok rest stf) :
    ∃ lo', bindT t x (wipeL own lo) = some lo' ∧ ∃ b st1, evC f c lo' st = .ok b st1 ∧ match b with
      | true => ∃ zs st2 ys st3 ys', evIt f it1 lo' st1 = .ok zs st2 ∧ lcL f own1 t1 c1 e lo' zs st2 = .ok ys st3 ∧ lc2L f own own1 t c t1 it1 c1 e lo xs st3 = .ok ys' stf ∧ rest = ys ++ ys'
      | false => lc2L f own own1 t c t1 it1 c1 e lo xs st1 = .ok rest stf := by
  simp only [lc2L] at h
  split at h
  · cases h
  · rename_i lo' e1
    refine ⟨lo', e1, ?_⟩
    split at h
    · rename_i st1 e2
      refine ⟨true, st1, e2, ?_⟩
      split at h
      · rename_i zs st2 e3
        split at h
        · rename_i ys st3 e4
          split at h
          · rename_i ys' st4 e5
            cases h
            exact ⟨zs, st2, ys, st3, ys', e3, e4, e5, rfl⟩
          · cases h
        · cases h
      · cases h
    · rename_i st1 e2
      exact ⟨false, st1, e2, h⟩
    · cases h
theorem drop_cons {ds : List D} {i : Nat} {d : D} (h : ds[i]? = some d) : ds.drop i = d :: ds.drop (i + 1) := by
  obtain ⟨hlt, e⟩ := List.getElem?_eq_some_iff.mp h
  rw [List.drop_eq_getElem_cons hlt, e]
/-- two clauses' turns -/
theorem lc2_read {K : PySem.W.Frag} {own own1 : List Nat} {t t1 : Tg} {it it1 : It} {c c1 : Option E} {e : E} {R : VK} {P : RV → List Addr → Sto → Hp → Prop} (hK : K = z.K) (hown : ∀ j ∈ tgN t, j ∈ own) (hown1 : ∀ j ∈ tgN t1, j ∈ own1) (s : StOk z.K φ st H) (l : SimL z.K φ H lo σ) (tb : LamX.Tabs z.T H)
    (p : Post z φ st H ((evIt f it lo st).bind fun xs st => match lc2L f own own1 t c t1 it1 c1 e lo xs st with
    | .ok ys st => if szOk ys.length then ret (.list ys) st else .no
    | _ => .no) P)
    (hR : ∀ φ1 st1 H1 D vs ys φ' stf H', StOk z.K φ1 st1 H1 → H1 D = none → Fr H D → Step z.T φ1 st1 H1 φ' stf H' → Step z.T φ st H φ' stf H' → StOk z.K φ' stf H' → ¬ live φ' stf D → H' D = some (.lst vs) → RpL z.K H' vs ys → Post z φ1 st1 H1 (ret (.list ys) stf) P → R (.ref D) H') :
    tLc2 (tW z f it) (gT K t) (tC z.nox f c) (tW z.nox f it1) (gT K t1) (tC z.nox f c1) (tE z.nox f e) own own1 σ H R := by
  refine ⟨φ, lo, st, s, l, tb, (Post.bind s p).mono fun ds φ1 st1 H1 p1 s1 ⟨_, _, h1⟩ J wk D hD => ?_⟩
  cases hl : lc2L f own own1 t c t1 it1 c1 e lo ds st1 with
  | no => rw [hl] at h1; exact (h1 : False).elim
  | ex c' xs st' => rw [hl] at h1; exact (h1 : False).elim
  | ok ys stf =>
  rw [hl] at h1
  obtain ⟨hz, h1⟩ := ite_no h1
  have hz := szOk_le hz
  have l1 := l.step s p1
  have tb1 := p1.tab tb
  refine ⟨fun i m H' => m = ds.length - i ∧ i ≤ ds.length ∧ ∃ φ' st' dn rest vs, lc2L f own own1 t c t1 it1 c1 e lo (ds.drop i) st' = .ok rest stf ∧ dn ++ rest = ys ∧ H' D = some (.lst vs) ∧ RpL z.K H' vs dn ∧
    Step z.T φ1 st1 H1 φ' st' H' ∧ StOk z.K φ' st' H' ∧ ¬ live φ' st' D, ⟨ds.length, rfl, Nat.zero_le _, φ1, st1, [], ys, [], hl, rfl, upd_same, .nil, Step.grow (upd_old hD), s1.grow (upd_old hD), dead_none s1 hD⟩, ?_⟩
  rintro i m H' ⟨rfl, hi, φ', st', dn, rest, vs, hr, hys, hd, rl, p2, s2, nl⟩
  have k2 := p2.keep s1
  by_cases hlt : i < ds.length
  · refine .inr ⟨wk.go i H' k2 hlt, _, fun H' w => ⟨ds.length - (i + 1), by omega, w⟩, fun x H'' hy => ?_⟩
    obtain ⟨d, hd1, rx, gr⟩ := wk.yl i H' x H'' k2 hy hlt
    rw [drop_cons hd1] at hr
    obtain ⟨lo', hb, b, st3, hc, hr⟩ := lc2L_cons hr
    have p3 : Step z.T φ' st' H' φ' st' H'' := Step.grow gr
    have s3 := s2.grow gr
    have l3 : SimL z.K φ' H'' (wipeL own lo) (L2.wipe σ own) := (((l1.step s1 p2).step s2 p3).wipe own)
    have hd3 : H'' D = some (.lst vs) := gr _ _ hd
    have rl3 := rl.keep (p3.keep s2)
    have tb3 := p3.tab (p2.tab tb1)
    have p13 := p2.trans s1 s2 p3
    rw [hK]
    refine tg_ok t hb rx l3 fun σ2 l4 ag => ⟨wipe_agree ag hown, φ', lo', st', s3, l4, tb3, ?_⟩
    rw [hc]
    intro φ4 H4 p4 s4
    have nl4 := Step.dead s3 p4 hd3 nl
    have hd4 : H4 D = some (.lst vs) := p4.ext D _ hd3 (by intro ps q; cases q) nl
    have rl4 := rl3.keep (p4.keep s3)
    have p14 := p13.trans s1 s3 p4
    have tb4 := p4.tab tb3
    have l44 := l4.step s3 p4
    cases b with
    | false =>
      simp only [Bool.false_eq_true, if_false]
      exact ⟨trivial, hlt, φ4, st3, dn, rest, vs, hr, hys, hd4, rl4, p14, s4, nl4⟩
    | true =>
      simp only [if_true]
      obtain ⟨zs, st5, ys1, st6, ys2, he, hr1, hr2, hr3⟩ := hr
      subst hr3
      refine ⟨φ4, lo', st3, s4, l44, tb4, ?_⟩
      rw [he]
      intro φ5 H5 p5 s5 J1 wk1
      have nl5 := Step.dead s4 p5 hd4 nl4
      have hd5 : H5 D = some (.lst vs) := p5.ext D _ hd4 (by intro ps q; cases q) nl4
      have rl5 := rl4.keep (p5.keep s4)
      have p15 := p14.trans s1 s4 p5
      have l5 := l44.step s4 p5
      have tb5 := p5.tab tb4
      refine ⟨fun j m H' => m = zs.length - j ∧ j ≤ zs.length ∧ ∃ φ' st' dn rest vs, lcL f own1 t1 c1 e lo' (zs.drop j) st' = .ok rest st6 ∧ (dn ++ rest) ++ ys2 = ys ∧ H' D = some (.lst vs) ∧ RpL z.K H' vs dn ∧
        Step z.T φ1 st1 H1 φ' st' H' ∧ Keep H5 H' ∧ SimL z.K φ' H' lo' σ2 ∧ StOk z.K φ' st' H' ∧ ¬ live φ' st' D ∧ LamX.Tabs z.T H', ⟨zs.length, rfl, Nat.zero_le _, φ5, st5, dn, ys1, vs, hr1, by simpa using hys, hd5, rl5, p15, .refl _, l5, s5, nl5, tb5⟩, ?_⟩
      rintro j m K' ⟨rfl, hj, φ6, st7, dn', rest', vs', hr6, hys6, hd6, rl6, p6, k6, l6, s6, nl6, tb6⟩
      by_cases hjt : j < zs.length
      · refine .inr ⟨wk1.go j K' k6 hjt, _, fun H' w => ⟨zs.length - (j + 1), by omega, w⟩, fun x' K'' hy' => ?_⟩
        obtain ⟨d', hd1', rx', gr'⟩ := wk1.yl j K' x' K'' k6 hy' hjt
        rw [drop_cons hd1'] at hr6
        obtain ⟨lo7, hb7, b7, st8, hc7, hr7⟩ := lcL_cons hr6
        have p7 : Step z.T φ6 st7 K' φ6 st7 K'' := Step.grow gr'
        have s7 := s6.grow gr'
        have l7' := l6.step s6 p7
        have l7 : SimL z.K φ6 K'' (wipeL own1 lo') (L2.wipe σ2 own1) := l7'.wipe own1
        have hd7 : K'' D = some (.lst vs') := gr' _ _ hd6
        have rl7 := rl6.keep (p7.keep s6)
        have tb7 := p7.tab tb6
        have p17 := p6.trans s1 s6 p7
        have k7 := k6.trans (p7.keep s6)
        refine tg_ok t1 hb7 rx' l7 fun σ8 l8 ag8 => ⟨wipe_agree ag8 hown1, φ6, lo7, st7, s7, l8, tb7, ?_⟩
        rw [hc7]
        intro φ9 H9 p9 s9
        have nl9 := Step.dead s7 p9 hd7 nl6
        have hd9 : H9 D = some (.lst vs') := p9.ext D _ hd7 (by intro ps q; cases q) nl6
        have rl9 := rl7.keep (p9.keep s7)
        have p19 := p17.trans s1 s7 p9
        have tb9 := p9.tab tb7
        have k9 := k7.trans (p9.keep s7)
        have l9 := l7'.step s7 p9
        cases b7 with
        | false =>
          simp only [Bool.false_eq_true, if_false]
          exact ⟨trivial, hjt, φ9, st8, dn', rest', vs', hr7, hys6, hd9, rl9, p19, k9, l9, s9, nl9, tb9⟩
        | true =>
          simp only [if_true]
          obtain ⟨y, st10, ys3, he10, hr10, hr11⟩ := hr7
          subst hr11
          refine ⟨φ9, lo7, st8, s9, l8.step s7 p9, tb9, ?_⟩
          rw [evP_ok he10]
          intro φa Ha pa sa v rv
          have rv : Rp z.K Ha v y := rv
          have nla := Step.dead s9 pa hd9 nl9
          have hda : Ha D = some (.lst vs') := pa.ext D _ hd9 (by intro ps q; cases q) nl9
          have rla := rl9.keep (pa.keep s9)
          have p1a := p19.trans s1 s9 pa
          have ka := k9.trans (pa.keep s9)
          have la := l9.step s9 pa
          have taba := pa.tab tb9
          refine ⟨vs', hda, ?_, trivial, hjt, φa, st10, dn' ++ [y], ys3, vs' ++ [v], hr10, by simpa using hys6, upd_same, (rla.append (.cons rv .nil)).keep (keep_own hda), p1a.own (.of hD) hda, ka.trans (keep_own hda), ⟨la.len, fun i x e => ?_⟩, sa.own nla hda, nla, tabs_own hda taba⟩
          · have h1 := rla.length
            have h2 : (dn' ++ y :: ys3 ++ ys2).length = ys.length := by rw [hys6]
            simp only [List.length_append, List.length_cons] at h2
            omega
          · obtain ⟨w, q1, q2⟩ := la.get i x e
            refine ⟨w, q1, ?_⟩
            cases x with
            | d x => exact Rp.keep (keep_own hda) q2
            | r i => exact q2
      · have he : j = zs.length := by omega
        subst he
        rw [List.drop_length] at hr6
        simp only [lcL, Rs.ok.injEq] at hr6
        obtain ⟨e1, e2⟩ := hr6
        subst e1 e2
        rw [List.append_nil] at hys6
        exact .inl ⟨wk1.st _ K' k6 (Nat.le_refl _), trivial, hlt, φ6, st7, dn', ys2, vs', hr2, hys6, hd6, rl6, p6, s6, nl6⟩
  · have he : i = ds.length := by omega
    subst he
    rw [List.drop_length] at hr
    simp only [lc2L, Rs.ok.injEq] at hr
    obtain ⟨hr1, hr2⟩ := hr
    subst hr1 hr2
    rw [List.append_nil] at hys
    subst hys
    exact .inl ⟨wk.st _ H' k2 (Nat.le_refl _), hR φ1 st1 H1 D vs _ φ' _ H' s1 hD (p1.dom D (.of hD)) p2 (p1.trans s s1 p2) s2 nl hd rl h1⟩
/-! ### as values -/
theorem fold_of {e : Expr} (h : ∀ es n p, e ≠ .Set es n p) (env : Env) (x : Value) : foldedSetIterable e env x = pure x := by
  cases e with
  | Set es n p => exact absurd rfl (h es n p)
  | _ => rfl
/-- what holds in each block of a comprehension -/
def InBlk (X : Cx) (scope : Scope) (P : Cx → Prop) : Prop := ∀ (s : Shared) (H : Hp) (C : Addr) (cl : List (Str × Addr)) (fp : List Addr), P (X.blk s H scope (compEnvC scope cl C X.env) fp)
/-- a comprehension's parts are good -/
structure LcOk (X : Cx) (z : Cz) (cf : CF) (elt tg iter : Expr) (ifs : List Expr) (scope : Scope) (own : List (Str × Nat)) (t : Tg) (it : It) (c : Option E) (e : E) : Prop where
  hb : blkC X.N X.env.scope scope own = true
  hset : ∀ es n p, iter ≠ .Set es n p
  hown : ∀ j ∈ tgN t, j ∈ own.map (·.2)
  hi : SW X z cf tg iter it
  hg : InBlk X scope fun Y => PG Y tg (gT X.K t)
  hc : InBlk X scope fun Y => SC Y z.nox cf ifs c
  he : InBlk X scope fun Y => SE Y z.nox cf elt e
structure Lc2Ok (X : Cx) (z : Cz) (cf : CF) (elt tg iter tg1 iter1 : Expr) (ifs ifs1 : List Expr) (scope : Scope) (own : List (Str × Nat)) (own1 : List Nat) (t t1 : Tg) (it it1 : It) (c c1 : Option E) (e : E) : Prop where
  hb : blkC X.N X.env.scope scope own = true
  hset : ∀ es n p, iter ≠ .Set es n p
  hset1 : ∀ es n p, iter1 ≠ .Set es n p
  hown : ∀ j ∈ tgN t, j ∈ own.map (·.2)
  hown1 : ∀ j ∈ tgN t1, j ∈ own1
  hv : ∀ j ∈ own1, j ∈ own.map (·.2)
  hi : SW X z cf tg iter it
  hg : InBlk X scope fun Y => PG Y tg (gT X.K t)
  hc : InBlk X scope fun Y => SC Y z.nox cf ifs c
  hi1 : InBlk X scope fun Y => SW Y z.nox cf tg1 iter1 it1
  hg1 : InBlk X scope fun Y => PG Y tg1 (gT X.K t1)
  hc1 : InBlk X scope fun Y => SC Y z.nox cf ifs1 c1
  he : InBlk X scope fun Y => SE Y z.nox cf elt e
/-- a new list, as it comes -/
def SU (X : Cx) (z : Cz) (cf : CF) (e : Expr) (ir : E) : Prop := ∀ m, PE X e (tU z (ev cf m) ir)
theorem SU.of {e : Expr} {ir : E} (h : ∀ m, PE X e (tU z (evF cf (ev cf m)) ir)) : SU X z cf e ir := fun m => by
  cases m with
  | zero => exact ⟨fun pins s σ H Q I q => by
      obtain ⟨φ, lo, st, _, _, _, p⟩ := q
      exact (p : False).elim⟩
  | succ m => exact h m
section
variable {elt tg iter tg1 iter1 : Expr} {ifs ifs1 : List Expr} {scope : Scope} {own : List (Str × Nat)} {own1 : List Nat} {pos : Pos} {t t1 : Tg} {it it1 : It} {c c1 : Option E} {e : E}
theorem pe_lcS (o : Ok X z cf gl k) (h : LcOk X z cf elt tg iter ifs scope own t it c e) (m : Nat) : PE X (.ListComp elt [⟨tg, iter, ifs, 0⟩] scope pos) (tLc (tW z (ev cf m) it) (gT X.K t) (tC z.nox (ev cf m) c) (tE z.nox (ev cf m) e) (own.map (·.2))) :=
  pe_lc o.calm o.nd (h.hi m) (blkOk_by h.hb) h.hg (fun s H C cl fp => h.hc s H C cl fp m) (fun s H C cl fp => h.he s H C cl fp m) (fun x => fold_of h.hset _ x)
theorem se_lc (o : Ok X z cf gl k) (h : LcOk X z cf elt tg iter ifs scope own t it c e) : SE X z cf (.ListComp elt [⟨tg, iter, ifs, 0⟩] scope pos) (.lc (own.map (·.2)) t it c e) := SE.of fun m =>
  (pe_frz (pe_lcS o h m)).imp fun σ H Q ⟨φ, lo, st, s, l, tb, p⟩ => lc_read o.hK h.hown s l tb p fun φ1 st1 H1 D vs ys φ' stf H' s1 hD h0 p2 p02 s2 nl hd rl h1 => .inr ⟨D, vs, rfl, hd, lock_read s1 hD p2 s2 nl hd rl h1⟩
theorem su_lc (o : Ok X z cf gl k) (h : LcOk X z cf elt tg iter ifs scope own t it c e) : SU X z cf (.ListComp elt [⟨tg, iter, ifs, 0⟩] scope pos) (.lc (own.map (·.2)) t it c e) := SU.of fun m =>
  (pe_lcS o h m).imp fun σ H Q ⟨φ, lo, st, s, l, tb, p⟩ => lc_read o.hK h.hown s l tb p fun φ1 st1 H1 D vs ys φ' stf H' s1 hD h0 p2 p02 s2 nl hd rl h1 => by
    obtain ⟨xs, e, q⟩ := h1 φ' H' p2 s2
    cases e
    exact q D vs hd nl h0 rl
theorem pe_lc2S (o : Ok X z cf gl k) (h : Lc2Ok X z cf elt tg iter tg1 iter1 ifs ifs1 scope own own1 t t1 it it1 c c1 e) (m : Nat) :
    PE X (.ListComp elt [⟨tg, iter, ifs, 0⟩, ⟨tg1, iter1, ifs1, 0⟩] scope pos) (tLc2 (tW z (ev cf m) it) (gT X.K t) (tC z.nox (ev cf m) c) (tW z.nox (ev cf m) it1) (gT X.K t1) (tC z.nox (ev cf m) c1) (tE z.nox (ev cf m) e) (own.map (·.2)) own1) :=
  pe_lc2 o.calm o.nd (h.hi m) (blkOk_by h.hb) h.hv h.hg (fun s H C cl fp => h.hc s H C cl fp m) (fun s H C cl fp => h.hi1 s H C cl fp m) h.hg1 (fun s H C cl fp => h.hc1 s H C cl fp m) (fun s H C cl fp => h.he s H C cl fp m) (fun x => fold_of h.hset _ x) (fun env x => fold_of h.hset1 _ x)
theorem se_lc2 (o : Ok X z cf gl k) (h : Lc2Ok X z cf elt tg iter tg1 iter1 ifs ifs1 scope own own1 t t1 it it1 c c1 e) : SE X z cf (.ListComp elt [⟨tg, iter, ifs, 0⟩, ⟨tg1, iter1, ifs1, 0⟩] scope pos) (.lc2 (own.map (·.2)) own1 t it c t1 it1 c1 e) := SE.of fun m =>
  (pe_frz (pe_lc2S o h m)).imp fun σ H Q ⟨φ, lo, st, s, l, tb, p⟩ => lc2_read o.hK h.hown h.hown1 s l tb p fun φ1 st1 H1 D vs ys φ' stf H' s1 hD h0 p2 p02 s2 nl hd rl h1 => .inr ⟨D, vs, rfl, hd, lock_read s1 hD p2 s2 nl hd rl h1⟩
theorem su_lc2 (o : Ok X z cf gl k) (h : Lc2Ok X z cf elt tg iter tg1 iter1 ifs ifs1 scope own own1 t t1 it it1 c c1 e) : SU X z cf (.ListComp elt [⟨tg, iter, ifs, 0⟩, ⟨tg1, iter1, ifs1, 0⟩] scope pos) (.lc2 (own.map (·.2)) own1 t it c t1 it1 c1 e) := SU.of fun m =>
  (pe_lc2S o h m).imp fun σ H Q ⟨φ, lo, st, s, l, tb, p⟩ => lc2_read o.hK h.hown h.hown1 s l tb p fun φ1 st1 H1 D vs ys φ' stf H' s1 hD h0 p2 p02 s2 nl hd rl h1 => by
    obtain ⟨xs, e, q⟩ := h1 φ' H' p2 s2
    cases e
    exact q D vs hd nl h0 rl
end
end
end Sm

set_option Elab.async false
set_option linter.all false
set_option maxRecDepth 100000
set_option maxHeartbeats 1000000
/-! SmP: new lists in the store; statements. -/
namespace Sm
open PySem PySem.Spec PyProof.Rows L2
section
variable {K : PySem.W.Frag} {T : List (Addr × Str)} {φ φ1 φ2 : List Addr} {st st1 st2 : Sto} {H H1 H2 : Hp} {a : Addr}
/-- one more thing in the store -/
theorem StOk.more {vs : List V} {xs : List D} (s : StOk K φ st H) (h : H a = some (.lst vs)) (n : ¬ live φ st a) (r : RpL K H vs xs) : StOk K (φ ++ [a]) (st ++ [.lst xs]) H := by
  have look : ∀ {i : Nat} {b : Addr} {o : MO}, (φ ++ [a])[i]? = some b → (st ++ [MO.lst xs])[i]? = some o → (i < st.length ∧ φ[i]? = some b ∧ st[i]? = some o) ∨ (i = st.length ∧ b = a ∧ o = .lst xs) := fun {i b o} h1 h2 => by
    by_cases hl : i < st.length
    · rw [List.getElem?_append_left (by rw [s.len]; exact hl)] at h1
      rw [List.getElem?_append_left hl] at h2
      exact .inl ⟨hl, h1, h2⟩
    · rw [List.getElem?_append_right (by rw [s.len]; omega), s.len] at h1
      rw [List.getElem?_append_right (by omega)] at h2
      cases hk : i - st.length with
      | zero =>
        rw [hk] at h1 h2
        simp at h1 h2
        exact .inr ⟨by omega, h1.symm, h2.symm⟩
      | succ k => rw [hk] at h2; simp at h2
  refine ⟨by simp [s.len], fun i j b o o' h1 h2 h3 h4 h5 h6 => ?_, fun i b ys h1 h2 => ?_, fun i b ys h1 h2 => ?_⟩
  · rcases look h1 h3 with ⟨l1, q1, q2⟩ | ⟨l1, rfl, q2⟩ <;> rcases look h2 h4 with ⟨l2, q3, q4⟩ | ⟨l2, e2, q4⟩
    · exact s.nd i j b o o' q1 q3 q2 q4 h5 h6
    · subst e2; exact absurd ⟨i, o, q1, q2, h5⟩ n
    · exact absurd ⟨j, o', q3, q4, h6⟩ n
    · omega
  · rcases look h1 h2 with ⟨l1, q1, q2⟩ | ⟨l1, rfl, q2⟩
    · exact s.lst i b ys q1 q2
    · cases q2; exact ⟨vs, h, r⟩
  · rcases look h1 h2 with ⟨l1, q1, q2⟩ | ⟨l1, rfl, q2⟩
    · exact s.dct i b ys q1 q2
    · cases q2
theorem Step.more {o : MO} (p : Step T φ st H φ1 st1 H1) (n : Fr H a) : Step T φ st H (φ1 ++ [a]) (st1 ++ [o]) H1 := by
  obtain ⟨ψ, e, nn⟩ := p.pre
  refine ⟨⟨ψ ++ [a], by rw [e, List.append_assoc], fun b hb => ?_⟩, fun i h => ?_, p.ext, p.dom, p.tab⟩
  · rcases List.mem_append.mp hb with h | h
    · exact nn b h
    · rw [List.mem_singleton.mp h]; exact n
  · have := p.gone i h
    rw [List.getElem?_append_left (List.getElem?_eq_some_iff.mp this).1]
    exact this
/-- a thing of the store is written -/
theorem StOk.put {i : Nat} {xs ys : List D} {vs : List V} (s : StOk K φ st H) (hi : φ[i]? = some a) (hs : st[i]? = some (.lst xs)) (r : RpL K H vs ys) : StOk K φ (st.set i (.lst ys)) (upd H a (.lst vs)) := by
  obtain ⟨ws, he, _⟩ := s.lst i a xs hi hs
  have hl := (List.getElem?_eq_some_iff.mp hs).1
  have look : ∀ {j : Nat} {o : MO}, (st.set i (.lst ys))[j]? = some o → (j = i ∧ o = .lst ys) ∨ (j ≠ i ∧ st[j]? = some o) := fun {j o} h => by
    by_cases hj : j = i
    · subst hj; rw [List.getElem?_set_self hl] at h; cases h; exact .inl ⟨rfl, rfl⟩
    · rw [List.getElem?_set_ne (Ne.symm hj)] at h; exact .inr ⟨hj, h⟩
  have ori : ∀ {j : Nat} {o : MO}, (st.set i (.lst ys))[j]? = some o → o ≠ .gone → ∃ o', st[j]? = some o' ∧ o' ≠ .gone := fun {j o} h g => by
    rcases look h with ⟨rfl, _⟩ | ⟨_, h⟩
    · exact ⟨_, hs, by simp⟩
    · exact ⟨o, h, g⟩
  refine ⟨by rw [List.length_set]; exact s.len, fun j k b o o' h1 h2 h3 h4 h5 h6 => ?_, fun j b zs h1 h2 => ?_, fun j b zs h1 h2 => ?_⟩
  · obtain ⟨p, p1, p2⟩ := ori h3 h5
    obtain ⟨q, q1, q2⟩ := ori h4 h6
    exact s.nd j k b p q h1 h2 p1 q1 p2 q2
  · rcases look h2 with ⟨rfl, e⟩ | ⟨hj, h⟩
    · cases e
      rw [hi] at h1; cases h1
      exact ⟨vs, upd_same, r.keep (keep_own he)⟩
    · obtain ⟨us, e, r'⟩ := s.lst j b zs h1 h
      refine ⟨us, ?_, r'.keep (keep_own he)⟩
      rw [upd_ne]
      · exact e
      · rintro rfl
        exact hj (s.nd j i b _ _ h1 hi h hs (by simp) (by simp))
  · rcases look h2 with ⟨rfl, e⟩ | ⟨hj, h⟩
    · cases e
    · exact s.dct j b zs h1 h
theorem Step.put {i : Nat} {xs : List D} {u : HO} {o : MO} (s : StOk K φ st H) (hi : φ[i]? = some a) (hs : st[i]? = some (.lst xs)) (hu : ∀ ps, u ≠ .tbl ps) : Step T φ st H φ (st.set i o) (upd H a u) := by
  obtain ⟨ws, he, _⟩ := s.lst i a xs hi hs
  refine ⟨⟨[], by simp, by simp⟩, fun j h => ?_, fun b w e nt nl => ?_, fun b e => ?_, tabs_own he⟩
  · rw [List.getElem?_set_ne]
    · exact h
    · rintro rfl; rw [hs] at h; cases h
  · rw [upd_ne]
    · exact e
    · rintro rfl; exact nl ⟨i, _, hi, hs, by simp⟩
  · intro o' q
    by_cases hb : b = a
    · subst hb
      obtain ⟨ps, eq⟩ := e u (by rw [upd_same])
      exact absurd eq (hu ps)
    · exact e o' (by rw [upd_ne hb]; exact q)
/-- a thing of the store is locked -/
theorem StOk.lock {i : Nat} {xs : List D} {vs : List V} {o : Obj} (s : StOk K φ st H) (hi : φ[i]? = some a) (hs : st[i]? = some (.lst xs)) (he : H a = some (.lst vs)) : StOk K φ (st.set i .gone) (upd H a (.frz o (.lst vs))) := by
  have hl := (List.getElem?_eq_some_iff.mp hs).1
  have look : ∀ {j : Nat} {o : MO}, (st.set i .gone)[j]? = some o → o ≠ .gone → (j ≠ i ∧ st[j]? = some o) := fun {j o} h g => by
    by_cases hj : j = i
    · subst hj; rw [List.getElem?_set_self hl] at h; cases h; exact absurd rfl g
    · rw [List.getElem?_set_ne (Ne.symm hj)] at h; exact ⟨hj, h⟩
  refine ⟨by rw [List.length_set]; exact s.len, fun j k b o o' h1 h2 h3 h4 h5 h6 => ?_, fun j b zs h1 h2 => ?_, fun j b zs h1 h2 => ?_⟩
  · exact s.nd j k b o o' h1 h2 (look h3 h5).2 (look h4 h6).2 h5 h6
  · obtain ⟨hj, h⟩ := look h2 (by simp)
    obtain ⟨us, e, r'⟩ := s.lst j b zs h1 h
    refine ⟨us, ?_, r'.keep (keep_own he)⟩
    rw [upd_ne]
    · exact e
    · rintro rfl
      exact hj (s.nd j i b _ _ h1 hi h hs (by simp) (by simp))
  · exact s.dct j b zs h1 (look h2 (by simp)).2
end
section
variable {X : Cx} {z : Cz} {cf : CF} {gl : List (Str × Gk)} {k : Nat} {f : Ev} {σ : L2.St} {H : Hp} {φ : List Addr} {st : Sto} {lo : Lo}
/-! ### new lists -/
theorem su_lst (o : Ok X z cf gl k) {es : List Expr} {irs : List (Bool × E)} {pos : Pos} (h : SI X z cf es irs) : SU X z cf (.List es pos) (.lst irs) := SU.of fun m =>
  (pe_lst (h m)).imp fun σ H Q ⟨φ, lo, st, s, l, t, p⟩ => by
    obtain h0 := p
    refine tI.bind s l t p fun xs vs φ1 st1 H1 s1 l1 t1 p1 rv h1 => ?_
    obtain ⟨hz, h2⟩ := ite_no h1
    refine ⟨by rw [rv.length]; exact szOk_le hz, fun p hp => ?_⟩
    have nl : ¬ live φ1 st1 p := dead_none s1 hp
    obtain ⟨ys, e, q⟩ := h2 φ1 _ (Step.grow (upd_old hp)) (s1.grow (upd_old hp))
    cases e
    exact q p vs upd_same nl (p1.dom p (.of hp)) (rv.keep (keep_of (upd_old hp)))
theorem se_new (o : Ok X z cf gl k) {e : Expr} {ir : E} (h : SU X z cf e ir) : SE X z cf e (.new ir) := SE.of fun m => (h m).imp fun σ H Q ⟨φ, lo, st, s, l, t, p⟩ => by
  have p : Post z φ st H ((evP (ev cf m) ir lo st).bind fun x st => match x with
    | .list xs => .ok (.r st.length) (st ++ [.lst xs])
    | _ => .no) (fun x φ' _ H' => ∀ v, RpR z.K φ' H' v x → Q v H') := p
  refine ⟨φ, lo, st, s, l, t, ?_⟩
  unfold evP at p
  cases hf : ev cf m ir lo st with
  | no => rw [hf] at p; exact p
  | ex c' xs' st' => rw [hf] at p; exact p
  | ok x st1 =>
    rw [hf] at p
    intro φ1 H1 p1 s1
    cases x with
    | r i => exact (p : False).elim
    | d x =>
      cases x with
      | list xs =>
        refine ⟨xs, rfl, fun q vs hq nl hn rl => ?_⟩
        have p : Post z φ st H (.ok (.r st1.length) (st1 ++ [.lst xs])) (fun x φ' _ H' => ∀ v, RpR z.K φ' H' v x → Q v H') := p
        exact p (φ1 ++ [q]) H1 (p1.more hn) (s1.more hq nl rl) (.ref q) ⟨q, by rw [← s1.len]; simp, rfl⟩
      | _ => exact (p : False).elim
/-! ### statements -/
def flQ (z : Cz) (D : Ends) : Fl → List Addr → Sto → Hp → Prop := fun fl φ' _ H' => match fl with
  | .nx lo' => ∀ σ', SimL z.K φ' H' lo' σ' → D.nx σ' H'
  | .rt x => ∀ v, Rp z.K H' v x → D.rt v H'
  | .bk lo' => ∀ σ', SimL z.K φ' H' lo' σ' → D.bk σ' H'
  | .ct lo' => ∀ σ', SimL z.K φ' H' lo' σ' → D.ct σ' H'
def tS (z : Cz) (ex : Lo → Sto → Rs Fl) : TS := fun D σ H => ∃ φ lo st, StOk z.K φ st H ∧ SimL z.K φ H lo σ ∧ LamX.Tabs z.T H ∧ Post z φ st H (ex lo st) (flQ z D)
theorem _root_.L2.PS.imp {X : Cx} {e : Stmt} {t t' : TS} (h : PS X e t) (m : ∀ D σ H, t' D σ H → t D σ H) : PS X e t' := ⟨fun pins s σ H D I q => h.run pins s σ H D I (m D σ H q)⟩
theorem _root_.L2.PSs.imp {X : Cx} {e : List Stmt} {t t' : TS} (h : PSs X e t) (m : ∀ D σ H, t' D σ H → t D σ H) : PSs X e t' := ⟨fun pins s σ H D I q => h.run pins s σ H D I (m D σ H q)⟩
/-- one statement, its blocks at level n -/
def SS (X : Cx) (z : Cz) (cf : CF) (s : Stmt) (ir : S) : Prop := ∀ n, PS X s (tS z (exF cf EN (exN cf EN n) ir))
def SB (X : Cx) (z : Cz) (cf : CF) (ss : List Stmt) (irs : List S) : Prop := ∀ n, PSs X ss (tS z (exs (exN cf EN n) irs))
def goOn (g : Lo → Sto → Rs Fl) : Fl → Sto → Rs Fl := fun fl st => match fl with
  | .nx lo => g lo st
  | fl => .ok fl st
theorem exs_cons (ff : Ex) (s : S) (r : List S) (lo : Lo) (st : Sto) : exs ff (s :: r) lo st = (ff s lo st).bind (goOn (exs ff r)) := by
  simp only [exs]
  cases h : ff s lo st with
  | no => rfl
  | ex c xs st => rfl
  | ok fl st => cases fl <;> rfl
theorem Post.fl {D : Ends} {fl : Fl} (s : StOk z.K φ st H) (h : Post z φ st H (.ok fl st) (flQ z D)) : flQ z D fl φ st H := Post.here s h
/-- a statement's end, with what goes on behind it -/
theorem Post.cont {D : Ends} {r : Rs Fl} {g : Lo → Sto → Rs Fl} (s : StOk z.K φ st H) (t : LamX.Tabs z.T H) (h : Post z φ st H (r.bind (goOn g)) (flQ z D)) : Post z φ st H r (flQ z { D with nx := tS z g D }) :=
  (Post.bind s h).mono fun fl φ1 st1 H1 p1 s1 ⟨_, _, h1⟩ => by
    cases fl with
    | nx lo => exact fun σ' l' => ⟨φ1, lo, st1, s1, l', p1.tab t, h1⟩
    | rt x => exact Post.here s1 h1
    | bk lo => exact Post.here s1 h1
    | ct lo => exact Post.here s1 h1
theorem sb_nil : SB X z cf [] [] := fun n => pss_nil.imp fun D σ H ⟨φ, lo, st, s, l, t, p⟩ => Post.fl s p σ l
theorem sb_cons {s0 : Stmt} {ss : List Stmt} {ir : S} {irs : List S} (h : SS X z cf s0 ir) (hr : SB X z cf ss irs) : SB X z cf (s0 :: ss) (ir :: irs) := fun n => by
  cases n with
  | zero => exact ⟨fun pins s σ H D I ⟨φ, lo, st, _, _, _, p⟩ => (p : False).elim⟩
  | succ n =>
    refine (pss_cons (h n) (hr (n + 1))).imp fun D σ H ⟨φ, lo, st, s, l, t, p⟩ => ?_
    rw [exs_cons] at p
    exact ⟨φ, lo, st, s, l, t, Post.cont s t p⟩
/-- a thing becomes data, between statements -/
theorem sb_frz {ss : List Stmt} {irs : List S} {i : Nat} (hr : SB X z cf ss irs) : SB X z cf ss (.frz i :: irs) := fun n => by
  cases n with
  | zero => exact ⟨fun pins s σ H D I ⟨φ, lo, st, _, _, _, p⟩ => (p : False).elim⟩
  | succ n =>
    refine ⟨fun pins sh σ H D I ⟨φ, lo, st, s, l, t, p⟩ => ?_⟩
    rw [exs_cons] at p
    have p : Post z φ st H ((match lo[i]? with
      | some (some (.r j)) => match st[j]? with
        | some (.lst xs) => (Rs.ok (Fl.nx (lo.map (thaw j (.list xs)))) (st.set j .gone) : Rs Fl)
        | some (.dct kvs) => Rs.ok (Fl.nx (lo.map (thaw j (.dict kvs)))) (st.set j .gone)
        | _ => Rs.no
      | _ => Rs.ok (Fl.nx lo) st).bind (goOn (exs (exN cf EN (n + 1)) irs))) (flQ z D) := p
    have same : Post z φ st H (exs (exN cf EN (n + 1)) irs lo st) (flQ z D) → wpAny (model X.prog X.w) X.A (execs ss X.env) (SP X pins D) X.xe sh := fun p => (hr (n + 1)).run pins sh σ H D I ⟨φ, lo, st, s, l, t, p⟩
    split at p
    · rename_i j hj
      split at p
      · rename_i xs hs
        obtain ⟨v, hv, a, ha, rfl⟩ := l.get i (.r j) hj
        obtain ⟨vs, he, rl⟩ := s.lst j a xs ha hs
        obtain ⟨o, I2⟩ := I.lock he trivial
        have p1 : Step z.T φ st H φ (st.set j .gone) (upd H a (.frz o (.lst vs))) := Step.put s ha hs (by intro ps q; cases q)
        have s1 := StOk.lock (o := o) s ha hs he
        refine (hr (n + 1)).run pins sh σ _ D I2 ⟨φ, lo.map (thaw j (.list xs)), st.set j .gone, s1, ⟨by rw [List.length_map]; exact l.len, fun k x e => ?_⟩, p1.tab t, ?_⟩
        · rw [List.getElem?_map, Option.map_eq_some_iff] at e
          obtain ⟨y, e1, e2⟩ := e
          cases y with
          | none => cases e2
          | some y =>
            obtain ⟨w, q1, q2⟩ := l.get k y e1
            refine ⟨w, q1, ?_⟩
            cases y with
            | d y => cases e2; exact q2.step s p1
            | r j' =>
              simp only [thaw] at e2
              split at e2
              · rename_i ej
                subst ej
                cases e2
                obtain ⟨b, q3, rfl⟩ := q2
                rw [ha] at q3; cases q3
                exact Rp.lst (.inl ⟨o, upd_same⟩) (rl.keep (keep_own he))
              · cases e2
                exact q2
        · have p : Post z φ st H (exs (exN cf EN (n + 1)) irs (lo.map (thaw j (.list xs))) (st.set j .gone)) (flQ z D) := p
          cases hx : exs (exN cf EN (n + 1)) irs (lo.map (thaw j (.list xs))) (st.set j .gone) with
          | no => rw [hx] at p; exact p
          | ex c xs' st' => rw [hx] at p; exact fun φ2 H2 d C fs vs p2 => p φ2 H2 d C fs vs (p1.trans s s1 p2)
          | ok fl st' => rw [hx] at p; exact fun φ2 H2 p2 => p φ2 H2 (p1.trans s s1 p2)
      · rename_i kvs hs
        obtain ⟨v, hv, a, ha, rfl⟩ := l.get i (.r j) hj
        exact (s.dct j a kvs ha hs).elim
      · exact (p : False).elim
    · exact same p
/-! ### the small statements -/
variable {e : Expr} {ir : E} {pos px : Pos} {x : Str} {i : Nat}
theorem ss_ex (he : SE X z cf e ir) (hs : ∀ env, swapsWith e none pos.line env = pure false) : SS X z cf (.Expr e pos) (.ex ir) := fun n => (ps_expr (he EN) (hs _)).imp fun D σ H ⟨φ, lo, st, s, l, t, p⟩ =>
  tE.bind s l t p fun x v φ1 st1 H1 s1 l1 t1 p1 rx h1 => Post.fl s1 h1 σ l1
theorem ss_pass : SS X z cf (.Pass pos) .pass := fun n => ps_pass.imp fun D σ H ⟨φ, lo, st, s, l, t, p⟩ => Post.fl s p σ l
theorem ss_brk : SS X z cf (.Break pos) .brk := fun n => ps_break.imp fun D σ H ⟨φ, lo, st, s, l, t, p⟩ => Post.fl s p σ l
theorem ss_cont : SS X z cf (.Continue pos) .cont := fun n => ps_continue.imp fun D σ H ⟨φ, lo, st, s, l, t, p⟩ => Post.fl s p σ l
theorem ss_ret (he : SE X z cf e ir) : SS X z cf (.Return (some e) pos) (.ret ir) := fun n => (ps_ret (he EN)).imp fun D σ H ⟨φ, lo, st, s, l, t, p⟩ =>
  tE.bindP s l t p fun x v φ1 st1 H1 s1 l1 t1 p1 rx h1 => Post.fl s1 h1 v rx
theorem ss_retN : SS X z cf (.Return none pos) (.ret (.c .none)) := fun n => ps_retN.imp fun D σ H ⟨φ, lo, st, s, l, t, p⟩ =>
  Post.fl (fl := .rt .none) s p .non .non
theorem ss_if {a b : List Stmt} {ia ib : List S} (hc : ST X z cf e ir) (ha : SB X z cf a ia) (hb : SB X z cf b ib) : SS X z cf (.If e a b pos) (.iff ir ia ib) := fun n => (ps_if (hc EN) (ha n) (hb n)).imp fun D σ H ⟨φ, lo, st, s, l, t, p⟩ => by
  refine tT.bind s l t p fun c φ1 st1 H1 s1 l1 t1 p1 h1 => ?_
  cases c with
  | true => rw [if_pos rfl] at h1 ⊢; exact ⟨φ1, lo, st1, s1, l1, t1, h1⟩
  | false => rw [if_neg Bool.false_ne_true] at h1 ⊢; exact ⟨φ1, lo, st1, s1, l1, t1, h1⟩
theorem ss_asgN (o : Ok X z cf gl k) (hi : X.N[i]? = some x) (hx : TgOk X x) (hs : swapsWith e (some (.Name x px)) pos.line X.env = pure false) (he : SE X z cf e ir) : SS X z cf (.Assign [.Name x px] e pos) (.asg (.n i) ir) := fun n =>
  (ps_set o.nd hi hx.1 (he EN) hs hx.2).imp fun D σ H ⟨φ, lo, st, s, l, t, p⟩ =>
  tE.bind s l t p fun y v φ1 st1 H1 s1 l1 t1 p1 rx h1 => Post.fl s1 h1 _ (l1.set i rx)
theorem ss_asgT (o : Ok X z cf gl k) {es : List Expr} {n0 : Nat} {names : List (Str × NameKind)} {ts : List Tg} (ht : trTs X.N names es = some ts) (hx : ∀ x, names.lookup x = some .local ∨ names.lookup x = some .cell → TgOk X x) (hs : swapsWithSole [.Tuple es n0 px] e pos.line X.env = pure false)
    (hw : swappedStores [.Tuple es n0 px] e X.env = pure none) (he : SE X z cf e ir) : SS X z cf (.Assign [.Tuple es n0 px] e pos) (.asg (.t ts) ir) := fun n => by
  have hT : trT X.N names (.Tuple es n0 px) = some (.t ts) := by simp only [trT, ht]; rfl
  refine (ps_asg (he EN) (trT_ok rfl o.nd o.calm hx hT) hs hw (by rw [asg_each rfl]; rfl)).imp fun D σ H ⟨φ, lo, st, s, l, t, p⟩ => ?_
  have p : Post z φ st H ((evP (ev cf EN) ir lo st).bind fun x st => match bindT (.t ts) x lo with
      | some lo => .ok (.nx lo) st
      | none => .no) (flQ z D) := p
  refine tE.bindP s l t p fun y v φ1 st1 H1 s1 l1 t1 p1 rx h1 => ?_
  cases hb : bindT (.t ts) y lo with
  | none => rw [hb] at h1; exact (h1 : False).elim
  | some lo' =>
    rw [hb] at h1
    rw [o.hK]
    exact tg_ok (.t ts) hb rx l1 fun σ' l' _ => Post.fl s1 h1 σ' l'
theorem ss_par2 (o : Ok X z cf gl k) {j : Nat} {y : Str} {py pt pt2 : Pos} {kt k2 : Nat} {a b : Expr} {irs : List E} (hi : X.N[i]? = some x) (hj : X.N[j]? = some y) (hij : i ≠ j) (hx : X.env.scope.names.lookup x = some .local) (hy : X.env.scope.names.lookup y = some .local)
    (ha : SA X z cf [a, b] irs) (hw : swappedStores [.Tuple [.Name x px, .Name y py] kt pt] (.Tuple [a, b] k2 pt2) X.env = pure (some [x, y])) : SS X z cf (.Assign [.Tuple [.Name x px, .Name y py] kt pt] (.Tuple [a, b] k2 pt2) pos) (.par [i, j] irs) := fun n =>
  (ps_par o.calm o.nd hi hj hij hx hy (ha EN) hw).imp fun D σ H ⟨φ, lo, st, s, l, t, p⟩ => by
    refine tA.bind s l t p fun xs vs φ1 st1 H1 s1 l1 t1 p1 rx h1 => ?_
    match xs, vs, rx, h1 with
    | [q1, q2], _, .cons r1 (.cons r2 .nil), h1 => exact ⟨_, _, rfl, Post.fl s1 h1 _ ((l1.set i r1).set j r2)⟩
    | [], _, _, h1 => exact (h1 : False).elim
    | [q1], _, _, h1 => exact (h1 : False).elim
    | q1 :: q2 :: q3 :: r, _, _, h1 => exact (h1 : False).elim
theorem ss_par3 (o : Ok X z cf gl k) {j m : Nat} {y w : Str} {py pw pt pt2 : Pos} {kt k2 : Nat} {a b c : Expr} {irs : List E} (hi : X.N[i]? = some x) (hj : X.N[j]? = some y) (hm : X.N[m]? = some w) (hij : i ≠ j) (him : i ≠ m) (hjm : j ≠ m) (hx : X.env.scope.names.lookup x = some .local) (hy : X.env.scope.names.lookup y = some .local) (hw' : X.env.scope.names.lookup w = some .local)
    (ha : SA X z cf [a, b, c] irs) (hw : swappedStores [.Tuple [.Name x px, .Name y py, .Name w pw] kt pt] (.Tuple [a, b, c] k2 pt2) X.env = pure (some [x, y, w])) : SS X z cf (.Assign [.Tuple [.Name x px, .Name y py, .Name w pw] kt pt] (.Tuple [a, b, c] k2 pt2) pos) (.par [i, j, m] irs) := fun n =>
  (ps_par3 o.calm o.nd hi hj hm hij him hjm hx hy hw' (ha EN) hw).imp fun D σ H ⟨φ, lo, st, s, l, t, p⟩ => by
    refine tA.bind s l t p fun xs vs φ1 st1 H1 s1 l1 t1 p1 rx h1 => ?_
    match xs, vs, rx, h1 with
    | [q1, q2, q3], _, .cons r1 (.cons r2 (.cons r3 .nil)), h1 => exact ⟨_, _, _, rfl, Post.fl s1 h1 _ (((l1.set i r1).set j r2).set m r3)⟩
    | [], _, _, h1 => exact (h1 : False).elim
    | [q1], _, _, h1 => exact (h1 : False).elim
    | [q1, q2], _, _, h1 => exact (h1 : False).elim
    | q1 :: q2 :: q3 :: q4 :: r, _, _, h1 => exact (h1 : False).elim
end
end Sm

set_option Elab.async false
set_option linter.all false
set_option maxRecDepth 100000
set_option maxHeartbeats 1000000
/-! SmQ: augmented stores, o[k] = .., o.append(..), while, for. -/
namespace Sm
open PySem PySem.Spec PyProof.Rows L2
section
variable {X : Cx} {z : Cz} {cf : CF} {gl : List (Str × Gk)} {k : Nat} {f : Ev} {σ : L2.St} {H : Hp} {φ : List Addr} {st : Sto} {lo : Lo}
variable {e : Expr} {ir : E} {pos px : Pos} {x : Str} {i : Nat}
/-- in place, by data: numbers -/
def augOk : Operator → Bool
  | .Add => true
  | .Sub => true
  | .Mult => true
  | _ => false
def rAug (op : Operator) : TIp := fun x y H Q => ∃ (i j : Int) (r : D), x = .int i ∧ y = .int j ∧ binD op (.int i) (.int j) = some r ∧ ∀ v, (∀ K H', Rp K H' v r) → Q v H
theorem ip_data {op : Operator} (h : augOk op = true) : PIp X op (rAug op) := by
  intro pins s σ H x y v u Q I r1 r2 hr
  obtain ⟨i, j, r, rfl, rfl, hb, q⟩ := hr
  obtain ⟨t, rfl⟩ := r1
  obtain ⟨t', rfl⟩ := r2
  cases op <;> first | (cases h; done) | skip
  · simp only [binD, Option.some.injEq] at hb
    subst hb
    exact iadd_int ⟨.int _, H, I.tok _, ⟨_, rfl⟩, q _ fun _ _ => .int _⟩
  · simp only [binD, Option.some.injEq] at hb
    subst hb
    exact isub_int ⟨.int _, H, I.tok _, ⟨_, rfl⟩, q _ fun _ _ => .int _⟩
  · simp only [binD] at hb
    split at hb
    · rename_i hm
      simp only [Option.some.injEq] at hb
      subst hb
      refine imul_int ⟨.int _, H, I.tok _, ⟨_, rfl⟩, q _ fun _ _ => .int _⟩ ?_
      unfold mulOk at hm
      simp only [Bool.or_eq_true, decide_eq_true_eq] at hm
      rcases hm with (hm | hm) | hm
      · exact CMul.ok (i := i) (j := j) (.inl (by omega))
      · exact CMul.ok (i := i) (j := j) (.inr (by omega))
      · exact CMulW.ok (i := i) (j := j) hm
    · cases hb
theorem ss_aug (o : Ok X z cf gl k) {op : Operator} (hop : augOk op = true) (hi : X.N[i]? = some x) (hx : TgOk X x) (he : SE X z cf e ir) : SS X z cf (.AugAssign (.Name x px) op e pos) (.aug i op ir) := fun n =>
  (ps_aug o.nd hi hx.1 (he EN) (ip_data hop) hx.2).imp fun D σ H ⟨φ, lo, st, s, l, t, p⟩ => by
    have p : Post z φ st H (match lo[i]? with
      | some (some (.d x)) => (evP (ev cf EN) ir lo st).bind fun y st => (Rs.of (if isIntD x && isIntD y then binD op x y else none) st).bind fun z st => .ok (.nx (lo.set i (some (.d z)))) st
      | _ => .no) (flQ z D) := p
    split at p
    · rename_i y hy
      obtain ⟨v, h1, h2⟩ := l.get i _ hy
      refine ⟨v, h1, tE.bindP s l t p fun w u φ1 st1 H1 s1 l1 t1 p1 rx h3 => ?_⟩
      obtain ⟨r, e1, h4⟩ := Post.of s1 h3
      split at e1
      · rename_i hc
        rw [Bool.and_eq_true] at hc
        cases y <;> first | (cases hc.1; done) | skip
        cases w <;> first | (cases hc.2; done) | skip
        cases h2
        cases rx
        exact ⟨_, _, r, rfl, rfl, e1, fun v hv => Post.fl s1 h4 _ (l1.set i (hv z.K H1))⟩
      · cases e1
    · exact (p : False).elim
theorem assign_sub {o i : Expr} {pos : Pos} (h : ∀ a b c d, i ≠ .Slice a b c d) (env : Env) (v : Value) : assign (.Subscript o i pos) env v = (do
      let ov ← holding [v] (eval o env)
      let iv ← holding [v, ov] (eval i env)
      standAt pos
      holding [v, ov, iv] (setItem ov iv v)
      release [v, ov, iv] []) := by
  cases i with
  | Slice a b c d => exact absurd rfl (h a b c d)
  | _ => rfl
theorem ss_put (ok : Ok X z cf gl k) {o ie : Expr} {io ii : E} {p' : Pos} (hs : ∀ a b c d, ie ≠ .Slice a b c d) (hsw : swapsWithSole [.Subscript o ie p'] e pos.line X.env = pure false) (hw : swappedStores [.Subscript o ie p'] e X.env = pure none)
    (ho : SE X z cf o io) (hi : SE X z cf ie ii) (he : SE X z cf e ir) : SS X z cf (.Assign [.Subscript o ie p'] e pos) (.put io ii ir) := fun n =>
  (ps_asg (he EN) (pg_sub (ho EN) (hi EN) set_list (assign_sub hs X.env)) hsw hw (by rw [asg_each rfl]; rfl)).imp fun D σ H ⟨φ, lo, st, s, l, t, p⟩ => by
    refine tE.bindP s l t p fun xv v φ1 st1 H1 s1 l1 t1 p1 rx h1 => ?_
    refine tE.bind s1 l1 t1 h1 fun ov u φ2 st2 H2 s2 l2 t2 p2 ro h2 => ?_
    refine tE.bindP s2 l2 t2 h2 fun kv w φ3 st3 H3 s3 l3 t3 p3 rk h3 => ?_
    have rx := (rx.keep (p2.keep s1)).keep (p3.keep s2)
    have ro := ro.step s2 p3
    cases ov with
    | d y => exact (h3 : False).elim
    | r j =>
      obtain ⟨a, ha, rfl⟩ := ro
      simp only at h3
      split at h3
      · rename_i _ _ xs kk hst
        cases rk
        split at h3
        · rename_i jj hj
          obtain ⟨vs, hv, rl⟩ := s3.lst j a xs ha hst
          refine ⟨a, vs, _, jj, rfl, rfl, hv, by rw [rl.length]; exact hj, ?_⟩
          have p4 : Step z.T φ3 st3 H3 φ3 (st3.set j (.lst (xs.set jj xv))) (upd H3 a (.lst (vs.set jj v))) := Step.put s3 ha hst (by intro ps q; cases q)
          have s4 := StOk.put s3 ha hst (rl.set jj rx)
          exact h3 φ3 _ p4 s4 σ (l3.step s3 p4)
        · exact (h3 : False).elim
      · exact (h3 : False).elim
theorem attr_base {o : Expr} {name : Str} {env : Env} (h : (match o with | .Name .. => true | .Subscript .. => true | _ => false) = true) : attributeBase o name env (eval o env) = eval o env := by
  cases o <;> first | rfl | cases h
theorem ss_app (ok : Ok X z cf gl k) {o : Expr} {io : E} {apos cpos : Pos} {y : Str} {py : Pos} (hoN : o = .Name y py) (hn : notStar e = true) (hl : (apos.endLine == cpos.line) = true) (ho : SE X z cf o io) (he : SE X z cf e ir) :
    SS X z cf (.Expr (.Call (.Attribute o "append" apos) [e] [] cpos) pos) (.app io ir) := fun n => by
  subst hoN
  refine (ps_expr (pe_bm PySem.F.plainAttrs_list PySem.F.slot_list_append PySem.F.type_list_append mt_append (ho EN) (pa1 (he EN) hn) (attr_base rfl) ?_ hl (star1 hn _) (by rfl)) (by rfl)).imp fun D σ H ⟨φ, lo, st, s, l, t, p⟩ => ?_
  · rw [star1 hn]; rfl
  · have p : Post z φ st H ((ev cf EN io lo st).bind fun o st => match o with
      | .r i => match st[i]? with
        | some (.lst _) => (evP (ev cf EN) ir lo st).bind fun x st => match st[i]? with
          | some (.lst xs) => if szOk (xs.length + 1) then .ok (.nx lo) (st.set i (.lst (xs ++ [x]))) else .no
          | _ => .no
        | _ => .no
      | _ => .no) (flQ z D) := p
    refine tE.bind s l t p fun ov u φ2 st2 H2 s2 l2 t2 p2 ro h2 => ?_
    cases ov with
    | d y => exact (h2 : False).elim
    | r j =>
      obtain ⟨a, ha, rfl⟩ := ro
      simp only at h2
      split at h2
      · rename_i xs0 hst0
        obtain ⟨vs0, hv0, _⟩ := s2.lst j a xs0 ha hst0
        refine ⟨.inl ⟨rfl, vs0, .inl (.inl hv0)⟩, ?_⟩
        refine tE.bindP s2 l2 t2 h2 fun xv w φ3 st3 H3 s3 l3 t3 p3 rx h3 => ?_
        split at h3
        · rename_i xs hst
          obtain ⟨hz, h3⟩ := ite_no h3
          have ha3 : φ3[j]? = some a := by
            obtain ⟨ψ, ep, _⟩ := p3.pre
            rw [ep, List.getElem?_append_left]
            · exact ha
            · exact (List.getElem?_eq_some_iff.mp ha).1
          obtain ⟨vs, hv, rl⟩ := s3.lst j a xs ha3 hst
          refine ⟨a, vs, w, rfl, rfl, hv, ?_, ?_⟩
          · have := szOk_le hz
            rw [rl.length]; omega
          · have p4 : Step z.T φ3 st3 H3 φ3 (st3.set j (.lst (xs ++ [xv]))) (upd H3 a (.lst (vs ++ [w]))) := Step.put s3 ha3 hst (by intro ps q; cases q)
            have s4 := StOk.put s3 ha3 hst (rl.append (.cons rx .nil))
            exact h3 φ3 _ p4 s4 σ (l3.step s3 p4)
        · exact (h3 : False).elim
      · exact (h2 : False).elim
theorem ss_ins (ok : Ok X z cf gl k) {o i : Expr} {io ii : E} {apos cpos : Pos} {y : Str} {py : Pos} (hoN : o = .Name y py) (hi : notStar i = true) (hn : notStar e = true) (hl : (apos.endLine == cpos.line) = true) (ho : SE X z cf o io) (hie : SE X z cf i ii) (he : SE X z cf e ir) :
    SS X z cf (.Expr (.Call (.Attribute o "insert" apos) [i, e] [] cpos) pos) (.ins io ii ir) := fun n => by
  subst hoN
  refine (ps_expr (pe_bm PySem.F.plainAttrs_list PySem.F.slot_list_insert PySem.F.type_list_insert mt_insert (ho EN) (pa_cons (hie EN) (pa1 (he EN) hn) (star_each hi _ _)) (attr_base rfl) ?_ hl (star_each hi _ _) (by rw [star1 hn]; rfl)) (by rfl)).imp fun D σ H ⟨φ, lo, st, s, l, t, p⟩ => ?_
  · rw [star_each hi, star1 hn]; rfl
  · have p : Post z φ st H ((ev cf EN io lo st).bind fun o st => match o with
      | .r j => match st[j]? with
        | some (.lst _) => (evP (ev cf EN) ii lo st).bind fun k st => (evP (ev cf EN) ir lo st).bind fun x st => match k, st[j]? with
          | .int k, some (.lst xs) => if decide (0 ≤ k) && decide (k < 2 ^ 63) && szOk (xs.length + 1) then .ok (.nx lo) (st.set j (.lst (xs.take k.toNat ++ [x] ++ xs.drop k.toNat))) else .no
          | _, _ => .no
        | _ => .no
      | _ => .no) (flQ z D) := p
    refine tE.bind s l t p fun ov u φ2 st2 H2 s2 l2 t2 p2 ro h2 => ?_
    cases ov with
    | d y => exact (h2 : False).elim
    | r j =>
      obtain ⟨a, ha, rfl⟩ := ro
      simp only at h2
      split at h2
      · rename_i xs0 hst0
        obtain ⟨vs0, hv0, _⟩ := s2.lst j a xs0 ha hst0
        refine ⟨.inl ⟨rfl, vs0, .inl (.inl hv0)⟩, ?_⟩
        refine tE.bindP s2 l2 t2 h2 fun kv wk φ3 st3 H3 s3 l3 t3 p3 rk h3 => ?_
        refine tE.bindP s3 l3 t3 h3 fun xv w φ4 st4 H4 s4 l4 t4 p4 rx h4 => ?_
        split at h4
        · rename_i _ _ kk xs hst
          cases rk
          obtain ⟨hz, h4⟩ := ite_no h4
          simp only [Bool.and_eq_true, decide_eq_true_eq] at hz
          have ha4 : φ4[j]? = some a := by
            obtain ⟨ψ, ep, _⟩ := (p3.trans s2 s3 p4).pre
            rw [ep, List.getElem?_append_left]
            · exact ha
            · exact (List.getElem?_eq_some_iff.mp ha).1
          obtain ⟨vs, hv, rl⟩ := s4.lst j a xs ha4 hst
          refine ⟨a, vs, kk, w, rfl, rfl, hv, ?_, hz.1.1, hz.1.2, ?_⟩
          · have := szOk_le hz.2
            rw [rl.length]; omega
          · have p5 : Step z.T φ4 st4 H4 φ4 (st4.set j (.lst (xs.take kk.toNat ++ [xv] ++ xs.drop kk.toNat))) (upd H4 a (.lst (vs.take kk.toNat ++ [w] ++ vs.drop kk.toNat))) := Step.put s4 ha4 hst (by intro ps q; cases q)
            have s5 := StOk.put s4 ha4 hst (((rl.take kk.toNat).append (.cons rx .nil)).append (rl.drop kk.toNat))
            exact h4 φ4 _ p5 s5 σ (l4.step s4 p5)
        · exact (h4 : False).elim
      · exact (h2 : False).elim
theorem se_popAt (ok : Ok X z cf gl k) {o i : Expr} {io ii : E} {apos cpos : Pos} {y : Str} {py : Pos} (hoN : o = .Name y py) (hi : notStar i = true) (hl : (apos.endLine == cpos.line) = true) (ho : SE X z cf o io) (hie : SE X z cf i ii) :
    SE X z cf (.Call (.Attribute o "pop" apos) [i] [] cpos) (.popAt io ii) := SE.of fun m => by
  subst hoN
  refine (pe_bm PySem.F.plainAttrs_list PySem.F.slot_list_pop PySem.F.type_list_pop mt_popAt (ho m) (pa1 (hie m) hi) (attr_base rfl) ?_ hl (star1 hi _) (by rfl)).imp fun σ H Q ⟨φ, lo, st, s, l, t, p⟩ => ?_
  · rw [star1 hi]; rfl
  · have p : Post z φ st H ((ev cf m io lo st).bind fun o st => match o with
      | .r j => match st[j]? with
        | some (.lst _) => (evP (ev cf m) ii lo st).bind fun k st => match k, st[j]? with
          | .int k, some (.lst xs) => if decide (-(2 ^ 63) ≤ k) && decide (k < 2 ^ 63) then (match seqIndex? k xs.length with
            | some n => (match xs[n]? with
              | some y => ret y (st.set j (.lst (xs.eraseIdx n)))
              | none => .no)
            | none => .no) else .no
          | _, _ => .no
        | _ => .no
      | _ => .no) (fun x φ' _ H' => ∀ v, RpR z.K φ' H' v x → Q v H') := p
    refine tE.bind s l t p fun ov u φ2 st2 H2 s2 l2 t2 p2 ro h2 => ?_
    cases ov with
    | d y => exact (h2 : False).elim
    | r j =>
      obtain ⟨a, ha, rfl⟩ := ro
      simp only at h2
      split at h2
      · rename_i xs0 hst0
        obtain ⟨vs0, hv0, _⟩ := s2.lst j a xs0 ha hst0
        refine ⟨.inl ⟨rfl, vs0, .inl (.inl hv0)⟩, ?_⟩
        refine tE.bindP s2 l2 t2 h2 fun kv wk φ4 st4 H4 s4 l4 t4 p4 rk h4 => ?_
        split at h4
        · rename_i _ _ kk xs hst
          cases rk
          obtain ⟨hz, h4⟩ := ite_no h4
          simp only [Bool.and_eq_true, decide_eq_true_eq] at hz
          have ha4 : φ4[j]? = some a := by
            obtain ⟨ψ, ep, _⟩ := p4.pre
            rw [ep, List.getElem?_append_left]
            · exact ha
            · exact (List.getElem?_eq_some_iff.mp ha).1
          obtain ⟨vs, hv, rl⟩ := s4.lst j a xs ha4 hst
          split at h4
          · rename_i n hn
            split at h4
            · rename_i yv hy
              obtain ⟨v, hvn, rv⟩ := rl.get' hy
              refine ⟨a, vs, kk, n, v, rfl, rfl, hv, hz.1, hz.2, by rw [rl.length]; exact hn, hvn, ?_⟩
              have p5 : Step z.T φ4 st4 H4 φ4 (st4.set j (.lst (xs.eraseIdx n))) (upd H4 a (.lst (vs.eraseIdx n))) := Step.put s4 ha4 hst (by intro ps q; cases q)
              have s5 := StOk.put s4 ha4 hst (rl.eraseIdx n)
              exact h4 φ4 _ p5 s5 v (rv.keep (keep_own hv))
            · exact (h4 : False).elim
          · exact (h4 : False).elim
        · exact (h4 : False).elim
      · exact (h2 : False).elim
/-! ### loops -/
theorem whL_eq (t : Lo → Sto → Rs Bool) (b : Lo → Sto → Rs Fl) (n : Nat) (lo : Lo) (st : Sto) : whL t b (n + 1) lo st = (t lo st).bind fun k st => if k then (b lo st).bind fun fl st => (match fl with
      | .nx lo => whL t b n lo st
      | .ct lo => whL t b n lo st
      | .bk lo => .ok (.nx lo) st
      | .rt x => .ok (.rt x) st) else .ok (.nx lo) st := by
  simp only [whL]
  cases h : t lo st with
  | no => rfl
  | ex c xs st => rfl
  | ok k st1 =>
    cases k with
    | false => rfl
    | true =>
      show _ = (b lo st1).bind _
      simp only
      cases h2 : b lo st1 with
      | no => rfl
      | ex c xs st => rfl
      | ok fl st => cases fl <;> rfl
theorem ss_whl (hp : PassesOwn (model X.prog X.w) X.A X.env X.xe) {b : List Stmt} {ib : List S} (hc : ST X z cf e ir) (hb : SB X z cf b ib) : SS X z cf (.While e b [] pos) (.whl ir ib) := fun n =>
  (ps_while hp (hc EN) (hb n)).imp fun D σ H ⟨φ, lo, st, s, l, t, p⟩ => by
    refine ⟨fun m σ H => ∃ φ lo st, StOk z.K φ st H ∧ SimL z.K φ H lo σ ∧ LamX.Tabs z.T H ∧ Post z φ st H (whL (evT (ev cf EN) ir) (exs (exN cf EN n) ib) m lo st) (flQ z D), ⟨WF, φ, lo, st, s, l, t, p⟩, ?_⟩
    clear p s l t
    rintro m σ H ⟨φ, lo, st, s, l, t, p⟩
    cases m with
    | zero => exact (p : False).elim
    | succ m =>
      rw [whL_eq] at p
      refine tT.bind s l t p fun c φ1 st1 H1 s1 l1 t1 p1 h1 => ?_
      cases c with
      | false => rw [if_neg Bool.false_ne_true] at h1 ⊢; exact Post.fl s1 h1 σ l1
      | true =>
        rw [if_pos rfl] at h1 ⊢
        refine ⟨_, fun σ' H' w => ⟨m, Nat.lt_succ_self m, w⟩, φ1, lo, st1, s1, l1, t1, (Post.bind s1 h1).mono fun fl φ2 st2 H2 p2 s2 ⟨_, _, h2⟩ => ?_⟩
        cases fl with
        | nx lo => exact fun σ' l' => ⟨φ2, lo, st2, s2, l', p2.tab t1, h2⟩
        | ct lo => exact fun σ' l' => ⟨φ2, lo, st2, s2, l', p2.tab t1, h2⟩
        | bk lo => exact Post.fl s2 h2
        | rt x => exact Post.fl s2 h2
theorem forL_eq (b : Lo → Sto → Rs Fl) (tg : Tg) (x : D) (xs : List D) (lo lo' : Lo) (st : Sto) (h : bindT tg x lo = some lo') : forL b tg (x :: xs) lo st = (b lo' st).bind fun fl st => (match fl with
      | .nx lo => forL b tg xs lo st
      | .ct lo => forL b tg xs lo st
      | .bk lo => .ok (.nx lo) st
      | .rt x => .ok (.rt x) st) := by
  simp only [forL, h]
  cases h2 : b lo' st with
  | no => rfl
  | ex c xs st => rfl
  | ok fl st => cases fl <;> rfl
theorem ss_for (o : Ok X z cf gl k) (hp : PassesOwn (model X.prog X.w) X.A X.env X.xe) {names : List (Str × NameKind)} {tg : Expr} {t : Tg} {it : It} {b : List Stmt} {ib : List S} (ht : trT X.N names tg = some t) (hx : ∀ x, names.lookup x = some .local ∨ names.lookup x = some .cell → TgOk X x) (hset : ∀ es n p, e ≠ .Set es n p)
    (hi : SW X z cf tg e it) (hb : SB X z cf b ib) : SS X z cf (.For tg e b [] pos) (.fr t it ib) := fun n =>
  (ps_for hp o.calm (hi EN) (trT_ok rfl o.nd o.calm hx ht) (hb n) (fun x => fold_of hset _ x)).imp fun D σ H ⟨φ, lo, st, s, l, tb, p⟩ => by
    refine ⟨φ, lo, st, s, l, tb, (Post.bind s p).mono fun ds φ1 st1 H1 p1 s1 ⟨_, _, h1⟩ J wk => ?_⟩
    have l1 := l.step s p1
    refine ⟨fun i m σ H' => m = ds.length - i ∧ i ≤ ds.length ∧ Keep H1 H' ∧ ∃ φ lo st, StOk z.K φ st H' ∧ SimL z.K φ H' lo σ ∧ LamX.Tabs z.T H' ∧ Post z φ st H' (forL (exs (exN cf EN n) ib) t (ds.drop i) lo st) (flQ z D), ⟨ds.length, rfl, Nat.zero_le _, .refl _, φ1, lo, st1, s1, l1, p1.tab tb, h1⟩, ?_⟩
    clear p s l tb h1 s1 l1
    rintro i m σ H' ⟨rfl, hi, kp, φ, lo, st, s, l, tb, p⟩
    by_cases hlt : i < ds.length
    · refine .inr ⟨wk.go i H' kp hlt, _, fun σ' H' w => ⟨ds.length - (i + 1), by omega, w⟩, fun x H'' hy => ?_⟩
      obtain ⟨d, hd1, rx, gr⟩ := wk.yl i H' x H'' kp hy hlt
      rw [drop_cons hd1] at p
      cases hbt : bindT t d lo with
      | none => simp only [forL, hbt] at p; exact (p : False).elim
      | some lo' =>
        rw [forL_eq _ _ _ _ _ _ _ hbt] at p
        have p3 : Step z.T φ st H' φ st H'' := Step.grow gr
        have s3 := s.grow gr
        rw [o.hK]
        refine tg_ok t hbt rx (l.step s p3) fun σ2 l4 ag => ⟨φ, lo', st, s3, l4, p3.tab tb, ?_⟩
        have p : Post z φ st H'' ((exs (exN cf EN n) ib lo' st).bind fun fl st => (match fl with
          | .nx lo => forL (exs (exN cf EN n) ib) t (ds.drop (i + 1)) lo st
          | .ct lo => forL (exs (exN cf EN n) ib) t (ds.drop (i + 1)) lo st
          | .bk lo => .ok (.nx lo) st
          | .rt x => .ok (.rt x) st)) (flQ z D) := by
          generalize (Rs.bind _ _) = r at p
          cases r with
          | no => exact p
          | ex c xs st' => exact fun φ2 H2 d C fs vs p2 => p φ2 H2 d C fs vs (p3.trans s s3 p2)
          | ok fl st' => exact fun φ2 H2 p2 => p φ2 H2 (p3.trans s s3 p2)
        refine (Post.bind s3 p).mono fun fl φ2 st2 H2 p2 s2 ⟨_, _, h2⟩ => ?_
        have kp2 := (kp.trans (p3.keep s)).trans (p2.keep s3)
        cases fl with
        | nx lo => exact fun σ' l' => ⟨rfl, hlt, kp2, φ2, lo, st2, s2, l', p2.tab (p3.tab tb), h2⟩
        | ct lo => exact fun σ' l' => ⟨rfl, hlt, kp2, φ2, lo, st2, s2, l', p2.tab (p3.tab tb), h2⟩
        | bk lo => exact Post.fl s2 h2
        | rt x => exact Post.fl s2 h2
    · have he : i = ds.length := by omega
      subst he
      rw [List.drop_length] at p
      exact .inl ⟨wk.st _ H' kp (Nat.le_refl _), Post.fl (fl := .nx lo) s p σ l⟩
end
end Sm

set_option Elab.async false
set_option linter.all false
set_option maxRecDepth 100000
set_option maxHeartbeats 2000000
/-! SmR: BadThing: an own error whose __init__ says super().__init__(..); it is raised. -/
namespace PySem
namespace BadX
open PySem.W PySem.Calls PyProof.Rows PySem.HandSPX
abbrev iA (p1 p2 : Pos) : Arguments := { posonlyargs := [], args := [{ arg := "self", annotation := none, pos := p1 }, { arg := "thing", annotation := none, pos := p2 }], vararg := none, kwonlyargs := [], kw_defaults := [], kwarg := none, defaults := [] }
abbrev iB (m : Str) (q : Nat → Pos) : List Stmt := [.Expr (.Call (.Attribute (.Call (.Name "super" (q 0)) [] [] (q 1)) "__init__" (q 2)) [.Constant (.str m) 0 (q 3)] [] (q 4)) (q 5), .Assign [.Attribute (.Name "self" (q 6)) "thing" (q 7)] (.Name "thing" (q 8)) (q 9)]
def iS : Scope := { kind := .function, names := [(PySem.Str.ofString "self", .local), (PySem.Str.ofString "thing", .local), (PySem.Str.ofString "__class__", .free), (PySem.Str.ofString "super", .globalImplicit)], isGenerator := false, isCoroutine := false, more := [] }
/-- what the written part says of BadThing, at C, and of its __init__, at fI -/
structure BadTxt (P : Program) (K : Frag) (mg : Str → Option Value) (C fI : Addr) : Prop where
  gC : mg "BadThing" = some (.ref C)
  cls : ∃ nm q N bs bm sn sub ab col dd k0 k1 k2 k3 k5, K.lookup C = some (excClassObj nm q C N bs bm true sn sub ab col dd k0 k1 k2 k3 k5 "ValueError.__new__") ∧ refsVE bm = true
  sa : findIn K (.ref C) "__setattr__" = some (some (.builtin "object.__setattr__"))
  ga : findIn K (.ref C) "__getattribute__" = some (some (.builtin "BaseException.__getattribute__"))
  gg : findIn K (.ref C) "__getattr__" = some none
  noN : findIn K (.ref C) "thing" = some none
  iC : findIn K (.ref C) "__init__" = some (some (.ref fI))
  tC : typeIn K (.ref fI) = some (.type "function")
  kC : keepIn K (.ref C) = true
  exC : subIn K (.ref C) (.type "BaseException") = some true
  tyC : typeIn K (.ref C) = some (.type "type")
  hdC : hasDictIn K C = true
  te : exmOne K (.ref C) (.ref C) = some true
  opq : nsIn K cStatics "thirdparty.any" = some none
  sup : ks_superIn K C C "__init__" = some (some (.builtin "ValueError.__init__"))
  subV : subIn K (.ref C) (.type "ValueError") = some true
  mroS : mroIn K C (.ref C) = some true
  gS : mg "super" = none
  top : (P.main.scope.names.lookup ("super" : Str)).isSome = false
  fn : ∃ (oc : Value) (od : Option Addr) (doc pm : Value) (an : Option Addr) (cda cc : Addr) (ct : Value) (osl : Array (Option Value)) (m : Str) (p1 p2 : Pos) (q : Nat → Pos) (qual file : Str) (tf : Tok) (vs : Array Value) (ccl cl : Value) (cdd cld : Option Addr) (ccs csl : Array (Option Value)),
    ((q 2).endLine == (q 4).line) = true ∧ K.lookup fI = some ⟨oc, od, .func (ksFn "__init__" qual (iA p1 p2) (iB m q) iS .none .none doc pm an (.ref cda) ct cc), osl⟩ ∧ codeIn K (.ref cda) qual = true ∧
    K.lookup cda = some ⟨ccl, cdd, .fields vs, ccs⟩ ∧ vs[2]? = some (.str file tf) ∧ (P.main.file == file) = true ∧ K.lookup cc = some ⟨cl, cld, .cell (some (.ref C)), csl⟩
/-- what __init__ leaves of a fresh exception at x -/
structure InitEnd (h h' : Heap) (x C dx t1 : Addr) (v : Value) : Prop where
  keep : ∀ b o, b ≠ x → h.get? b = some o → h'.get? b = some o
  obj : h'.get? x = some { cls := .ref C, dict := some dx, data := .fields #[.ref t1, .none, .none, .none, .bool false, .none] }
  dbig : h.objs.size ≤ dx
  dne : dx ≠ x
  ns : h'.Ns1 dx (fun y => if y = "thing" then some v else none)
/-- a made BadThing -/
structure OwnMade (h h' : Heap) (e C d : Addr) (v : Value) : Prop where
  keep : ∀ b o, h.get? b = some o → h'.get? b = some o
  new : h.objs.size ≤ e
  obj : ∃ oe vs, h'.get? e = some oe ∧ oe.cls = .ref C ∧ oe.dict = some d ∧ oe.data = .fields vs ∧ vs[1]? = some .none
  dbig : h.objs.size ≤ d
  dne : d ≠ e
  ns : h'.Ns1 d (fun y => if y = "thing" then some v else none)
section
variable {prog : Program} {w : World} {A : Around} {E : Value → Shared → Prop} {h : Heap} {g : Array GenState} {d : Drawn} {t : Nat} {os : OsState}
variable {nm q : Str} {C N : Addr} {bs bm : List Value} {hdct : Bool} {sn : List Str} {sub : List Value} {ab : Bool} {col : Option Bool} {dd : Option Addr} {k0 k1 k2 k3 k5 : Option Value}
theorem call_bwV {u e t0 : Addr} {rest : List Value} {Q : Value → Shared → Prop}
    (hC : h.get? C = some (excClassObj nm q C N bs bm hdct sn sub ab col dd k0 k1 k2 k3 k5 "ValueError.__new__")) (he : h.get? e = some (HandSPX.excO C t0)) (hu : h.get? u = some (kxs_mw "ValueError.__init__" e)) (hrest : rest.length ≤ sizeLine)
    (hq : ∀ h' t1, (∀ b o, b ≠ e → h.get? b = some o → h'.get? b = some o) → h'.get? e = some (HandSPX.excO C t1) → Q .none ⟨h', g, d, t, os⟩) :
    wpAny (model prog w) A (call (.ref u) rest) Q E ⟨h, g, d, t, os⟩ := by
  refine wpAny_call (codeAny_of_tree ?_)
  show wpAny _ A.in1 (callAny (.ref u) ⟨rest, []⟩) _ _ _
  simp only [callAny]
  refine wpAny_bind (wpAny_load hu ?_)
  simp only [kxs_mw, show (Value.type "method-wrapper" == Value.type "method" || Value.type "method-wrapper" == Value.type "builtin_function_or_method" || Value.type "method-wrapper" == Value.type "method-wrapper") = true by decide, if_true]
  refine W.KFB.if_so (by decide) ?_
  refine wpAny_bind (ESX.check_bound F.excBase_ValueError hC he rfl ?_)
  refine wpAny_bind (wpAny_pure (wpAny_pure ?_))
  refine ⟨Code.quiet_builtin _ (by decide +kernel), codeAny_builtin F.excBase_ValueError.initEntry ?_⟩
  rw [Around.under_plainId F.excBase_ValueError.init.plain _]
  wp_walk
  refine hq _ h.objs.size (fun b o hb ho => ?_) ?_
  · rw [Heap.get?_update_other _ _ (Ne.symm hb)]
    exact Heap.get?_push_of_some _ ho
  · rw [Heap.get?_update_self _ (Heap.get?_push_of_some _ he) rfl]
    rfl
end
theorem eval_method {o : Expr} {name : Str} {apos pos : Pos} {args : List Expr} {env : Env} (hf : methodCallForm (args.length + 0) (backTo pos (starEach args env)) [] = true) (hl : (apos.endLine == pos.line) = true) :
    eval (.Call (.Attribute o name apos) args [] pos) env = (do
      let ov ← attributeBase o name env (eval o env)
      standAt apos.atName
      let (f, first) ← holding [ov] (getMethod ov name (do return (← importBound o env).getD true))
      callWith pos f first (backTo pos (starEach args env)) []) := by
  show (do
    let ov ← attributeBase o name env (eval o env)
    standAt apos.atName
    methodCall o name apos pos env ov (args.length + 0) (backTo pos (starEach args env)) []) = _
  have hp : methodCallPos true o env apos pos = pure pos := by unfold methodCallPos; simp [hl]
  unfold methodCall calleeOf
  simp only [hf, if_true, hp, pure_bind]
theorem one_size (v : Value) : [v].length ≤ sizeLine := by
  rw [sizeLine_eq]
  exact (by decide : 1 ≤ 16777216)
section
variable {prog : Program} {w : World} {A : Around} {E : Value → Shared → Prop} {R : Result → Shared → Prop} {s : Shared} {K : Frag} {mg : Str → Option Value} {C fI : Addr} {base : Heap}
theorem bad_init (T : BadTxt prog K mg C fI) (M : L2.Mod K mg base) (hbs : ∀ b o, base.get? b = some o → s.heap.get? b = some o) {x t0 : Addr} {v : Value} (hx : s.heap.get? x = some (excO C t0)) (hnx : base.get? x = none) (hroom : A.depth < recursionLimit)
    (hq : ∀ h' tk dx t1, InitEnd s.heap h' x C dx t1 v → R (.ok (.ret .none)) { s with heap := h', toks := tk }) :
    codeAny (model prog w) A (.call (.ref fI) ⟨[.ref x, v], []⟩) R s := by
  obtain ⟨oc, od, doc, pm, an, cda, cc, ct, osl, m, p1, p2, q, qual, file, tf, vs, ccl, cl, cdd, cld, ccs, csl, hline, ho, hcd, hcda, hvs, hfile, hcc⟩ := T.fn
  obtain ⟨nm, q', N, bs, bm, sn, sub, ab, col, dd, k0, k1, k2, k3, k5, hC, hbm⟩ := T.cls
  have X : K.In s.heap := M.kin.keeps hbs
  have hcl : clsIn K C = some { name := nm, bases := bs, mro := .ref C :: bm, ns := N, qualname := q', hasDict := true, slotNames := sn, subclasses := sub, abstract := ab, collection := col, hasDel := false } := by unfold clsIn; rw [hC] <;> rfl
  have hxL : s.heap.objs.size ≠ x := Nat.ne_of_gt (Heap.lt_size hx)
  have kL : ∀ {a o}, K.lookup a = some o → base.get? a = some o := fun e => M.kin _ _ e
  have xC : x ≠ C := fun z => by rw [z, kL hC] at hnx; cases hnx
  refine ks_codeAny_call_defAt (fd := ksFn "__init__" qual (iA p1 p2) (iB m q) iS .none .none doc pm an (.ref cda) ct cc) (body := iB m q) (binds := [("self", .ref x), ("thing", v)]) hroom (X _ _ ho) rfl (M.nolimit.keeps hbs) (codeRec_of X hcd) rfl
    (BindsTo.of_eq (by first | rfl | with_unfolding_all rfl)) (show ∀ y ∈ iS.names, y.2 ≠ NameKind.cell by decide) (fun y hy => by
      simp only [List.mem_cons, List.not_mem_nil, or_false] at hy
      rcases hy with rfl | rfl <;> rfl) (fun h₁ hns hk₁ => ?_) rfl rfl rfl
  have X₁ : K.In h₁ := X.keeps hk₁
  have hb₁ : ∀ b o, base.get? b = some o → h₁.get? b = some o := fun b o e => hk₁ b o (hbs b o e)
  have hx₁ := hk₁ _ _ hx
  have I : InstAt h₁ x (excO C t0) C none := ⟨hx₁, rfl, rfl, trivial⟩
  obtain ⟨mb, hmb, hmb2⟩ := M.blt
  -- super().__init__(..)
  refine ks_wpAt_execs_cons (ks_wpAt_Expr_any (ks_wpAt_MethodCall (he := eval_method (by rfl) hline) (ks_wpAt_super_base (env := ksEnv qual iS s.heap.objs.size fI (.ref cda) cc) (by rfl) (by rfl) (by decide) rfl (X₁ _ _ ho) rfl rfl rfl (X₁ _ _ hcda) rfl hvs hfile T.top ?_)))
  have gl1 : h₁.Ns mainGlobals mg := M.glob.keeps hb₁
  refine ks_loadName_global (by rfl) (by rfl) (loadGlobal_builtin (env := ksEnv qual iS s.heap.objs.size fI (.ref cda) cc) gl1 T.gS (hmb.keeps hb₁) ((hmb2 _ (by decide)).trans (by rfl)) ⟨rfl, ?_⟩)
  refine wpAny_loadName_free (by rfl) (by rfl) rfl ⟨_, X₁ _ _ hcc, rfl⟩ ?_
  refine wpAny_loadName_local (v := .ref x) (by rfl) (by rfl) hns (by rfl) ?_
  refine ks_wpAny_isType_cls (X₁ _ _ hC) rfl ⟨rfl, ?_⟩
  refine ks_wpAny_call_super (X₁ _ _ hC) rfl hx₁ rfl (fun c e => by cases e) (looks_mroIn X₁ T.mroS) (fun h₂ e₂ hk₂ => ?_)
  have X₂ : K.In h₂ := X₁.keeps hk₂
  have hx₂ := hk₂ _ _ hx₁
  have I₂ : InstAt h₂ x (excO C t0) C none := ⟨hx₂, rfl, rfl, trivial⟩
  refine kxs_getMethod kxs_ValueError e₂ (looks_opaque X₂ T.opq) (l₀ := .ref C :: bm) (looks_clsIn X₂ hcl |>.andThen .now) rfl X₂ (by have := T.sup; unfold ks_superIn at this; rw [hcl] at this; exact this) (I₂.type.andThen (looks_subIn X₂ T.subV)) xC (by decide) ?_
  refine kxs_callWith (i := "ValueError.__init__") (x := x) (by rfl) (evalArgs_plain ?_)
  refine spliced_cons (Constant_str (k := 0) (pos := q 3) (spliced_nil ?_))
  refine ⟨Heap.get?_push_at rfl rfl, ?_⟩
  have hk₃ : ∀ b o, h₂.get? b = some o → (h₂.push (kxs_mw "ValueError.__init__" x)).get? b = some o := fun b o e => Heap.get?_push_of_some _ e
  refine call_bwV (C := C) (e := x) (t0 := t0) (hk₃ _ _ (X₂ _ _ hC)) (hk₃ _ _ hx₂) (Heap.get?_push_at rfl rfl) (one_size _) fun h₄ t1 hk₄ hx₄ => ?_
  -- self.thing = thing
  have old : ∀ b o, b ≠ x → s.heap.get? b = some o → h₄.get? b = some o := fun b o hb e => hk₄ b o hb (hk₃ _ _ (hk₂ _ _ (hk₁ _ _ e)))
  have X₄ : K.In h₄ := fun b o e => old b o (fun z => by rw [z] at e; rw [kL e] at hnx; cases hnx) (hbs _ _ (kL e))
  have hns₄ : h₄.Ns s.heap.objs.size (fun y => [(Str.ofString "self", Value.ref x), (Str.ofString "thing", v)].reverse.lookup y) := hns.at fun o e => hk₄ _ _ hxL (hk₃ _ _ (hk₂ _ _ e))
  refine wpAt_of_wpAny ?_
  refine wpAny_execs_cons (plainObj_wpAny_Assign_Attribute ?_)
  refine wpAny_Name (wpAny_loadName_local (v := v) (by rfl) (by rfl) hns₄ (by rfl) ?_) (by decide)
  refine wpAny_Name (wpAny_loadName_local (v := .ref x) (by rfl) (by rfl) hns₄ (by rfl) ?_) (by decide)
  refine set_plain X₄ (ox := excO C t1) (od := none) ⟨hx₄, rfl, rfl, trivial⟩ T.sa ?_
  refine exc_osa X₄ hx₄ hcl (show refsVE (.ref C :: bm) = true from hbm) rfl T.noN (fun h₅ tk₅ dx k₅ dn dne hx₅ hn₅ => ?_)
  refine wpAny_execs_nil (hq h₅ tk₅ dx t1 ⟨fun b o hb e => k₅ b o hb (old b o hb e), hx₅, ?_, dne, hn₅⟩)
  have z : s.heap.objs.size < h₄.objs.size := hns₄.lt
  exact Nat.le_of_lt (Nat.lt_of_lt_of_le z dn)
theorem bad_made (T : BadTxt prog K mg C fI) (M : L2.Mod K mg base) (hbs : ∀ b o, base.get? b = some o → s.heap.get? b = some o) {v : Value} (hroom : A.depth + 1 < recursionLimit)
    (hq : ∀ h' tk e d, OwnMade s.heap h' e C d v → R (.ok (.ret (.ref e))) { s with heap := h', toks := tk }) :
    codeAny (model prog w) A (.call (.ref C) ⟨[v], []⟩) R s := by
  obtain ⟨nm, q, N, bs, bm, sn, sub, ab, col, dd, k0, k1, k2, k3, k5, hC, hbm⟩ := T.cls
  have X : K.In s.heap := M.kin.keeps hbs
  obtain ⟨hp, g, dr, tk, os⟩ := s
  have k : ∀ b o, hp.get? b = some o → ((hp.push (kdv_tup [v])).push (excO C hp.objs.size)).get? b = some o := fun b o e => Heap.get?_push_of_some _ (Heap.get?_push_of_some _ e)
  have hget : ((hp.push (kdv_tup [v])).push (excO C hp.objs.size)).get? (hp.objs.size + 1) = some (excO C hp.objs.size) := by heap_get
  have hnx : base.get? (hp.objs.size + 1) = none := by
    cases e : base.get? (hp.objs.size + 1) with
    | none => rfl
    | some o =>
      have z : hp.get? (hp.objs.size + 1) = some o := hbs _ _ e
      exact absurd (Nat.lt_of_succ_lt (Heap.lt_size z)) (Nat.lt_irrefl _)
  refine call_own F.excBase_ValueError (fun X => refsVE_contains X bm hbm) (X _ _ hC) (looks_findIn X T.iC) (fun self => bind_fn X self T.tC) (one_size v) ?_
  refine bad_init (s := ⟨(hp.push (kdv_tup [v])).push (excO C hp.objs.size), g, dr, tk, os⟩) T M (fun b o e => k b o (hbs b o e)) hget hnx ?_ fun h' tk' dx t1 ⟨k', hx, dn, dne, hns⟩ => ?_
  · show A.depth + 1 < recursionLimit
    exact hroom
  · have old : ∀ b o, hp.get? b = some o → h'.get? b = some o := fun b o e => k' b o (Nat.ne_of_lt (Nat.lt_succ_of_lt (Heap.lt_size e))) (k b o e)
    have z : hp.objs.size + 1 + 1 ≤ dx := by
      first
        | (simpa only [Heap.size_push] using dn)
        | exact dn
        | (have q := dn; rw [Heap.size_push, Heap.size_push] at q; exact q)
    exact ⟨rfl, hq h' tk' (hp.objs.size + 1) dx ⟨old, Nat.le_succ _, ⟨_, _, hx, rfl, rfl, rfl, rfl⟩, Nat.le_trans (Nat.le_trans (Nat.le_succ _) (Nat.le_succ _)) z, dne, hns⟩⟩
end
end BadX
end PySem
namespace Sm
open PySem PySem.Spec PyProof.Rows L2
theorem relO_bad {v : V} {v' : Value} (r : RelV v v') (f : Str) : RelO (List.lookup f [(("thing" : Str), v)]) (if f = "thing" then some v' else none) := by
  by_cases hw : f = "thing"
  · subst hw
    rw [if_pos rfl]
    have q : List.lookup ("thing" : Str) [(("thing" : Str), v)] = some v := by simp [List.lookup]
    rw [q]
    exact r
  · rw [if_neg hw]
    have qw : (f == ("thing" : Str)) = false := by simpa using hw
    have q2 : List.lookup f [(("thing" : Str), v)] = none := by simp [List.lookup, qw]
    rw [q2]
    trivial
section
variable {X : Cx} {C fI : Addr}
/-- BadThing(e) -/
def tMkBad (C : Addr) (ta : TA) : L2.St → Hp → XK → Prop := fun σ H Q => ta σ H fun vs H1 => ∃ v, vs = [v] ∧ ∀ d, H1 d = none → Q (.ref C) (some d) (upd H1 d (.xd [(("thing" : Str), v)]))
theorem pmk_bad {a : Expr} {ta : TA} {p pos : Pos} {k : Nat} (T : PySem.BadX.BadTxt X.prog X.K X.mg C fI) (hr : Room k X.A) (ha : PA X [a] ta) (hg : Gl X "BadThing")
    (he : starEach (a :: []) X.env = (false, eval a X.env) :: starEach [] X.env) :
    PMk X (.Call (.Name "BadThing" p) [a] [] pos) (tMkBad C ta) := by
  intro pins s σ H Q I h
  refine wpAny_Call_Name_kw (ld_glob I hg T.gC ?_)
  refine PySem.W.callWith_K (h₀ := X.base) I.ok.mod.kin T.kC (thn (ha.run pos pins s σ H _ I h) fun us s1 hh => ?_) he (by rfl)
  obtain ⟨vs, H1, I1, r1, v, ev, q1⟩ := hh
  subst ev
  refine ⟨I1.kIn, ?_⟩
  cases r1 with
  | cons rv rn =>
    rename_i v' us'
    cases rn
    show wpAny _ _ (call (.ref C) [v']) _ _ _
    have hbk := I1.bk
    obtain ⟨hp, g, dr, tk, os⟩ := s1
    refine wpAny_call (PySem.BadX.bad_made T I1.ok.mod hbk (by have := hr.dp; omega) fun h' tk' e d M => ?_)
    show MkP X pins σ Q (.ref e) ⟨h', g, dr, tk', os⟩
    obtain ⟨oe, fv, hoe, hc, hd, hdat, h1⟩ := M.obj
    have hns := M.ns
    obtain ⟨G', g1, g2⟩ := restrict h' fun b => decide (b ≠ e)
    have gk : ∀ b, b ≠ e → G'.get? b = h'.get? b := fun b hb => g1 b (decide_eq_true hb)
    have ge : G'.get? e = none := g2 e (by simp)
    have old : ∀ b o, hp.get? b = some o → G'.get? b = some o := fun b o q => (gk b (Nat.ne_of_lt (Nat.lt_of_lt_of_le (Heap.lt_size q) M.new))).trans (M.keep b o q)
    have ob : ObjOk X.prog X.w (upd H1 d (.xd [(("thing" : Str), v)])) G' d (.xd [(("thing" : Str), v)]) :=
      ⟨_, hns.at (fun o q => (gk d M.dne).trans q), fun f => relO_bad rv f⟩
    have J : Inv X pins σ (upd H1 d (.xd [(("thing" : Str), v)])) ⟨G', g, dr, tk', os⟩ := I1.laid (t' := tk') old M.dbig ob
    refine ⟨e, oe, fv, ⟨G', g, dr, tk', os⟩, _, .ref C, some d, rfl, J, fun b o q => ?_, ge, hoe, ⟨hc, hd⟩, hdat, h1, ?_, rfl, I1.bare, raises_own T.exC T.tyC, q1 d (I1.hok.fresh M.dbig)⟩
    · by_cases hb : b = e
      · have q' : G'.get? b = some o := q
        rw [hb, ge] at q'; cases q'
      · exact (gk b hb).symm.trans q
    · rw [upd_ne (Ne.symm M.dne)]
      exact I1.hok.fresh M.new
/-- raise BadThing(e) -/
theorem ps_raiseBad {a : Expr} {ta : TA} {W : WX} {p pos pos2 : Pos} {k : Nat} (hc : X.calm = true) (T : PySem.BadX.BadTxt X.prog X.K X.mg C fI) (hr : Room k X.A) (tk : Takes X W) (ha : PA X [a] ta) (hg : Gl X "BadThing")
    (he : starEach (a :: []) X.env = (false, eval a X.env) :: starEach [] X.env) :
    PS X (.Raise (some (.Call (.Name "BadThing" p) [a] [] pos)) none pos2) (fun _ σ H => tMkBad C ta σ H fun cls d H' => W cls d σ H') := ps_raise hc tk (pmk_bad T hr ha hg he)
variable {z : Cz} {cf : CF} {gl : List (Str × Gk)} {k : Nat}
theorem ss_raise (o : Ok X z cf gl k) {a : Expr} {ia : E} {c nf : Nat} {p pos pos2 : Pos} (T : PySem.BadX.BadTxt X.prog X.K X.mg C fI) (hcl : z.cls c = some (C, [("thing" : Str)])) (tk : Takes X fun cls d _ H => z.W cls d H) (ha : SE X z cf a ia) (hn : notStar a = true) (hg : Gl X "BadThing") :
    SS X z cf (.Raise (some (.Call (.Name "BadThing" p) [a] [] pos)) none pos2) (.rais c [ia]) := fun n =>
  (ps_raiseBad o.calm T o.room tk (pa1 (ha EN) hn) hg (star1 hn _)).imp fun D σ H ⟨φ, lo, st, s, l, t, p⟩ => by
    have p : Post z φ st H ((evP (ev cf EN) ia lo st).bind fun x st => .ex c [x] st) (flQ z D) := by
      have e : ((evPs (ev cf EN) [ia] lo st).bind fun xs st => (.ex c xs st : Rs Fl)) = (evP (ev cf EN) ia lo st).bind fun x st => .ex c [x] st := by
        simp only [evPs]
        cases evP (ev cf EN) ia lo st <;> rfl
      rw [← e]; exact p
    refine tE.bindP s l t p fun x v φ1 st1 H1 s1 l1 t1 p1 rx h1 => ⟨v, rfl, fun d hd => ?_⟩
    exact h1 φ1 _ d C _ [v] (Step.grow (upd_old hd)) (s1.grow (upd_old hd)) hcl rfl (.cons (rx.keep (keep_of (upd_old hd))) .nil) upd_same
end
end Sm

set_option Elab.async false
set_option linter.all false
set_option maxRecDepth 100000
set_option maxHeartbeats 2000000
/-! SmS: whether something is refused: f(lambda: e, due), f trying what it got. -/
namespace Sm
open PySem PySem.Spec PyProof.Rows L2 LamX
theorem Around.guards_deeper (A : Around) (env : Env) : (A.deeper env).guards = A.guards := rfl
/-- what is asked of a def's body in which lambdas are made -/
structure LamOk (X : Cx) (z : Cz) (k : Nat) : Prop where
  room : Room (3 * k + 2) X.A
  hs : X.stack = X.env :: X.outer
  hf : X.env.frame = some X.env.locals
  code : ∃ c P, X.env.code = .ref c ∧ TabB X.base X.mg c P ∧ (P, X.env.qual ++ "<lambda>") ∈ z.T ∧ ∀ p ∈ z.T, p.1 = P → p.2 = X.env.qual ++ "<lambda>"
section
variable {X : Cx} {pins : List (Addr × Obj)} {σ : L2.St} {H HZ : Hp} {s s1 : Shared}
/-- x(), in the def that got the lambda: Z is that def's context, entered at s (after HandS.Lambda's rule; the surroundings are the very ones) -/
theorem pe_actG {CXg : CXT} {Eg : XK} {Ng : List Str} {qg : Str} {sg : Scope} {g f c' : Addr} {cdg pm ctv : Value} {params : Arguments} {body : Expr} {scope : Scope} {k i : Nat} {a : Str} {pn : List (Addr × Obj)} {xe : Value → Shared → Prop} {W : WX} {tb : XK → TE} {p1 p2 : Pos}
    (I : Inv X pins σ H s) (L : LamS X.env.scope scope) (hf : s.heap.get? f = some (PySem.W.kla_obj "<lambda>" (X.env.qual ++ "<lambda>") params body scope (cloFrom X.env.cells scope.names []) pm c' ctv)) (hfn : H f = none) (hfr : f ∉ frs X.stack)
    (hbind : bindArgs (PySem.W.kla_fn "<lambda>" (X.env.qual ++ "<lambda>") params body scope (cloFrom X.env.cells scope.names []) pm (.ref c') ctv) ⟨[], []⟩ = pure [])
    (tk : Takes ((cxOf CXg X.prog X.w X.K X.mg X.base Ng qg sg g cdg X.A X.stack s H Eg).tr pn xe) W) (hr : Room (k + 1) (X.A.deeper (envOfC qg sg s.heap.objs.size g cdg)))
    (hbody : ∀ (s1 : Shared) (H1 : Hp) (E : XK), Room k ((X.A.deeper (envOfC qg sg s.heap.objs.size g cdg)).deeper (lamEnv X scope s1.heap.objs.size f c')) → PE (lamCx X (X.A.deeper (envOfC qg sg s.heap.objs.size g cdg)) (envOfC qg sg s.heap.objs.size g cdg :: X.stack) s1 H1 E scope f c') body (tb E))
    (hN : Ng[i]? = some a) (hv : Vis sg a) (hd : (a == ("__debug__" : Str)) = false) (hcd : (a == ("__classdict__" : Str)) = false) :
    PE ((cxOf CXg X.prog X.w X.K X.mg X.base Ng qg sg g cdg X.A X.stack s H Eg).tr pn xe) (.Call (.Name a p1) [] [] p2)
      (fun σZ HZ Q => σZ[i]? = some (some (.ref f)) ∧ HZ c' = some (CodeO c' (X.env.qual ++ "<lambda>")) ∧ ∃ E : XK, (∀ cls d H', E cls d H' → W cls d σZ H') ∧ tb E σ HZ Q) := by
  refine ⟨fun pinsZ sZ σZ HZ Q IZ h => ?_⟩
  obtain ⟨hs, hc, E, hW, ht⟩ := h
  refine wpAny_Call_Name_kw (thn ((pe_var (pos := p1) (i := i) hN hv hd hcd).run pinsZ sZ σZ HZ (fun v H1 => v = .ref f ∧ H1 = HZ) IZ ⟨.ref f, hs, rfl, rfl⟩) fun u s1 ⟨v, H1, I1, r1, q1⟩ => ?_)
  obtain ⟨ev, eH⟩ := q1
  subst ev
  rw [eH] at I1
  obtain rfl : u = Value.ref f := r1
  have of1 : s1.heap.get? f = some (PySem.W.kla_obj "<lambda>" (X.env.qual ++ "<lambda>") params body scope (cloFrom X.env.cells scope.names []) pm c' ctv) := I1.base.keep f _ hf hfn hfr (fun z => nomatch (show f ∈ ([] : List Addr) from z))
  refine PySem.W.callWith_F0 ⟨_, _, _, _, of1⟩ ?_
  have un : Un (frs X.stack) [] H HZ s.heap s1.heap := I1.base
  obtain ⟨⟨oc, vs, t, hoc, hdc, hvc⟩, _, _⟩ := I1.hok c' _ hc
  have rc : codeAny (model X.prog X.w) (X.A.deeper (envOfC qg sg s.heap.objs.size g cdg)) (.call (.ref f) ⟨[], []⟩) (CR (L2.CX X.prog X.w) (envOfC qg sg s.heap.objs.size g cdg :: X.stack) X.prog X.w HZ s1 Q E) s1 := by
    refine PySem.W.kla_callFunE hr.depth of1 rfl L.co L.gen rfl ⟨c', oc, vs, t, rfl, hoc, hdc, hvc⟩ ?_
    rw [hbind]
    refine wpAny_pure (wpAny_newFunctionEnv (fun y hy => (L.own y hy).2) (fun y hy => absurd hy (by simp)) (fun h₁ hns hsb => ⟨I1.nolimit.fresh _ hsb, ?_⟩) L.kind)
    show codeAny _ _ (.expr body (lamEnv X scope s1.heap.objs.size f c')) _ _
    have kp : ∀ b o, s1.heap.get? b = some o → h₁.get? b = some o := fun b o e => hsb.extBut b o (Nat.ne_of_lt (Heap.lt_size e)) (Heap.get?_push_of_some _ e)
    have J : Inv (lamCx X (X.A.deeper (envOfC qg sg s.heap.objs.size g cdg)) (envOfC qg sg s.heap.objs.size g cdg :: X.stack) s1 HZ E scope f c') [] σ HZ { s1 with heap := h₁, toks := s1.toks + ([] : List (Str × Value)).length } :=
      lam_start2 I L I1.env0 hr.hd un hns kp
    refine PySem.W.kla_codeExpr (wpAny_mono ((hbody s1 HZ E (hr.deeper _)).run [] _ _ HZ Q J ht) (fun v s' hq => ?_) fun e s' hq => hq)
    obtain ⟨w', H', J', rv, q⟩ := hq
    exact ⟨w', H', J'.os, J'.bare, J'.base, J'.hok, rv, q⟩
  refine wpAny_call (codeAny_mono rc fun r s' hq => ?_)
  cases r with
  | error e => exact tk e s' (XE.of_call I1 (fun cls d H' h => hW cls d H' h) hq)
  | ok fl =>
    cases fl with
    | ret u => exact I1.after hq
    | next => exact False.elim hq
    | brk => exact False.elim hq
    | cont => exact False.elim hq
end
/-- e.thing, e the exception that the suite holds (at a; its class cls, its dict d) -/
def tByBad (C : Addr) (a : Addr) (cls : Value) (d : Option Addr) (te : TE) : TE := fun σ H Q => te σ H fun x H1 => x = .ref a ∧ cls = .ref C ∧ ∃ (dd : Addr) (v : V), d = some dd ∧ H1 dd = some (.xd [(("thing" : Str), v)]) ∧ Q v H1
theorem pe_byBad {X : Cx} {C fI : Addr} {a : Addr} {oe : Obj} {cls : Value} {d : Option Addr} {pn : List (Addr × Obj)} {e : Expr} {te : TE} {pos : Pos} (T : PySem.BadX.BadTxt X.prog X.K X.mg C fI) (hz : Zc cls d oe) (hf : ∃ vs, oe.data = .fields vs) (he : PE (X.suite a ((a, oe) :: pn)) e te)
    (hb : attributeBase e "thing" X.env (eval e X.env) = eval e X.env) :
    PE (X.suite a ((a, oe) :: pn)) (.Attribute e "thing" pos) (tByBad C a cls d te) := by
  refine ⟨fun pins s σ H Q I h => ?_⟩
  refine attr_of hb (thn (he.run pins s σ H _ I h) fun u s1 hh => ?_)
  obtain ⟨x, H1, I1, rx, ex, ec, dd, v, ed, ea, q⟩ := hh
  subst ex
  obtain rfl : u = Value.ref a := rx
  subst ec
  subst ed
  obtain ⟨ha, _⟩ := I1.pin (a, oe) (List.mem_append_left _ List.mem_cons_self)
  obtain ⟨vs, hd⟩ := hf
  have hx : ObjOk X.prog X.w H1 s1.heap dd (.xd [(("thing" : Str), v)]) := I1.hok dd _ ea
  obtain ⟨mA, hns, hr⟩ := hx
  obtain ⟨od, ho, hl⟩ := lookIn_ns hns
  have l : List.lookup ("thing" : Str) [(("thing" : Str), v)] = some v := by simp [List.lookup]
  obtain ⟨u, hu, ru⟩ := RelO.some_of (v := v) (o := mA "thing") (by rw [← l]; exact hr "thing")
  have J : PySem.W.InstAt s1.heap a oe C (some od) := ⟨ha, hz.1, by unfold PySem.W.notCls; rw [hd] <;> rfl, by rw [hz.2]; exact ho⟩
  exact HandSPX.exc_get I1.kIn J T.ga T.gg T.exC (PySem.W.findObj_own T.hdC T.noN rfl (by rw [hl, hu])) (handed_of ru) ⟨v, H1, I1.tok _, ru, q⟩
/-! ### the def that tries what it got -/
abbrev rfB (p : Nat → Pos) : List Stmt := [.Try [.Expr (.Call (.Name "work" (p 0)) [] [] (p 1)) (p 2), .Return (some (.Constant (.bool false) 0 (p 3))) (p 4)]
  [.ExceptHandler (some (.Name "BadThing" (p 5))) (some "e") [.Return (some (.Compare (.Call (.Name "repr" (p 6)) [.Attribute (.Name "e" (p 7)) "thing" (p 8)] [] (p 9)) [.Eq] [.Call (.Name "repr" (p 10)) [.Name "due" (p 11)] [] (p 12)] (p 13))) (p 14)] (p 15)] [] [] (p 16)]
def rRepr (K : PySem.W.Frag) : List V → Hp → VK → Prop := fun xs H Q => ∃ x d, xs = [x] ∧ RpM K H x d ∧ reprOk d = true ∧ Q (.str d.shown) H
/-- what the written part says of it -/
structure RefTxt (K : PySem.W.Frag) (mg : Str → Option Value) (g : Addr) : Prop where
  gm : mg "_law_refuses" = some (.ref g)
  kp : PySem.W.keepIn K (.ref g) = true
  fn : ∃ (p : Nat → Pos) (params : Arguments) (scope : Scope) (kV doc pm cdv ct oc : Value) (an od : Option Addr) (osl : Array (Option Value)),
    K.lookup g = some ⟨oc, od, .func (PySem.W.fnOf "_law_refuses" "_law_refuses" params (rfB p) scope .none kV doc pm an cdv ct), osl⟩ ∧ PySem.W.codeIn K cdv "_law_refuses" = true ∧ FnScope ["work", "due", "e"] ["work", "due"] scope ∧
    Binds K (PySem.W.fnOf "_law_refuses" "_law_refuses" params (rfB p) scope .none kV doc pm an cdv ct) ["work", "due"] [] ∧
    scope.names.lookup ("work" : Str) = some .local ∧ scope.names.lookup ("due" : Str) = some .local ∧ scope.names.lookup ("e" : Str) = some .local ∧ scope.names.lookup ("BadThing" : Str) = some .globalImplicit ∧ scope.names.lookup ("repr" : Str) = some .globalImplicit
section
variable {X : Cx} {z : Cz} {cf : CF} {gl : List (Str × Gk)} {k : Nat}
theorem refu_body {σ : L2.St} {H : Hp} {s : Shared} {f c' g C fI : Addr} {cdg : Value} {sg : Scope} {p : Nat → Pos} {tb : XK → TE} {Q : VK} {y : V} {dy : D} (T : PySem.BadX.BadTxt X.prog X.K X.mg C fI) (hrep : X.mg "repr" = none) (S : FnScope ["work", "due", "e"] ["work", "due"] sg)
    (hgu : X.A.guards = some []) (hr : Room k X.A)
    (h3 : sg.names.lookup ("e" : Str) = some .local) (h2 : sg.names.lookup ("due" : Str) = some .local) (h4 : sg.names.lookup ("BadThing" : Str) = some .globalImplicit) (h5 : sg.names.lookup ("repr" : Str) = some .globalImplicit)
    (act : ∀ (W : WX) (pn : List (Addr × Obj)) (xe : Value → Shared → Prop) (p1 p2 : Pos), Takes ((cxOf C8.CX0 X.prog X.w X.K X.mg X.base ["work", "due", "e"] "_law_refuses" sg g cdg X.A X.stack s H C8.E0).nox.tr pn xe) W →
      PE ((cxOf C8.CX0 X.prog X.w X.K X.mg X.base ["work", "due", "e"] "_law_refuses" sg g cdg X.A X.stack s H C8.E0).nox.tr pn xe) (.Call (.Name "work" p1) [] [] p2) (fun σZ HZ Q => σZ[0]? = some (some (.ref f)) ∧ HZ c' = some (CodeO c' (X.env.qual ++ "<lambda>")) ∧ ∃ E : XK, (∀ cls d H', E cls d H' → W cls d σZ H') ∧ tb E σ HZ Q))
    (hc : H c' = some (CodeO c' (X.env.qual ++ "<lambda>")))
    (run : ∃ E : XK, (∀ cls d H', E cls d H' → ∃ dd v dv, cls = .ref C ∧ d = some dd ∧ H' dd = some (.xd [(("thing" : Str), v)]) ∧ RpM X.K H' v dv ∧ reprOk dv = true ∧ RpM X.K H' y dy ∧ reprOk dy = true ∧ Q (.bl (decide (dv.shown = dy.shown))) H') ∧
      tb E σ H (fun _ H1 => Q (.bl false) H1)) :
    ∃ t, PSs (cxOf C8.CX0 X.prog X.w X.K X.mg X.base ["work", "due", "e"] "_law_refuses" sg g cdg X.A X.stack s H C8.E0).nox (rfB p) t ∧ t { nx := fun _ H' => Q .non H', rt := Q } (L2.start ["work", "due", "e"] [.ref f, y]) H := by
  obtain ⟨E, hE, hrun⟩ := run
  have hun : X.A.units + 100 < cLine := by have := hr.un; omega
  refine ⟨_, pss_one (ps_try_as (X := (cxOf C8.CX0 X.prog X.w X.K X.mg X.base ["work", "due", "e"] "_law_refuses" sg g cdg X.A X.stack s H C8.E0).nox) (c := .ref C) (i := 2)
      (tb := fun W => tSeq (tDrop (fun σZ HZ Q => σZ[0]? = some (some (.ref f)) ∧ HZ c' = some (CodeO c' (X.env.qual ++ "<lambda>")) ∧ ∃ E : XK, (∀ cls d H', E cls d H' → W cls d σZ H') ∧ tb E σ HZ Q)) (tRet (L2.tC (.bl false))))
      (ts := fun a cls d => tRet (tOp (rCmpD X.K .Eq) (tCB (rRepr X.K) (tCons (tByBad C a cls d (tVar 2)) tNil)) (tCB (rRepr X.K) (tCons (tVar 1) tNil))))
      rfl rfl (show (["work", "due", "e"] : List Str).Nodup by decide) rfl h3 ⟨h4, by decide, .inl T.gC⟩ L2.takes0 (fun W pn xe tk _ => ?_) (fun a oe cls d pn hz hf => ?_)), ?_⟩
  · exact pss_cons (ps_expr (act W pn xe _ _ tk)) (pss_one (ps_ret pe_bl))
  · have hmk : ((cxOf C8.CX0 X.prog X.w X.K X.mg X.base ["work", "due", "e"] "_law_refuses" sg g cdg X.A X.stack s H C8.E0).nox.suite a ((a, oe) :: pn)).A.guards = some [] := hgu
    have hum : ((cxOf C8.CX0 X.prog X.w X.K X.mg X.base ["work", "due", "e"] "_law_refuses" sg g cdg X.A X.stack s H C8.E0).nox.suite a ((a, oe) :: pn)).A.units + 100 < cLine := by
      have := hr.un
      show X.A.units + 3 + 100 < cLine
      omega
    refine pss_one (ps_ret (pe_cmpR (op_cmpD hum .Eq) (pe_callB (cb_repr hmk hum) h5 hrep rfl (pa1 (pe_byBad T hz hf (pe_var (i := 2) rfl (.inl h3)) rfl) rfl) (by decide) rfl (by rfl) (by rfl)) (pe_callB (cb_repr hmk hum) h5 hrep rfl (pa1 (pe_var (i := 1) rfl (.inl h2)) rfl) (by decide) rfl (by rfl) (by rfl)) (by rfl)))
  · refine ⟨rfl, hc, E, fun cls d H' h => ?_, hrun⟩
    obtain ⟨dd, v, dv, rfl, rfl, ev, rv, ov, ry, oy, q⟩ := hE cls d H' h
    refine ⟨true, T.te, fun _ a ha => ?_, fun z => by cases z⟩
    refine ⟨_, by rfl, rfl, rfl, dd, v, rfl, ev, v, dv, rfl, rv, ov, _, rfl, y, dy, rfl, ry, oy, ?_⟩
    refine ⟨.str dv.shown, .str dy.shown, decide (dv.shown = dy.shown), .inl (.str _), .inl (.str _), ?_, q⟩
    have e1 : eqOk (.str dv.shown) (.str dy.shown) = true := by rfl
    have e2 : PyData.eqv (.str dv.shown) (.str dy.shown) = decide (dv.shown = dy.shown) := by
      by_cases h : dv.shown = dy.shown
      · rw [h]; simp [PyData.eqv]
      · simp [PyData.eqv, h]
    simp only [cmpD, e1, if_true, e2]
abbrev noArgs : Arguments := { posonlyargs := [], args := [], vararg := none, kwonlyargs := [], kw_defaults := [], kwarg := none, defaults := [] }
theorem dom_ext {H H' : Hp} (e : LamX.ExtN H H') {a : Addr} (h : Fr H' a) : Fr H a := fun o q => by
  by_cases ht : ∃ ps, o = .tbl ps
  · exact ht
  · exact h o (e a o q fun ps z => ht ⟨ps, z⟩)
theorem Step.extN {T : List (Addr × Str)} {φ : List Addr} {st : Sto} {H H' : Hp} (e : LamX.ExtN H H') (t : LamX.Tabs T H') : Step T φ st H φ st H' :=
  ⟨⟨[], by simp, by simp⟩, fun _ h => h, fun a o h nt _ => e a o h nt, fun a h => dom_ext e h, fun _ => t⟩
theorem StOk.extN {K : PySem.W.Frag} {φ : List Addr} {st : Sto} {H H' : Hp} (s : StOk K φ st H) (e : LamX.ExtN H H') : StOk K φ st H' :=
  ⟨s.len, s.nd, fun i a xs h1 h2 => by
    obtain ⟨vs, e1, r⟩ := s.lst i a xs h1 h2
    exact ⟨vs, e _ _ e1 (by intro ps q; cases q), r.keep ⟨fun a xs h => e _ _ h (by intro ps q; cases q), fun a o u h => e _ _ h (by intro ps q; cases q)⟩⟩, s.dct⟩
theorem refu_read {m : Nat} {icall : E} {φ : List Addr} {st : Sto} {lo : Lo} {H : Hp} {y : D} {Q : VK} {C : Addr} {v : V} {σ : L2.St} (hK : X.K = z.K) (hcl : z.cls 0 = some (C, [("thing" : Str)])) (s : StOk z.K φ st H) (l : SimL z.K φ H lo σ) (t : LamX.Tabs z.T H) (ry : Rp z.K H v y)
    (h : Post z φ st H (match ev cf m icall lo st with
    | .ok _ st => ret (.bool false) st
    | .ex 0 [x] st => if reprOk x && reprOk y then ret (.bool (decide (x.shown = y.shown))) st else .no
    | _ => .no) fun x φ' _ H' => ∀ v, RpR z.K φ' H' v x → Q v H') :
    ∃ E : XK, (∀ cls d H', E cls d H' → ∃ dd w dv, cls = .ref C ∧ d = some dd ∧ H' dd = some (.xd [(("thing" : Str), w)]) ∧ RpM X.K H' w dv ∧ reprOk dv = true ∧ RpM X.K H' v y ∧ reprOk y = true ∧ Q (.bl (decide (dv.shown = y.shown))) H') ∧
      tE { z with W := E } (ev cf m) icall σ H (fun _ H1 => Q (.bl false) H1) := by
  refine ⟨fun cls d H' => ∃ dd w dv, cls = .ref C ∧ d = some dd ∧ H' dd = some (.xd [(("thing" : Str), w)]) ∧ RpM X.K H' w dv ∧ reprOk dv = true ∧ RpM X.K H' v y ∧ reprOk y = true ∧ Q (.bl (decide (dv.shown = y.shown))) H', fun _ _ _ h => h, φ, lo, st, s, l, t, ?_⟩
  cases hr : ev cf m icall lo st with
  | no => rw [hr] at h; exact h
  | ok x st3 => rw [hr] at h; exact fun φ3 H3 p3 s3 w rw' => h φ3 H3 p3 s3 (.bl false) (.bl false)
  | ex c xs st3 =>
    rw [hr] at h
    match c, xs, h with
    | 0, [x], h =>
      obtain ⟨hz, h⟩ := ite_no h
      rw [Bool.and_eq_true] at hz
      intro φ3 H3 d C' fs vs p3 s3 ec hl rv hd
      have ec : z.cls 0 = some (C', fs) := ec
      rw [hcl] at ec
      cases ec
      cases rv with
      | cons rw' rn =>
        cases rn
        rw [hK]
        exact ⟨d, _, x, rfl, rfl, hd, .inl rw', hz.1, .inl (ry.keep (p3.keep s)), hz.2, h φ3 H3 p3 s3 _ (.bl _)⟩
    | 0, [], h => exact (h : False).elim
    | 0, _ :: _ :: _, h => exact (h : False).elim
    | c + 1, xs, h => exact (h : False).elim
theorem se_refu (o : Ok X z cf gl k) (lam : LamOk X z k) {g C fI : Addr} (R : RefTxt X.K X.mg g) (T : PySem.BadX.BadTxt X.prog X.K X.mg C fI) (hcl : z.cls 0 = some (C, [("thing" : Str)])) (hrep : X.mg "repr" = none) {body due : Expr} {icall idue : E} {scope : Scope} {p lpos pos : Pos}
    (hg : Gl X "_law_refuses") (L : LamS X.env.scope scope) (hn : notStar due = true) (hd : SE X z cf due idue)
    (hcall : ∀ (A : Around) (outer : List Env) (s1 : Shared) (H1 : Hp) (E : XK) (f c' : Addr), Ok (lamCx X A outer s1 H1 E scope f c') { z with W := E } cf gl k → SE (lamCx X A outer s1 H1 E scope f c') { z with W := E } cf body icall) :
    SE X z cf (.Call (.Name "_law_refuses" p) [.Lambda noArgs body scope lpos, due] [] pos) (.refu icall idue) := SE.of fun m => by
  refine ⟨fun pins s σ H Q I ⟨φ, lo, st, s0, l0, t0, p0⟩ => ?_⟩
  obtain ⟨c, P, hcode, TB, hmT, hu⟩ := lam.code
  obtain ⟨ps, params, sg, kV, doc, pm, cdv, ct, oc, an, od, osl, lk, hcg, S, hb, h1, h2, h3, h4, h5⟩ := R.fn
  refine wpAny_Call_Name_kw (ld_glob I hg R.gm ?_ (by decide))
  refine PySem.W.callWith_K (h₀ := X.base) I.ok.mod.kin R.kp ?_ (star_each rfl _ _) (by rw [star1 hn]; rfl)
  rw [star2 rfl hn]
  show wpAny _ _ (spliced ((false, eval (.Lambda noArgs body scope lpos) X.env) :: (false, eval due X.env) :: [])) _ _ s
  refine Calls.spliced_cons (lam_make2 I TB hcode hmT hu t0 (by rfl) (L.has I.ok) fun f c' pm' ctv H1 s' I1 eN T1 hf hfn hfr hco => ?_)
  have p1 : Step z.T φ st H φ st H1 := Step.extN eN T1
  have s1 := s0.extN eN
  have l1 := l0.step s0 p1
  have hfs : f ∉ X.env.locals :: X.fs := by
    have e : frs X.stack = X.env.locals :: X.fs := by
      rw [lam.hs]
      unfold frs
      rw [List.filterMap_cons, lam.hf]
      rfl
    rw [← e]; exact hfr
  have I1p : Inv X (pins ++ [(f, PySem.W.kla_obj "<lambda>" (X.env.qual ++ "<lambda>") noArgs body scope (cloFrom X.env.cells scope.names []) pm' c' ctv)]) σ H1 s' := I1.pins_of fun q hq => by
    rcases List.mem_append.mp hq with hq | hq
    · exact I1.pin q (List.mem_append_right _ hq)
    · rw [List.mem_singleton.mp hq]
      exact ⟨hf, hfn, fun e => hfs (by rw [← e]; exact List.mem_cons_self), fun e => hfs (List.mem_cons_of_mem _ e), fun v e => by cases e⟩
  have rd : tE z (ev cf m) idue σ H1 (fun v H2 => ∃ (φ2 : List Addr) (st2 : Sto) (y : D), StOk z.K φ2 st2 H2 ∧ SimL z.K φ2 H2 lo σ ∧ LamX.Tabs z.T H2 ∧ Step z.T φ st H1 φ2 st2 H2 ∧ Rp z.K H2 v y ∧ Post z φ2 st2 H2 (match ev cf m icall lo st2 with
    | .ok _ st => ret (.bool false) st
    | .ex 0 [x] st => if reprOk x && reprOk y then ret (.bool (decide (x.shown = y.shown))) st else .no
    | _ => .no) fun x φ' _ H' => ∀ v, RpR z.K φ' H' v x → Q v H') := by
    have p0 : Post z φ st H1 ((evP (ev cf m) idue lo st).bind fun y st => match ev cf m icall lo st with
      | .ok _ st => ret (.bool false) st
      | .ex 0 [x] st => if reprOk x && reprOk y then ret (.bool (decide (x.shown = y.shown))) st else .no
      | _ => .no) (fun x φ' _ H' => ∀ v, RpR z.K φ' H' v x → Q v H') := by
      have p0 : Post z φ st H ((evP (ev cf m) idue lo st).bind fun y st => match ev cf m icall lo st with
        | .ok _ st => ret (.bool false) st
        | .ex 0 [x] st => if reprOk x && reprOk y then ret (.bool (decide (x.shown = y.shown))) st else .no
        | _ => .no) (fun x φ' _ H' => ∀ v, RpR z.K φ' H' v x → Q v H') := p0
      generalize (Rs.bind _ _) = r at p0 ⊢
      cases r with
      | no => exact p0
      | ex c xs st' => exact fun φ2 H2 d C fs vs p2 => p0 φ2 H2 d C fs vs (p1.trans s0 s1 p2)
      | ok x st' => exact fun φ2 H2 p2 => p0 φ2 H2 (p1.trans s0 s1 p2)
    exact tE.bindP s1 l1 T1 p0 fun y v φ2 st2 H2 s2 l2 t2 p2 ry h2 => ⟨φ2, st2, y, s2, l2, t2, p2, ry, h2⟩
  refine Calls.spliced_cons (thn ((hd m).run _ s' σ H1 _ I1p rd) fun u s2 ⟨v, H2, I2p, rv, φ2, st2, y, sk2, l2, t2, p2, ry, h2'⟩ => ?_)
  have pf := I2p.pin (f, _) (List.mem_append_right _ (List.mem_append_right _ (List.mem_singleton.mpr rfl)))
  have I2 : Inv X pins σ H2 s2 := I2p.unpinned
  have hc2 : H2 c' = some (CodeO c' (X.env.qual ++ "<lambda>")) := p2.ext c' _ hco codeO_ne fun lv => by
    obtain ⟨vs, e⟩ := s1.live_at lv
    rw [hco] at e
    unfold CodeO at e
    cases e
  refine Calls.spliced_nil ⟨I2.kIn, ?_⟩
  have rc : codeAny (model X.prog X.w) X.A (.call (.ref g) ⟨[.ref f, u], []⟩) (CR C8.CX0 X.stack X.prog X.w H2 s2 Q C8.E0) s2 := by
    refine run_ofS (k := 3 * k + 1) (N := ["work", "due", "e"]) (ps := ["work", "due"]) (us := [.ref f, u]) (vs := [.ref f, v]) lk hcg S lam.room I2.env0 (hb s2 [.ref f, u] I2.kIn rfl) (.cons rfl (.cons rv .nil)) rfl fun hr' => ?_
    have hguard : ∀ A' env', A' = X.A.deeper env' → A'.guards = some [] := fun A' env' e => by rw [e]; exact o.guards
    obtain ⟨t', ht', hq'⟩ := refu_body (X := X) (p := ps) (f := f) (c' := c') (g := g) (cdg := cdv) (sg := sg) (s := s2) (H := H2) (σ := σ) (y := v) (dy := y) (Q := Q) (tb := fun E => tE { z with W := E } (ev cf m) icall) T hrep S o.guards o.room h3 h2 h4 h5
      (fun W pn xe p1 p2 tk => pe_actG (CXg := C8.CX0) (Eg := C8.E0) (i := 0) I2 L pf.1 pf.2.1 hfr (by rfl) tk hr' (fun s1 H1 E hr2 => hcall _ _ s1 H1 E f c' ⟨o.hK, rfl, o.nd, hr2, o.guards, passes_call (takes_of rfl rfl rfl rfl) fun _ _ _ _ h => h, o.con, o.bi, o.fn⟩ m) rfl (.inl h1) (by decide) (by decide)) hc2
      (refu_read o.hK hcl sk2 l2 t2 ry h2')
    exact ⟨t', ht'.nox, hq'⟩
  refine wpAny_call (codeAny_mono rc fun r s3 hq => ?_)
  cases r with
  | error e => exact (show False from hq).elim
  | ok fl =>
    cases fl with
    | ret u => exact I2.after hq
    | next => exact False.elim hq
    | brk => exact False.elim hq
    | cont => exact False.elim hq
end
end Sm

set_option Elab.async false
set_option linter.all false
set_option maxRecDepth 100000
set_option maxHeartbeats 2000000
/-! SmSb: sorted(xs, key=lambda x: (len(x), x)). -/
namespace Sm
open PySem PySem.Spec PyProof.Rows L2 LamX
mutual
theorem reads_noLst {h : Heap} : ∀ {v : Value} {d : D} {as : List Addr}, Reads h v d as → noLst d = true → as = []
  | _, _, _, .none, _ => rfl
  | _, _, _, .bool b, _ => rfl
  | _, _, _, .int i t, _ => rfl
  | _, _, _, .str x t, _ => rfl
  | _, _, _, .list _ _ _ _, n => by simp [noLst] at n
  | _, _, _, .tuple _ _ _ r, n => by
    simp only [noLst] at n
    exact readsAll_noLst r n
  | _, _, _, .dict _ _ _ _ _, n => by simp [noLst] at n
theorem readsAll_noLst {h : Heap} : ∀ {vs : List Value} {ds : List D} {as : List Addr}, ReadsAll h vs ds as → noLsts ds = true → as = []
  | _, _, _, .nil, _ => rfl
  | _, _, _, .cons r rr, n => by
    simp only [noLsts, Bool.and_eq_true] at n
    rw [reads_noLst r n.1, readsAll_noLst rr n.2]
    rfl
end
abbrev lnArgs (x : Str) (p : Pos) : Arguments := { posonlyargs := [], args := [{ arg := x, annotation := none, pos := p }], vararg := none, kwonlyargs := [], kw_defaults := [], kwarg := none, defaults := [] }
abbrev lnBody (x : Str) (p : Nat → Pos) : Expr := .Tuple [.Call (.Name "len" (p 0)) [.Name x (p 1)] [] (p 2), .Name x (p 3)] 0 (p 4)
/-- the lambda's names -/
structure LnScope (x : Str) (scope : Scope) : Prop where
  kind : scope.kind = .function
  co : scope.isCoroutine = false
  gen : scope.isGenerator = false
  own : ∀ y ∈ scope.names, y.2 ≠ .cell ∧ y.2 ≠ .free
  lx : scope.names.lookup x = some .local
  len : scope.names.lookup ("len" : Str) = some .globalImplicit
  ne : (x == ("__debug__" : Str)) = false
/-- the key of one item -/
theorem key_call {prog : Program} {w : World} {A : Around} {E : Value → Shared → Prop} {s : Shared} {x q : Str} {pp : Pos} {p : Nat → Pos} {scope : Scope} {cl : List (Str × Addr)} {f c' a : Addr} {pm ctv : Value} {mg mb : Str → Option Value} {items : Array Value} {d : List D}
    (S : LnScope x scope) (hf : s.heap.get? f = some (PySem.W.kla_obj "<lambda>" q (lnArgs x pp) (lnBody x p) scope cl pm c' ctv)) (hroom : A.depth < recursionLimit)
    (hc : ∃ (oc : Obj) (vs : Array Value) (t : Tok), s.heap.get? c' = some oc ∧ oc.data = .fields vs ∧ vs[1]? = some (.str q t)) (hlim : s.heap.NoLimit)
    (hg : s.heap.Ns mainGlobals mg) (hm : mg "len" = none) (hb : s.heap.Ns builtinsNs mb) (hbl : mb "len" = some (.builtin "len"))
    (ht : IsTup s.heap a items) (hz : (items.size : Int) < 2 ^ 63) (hr : Reads s.heap (.ref a) (.tuple d) []) (hd : items.size = d.length) :
    wpAny (model prog w) A (call (.ref f) [.ref a]) (PySem.W.KeyPure (keyLn (.tuple d)) s) E s := by
  obtain ⟨oc, vs, t, hoc, hdc, hvc⟩ := hc
  refine wpAny_call (PySem.W.kla_callFunE hroom hf rfl S.co S.gen rfl ⟨c', oc, vs, t, rfl, hoc, hdc, hvc⟩ ?_)
  have hbind : bindArgs (PySem.W.kla_fn "<lambda>" q (lnArgs x pp) (lnBody x p) scope cl pm (.ref c') ctv) ⟨[.ref a], []⟩ = pure [(x, .ref a)] := by
    have e1 : seqItems? Value.none = pure none := by rfl
    have hmiss : ([x].filter fun n => (([x].zip [Value.ref a]).lookup n).isNone) = [] := by simp
    have hz : [x].filterMap (fun n => (([x].zip [Value.ref a]).lookup n).map (n, ·)) = [(x, Value.ref a)] := by simp
    unfold bindArgs
    simp [e1]
  rw [hbind]
  refine wpAny_pure (wpAny_newFunctionEnv (fun y hy => (S.own y hy).1) (fun y hy => ?_) (fun h₁ hns hsb => ⟨hlim.fresh _ hsb, ?_⟩) S.kind)
  · rw [List.mem_singleton.mp hy]; exact S.lx
  · have kp : ∀ b o, s.heap.get? b = some o → h₁.get? b = some o := fun b o e => hsb.extBut b o (Nat.ne_of_lt (Heap.lt_size e)) (Heap.get?_push_of_some _ e)
    refine PySem.W.kla_codeExpr (env := newEnv scope s.heap.objs.size mainGlobals cl (q ++ ".<locals>.") (some f) (.ref c') none builtinsNs) ?_
    generalize hE : (fun (e' : Value) (s' : Shared) => wpAny (model prog w) (A.deeper (newEnv scope s.heap.objs.size mainGlobals cl (q ++ ".<locals>.") (some f) (.ref c') none builtinsNs)) (leaving (newEnv scope s.heap.objs.size mainGlobals cl (q ++ ".<locals>.") (some f) (.ref c') none builtinsNs) e') (fun _ s'' => E e' s'') (fun e'' s'' => E e'' s'') s') = E'
    have hx : ∀ {s' : Shared} {pos : Pos} {Q : Value → Shared → Prop}, (∀ b o, h₁.get? b = some o → s'.heap.get? b = some o) → Q (.ref a) s' → wpAny (model prog w) (A.deeper (newEnv scope s.heap.objs.size mainGlobals cl (q ++ ".<locals>.") (some f) (.ref c') none builtinsNs)) (eval (.Name x pos) (newEnv scope s.heap.objs.size mainGlobals cl (q ++ ".<locals>.") (some f) (.ref c') none builtinsNs)) Q E' s' := fun {s' pos Q} hk hq =>
      wpAny_Name (wpAny_loadName_local (v := .ref a) S.kind S.lx (hns.keeps hk) (by simp) hq) S.ne
    refine Tuple_ ?_
    show wpAny _ _ (spliced ((false, eval (.Call (.Name "len" (p 0)) [.Name x (p 1)] [] (p 2)) (newEnv scope s.heap.objs.size mainGlobals cl (q ++ ".<locals>.") (some f) (.ref c') none builtinsNs)) :: (false, eval (.Name x (p 3)) (newEnv scope s.heap.objs.size mainGlobals cl (q ++ ".<locals>.") (some f) (.ref c') none builtinsNs)) :: [])) _ _ _
    refine Calls.spliced_cons (wpAny_Call_Name_kw (wpAny_Name (PySem.W.ks_loadName_global S.kind S.len (Calls.loadGlobal_builtin (mg := mg) (mb := mb) (v := .builtin "len") (hg.keeps kp) hm (hb.keeps kp) hbl ?_)) (by decide)))
    refine callWith_kw ?_
    show wpAny _ _ (spliced ((false, eval (.Name x (p 1)) (newEnv scope s.heap.objs.size mainGlobals cl (q ++ ".<locals>.") (some f) (.ref c') none builtinsNs)) :: [])) _ _ _
    refine Calls.spliced_cons (hx (fun _ _ e => e) (Calls.spliced_nil (kws_nil ?_)))
    refine PyProof.Rows.len_tuple (ht.keeps kp) hz ?_
    refine Calls.spliced_cons (hx (fun _ _ e => e) (Calls.spliced_nil ?_))
    refine wpAny_newTuple ?_ (by have := sizeLine_eq; show 2 ≤ sizeLine; omega)
    refine ⟨_, _, rfl, fun b o e => Heap.get?_push_of_some _ (kp b o e), ?_⟩
    show Reads _ _ (.tuple [.int d.length, .tuple d]) []
    rw [← hd]
    have kp2 : ∀ b o, s.heap.get? b = some o → (h₁.push { cls := .type "tuple", data := .seq (List.toArray [Value.int (items.size : Int) (s.toks + [(x, Value.ref a)].length + 1), Value.ref a]) }).get? b = some o := fun b o e => Heap.get?_push_of_some _ (kp b o e)
    exact .tuple (Heap.get?_push_size _ rfl) rfl rfl (.cons (.int _ _) (.cons (PyProof.Rows.Reads.keeps kp2 hr) .nil))
theorem noLsts_mem {x : D} : ∀ {xs : List D}, noLsts xs = true → x ∈ xs → noLst x = true
  | [], _, h => by cases h
  | y :: ys, n, h => by
    simp only [noLsts, Bool.and_eq_true] at n
    rcases List.mem_cons.mp h with rfl | h
    · exact n.1
    · exact noLsts_mem n.2 h
section
variable {X : Cx} {z : Cz} {cf : CF} {gl : List (Str × Gk)} {k : Nat}
theorem se_sortl (o : Ok X z cf gl k) (lam : LamOk X z k) (hg : Gl X "sorted") (hm : gl.lookup ("sorted" : Str) = some .bi) (hl : gl.lookup ("len" : Str) = some .bi) {a : Expr} {ia : E} {x : Str} {scope : Scope} {p pp lp kp pos : Pos} {pb : Nat → Pos} (ha : SE X z cf a ia) (hs : notStar a = true) (S : LnScope x scope) :
    SE X z cf (.Call (.Name "sorted" p) [a] [⟨some "key", .Lambda (lnArgs x pp) (lnBody x pb) scope lp, kp⟩] pos) (.blt .sortLn ia) := SE.of fun m => by
  refine ⟨fun pins s σ H Q I ⟨φ, lo, st, s0, l0, t0, p0⟩ => ?_⟩
  obtain ⟨c, P, hcode, TB, hmT, hu⟩ := lam.code
  refine wpAny_Call_Name_kw (ld_blt I hg (o.bi _ hm) (by rfl) ?_)
  have hb : backTo pos (starEach [a] X.env) = (false, eval a X.env) :: [] := by rw [star_each hs [] X.env]; rfl
  refine callWith_kw ?_ (he := hb) (hplain := by rw [hb]; rfl)
  have rd : tE z (ev cf m) ia σ H (fun v H1 => ∃ (φ1 : List Addr) (st1 : Sto) (ys : List D), StOk z.K φ1 st1 H1 ∧ LamX.Tabs z.T H1 ∧ RpM z.K H1 v (.list ys) ∧ (ys.all isTup && noLsts ys && sortable (ys.map keyLn) && szOk ys.length) = true ∧ Post z φ1 st1 H1 (ret (.list (sortLn ys)) st1) fun x φ' _ H' => ∀ v, RpR z.K φ' H' v x → Q v H') := by
    have p0 : Post z φ st H ((evD (ev cf m) ia lo st).bind fun x st => match x with
      | .list ys => if ys.all isTup && noLsts ys && sortable (ys.map keyLn) && szOk ys.length then ret (.list (sortLn ys)) st else .no
      | _ => .no) (fun x φ' _ H' => ∀ v, RpR z.K φ' H' v x → Q v H') := p0
    refine tE.bindD s0 l0 t0 p0 fun x v φ1 st1 H1 s1 l1 t1 p1 rx h1 => ?_
    cases x with
    | list ys =>
      obtain ⟨hz, h2⟩ := ite_no h1
      exact ⟨φ1, st1, ys, s1, t1, rx, hz, h2⟩
    | _ => exact (h1 : False).elim
  rw [hb]
  refine Calls.spliced_cons (thn ((ha m).run pins s σ H _ I rd) fun u s1 ⟨v, H1, I1, rv, φ1, st1, ys, sk1, t1, rx, hz, h2⟩ => Calls.spliced_nil (kws_cons ?_))
  refine lam_make2 I1 TB hcode hmT hu t1 (by rfl) (fun y hy e => absurd e (S.own y hy).2) fun f c' pm' ctv H2 s2 I2 eN T2 hf hfn hfr hco => kws_nil ?_
  have p2 : Step z.T φ1 st1 H1 φ1 st1 H2 := Step.extN eN T2
  have s2' := sk1.extN eN
  have rx2 : RpM X.K H2 v (.list ys) := by
    rw [o.hK]
    rcases rx with h | ⟨a, vs, ds, rfl, e, h, r⟩
    · exact .inl (h.keep (p2.keep sk1))
    · exact .inr ⟨a, vs, ds, rfl, e, eN _ _ h (by intro ps q; cases q), r.keep (p2.keep sk1)⟩
  obtain ⟨b, vs, rfl, hq, rl⟩ := rx2.list
  obtain rfl : u = Value.ref b := rv
  obtain ⟨its, n, rvs, hzs, ho⟩ := hq.obj I2
  simp only [Bool.and_eq_true] at hz
  obtain ⟨⟨⟨z1, z2⟩, z3⟩, z4⟩ := hz
  obtain ⟨q1, q2, q3⟩ := sortable_of z3
  have l1 := rl.length
  have hroom := lam.room
  have hun := hroom.un
  have hob := I2.hok c' _ hco
  obtain ⟨⟨oc, cvs, ct, hoc, hdc, hvc⟩, _, _⟩ := hob
  have em := eachRv rvs rl
  have he := I2.mod.blt
  obtain ⟨mb, hmb, hmb2⟩ := he
  refine PySem.W.sorted_key_data (b := false) keyLn ⟨_, ho, rfl, n, rfl⟩ em q2 q1 (by omega) (fun y hy => ?_) (PyProof.Rows.ksk_s1 _ _) (fun _ => PyProof.Rows.ksk_l1 _ _) (fun _ => PyProof.Rows.ksk_t1 _ _) (fun u y hu hy h tk kp => ?_) fun out c h' tk kp hnone hD hlen hE => ?_
  · have := q3 _ (List.mem_map.mpr ⟨y, hy, rfl⟩)
    omega
  · obtain ⟨as, ra⟩ := rvReads I2 hu
    have e0 := reads_noLst ra (noLsts_mem z2 hy)
    subst e0
    have ht := List.all_eq_true.mp z1 y hy
    unfold isTup at ht
    split at ht
    · rename_i d
      cases ra with
      | tuple g1 g2 g3 g4 =>
        rename_i ta to tvs tn
        have hlen : tvs.size = d.length := by
          exact PySem.W.readsAll_len g4
        obtain ⟨v0, r0, rp0⟩ := hu
        have hsz : d.length ≤ sizeLine := by
          cases rp0 with
          | tup w1 w2 =>
            obtain ⟨tits, tv, _, tz⟩ := I2.tuple w1
            rw [← w2.length]
            exact tz
        have := sizeLine_eq
        exact key_call S (kp _ _ hf) (show X.A.depth < recursionLimit from hroom.depth) ⟨oc, cvs, ct, kp _ _ hoc, hdc, hvc⟩ (I2.nolimit.keeps kp) (I2.mod.glob.keeps (fun b o e => kp _ _ (I2.bk b o e))) (o.bi _ hl) (hmb.keeps (fun b o e => kp _ _ (I2.bk b o e))) ((hmb2 _ (by decide)).trans (by rfl)) ⟨to, kp _ _ g1, g2, tn, g3⟩ (by omega) (PyProof.Rows.Reads.keeps kp (.tuple g1 g2 g3 g4)) hlen
    · cases ht
  · obtain ⟨ws, w1, w2⟩ := eachRv' hE
    exact fin_lst (p := s2.heap.objs.size + 1) (I2.laid (t' := tk) (fun b ob q => kp b ob q) (Nat.le_succ _) ⟨by rw [w1.length, hlen]; omega, out, c, w1, hD⟩) (I2.hok.fresh (Nat.le_succ _)) w2 (by
      rw [o.hK]
      have h2' : Post z φ1 st1 H2 (ret (.list (sortLn ys)) st1) fun x φ' _ H' => ∀ v, RpR z.K φ' H' v x → Q v H' := fun φ2 H3 p3 => h2 φ2 H3 (p2.trans sk1 s2' p3)
      exact out_ret s2' h2')
end
end Sm

set_option Elab.async false
set_option linter.all false
set_option maxRecDepth 100000
set_option maxHeartbeats 2000000
/-! SmT: the text's expressions in the small language; they mean the same. -/
namespace Sm
open PySem PySem.Spec PyProof.Rows L2
structure TC where
  N : List Str
  gl : List (Str × Gk)
  lam : Bool := false
abbrev Tr := Expr → Option E
def dun (x : Str) : Bool := x == ("__debug__" : Str) || x == ("__classdict__" : Str) || x == ("__name__" : Str)
def isGl (sc : Scope) (x : Str) : Bool := match sc.names.lookup x with
  | some .globalImplicit => true
  | _ => false
def isBi (c : TC) (sc : Scope) (x : Str) : Bool := isGl sc x && match c.gl.lookup x with
  | some .bi => true
  | _ => false
def isLenBi (c : TC) : Bool := match c.gl.lookup ("len" : Str) with
  | some .bi => true
  | _ => false
def isRefu (c : TC) (x : Str) : Bool := match c.gl.lookup x with
  | some .refu => true
  | _ => false
def notSet : Expr → Bool
  | .Set _ _ _ => false
  | _ => true
def isOne : Expr → Bool
  | .Constant (.int k) _ _ => k == 1
  | _ => false
theorem isOne_of {e : Expr} (h : isOne e = true) : ∃ k p, e = .Constant (.int 1) k p := by
  unfold isOne at h
  split at h
  · rename_i k kd p
    exact ⟨kd, p, by rw [eq_of_beq h]⟩
  · cases h
def notSlice : Expr → Bool
  | .Slice _ _ _ _ => false
  | _ => true
def trI (f : Tr) : List Expr → Option (List (Bool × E))
  | [] => some []
  | .Starred e _ :: es => match f e, trI f es with
    | some i, some is => some ((true, i) :: is)
    | _, _ => none
  | e :: es => match f e, trI f es with
    | some i, some is => some ((false, i) :: is)
    | _, _ => none
def trA (f : Tr) : List Expr → Option (List E)
  | [] => some []
  | e :: es => if notStar e then match f e, trA f es with
    | some i, some is => some (i :: is)
    | _, _ => none
    else none
def trB (f : Tr) (op : BoolOp) : List Expr → Option E
  | [] => none
  | [e] => f e
  | e :: e' :: es => match f e, trB f op (e' :: es) with
    | some i, some j => some (match op with | .And => .and i j | .Or => .or i j)
    | _, _ => none
def trO (f : Tr) : Option Expr → Option (Option E)
  | none => some none
  | some e => (f e).map some
def trC (f : Tr) : List Expr → Option (Option E)
  | [] => some none
  | [e] => (f e).map some
  | _ => none
def isTupE : Expr → Bool
  | .Tuple _ _ _ => true
  | _ => false
def trIt (c : TC) (sc : Scope) (f : Tr) (tg : Expr) : Expr → Option It
  | .Call (.Name x p) [a] [] pos =>
    if x = "range" then (if isBi c sc "range" && notStar a then (f a).map .r1 else none)
    else if x = "enumerate" then (if isBi c sc "enumerate" && notStar a && isTupE tg then (f a).map .en else none)
    else (f (.Call (.Name x p) [a] [] pos)).map .e
  | .Call (.Name x p) [a, b] [] pos =>
    if x = "range" then (if isBi c sc "range" && notStar a && notStar b then (match f a, f b with
      | some i, some j => some (.r2 i j)
      | _, _ => none) else none)
    else if x = "zip" then (if isBi c sc "zip" && notStar a && notStar b && isTupE tg then (match f a, f b with
      | some i, some j => some (.zp i j)
      | _, _ => none) else none)
    else (f (.Call (.Name x p) [a, b] [] pos)).map .e
  | .Call (.Name x p) [a, b, d] [] pos =>
    if x = "range" then (if isBi c sc "range" && notStar a && notStar b && notStar d then (match f a, f b, f d with
      | some i, some j, some l => some (.r3 i j l)
      | _, _, _ => none) else none)
    else (f (.Call (.Name x p) [a, b, d] [] pos)).map .e
  | e => if notSet e then (f e).map .e else none
def bl1 : List (Str × Bl) := [("len", .len), ("sum", .sum), ("all", .all), ("any", .any), ("abs", .abs), ("int", .int), ("tuple", .tuple), ("list", .list), ("sorted", .sorted), ("min", .min), ("max", .max), ("repr", .repr)]
def blI : List (Str × Bl) := [("int", .isI), ("bool", .isB), ("tuple", .isT), ("str", .isS), ("list", .isL), ("dict", .isD)]
def ownOf (N : List Str) (scope : Scope) : List (Str × Nat) := scope.names.filterMap fun y => match y.2 with
  | .local => (N.idxOf? y.1).map fun i => (y.1, i)
  | .cell => (N.idxOf? y.1).map fun i => (y.1, i)
  | _ => none
def subB (l l' : List Nat) : Bool := l.all fun j => l'.contains j
def trCall (c : TC) (sc : Scope) (f : Tr) (x : Str) (args : List Expr) : Option E :=
  if isGl sc x && !dun x then match c.gl.lookup x with
    | some (.fn i np) => (trA f args).map (.call i)
    | some .bi => match args with
      | [a] => if notStar a then (match bl1.lookup x, f a with
        | some b, some ia => some (.blt b ia)
        | _, _ => none) else none
      | [a, .List [] p] => if x = "sum" && notStar a then (match f a, f (.List [] p) with
        | some i, some j => some (.sumL i j)
        | _, _ => none) else none
      | [a, .Name y _] => if x = "isinstance" && notStar a && isBi c sc y then (match blI.lookup y, f a with
        | some b, some ia => some (.blt b ia)
        | _, _ => none) else none
      | _ => none
    | _ => none
  else none
def isNoArgs : Arguments → Bool
  | ⟨[], [], none, [], [], none, []⟩ => true
  | _ => false
/-- lambda x: (len(x), x) -/
def lnOf : Arguments → Expr → Option (Str × Pos × List Pos)
  | ⟨[], [⟨x, none, pp⟩], none, [], [], none, []⟩, .Tuple [.Call (.Name l p0) [.Name y p1] [] p2, .Name y' p3] 0 p4 => if l == "len" && y == x && y' == x then some (x, pp, [p0, p1, p2, p3, p4]) else none
  | _, _ => none
def lnScB (x : Str) (scope : Scope) : Bool := decide (scope.kind = .function) && !scope.isCoroutine && !scope.isGenerator && (scope.names.all fun y => !decide (y.2 = .cell) && !decide (y.2 = .free)) && decide (scope.names.lookup x = some .local) && decide (scope.names.lookup ("len" : Str) = some .globalImplicit) && !(x == ("__debug__" : Str))
theorem lnOf_ok {a : Arguments} {e : Expr} {x : Str} {pp : Pos} {l : List Pos} (h : lnOf a e = some (x, pp, l)) : a = lnArgs x pp ∧ ∃ pb, e = lnBody x pb := by
  unfold lnOf at h
  split at h
  · split at h
    · rename_i hc
      simp only [Bool.and_eq_true, beq_iff_eq] at hc
      obtain ⟨⟨rfl, rfl⟩, rfl⟩ := hc
      cases h
      rename_i p0 p1 p2 p3 p4
      exact ⟨rfl, fun i => [p0, p1, p2, p3, p4].getD i ⟨0, 0, 0, 0⟩, rfl⟩
    · cases h
  · cases h
theorem lnSc_ok {x : Str} {scope : Scope} (h : lnScB x scope = true) : LnScope x scope := by
  unfold lnScB at h
  simp only [Bool.and_eq_true, Bool.not_eq_true', decide_eq_true_eq, decide_eq_false_iff_not, List.all_eq_true] at h
  obtain ⟨⟨⟨⟨⟨⟨h1, h2⟩, h3⟩, h4⟩, h5⟩, h6⟩, h7⟩ := h
  exact ⟨h1, h2, h3, h4, h5, h6, h7⟩
/-- sorted(xs, key=lambda x: (len(x), x)) -/
def trSl (c : TC) (sc : Scope) (top : Bool) (f : Tr) (x key : Str) (a : Expr) (params : Arguments) (body : Expr) (scope : Scope) : Option E :=
  match lnOf params body with
  | some (y, _, _) => if (top && c.lam) && x == "sorted" && key == "key" && isBi c sc "sorted" && isLenBi c && notStar a && lnScB y scope then (f a).map (.blt .sortLn) else none
  | none => none
/-- one level: f, the parts in the same block; g, the parts in a block within; h, a lambda's body -/
def trF (c : TC) (sc : Scope) (top : Bool) (f : Tr) (g : Scope → Tr) : Tr
  | .Constant k _ _ => match k with
    | .int i => some (.c (.int i))
    | .bool b => some (.c (.bool b))
    | .str s => some (.c (.str s))
    | .none => some (.c .none)
    | _ => none
  | .Name x _ => if dun x then none else match sc.names.lookup x with
    | some .local => (c.N.idxOf? x).map .v
    | some .cell => (c.N.idxOf? x).map .v
    | some .free => (c.N.idxOf? x).map .v
    | some .globalImplicit => match c.gl.lookup x with
      | some (.con d) => some (.c d)
      | _ => none
    | _ => none
  | .Tuple es _ _ => (trI f es).map .tup
  | .List es _ => (trI f es).map .lst
  | .BinOp a op b _ => match f a, f b with
    | some i, some j => some (.bin op i j)
    | _, _ => none
  | .UnaryOp .USub a _ => (f a).map .neg
  | .UnaryOp .Not a _ => (f a).map .not
  | .BoolOp op es _ => trB f op es
  | .IfExp t a b _ => match f t, f a, f b with
    | some i, some j, some k => some (.ife i j k)
    | _, _, _ => none
  | .Compare a [op] [b] _ => if notSet b then (match f a, f b with
    | some i, some j => some (.cmp op i j)
    | _, _ => none) else none
  | .Compare a [op, op'] [b, d] _ => if notSet d then (match f a, f b, f d with
    | some i, some j, some k => some (.chain op op' i j k)
    | _, _, _ => none) else none
  | .Subscript a (.Slice lo hi none _) _ => match f a, trO f lo, trO f hi with
    | some i, some l, some h => some (.sl i l h)
    | _, _, _ => none
  | .Subscript a (.Slice none none (some (.UnaryOp .USub c1 _)) _) _ => if isOne c1 then (f a).map .rev else none
  | .Subscript a i _ => if notSlice i then (match f a, f i with
    | some i, some j => some (.ix i j)
    | _, _ => none) else none
  | .Call (.Name x _) [.Lambda params body scope _, due] [] _ =>
    if (top && c.lam) && x == "_law_refuses" && isGl sc x && isRefu c x && isNoArgs params && LamX.lamSB sc scope && notStar due then (match g scope body, f due with
      | some i, some j => some (.refu i j)
      | _, _ => none) else none
  | .Call (.Name x _) [a] [⟨some key, .Lambda params body scope _, _⟩] _ => trSl c sc top f x key a params body scope
  | .Call (.Attribute (.Name y py) m apos) [i] [] cpos => if m == "pop" && notStar i && (apos.endLine == cpos.line) then (match f (.Name y py), f i with
    | some io, some ii => some (.popAt io ii)
    | _, _ => none) else none
  | .Call (.Name x _) args [] _ => trCall c sc f x args
  | .ListComp elt [⟨tg, iter, ifs, 0⟩] scope _ =>
    match trT c.N scope.names tg, trIt c sc f tg iter, trC (g (relS scope sc)) ifs, g (relS scope sc) elt with
    | some t, some it, some cc, some e => if blkC c.N sc scope (ownOf c.N scope) && notSet iter && subB (tgN t) ((ownOf c.N scope).map (·.2)) then some (.lc ((ownOf c.N scope).map (·.2)) t it cc e) else none
    | _, _, _, _ => none
  | .ListComp elt [⟨tg, iter, ifs, 0⟩, ⟨tg1, iter1, ifs1, 0⟩] scope _ =>
    match trT c.N scope.names tg, trIt c sc f tg iter, trC (g (relS scope sc)) ifs, trT c.N scope.names tg1, trIt c (relS scope sc) (g (relS scope sc)) tg1 iter1, trC (g (relS scope sc)) ifs1, g (relS scope sc) elt with
    | some t, some it, some cc, some t1, some it1, some cc1, some e => if blkC c.N sc scope (ownOf c.N scope) && notSet iter && notSet iter1 && subB (tgN t) ((ownOf c.N scope).map (·.2)) && subB (tgN t1) ((ownOf c.N scope).map (·.2)) then
      some (.lc2 ((ownOf c.N scope).map (·.2)) (tgN t1) t it cc t1 it1 cc1 e) else none
    | _, _, _, _, _, _, _ => none
  | _ => none
def trE (c : TC) : Nat → Scope → Bool → Tr
  | 0, _, _ => fun _ => none
  | n + 1, sc, top => trF c sc top (trE c n sc top) fun sc' => trE c n sc' false
theorem noArgs_of {a : Arguments} (h : isNoArgs a = true) : a = noArgs := by
  unfold isNoArgs at h
  split at h
  · rfl
  · cases h
/-- what is known where an expression runs -/
structure TrOk (X : Cx) (z : Cz) (cf : CF) (c : TC) (k : Nat) (sc : Scope) : Prop where
  o : Ok X z cf c.gl k
  hN : X.N = c.N
  hs : X.env.scope = sc
structure TopOk (X : Cx) (z : Cz) (c : TC) (k : Nat) : Prop where
  lam : c.lam = true → LamOk X z k
  refu : c.gl.lookup ("_law_refuses" : Str) = some .refu → ∃ g C fI, RefTxt X.K X.mg g ∧ PySem.BadX.BadTxt X.prog X.K X.mg C fI ∧ z.cls 0 = some (C, [("thing" : Str)]) ∧ X.mg "repr" = none
def Good (X : Cx) (z : Cz) (cf : CF) (e : Expr) (ir : E) : Prop := SE X z cf e ir ∧ ST X z cf e ir
section
variable {X : Cx} {z : Cz} {cf : CF} {c : TC} {k : Nat} {sc : Scope} {f : Tr} {g : Scope → Tr}
theorem gl_of {x : Str} (t : TrOk X z cf c k sc) (h : isGl sc x = true) : Gl X x := by
  unfold isGl at h
  split at h
  · rename_i e
    show X.env.scope.names.lookup x = some .globalImplicit
    rw [t.hs]; exact e
  · cases h
theorem bi_of {x : Str} (t : TrOk X z cf c k sc) (h : isBi c sc x = true) : Gl X x ∧ c.gl.lookup x = some .bi := by
  unfold isBi at h
  rw [Bool.and_eq_true] at h
  refine ⟨gl_of t h.1, ?_⟩
  have h2 := h.2
  split at h2
  · assumption
  · cases h2
theorem good_plain (t : TrOk X z cf c k sc) {e : Expr} {ir : E} (h : SE X z cf e ir) (hp : plainT e = true) : Good X z cf e ir := ⟨h, st_plain t.o h hp⟩
theorem notSet_of {e : Expr} (h : notSet e = true) : ∀ es n p, e ≠ .Set es n p := fun es n p q => by rw [q] at h; cases h
theorem notSlice_of {e : Expr} (h : notSlice e = true) : ∀ a b c d, e ≠ .Slice a b c d := fun a b c d q => by rw [q] at h; cases h
variable (hf : ∀ {e ir}, f e = some ir → Good X z cf e ir)
include hf
theorem trI_ok (t : TrOk X z cf c k sc) : ∀ {es : List Expr} {irs : List (Bool × E)}, trI f es = some irs → SI X z cf es irs
  | [], irs, h => by simp only [trI, Option.some.injEq] at h; subst h; exact si_nil
  | e :: es, irs, h => by
    by_cases hn : notStar e = true
    · have h : (match f e, trI f es with
        | some i, some is => some ((false, i) :: is)
        | _, _ => none) = some irs := by
        cases e <;> first | exact h | cases hn
      split at h
      · rename_i i is h1 h2
        cases h
        exact si_cons hn (hf h1).1 (trI_ok t h2)
      · cases h
    · cases e with
      | Starred e p =>
        simp only [trI] at h
        split at h
        · rename_i i is h1 h2
          cases h
          exact si_star t.o (hf h1).1 (trI_ok t h2)
        · cases h
      | _ => exact absurd rfl hn
theorem trA_ok : ∀ {es : List Expr} {irs : List E}, trA f es = some irs → SA X z cf es irs ∧ ∀ e ∈ es, notStar e = true
  | [], irs, h => by simp only [trA, Option.some.injEq] at h; subst h; exact ⟨sa_nil, by simp⟩
  | e :: es, irs, h => by
    simp only [trA] at h
    split at h
    · rename_i hn
      split at h
      · rename_i i is h1 h2
        cases h
        obtain ⟨q1, q2⟩ := trA_ok h2
        refine ⟨sa_cons hn (hf h1).1 q1, fun e' he => ?_⟩
        rcases List.mem_cons.mp he with rfl | he
        · exact hn
        · exact q2 _ he
      · cases h
    · cases h
theorem trB_ok (t : TrOk X z cf c k sc) {op : BoolOp} {pos : Pos} : ∀ {es : List Expr} {ir : E}, trB f op es = some ir → SE X z cf (.BoolOp op es pos) ir ∧ ∀ m, PW X (.BoolOp op es pos) (tT z (ev cf m) ir)
  | [], ir, h => by simp [trB] at h
  | [e], ir, h => by
    simp only [trB] at h
    exact se_one (hf h).1 (hf h).2
  | e :: e' :: es, ir, h => by
    simp only [trB] at h
    split at h
    · rename_i i j h1 h2
      have ih := trB_ok t (pos := pos) h2
      cases h
      cases op with
      | And => exact se_and t.o (hf h1).1 (hf h1).2 ih.1 ih.2
      | Or => exact se_or t.o (hf h1).1 (hf h1).2 ih.1 ih.2
    · cases h
theorem trO_ok {e : Option Expr} {ir : Option E} (h : trO f e = some ir) : SO X z cf e ir := by
  cases e with
  | none => simp only [trO, Option.some.injEq] at h; subst h; exact so_none
  | some e =>
    simp only [trO, Option.map_eq_some_iff] at h
    obtain ⟨i, h1, rfl⟩ := h
    exact so_some (hf h1).1
theorem trC_ok {es : List Expr} {ir : Option E} (h : trC f es = some ir) : SC X z cf es ir := by
  match es, h with
  | [], h => simp only [trC, Option.some.injEq] at h; subst h; exact sc_nil
  | [e], h =>
    simp only [trC, Option.map_eq_some_iff] at h
    obtain ⟨i, h1, rfl⟩ := h
    exact sc_one (hf h1).2
  | _ :: _ :: _, h => simp [trC] at h
theorem trIt_ok (t : TrOk X z cf c k sc) {tg e : Expr} {it : It} (h : trIt c sc f tg e = some it) : SW X z cf tg e it := by
  have e1 : ∀ {e : Expr} {it : It}, (f e).map It.e = some it → SW X z cf tg e it := fun {e it} h => by
    rw [Option.map_eq_some_iff] at h
    obtain ⟨i, h1, rfl⟩ := h
    exact sw_e t.o (hf h1).1
  unfold trIt at h
  split at h
  · rename_i x p a pos
    split at h
    · rename_i hx
      subst hx
      split at h
      · rename_i hc
        rw [Bool.and_eq_true] at hc
        rw [Option.map_eq_some_iff] at h
        obtain ⟨i, h1, rfl⟩ := h
        exact sw_r1 t.o (bi_of t hc.1).1 (bi_of t hc.1).2 (hf h1).1 hc.2
      · cases h
    · split at h
      · rename_i hx
        subst hx
        split at h
        · rename_i hc
          simp only [Bool.and_eq_true] at hc
          rw [Option.map_eq_some_iff] at h
          obtain ⟨i, h1, rfl⟩ := h
          cases tg with
          | Tuple es n p => exact sw_en t.o (bi_of t hc.1.1).1 (bi_of t hc.1.1).2 (hf h1).1 hc.1.2
          | _ => cases hc.2
        · cases h
      · exact e1 h
  · rename_i x p a b pos
    split at h
    · rename_i hx
      subst hx
      split at h
      · rename_i hc
        simp only [Bool.and_eq_true] at hc
        split at h
        · rename_i i j h1 h2
          cases h
          exact sw_r2 t.o (bi_of t hc.1.1).1 (bi_of t hc.1.1).2 (hf h1).1 (hf h2).1 hc.1.2 hc.2
        · cases h
      · cases h
    · split at h
      · rename_i hx
        subst hx
        split at h
        · rename_i hc
          simp only [Bool.and_eq_true] at hc
          split at h
          · rename_i i j h1 h2
            cases h
            cases tg with
            | Tuple es n p => exact sw_zp t.o (bi_of t hc.1.1.1).1 (bi_of t hc.1.1.1).2 (hf h1).1 (hf h2).1 hc.1.1.2 hc.1.2
            | _ => cases hc.2
          · cases h
        · cases h
      · exact e1 h
  · rename_i x p a b d pos
    split at h
    · rename_i hx
      subst hx
      split at h
      · rename_i hc
        simp only [Bool.and_eq_true] at hc
        split at h
        · rename_i i j l h1 h2 h3
          cases h
          exact sw_r3 t.o (bi_of t hc.1.1.1).1 (bi_of t hc.1.1.1).2 (hf h1).1 (hf h2).1 (hf h3).1 hc.1.1.2 hc.1.2 hc.2
        · cases h
      · cases h
    · exact e1 h
  · split at h
    · exact e1 h
    · cases h
end
end Sm

set_option Elab.async false
set_option linter.all false
set_option maxRecDepth 100000
set_option maxHeartbeats 4000000
/-! SmU: the translation of expressions means the same. -/
namespace Sm
open PySem PySem.Spec PyProof.Rows L2
section
variable {X : Cx} {z : Cz} {cf : CF} {c : TC} {k : Nat} {sc : Scope} {f : Tr} {g : Scope → Tr}
theorem dun_of {x : Str} (h : dun x = false) : (x == ("__debug__" : Str)) = false ∧ (x == ("__classdict__" : Str)) = false := by
  unfold dun at h
  simp only [Bool.or_eq_false_iff] at h
  exact ⟨h.1.1, h.1.2⟩
theorem TrOk.blk (t : TrOk X z cf c k sc) (s : Shared) (H : Hp) (scope : Scope) (C : Addr) (cl : List (Str × Addr)) (fp : List Addr) : TrOk (X.blk s H scope (compEnvC scope cl C X.env) fp) z.nox cf c k (relS scope sc) :=
  ⟨t.o.blk s H scope _ fp, t.hN, by rw [← t.hs]; rfl⟩
theorem tg_blk (t : TrOk X z cf c k sc) {scope : Scope} {tg : Expr} {tt : Tg} (h : trT c.N scope.names tg = some tt) : InBlk X scope fun Y => PG Y tg (gT X.K tt) := fun s H C cl fp => by
  refine trT_ok (X := X.blk s H scope (compEnvC scope cl C X.env) fp) (names := scope.names) t.hN t.o.nd t.o.calm (fun x hx => ?_) h
  have e : (X.blk s H scope (compEnvC scope cl C X.env) fp).env.scope = relS scope X.env.scope := rfl
  rcases hx with hx | hx
  · have q : (relS scope X.env.scope).names.lookup x = some .local := lookup_relS_keep (by decide) hx
    exact ⟨.inl (by rw [e]; exact q), .inr (by rw [e]; exact q)⟩
  · have q : (relS scope X.env.scope).names.lookup x = some .cell := lookup_relS_keep (by decide) hx
    exact ⟨.inr (by rw [e]; exact q), .inl (show (scope.names.lookup x == some .cell) = true by rw [hx]; decide)⟩
theorem subB_of {l l' : List Nat} (h : subB l l' = true) : ∀ j ∈ l, j ∈ l' := fun j hj => by
  unfold subB at h
  rw [List.all_eq_true] at h
  simpa using h j hj
theorem bl1_ok (t : TrOk X z cf c k sc) {x : Str} {b : Bl} {a : Expr} {ia : E} {p pos : Pos} (hb : bl1.lookup x = some b) (hg : Gl X x) (hm : c.gl.lookup x = some .bi) (ha : SE X z cf a ia) (hn : notStar a = true) : SE X z cf (.Call (.Name x p) [a] [] pos) (.blt b ia) := by
  have step : ∀ {y : Str} {b' : Bl} {l : List (Str × Bl)}, ((y, b') :: l).lookup x = some b → (x = y ∧ b = b') ∨ l.lookup x = some b := fun {y b' l} h => by
    rw [List.lookup_cons] at h
    cases e : x == y with
    | true => rw [e] at h; cases h; exact .inl ⟨eq_of_beq e, rfl⟩
    | false => rw [e] at h; exact .inr h
  unfold bl1 at hb
  rcases step hb with ⟨rfl, rfl⟩ | hb
  · exact se_len t.o hg hm ha hn
  rcases step hb with ⟨rfl, rfl⟩ | hb
  · exact se_sum t.o hg hm ha hn
  rcases step hb with ⟨rfl, rfl⟩ | hb
  · exact se_all t.o hg hm ha hn
  rcases step hb with ⟨rfl, rfl⟩ | hb
  · exact se_any t.o hg hm ha hn
  rcases step hb with ⟨rfl, rfl⟩ | hb
  · exact se_abs t.o hg hm ha hn
  rcases step hb with ⟨rfl, rfl⟩ | hb
  · exact se_int t.o hg hm ha hn
  rcases step hb with ⟨rfl, rfl⟩ | hb
  · exact se_tuple t.o hg hm ha hn
  rcases step hb with ⟨rfl, rfl⟩ | hb
  · exact se_list t.o hg hm ha hn
  rcases step hb with ⟨rfl, rfl⟩ | hb
  · exact se_sorted t.o hg hm ha hn
  rcases step hb with ⟨rfl, rfl⟩ | hb
  · exact se_min t.o hg hm ha hn
  rcases step hb with ⟨rfl, rfl⟩ | hb
  · exact se_max t.o hg hm ha hn
  rcases step hb with ⟨rfl, rfl⟩ | hb
  · exact se_repr t.o hg hm ha hn
  cases hb
theorem blI_ok (t : TrOk X z cf c k sc) {y : Str} {b : Bl} {a : Expr} {ia : E} {p p2 pos : Pos} (hb : blI.lookup y = some b) (hg : Gl X "isinstance") (hm : c.gl.lookup ("isinstance" : Str) = some .bi) (hg2 : Gl X y) (hm2 : c.gl.lookup y = some .bi) (ha : SE X z cf a ia) (hn : notStar a = true) :
    SE X z cf (.Call (.Name "isinstance" p) [a, .Name y p2] [] pos) (.blt b ia) := by
  have step : ∀ {w : Str} {b' : Bl} {l : List (Str × Bl)}, ((w, b') :: l).lookup y = some b → (y = w ∧ b = b') ∨ l.lookup y = some b := fun {w b' l} h => by
    rw [List.lookup_cons] at h
    cases e : y == w with
    | true => rw [e] at h; cases h; exact .inl ⟨eq_of_beq e, rfl⟩
    | false => rw [e] at h; exact .inr h
  unfold blI at hb
  rcases step hb with ⟨rfl, rfl⟩ | hb
  · exact se_isD t.o cb_isI hg hm hg2 hm2 rfl (by decide) rfl (fun _ _ _ => rfl) ha hn
  rcases step hb with ⟨rfl, rfl⟩ | hb
  · exact se_isD t.o cb_isB hg hm hg2 hm2 rfl (by decide) rfl (fun _ _ _ => rfl) ha hn
  rcases step hb with ⟨rfl, rfl⟩ | hb
  · exact se_isD t.o cb_isT hg hm hg2 hm2 rfl (by decide) rfl (fun _ _ _ => rfl) ha hn
  rcases step hb with ⟨rfl, rfl⟩ | hb
  · exact se_isD t.o cb_isS hg hm hg2 hm2 rfl (by decide) rfl (fun _ _ _ => rfl) ha hn
  rcases step hb with ⟨rfl, rfl⟩ | hb
  · exact se_isD t.o cb_isL hg hm hg2 hm2 rfl (by decide) rfl (fun _ _ _ => rfl) ha hn
  rcases step hb with ⟨rfl, rfl⟩ | hb
  · exact se_isD t.o cb_isD hg hm hg2 hm2 rfl (by decide) rfl (fun _ _ _ => rfl) ha hn
  cases hb
theorem trCall_ok (t : TrOk X z cf c k sc) (hf : ∀ {e ir}, f e = some ir → Good X z cf e ir) {x : Str} {p pos : Pos} {args : List Expr} {ir : E} (h : trCall c sc f x args = some ir) : SE X z cf (.Call (.Name x p) args [] pos) ir := by
  unfold trCall at h
  split at h
  · rename_i hc
    simp only [Bool.and_eq_true, Bool.not_eq_true'] at hc
    have hg := gl_of t hc.1
    have hd := (dun_of hc.2).1
    split at h
    · rename_i i np hm
      rw [Option.map_eq_some_iff] at h
      obtain ⟨irs, h1, rfl⟩ := h
      obtain ⟨q1, q2⟩ := trA_ok hf h1
      cases args with
      | nil =>
        simp only [trA, Option.some.injEq] at h1
        subst h1
        exact se_call0 t.o hg hm hd
      | cons a args => exact se_call t.o hg hm hd q1 q2
    · rename_i hm
      split at h
      · rename_i a
        split at h
        · rename_i hn
          split at h
          · rename_i b ia hb h1
            cases h
            exact bl1_ok t hb hg hm (hf h1).1 hn
          · cases h
        · cases h
      · rename_i a p2
        split at h
        · rename_i hn
          simp only [Bool.and_eq_true, decide_eq_true_eq] at hn
          obtain ⟨rfl, hn1⟩ := hn
          split at h
          · rename_i i j h1 h2
            cases h
            exact se_sumL t.o hg hm (hf h1).1 (hf h2).1 hn1 rfl
          · cases h
        · cases h
      · rename_i a y p2
        split at h
        · rename_i hn
          simp only [Bool.and_eq_true, decide_eq_true_eq] at hn
          obtain ⟨⟨rfl, hn1⟩, hn2⟩ := hn
          split at h
          · rename_i b ia hb h1
            cases h
            exact blI_ok t hb hg hm (bi_of t hn2).1 (bi_of t hn2).2 (hf h1).1 hn1
          · cases h
        · cases h
      · cases h
    · cases h
  · cases h
theorem trF_ok (t : TrOk X z cf c k sc) {top : Bool} (tp : top = true → TopOk X z c k) (hf : ∀ {e ir}, f e = some ir → Good X z cf e ir)
    (hg : ∀ {scope : Scope} {e ir}, g (relS scope sc) e = some ir → InBlk X scope fun Y => Good Y z.nox cf e ir)
    (hl : ∀ {scope : Scope} {e ir}, g scope e = some ir → ∀ (A : Around) (outer : List Env) (s1 : Shared) (H1 : Hp) (E : XK) (f0 c' : Addr), Ok (LamX.lamCx X A outer s1 H1 E scope f0 c') { z with W := E } cf c.gl k → Good (LamX.lamCx X A outer s1 H1 E scope f0 c') { z with W := E } cf e ir)
    (hgI : ∀ {scope : Scope} {tg e it}, trIt c (relS scope sc) (g (relS scope sc)) tg e = some it → InBlk X scope fun Y => SW Y z.nox cf tg e it)
    {e : Expr} {ir : E} (h : trF c sc top f g e = some ir) : Good X z cf e ir := by
  unfold trF at h
  split at h
  · -- constants
    split at h
    · cases h; exact good_plain t (se_const t.o pe_int fun _ => .int _) rfl
    · cases h; exact good_plain t (se_const t.o pe_bl fun _ => .bl _) rfl
    · cases h; exact good_plain t (se_const t.o pe_str fun _ => .str _) rfl
    · cases h; exact good_plain t (se_const t.o pe_non fun _ => .non) rfl
    · cases h
  · rename_i x p
    split at h
    · cases h
    · rename_i hd
      obtain ⟨d1, d2⟩ := dun_of (by simpa using hd)
      have var : ∀ {i : Nat}, c.N.idxOf? x = some i → Vis X.env.scope x → Good X z cf (.Name x p) (.v i) := fun {i} h1 hv => good_plain t (se_var (by rw [t.hN]; exact idx_at h1) hv d1 d2) rfl
      split at h
      · rename_i hl'
        rw [Option.map_eq_some_iff] at h
        obtain ⟨i, h1, rfl⟩ := h
        exact var h1 (.inl (by rw [t.hs]; exact hl'))
      · rename_i hl'
        rw [Option.map_eq_some_iff] at h
        obtain ⟨i, h1, rfl⟩ := h
        exact var h1 (.inr (.inl (by rw [t.hs]; exact hl')))
      · rename_i hl'
        rw [Option.map_eq_some_iff] at h
        obtain ⟨i, h1, rfl⟩ := h
        exact var h1 (.inr (.inr (by rw [t.hs]; exact hl')))
      · rename_i hl'
        split at h
        · rename_i d hc
          cases h
          obtain ⟨v, u, q1, q2, q3⟩ := t.o.con x d hc
          exact good_plain t (se_const t.o (pe_glob (by show X.env.scope.names.lookup x = _; rw [t.hs]; exact hl') q1 q2 d1) q3) rfl
        · cases h
      · cases h
  · rw [Option.map_eq_some_iff] at h
    obtain ⟨irs, h1, rfl⟩ := h
    exact good_plain t (se_tup t.o (trI_ok hf t h1)) rfl
  · rw [Option.map_eq_some_iff] at h
    obtain ⟨irs, h1, rfl⟩ := h
    exact good_plain t (se_lst t.o (trI_ok hf t h1)) rfl
  · split at h
    · rename_i i j h1 h2
      cases h
      exact good_plain t (se_bin t.o (hf h1).1 (hf h2).1) rfl
    · cases h
  · rw [Option.map_eq_some_iff] at h
    obtain ⟨i, h1, rfl⟩ := h
    exact good_plain t (se_neg t.o (hf h1).1) rfl
  · rw [Option.map_eq_some_iff] at h
    obtain ⟨i, h1, rfl⟩ := h
    exact se_not t.o (hf h1).1 (hf h1).2
  · rename_i op es pos
    obtain ⟨q1, q2⟩ := trB_ok hf t (pos := pos) h
    exact ⟨q1, fun m => (q2 m).pt⟩
  · split at h
    · rename_i i j l h1 h2 h3
      cases h
      exact se_ife t.o (hf h1).2 (hf h2).1 (hf h2).2 (hf h3).1 (hf h3).2
    · cases h
  · split at h
    · rename_i hn
      split at h
      · rename_i i j h1 h2
        cases h
        exact se_cmp t.o (hf h1).1 (hf h2).1 (notSet_of hn)
      · cases h
    · cases h
  · split at h
    · rename_i hn
      split at h
      · rename_i i j l h1 h2 h3
        cases h
        exact se_chain t.o (hf h1).1 (hf h2).1 (hf h3).1 (notSet_of hn)
      · cases h
    · cases h
  · split at h
    · rename_i i l r h1 h2 h3
      cases h
      exact good_plain t (se_sl t.o (hf h1).1 (trO_ok hf h2) (trO_ok hf h3)) rfl
    · cases h
  · -- x[::-1]
    split at h
    · rename_i hc
      obtain ⟨kd, p, rfl⟩ := isOne_of hc
      rw [Option.map_eq_some_iff] at h
      obtain ⟨ia, h1, rfl⟩ := h
      exact good_plain t (se_rev t.o (hf h1).1) rfl
    · cases h
  · split at h
    · rename_i hn
      split at h
      · rename_i i j h1 h2
        cases h
        exact good_plain t (se_ix t.o (notSlice_of hn) (hf h1).1 (hf h2).1) rfl
      · cases h
    · cases h
  · -- refusals
    rename_i x p params body scope lp due pos
    split at h
    · rename_i hc
      simp only [Bool.and_eq_true] at hc
      obtain ⟨⟨⟨⟨⟨⟨⟨ht, hlam⟩, hx⟩, hgl⟩, hr⟩, hp⟩, hL⟩, hn⟩ := hc
      split at h
      · rename_i i j h1 h2
        cases h
        have hx : x = "_law_refuses" := eq_of_beq hx
        subst hx
        cases noArgs_of hp
        have tpo := tp ht
        have hr : c.gl.lookup ("_law_refuses" : Str) = some .refu := by
          unfold isRefu at hr
          split at hr
          · assumption
          · cases hr
        obtain ⟨g0, C, fI, R, T, hcl, hrep⟩ := tpo.refu hr
        exact good_plain t (se_refu t.o (tpo.lam hlam) R T hcl hrep (gl_of t hgl) (by rw [t.hs]; exact LamX.lamS_by hL) hn (hf h2).1 (fun A outer s1 H1 E f0 c' ok => (hl h1 A outer s1 H1 E f0 c' ok).1)) rfl
      · cases h
    · cases h
  · -- sorted by length
    rename_i x p a key params body scope lp kp pos
    unfold trSl at h
    split at h
    · rename_i y pp l hln
      split at h
      · rename_i hc
        simp only [Bool.and_eq_true] at hc
        obtain ⟨⟨⟨⟨⟨⟨⟨ht, hlam⟩, hx⟩, hk⟩, hb⟩, hlen⟩, hn⟩, hs⟩ := hc
        rw [Option.map_eq_some_iff] at h
        obtain ⟨ia, h1, rfl⟩ := h
        have hx : x = "sorted" := eq_of_beq hx
        have hk : key = "key" := eq_of_beq hk
        subst hx hk
        obtain ⟨rfl, pb, rfl⟩ := lnOf_ok hln
        have hl2 : c.gl.lookup ("len" : Str) = some .bi := by
          unfold isLenBi at hlen
          split at hlen
          · assumption
          · cases hlen
        exact good_plain t (se_sortl t.o ((tp ht).lam hlam) (bi_of t hb).1 (bi_of t hb).2 hl2 (hf h1).1 hn (lnSc_ok hs)) rfl
      · cases h
    · cases h
  · rename_i y py m apos i cpos
    split at h
    · rename_i hc
      simp only [Bool.and_eq_true] at hc
      have hm : m = "pop" := eq_of_beq hc.1.1
      subst hm
      split at h
      · rename_i io ii h1 h2
        cases h
        exact good_plain t (se_popAt t.o rfl hc.1.2 hc.2 (hf h1).1 (hf h2).1) rfl
      · cases h
    · cases h
  · exact good_plain t (trCall_ok t hf h) rfl
  · -- one clause
    split at h
    · rename_i tt it cc ee h1 h2 h3 h4
      split at h
      · rename_i hc
        cases h
        simp only [Bool.and_eq_true] at hc
        refine good_plain t (se_lc t.o ⟨by rw [t.hN, t.hs]; exact hc.1.1, notSet_of hc.1.2, subB_of hc.2, trIt_ok hf t h2, tg_blk t h1, fun s H C cl fp => trC_ok (fun {e ir} he => hg he s H C cl fp) h3, fun s H C cl fp => (hg h4 s H C cl fp).1⟩) rfl
      · cases h
    · cases h
  · -- two clauses
    split at h
    · rename_i tt it cc t1 it1 cc1 ee h1 h2 h3 h4 h5 h6 h7
      split at h
      · rename_i hc
        cases h
        simp only [Bool.and_eq_true] at hc
        refine good_plain t (se_lc2 t.o ⟨by rw [t.hN, t.hs]; exact hc.1.1.1.1, notSet_of hc.1.1.1.2, notSet_of hc.1.1.2, subB_of hc.1.2, fun j hj => hj, subB_of hc.2, trIt_ok hf t h2, tg_blk t h1, fun s H C cl fp => trC_ok (fun {e ir} he => hg he s H C cl fp) h3, hgI h5, tg_blk t h4, fun s H C cl fp => trC_ok (fun {e ir} he => hg he s H C cl fp) h6, fun s H C cl fp => (hg h7 s H C cl fp).1⟩) rfl
      · cases h
    · cases h
  · cases h
end
end Sm

set_option Elab.async false
set_option linter.all false
set_option maxRecDepth 100000
set_option maxHeartbeats 4000000
/-! SmV: the translation of expressions, all levels; name = [..] on one line; new lists. -/
namespace Sm
open PySem PySem.Spec PyProof.Rows L2
section
variable {cf : CF} {c : TC} {k : Nat}
theorem trE_ok : ∀ (n : Nat) {X : Cx} {z : Cz} {sc : Scope} {top : Bool} {e : Expr} {ir : E}, TrOk X z cf c k sc → (top = true → TopOk X z c k) → trE c n sc top e = some ir → Good X z cf e ir
  | 0, X, z, sc, top, e, ir, t, tp, h => by simp [trE] at h
  | n + 1, X, z, sc, top, e, ir, t, tp, h => by
    have hg : ∀ {scope : Scope} {e ir}, trE c n (relS scope sc) false e = some ir → InBlk X scope fun Y => Good Y z.nox cf e ir := fun {scope e ir} h s H C cl fp => trE_ok n (t.blk s H scope C cl fp) (by simp) h
    exact trF_ok t tp (fun {e ir} h => trE_ok n t tp h) hg
      (fun {scope e ir} h A outer s1 H1 E f0 c' ok => trE_ok n ⟨ok, t.hN, rfl⟩ (by simp) h)
      (fun {scope tg e it} h s H C cl fp => trIt_ok (fun {e ir} he => hg he s H C cl fp) (t.blk s H scope C cl fp) h) h
end
section
variable {X : Cx} {z : Cz} {cf : CF} {c : TC} {k : Nat} {sc : Scope}
theorem lc_inv {n : Nat} {top : Bool} (t : TrOk X z cf c k sc) (tp : top = true → TopOk X z c k) {elt tg iter : Expr} {ifs : List Expr} {scope : Scope} {pos : Pos} {ir : E} (h : trE c (n + 1) sc top (.ListComp elt [⟨tg, iter, ifs, 0⟩] scope pos) = some ir) :
    ∃ tt it cc ee, ir = .lc ((ownOf c.N scope).map (·.2)) tt it cc ee ∧ LcOk X z cf elt tg iter ifs scope (ownOf c.N scope) tt it cc ee := by
  have h : (match trT c.N scope.names tg, trIt c sc (trE c n sc top) tg iter, trC (trE c n (relS scope sc) false) ifs, trE c n (relS scope sc) false elt with
    | some t, some it, some cc, some e => if blkC c.N sc scope (ownOf c.N scope) && notSet iter && subB (tgN t) ((ownOf c.N scope).map (·.2)) then some (.lc ((ownOf c.N scope).map (·.2)) t it cc e) else none
    | _, _, _, _ => none) = some ir := h
  have hg : ∀ {e ir}, trE c n (relS scope sc) false e = some ir → InBlk X scope fun Y => Good Y z.nox cf e ir := fun {e ir} h s H C cl fp => trE_ok n (t.blk s H scope C cl fp) (by simp) h
  split at h
  · rename_i tt it cc ee h1 h2 h3 h4
    split at h
    · rename_i hc
      cases h
      simp only [Bool.and_eq_true] at hc
      exact ⟨tt, it, cc, ee, rfl, by rw [t.hN, t.hs]; exact hc.1.1, notSet_of hc.1.2, subB_of hc.2, trIt_ok (fun {e ir} h => trE_ok n t tp h) t h2, tg_blk t h1, fun s H C cl fp => trC_ok (fun {e ir} he => hg he s H C cl fp) h3, fun s H C cl fp => (hg h4 s H C cl fp).1⟩
    · cases h
  · cases h
theorem lc2_inv {n : Nat} {top : Bool} (t : TrOk X z cf c k sc) (tp : top = true → TopOk X z c k) {elt tg iter tg1 iter1 : Expr} {ifs ifs1 : List Expr} {scope : Scope} {pos : Pos} {ir : E} (h : trE c (n + 1) sc top (.ListComp elt [⟨tg, iter, ifs, 0⟩, ⟨tg1, iter1, ifs1, 0⟩] scope pos) = some ir) :
    ∃ tt it cc t1 it1 cc1 ee, ir = .lc2 ((ownOf c.N scope).map (·.2)) (tgN t1) tt it cc t1 it1 cc1 ee ∧ Lc2Ok X z cf elt tg iter tg1 iter1 ifs ifs1 scope (ownOf c.N scope) (tgN t1) tt t1 it it1 cc cc1 ee := by
  have h : (match trT c.N scope.names tg, trIt c sc (trE c n sc top) tg iter, trC (trE c n (relS scope sc) false) ifs, trT c.N scope.names tg1, trIt c (relS scope sc) (trE c n (relS scope sc) false) tg1 iter1, trC (trE c n (relS scope sc) false) ifs1, trE c n (relS scope sc) false elt with
    | some t, some it, some cc, some t1, some it1, some cc1, some e => if blkC c.N sc scope (ownOf c.N scope) && notSet iter && notSet iter1 && subB (tgN t) ((ownOf c.N scope).map (·.2)) && subB (tgN t1) ((ownOf c.N scope).map (·.2)) then
      some (.lc2 ((ownOf c.N scope).map (·.2)) (tgN t1) t it cc t1 it1 cc1 e) else none
    | _, _, _, _, _, _, _ => none) = some ir := h
  have hg : ∀ {e ir}, trE c n (relS scope sc) false e = some ir → InBlk X scope fun Y => Good Y z.nox cf e ir := fun {e ir} h s H C cl fp => trE_ok n (t.blk s H scope C cl fp) (by simp) h
  split at h
  · rename_i tt it cc t1 it1 cc1 ee h1 h2 h3 h4 h5 h6 h7
    split at h
    · rename_i hc
      cases h
      simp only [Bool.and_eq_true] at hc
      exact ⟨tt, it, cc, t1, it1, cc1, ee, rfl, by rw [t.hN, t.hs]; exact hc.1.1.1.1, notSet_of hc.1.1.1.2, notSet_of hc.1.1.2, subB_of hc.1.2, fun j hj => hj, subB_of hc.2, trIt_ok (fun {e ir} h => trE_ok n t tp h) t h2, tg_blk t h1,
        fun s H C cl fp => trC_ok (fun {e ir} he => hg he s H C cl fp) h3, fun s H C cl fp => trIt_ok (fun {e ir} he => hg he s H C cl fp) (t.blk s H scope C cl fp) h5, tg_blk t h4, fun s H C cl fp => trC_ok (fun {e ir} he => hg he s H C cl fp) h6, fun s H C cl fp => (hg h7 s H C cl fp).1⟩
    · cases h
  · cases h
end
/-! ### name = [..] -/
def orLS (Q : L2.St → Hp → Prop) : L2.St → Hp → Prop := fun σ' H' => Q σ' H' ∨ ∃ a vs, H' a = some (.lst vs) ∧ ∀ o, Q σ' (upd H' a (.frz o (.lst vs)))
theorem ps_frz {X : Cx} {st : Stmt} {t : TS} (h : PS X st t) : PS X st fun D σ H => t { D with nx := orLS D.nx } σ H := by
  refine ⟨fun pins s σ H D I hr => ?_⟩
  refine thn (h.run pins s σ H _ I hr) fun f s1 q => ?_
  cases f with
  | next =>
    obtain ⟨σ', H', I', q⟩ := q
    rcases q with q | ⟨a, vs, e, q⟩
    · exact ⟨σ', H', I', q⟩
    · obtain ⟨o, I2⟩ := I'.lock e trivial
      exact ⟨σ', _, I2, q o⟩
  | brk => exact q
  | cont => exact q
  | ret v => exact q
section
variable {X : Cx} {z : Cz} {cf : CF} {gl : List (Str × Gk)} {k : Nat} {elt tg iter tg1 iter1 : Expr} {ifs ifs1 : List Expr} {scope : Scope} {own : List (Str × Nat)} {own1 : List Nat} {pos spos py : Pos} {t t1 : Tg} {it it1 : It} {c c1 : Option E} {e : E} {y : Str} {i : Nat}
theorem set_lock {φ : List Addr} {lo : Lo} {st : Sto} {H : Hp} {σ : L2.St} {D : Ends} (s : StOk z.K φ st H) (l : SimL z.K φ H lo σ) {φ1 st1 H1 A vs ys φ' stf H'} (s1 : StOk z.K φ1 st1 H1) (hD : H1 A = none) (p2 : Step z.T φ1 st1 H1 φ' stf H') (s2 : StOk z.K φ' stf H') (nl : ¬ live φ' stf A) (hd : H' A = some (.lst vs)) (rl : RpL z.K H' vs ys)
    (h1 : Post z φ1 st1 H1 (ret (.list ys) stf) (fun x φ1 st1 H1 => StOk z.K φ1 st1 H1 ∧ Step z.T φ st H φ1 st1 H1 ∧ Post z φ1 st1 H1 (.ok (.nx (lo.set i (some x))) st1) (flQ z D))) : orLS D.nx (σ.set i (some (.ref A))) H' :=
  .inr ⟨A, vs, hd, fun o => by
    obtain ⟨q1, q2, q3⟩ := h1 φ' _ (p2.own (.of hD) hd) (s2.own nl hd)
    have rp : Rp z.K (upd H' A (.frz o (.lst vs))) (.ref A) (.list ys) := Rp.lst (.inl ⟨o, upd_same⟩) (rl.keep (keep_own hd))
    exact Post.fl q1 q3 _ ((l.step s q2).set i (x := .d (.list ys)) rp)⟩
def newP (z : Cz) (φ : List Addr) (st : Sto) (H : Hp) (lo : Lo) (i : Nat) (D : Ends) : RV → List Addr → Sto → Hp → Prop := fun x _ st1 _ => ∀ xs φ2 H2, x = .d (.list xs) → Step z.T φ st H φ2 (st1 ++ [.lst xs]) H2 → StOk z.K φ2 (st1 ++ [.lst xs]) H2 → ∀ σ', SimL z.K φ2 H2 (lo.set i (some (.r st1.length))) σ' → D.nx σ' H2
theorem set_new {φ : List Addr} {lo : Lo} {st : Sto} {H : Hp} {σ : L2.St} {D : Ends} (s : StOk z.K φ st H) (l : SimL z.K φ H lo σ) {φ1 st1 H1 A vs ys φ' stf H'} (h0 : Fr H A) (p2 : Step z.T φ1 st1 H1 φ' stf H') (pf : Step z.T φ st H φ' stf H') (s2 : StOk z.K φ' stf H') (nl : ¬ live φ' stf A) (hd : H' A = some (.lst vs)) (rl : RpL z.K H' vs ys)
    (h1 : Post z φ1 st1 H1 (ret (.list ys) stf) (newP z φ st H lo i D)) : D.nx (σ.set i (some (.ref A))) H' := by
  have sm := s2.more hd nl rl
  have pm := pf.more (o := .lst ys) h0
  exact h1 φ' H' p2 s2 ys (φ' ++ [A]) H' rfl pm sm _ ((l.step s pm).set i (x := .r stf.length) ⟨A, by rw [← s2.len]; simp, rfl⟩)
theorem newP_of {φ : List Addr} {lo : Lo} {st : Sto} {H : Hp} {D : Ends} {m : Nat} {e : E} (p : Post z φ st H ((ev cf (m + 1) (.new e) lo st).bind fun x st => .ok (.nx (lo.set i (some x))) st) (flQ z D)) : Post z φ st H (ev cf m e lo st) (newP z φ st H lo i D) := by
  have p : Post z φ st H (((evP (ev cf m) e lo st).bind fun x st => match x with
    | .list xs => (.ok (.r st.length) (st ++ [.lst xs]) : Rs RV)
    | _ => .no).bind fun x st => .ok (.nx (lo.set i (some x))) st) (flQ z D) := p
  unfold evP at p
  cases hf : ev cf m e lo st with
  | no => rw [hf] at p; exact p
  | ex c' xs' st' => rw [hf] at p; exact p
  | ok x st1 =>
    rw [hf] at p
    intro φ1 H1 p1 s1 xs φ2 H2 ex pm sm σ' l'
    subst ex
    have p : Post z φ st H (.ok (.nx (lo.set i (some (.r st1.length)))) (st1 ++ [.lst xs])) (flQ z D) := p
    exact p φ2 H2 pm sm σ' l'
theorem ss_setLc (o : Ok X z cf gl k) (h : LcOk X z cf elt tg iter ifs scope own t it c e) (hy : X.N[i]? = some y) (hyl : X.env.scope.names.lookup y = some .local) (hsw : swapsWith (.ListComp elt [⟨tg, iter, ifs, 0⟩] scope pos) (some (.Name y py)) spos.line X.env = pure true) :
    SS X z cf (.Assign [.Name y py] (.ListComp elt [⟨tg, iter, ifs, 0⟩] scope pos) spos) (.asg (.n i) (.lc (own.map (·.2)) t it c e)) := fun n =>
  (ps_frz (ps_setLc o.calm o.nd hy hyl hsw (h.hi 59) (blkOk_by h.hb) h.hg (fun s H C cl fp => h.hc s H C cl fp 59) (fun s H C cl fp => h.he s H C cl fp 59) (fun x => fold_of h.hset _ x))).imp fun D σ H ⟨φ, lo, st, s, l, tb, p⟩ =>
    lc_read o.hK h.hown s l tb (Post.bind s p) fun φ1 st1 H1 A vs ys φ' stf H' s1 hD h0 p2 p02 s2 nl hd rl h1 => set_lock s l s1 hD p2 s2 nl hd rl h1
theorem ss_newLc (o : Ok X z cf gl k) (h : LcOk X z cf elt tg iter ifs scope own t it c e) (hy : X.N[i]? = some y) (hyl : X.env.scope.names.lookup y = some .local) (hsw : swapsWith (.ListComp elt [⟨tg, iter, ifs, 0⟩] scope pos) (some (.Name y py)) spos.line X.env = pure true) :
    SS X z cf (.Assign [.Name y py] (.ListComp elt [⟨tg, iter, ifs, 0⟩] scope pos) spos) (.asg (.n i) (.new (.lc (own.map (·.2)) t it c e))) := fun n =>
  (ps_setLc o.calm o.nd hy hyl hsw (h.hi 58) (blkOk_by h.hb) h.hg (fun s H C cl fp => h.hc s H C cl fp 58) (fun s H C cl fp => h.he s H C cl fp 58) (fun x => fold_of h.hset _ x)).imp fun D σ H ⟨φ, lo, st, s, l, tb, p⟩ =>
    lc_read o.hK h.hown s l tb (newP_of p) fun φ1 st1 H1 A vs ys φ' stf H' s1 hD h0 p2 p02 s2 nl hd rl h1 => set_new s l h0 p2 p02 s2 nl hd rl h1
theorem ss_setLc2 (o : Ok X z cf gl k) (h : Lc2Ok X z cf elt tg iter tg1 iter1 ifs ifs1 scope own own1 t t1 it it1 c c1 e) (hy : X.N[i]? = some y) (hyl : X.env.scope.names.lookup y = some .local) (hsw : swapsWith (.ListComp elt [⟨tg, iter, ifs, 0⟩, ⟨tg1, iter1, ifs1, 0⟩] scope pos) (some (.Name y py)) spos.line X.env = pure true) :
    SS X z cf (.Assign [.Name y py] (.ListComp elt [⟨tg, iter, ifs, 0⟩, ⟨tg1, iter1, ifs1, 0⟩] scope pos) spos) (.asg (.n i) (.lc2 (own.map (·.2)) own1 t it c t1 it1 c1 e)) := fun n =>
  (ps_frz (ps_setLc2 o.calm o.nd hy hyl hsw (h.hi 59) (blkOk_by h.hb) h.hv h.hg (fun s H C cl fp => h.hc s H C cl fp 59) (fun s H C cl fp => h.hi1 s H C cl fp 59) h.hg1 (fun s H C cl fp => h.hc1 s H C cl fp 59) (fun s H C cl fp => h.he s H C cl fp 59) (fun x => fold_of h.hset _ x) (fun env x => fold_of h.hset1 _ x))).imp fun D σ H ⟨φ, lo, st, s, l, tb, p⟩ =>
    lc2_read o.hK h.hown h.hown1 s l tb (Post.bind s p) fun φ1 st1 H1 A vs ys φ' stf H' s1 hD h0 p2 p02 s2 nl hd rl h1 => set_lock s l s1 hD p2 s2 nl hd rl h1
theorem ss_newLc2 (o : Ok X z cf gl k) (h : Lc2Ok X z cf elt tg iter tg1 iter1 ifs ifs1 scope own own1 t t1 it it1 c c1 e) (hy : X.N[i]? = some y) (hyl : X.env.scope.names.lookup y = some .local) (hsw : swapsWith (.ListComp elt [⟨tg, iter, ifs, 0⟩, ⟨tg1, iter1, ifs1, 0⟩] scope pos) (some (.Name y py)) spos.line X.env = pure true) :
    SS X z cf (.Assign [.Name y py] (.ListComp elt [⟨tg, iter, ifs, 0⟩, ⟨tg1, iter1, ifs1, 0⟩] scope pos) spos) (.asg (.n i) (.new (.lc2 (own.map (·.2)) own1 t it c t1 it1 c1 e))) := fun n =>
  (ps_setLc2 o.calm o.nd hy hyl hsw (h.hi 58) (blkOk_by h.hb) h.hv h.hg (fun s H C cl fp => h.hc s H C cl fp 58) (fun s H C cl fp => h.hi1 s H C cl fp 58) h.hg1 (fun s H C cl fp => h.hc1 s H C cl fp 58) (fun s H C cl fp => h.he s H C cl fp 58) (fun x => fold_of h.hset _ x) (fun env x => fold_of h.hset1 _ x)).imp fun D σ H ⟨φ, lo, st, s, l, tb, p⟩ =>
    lc2_read o.hK h.hown h.hown1 s l tb (newP_of p) fun φ1 st1 H1 A vs ys φ' stf H' s1 hD h0 p2 p02 s2 nl hd rl h1 => set_new s l h0 p2 p02 s2 nl hd rl h1
end
end Sm

set_option Elab.async false
set_option linter.all false
set_option maxRecDepth 100000
set_option maxHeartbeats 4000000
/-! SmW: new lists by list(..), +, *; the translation of statements. -/
namespace Sm
open PySem PySem.Spec PyProof.Rows L2
section
variable {X : Cx} {z : Cz} {cf : CF} {gl : List (Str × Gk)} {k : Nat}
theorem tU_fin {φ : List Addr} {st : Sto} {H0 H : Hp} {φ0 : List Addr} {st0 : Sto} {Q : VK} {xs : List D} (s0 : StOk z.K φ0 st0 H0) (s : StOk z.K φ st H) (p0 : Step z.T φ0 st0 H0 φ st H) (h : Post z φ st H (ret (.list xs) st) fun x φ' st' H' => ∃ xs, x = .d (.list xs) ∧ ∀ p vs, H' p = some (.lst vs) → ¬ live φ' st' p → Fr H0 p → RpL z.K H' vs xs → Q (.ref p) H')
    {p : Addr} {vs : List V} (hp : H p = none) (rl : RpL z.K H vs xs) : Q (.ref p) (upd H p (.lst vs)) := by
  obtain ⟨ys, e, q⟩ := h φ _ (Step.grow (upd_old hp)) (s.grow (upd_old hp))
  cases e
  exact q p vs upd_same (dead_none s hp) (p0.dom p (.of hp)) (rl.keep (keep_of (upd_old hp)))
theorem su_list (o : Ok X z cf gl k) {a : Expr} {ia : E} {p pos : Pos} (hg : Gl X "list") (hm : gl.lookup ("list" : Str) = some .bi) (ha : SE X z cf a ia) (hs : notStar a = true) : SU X z cf (.Call (.Name "list" p) [a] [] pos) (.blt .list ia) := SU.of fun m =>
  (pe_t1 call_list_of hg (o.bi _ hm) rfl (by decide) rfl (ha m) hs).imp fun σ H Q ⟨φ, lo, st, s, l, t, p⟩ => by
    have p : Post z φ st H ((evD (ev cf m) ia lo st).bind fun x st => (Rs.of (bltD .list x) st).bind ret) _ := p
    refine tE.bindD s l t p fun x v φ1 st1 H1 s1 l1 t1 p1 rx h1 => ?_
    obtain ⟨r, e, h2⟩ := Post.of s1 h1
    unfold bltD at e
    rw [o.hK]
    cases x <;> simp only [Option.some.injEq, reduceCtorEq] at e
    · subst e
      obtain ⟨a, vs, rfl, hq, rl⟩ := rx.list
      exact ⟨a, vs, rfl, .inl hq.sq, fun p hp => tU_fin s s1 p1 h2 hp rl⟩
    · subst e
      obtain ⟨a, vs, rfl, hq, rl⟩ := rx.tuple
      exact ⟨a, vs, rfl, .inr hq, fun p hp => tU_fin s s1 p1 h2 hp rl⟩
/-- a list and a number, or two lists: a new list -/
def rNewL (K : PySem.W.Frag) (op : Operator) : R2 := fun x y H Q => ∃ dx dy r, Rp K H x dx ∧ Rp K H y dy ∧ binD op dx dy = some (.list r) ∧ ∀ p vs, H p = none → RpL K H vs r → Q (.ref p) (upd H p (.lst vs))
theorem op_newL (op : Operator) : OpR X (binaryOp op) (rNewL X.K op) := by
  intro pins s σ H x y v u Q I rx ry h
  obtain ⟨dx, dy, r, hx, hy, e, q⟩ := h
  have fin : ∀ (p : Addr) (vs : List V) (s1 : Shared), H p = none → Inv X pins σ (upd H p (.lst vs)) s1 → RpL X.K H vs r → EP X pins σ Q (.ref p) s1 := fun p vs s1 hn I1 rl => ⟨.ref p, _, I1, rfl, q p vs hn rl⟩
  unfold binD at e
  split at e <;> first | (cases e; done) | skip
  all_goals try (split at e <;> first | (cases e; done) | skip)
  · rename_i hz
    cases e
    cases hx with | lst h1 r1 => cases hy with | lst h2 r2 =>
      cases rx; cases ry
      exact cat_listC I (.inr h1) (.inr h2) r1 r2 (szOk_le hz) fin
  · rename_i hz
    cases e
    cases hy
    cases hx with | lst h1 r1 =>
      cases rx
      obtain ⟨t, rfl⟩ := ry
      rw [repOk_eq] at hz
      simp only [Bool.and_eq_true, decide_eq_true_eq] at hz
      exact rep_listC I (.inr h1) r1 hz.1.1 hz.1.2 (by rw [← SZ_eq]; exact hz.2) fin
theorem su_bin (o : Ok X z cf gl k) {a b : Expr} {ia ib : E} {op : Operator} {pos : Pos} (ha : SE X z cf a ia) (hb : SE X z cf b ib) : SU X z cf (.BinOp a op b pos) (.bin op ia ib) := SU.of fun m =>
  (pe_op (op_newL op) (ha m) (hb m)).imp fun σ H Q ⟨φ, lo, st, s, l, t, p⟩ => by
    refine tE.bindP s l t p fun x v φ1 st1 H1 s1 l1 t1 p1 rx h1 => ?_
    refine tE.bindP s1 l1 t1 h1 fun y u φ2 st2 H2 s2 l2 t2 p2 ry h2 => ?_
    obtain ⟨r, e, h3⟩ := Post.of s2 h2
    obtain ⟨xs, ex, _⟩ := Post.here s2 h3
    cases ex
    rw [o.hK]
    exact ⟨x, y, xs, rx.keep (p2.keep s1), ry, e, fun p vs hp rl => tU_fin s s2 (p1.trans s s1 p2) h3 hp rl⟩
end
end Sm

set_option Elab.async false
set_option linter.all false
set_option maxRecDepth 100000
set_option maxHeartbeats 4000000
/-! SmX: the translation of statements. -/
namespace Sm
open PySem PySem.Spec PyProof.Rows L2
def isComp : Expr → Bool
  | .ListComp .. => true
  | .SetComp .. => true
  | .DictComp .. => true
  | _ => false
theorem sw_tup {e : Expr} {ts : List Expr} {n : Nat} {p : Pos} {l : Nat} {env : Env} : swapsWith e (some (.Tuple ts n p)) l env = pure false := by cases e <;> rfl
theorem sw_no {e : Expr} (h : isComp e = false) (t : Option Expr) (l : Nat) (env : Env) : swapsWith e t l env = pure false := by
  cases e <;> first | rfl | cases h
def swB (sc : Scope) (y : Str) (py : Pos) : Expr → Bool
  | .ListComp _ _ scope pos => sc.names.lookup y == some .local && py.line == pos.line && !(scope.names.any fun (n, k) => n == y && (k == .local || k == .cell))
  | _ => false
theorem bk_of {env : Env} (hk : env.scope.kind = .function) : env.blockKind = .function := by unfold Env.blockKind; rw [hk]; rfl
theorem sw_lc {elt : Expr} {gs : List Comprehension} {scope : Scope} {pos py : Pos} {y : Str} {l : Nat} {env : Env} (hk : env.scope.kind = .function) : swapsWith (.ListComp elt gs scope pos) (some (.Name y py)) l env = pure (swB env.scope y py (.ListComp elt gs scope pos)) := by
  unfold swapsWith swB
  have hb := bk_of hk
  have ky : env.kindOf y = env.scope.names.lookup y := rfl
  simp only [hb, ky, Expr.pos]
  rfl
def isStar : Expr → Bool
  | .Starred .. => true
  | _ => false
def spN (names : List (Str × NameKind)) (line : Nat) : Expr → Option Str
  | .Name id pos => if names.lookup id == some .local && pos.line == line then some id else none
  | _ => none
def spR (names : List (Str × NameKind)) (ts vs : List Expr) : Option (Option (List Str)) :=
  if !(ts.length == 2 || ts.length == 3) || vs.length != ts.length then some none
  else if vs.any isStar then some none
  else
    let ns := ts.filterMap (spN names ((ts.head?.map (·.pos.line)).getD 0))
    if ns.length != ts.length || ns.eraseDups.length != ns.length then some none
    else if vs.all (foldedForSure 8) then some none
    else if vs.all (constantsAlone 8) then none
    else some (some ns)
theorem sp_eq {ts vs : List Expr} {n n' : Nat} {p p' : Pos} {env : Env} {r : Option (List Str)} (hk : env.scope.kind = .function) (h : spR env.scope.names ts vs = some r) : swappedStores [.Tuple ts n p] (.Tuple vs n' p') env = pure r := by
  have hb := bk_of hk
  have hne : (ScopeKind.function != ScopeKind.function) = false := by decide
  have key : swappedStores [.Tuple ts n p] (.Tuple vs n' p') env = (if (!(ts.length == 2 || ts.length == 3) || vs.length != ts.length) = true then pure none
      else if vs.any isStar = true then pure none
      else
        let ns := ts.filterMap (spN env.scope.names ((ts.head?.map (·.pos.line)).getD 0))
        if (ns.length != ts.length || ns.eraseDups.length != ns.length) = true then pure none
        else if vs.all (foldedForSure 8) = true then pure none
        else if vs.all (constantsAlone 8) = true then (do
          let _ : Unit ← unsupported "assign.tuple-of-constant-expressions:order-of-the-stores"
          pure (some ns))
        else pure (some ns)) := by
    unfold swappedStores
    simp only [hb, hne, Bool.or_false]
    rfl
  rw [key]
  unfold spR at h
  split at h
  · rename_i hc
    cases h
    rw [if_pos hc]
  · rename_i hc
    rw [if_neg hc]
    split at h
    · rename_i hc
      cases h
      rw [if_pos hc]
    · rename_i hc
      rw [if_neg hc]
      simp only at h ⊢
      split at h
      · rename_i hd
        cases h
        rw [if_pos hd]
      · rename_i hd
        rw [if_neg hd]
        split at h
        · rename_i he
          cases h
          rw [if_pos he]
        · rename_i he
          rw [if_neg he]
          split at h
          · cases h
          · rename_i hg
            cases h
            rw [if_neg hg]
/-- a new list, where it may be one -/
def newE (c : TC) (sc : Scope) : Expr → Bool
  | .List _ _ => true
  | .ListComp _ [⟨_, _, _, 0⟩] _ _ => true
  | .ListComp _ [⟨_, _, _, 0⟩, ⟨_, _, _, 0⟩] _ _ => true
  | .BinOp _ .Add _ _ => true
  | .BinOp _ .Mult _ _ => true
  | .Call (.Name x _) [_] [] _ => x == "list" && isBi c sc x
  | _ => false
/-- the value that is given to a name: new when the name's thing is to be changed -/
def trV (c : TC) (sc : Scope) (fe : Tr) (nw : Bool) (e : Expr) : Option E := if nw && newE c sc e then (fe e).map .new else fe e
def trVs (c : TC) (sc : Scope) (fe : Tr) : List (Bool × Expr) → Option (List E)
  | [] => some []
  | (b, e) :: r => if notStar e then (match trV c sc fe b e, trVs c sc fe r with
    | some i, some is => some (i :: is)
    | _, _ => none) else none
def nmE : Expr → Option Str
  | .Name x _ => some x
  | _ => none
def slot (c : TC) (sc : Scope) (x : Str) : Option Nat := match sc.names.lookup x with
  | some .local => c.N.idxOf? x
  | some .cell => c.N.idxOf? x
  | _ => none
def trAsg (c : TC) (sc : Scope) (fe : Tr) (mu : Str → Bool) (tg : Expr) (e : Expr) : Option S :=
  match tg with
  | .Name x py => match slot c sc x with
    | some i => (match e with
      | .ListComp _ _ _ _ => (fe e).map fun ir => S.asg (.n i) (if mu x && newE c sc e then .new ir else ir)
      | _ => if isComp e then none else (trV c sc fe (mu x) e).map (S.asg (.n i)))
    | none => none
  | .Tuple ts _ _ => (match e with
    | .Tuple vs _ _ => match spR sc.names ts vs with
      | some (some _) => match ts, vs with
        | [.Name x _, .Name y _], [a, b] => match slot c sc x, slot c sc y, trVs c sc fe [(mu x, a), (mu y, b)] with
          | some i, some j, some irs => if i ≠ j then some (.par [i, j] irs) else none
          | _, _, _ => none
        | [.Name x _, .Name y _, .Name w _], [a, b, d] => match slot c sc x, slot c sc y, slot c sc w, trVs c sc fe [(mu x, a), (mu y, b), (mu w, d)] with
          | some i, some j, some m, some irs => if i ≠ j ∧ i ≠ m ∧ j ≠ m then some (.par [i, j, m] irs) else none
          | _, _, _, _ => none
        | _, _ => none
      | some none => match trTs c.N sc.names ts, fe e with
        | some t, some ir => some (.asg (.t t) ir)
        | _, _ => none
      | none => none
    | _ => match trTs c.N sc.names ts, fe e with
      | some t, some ir => some (.asg (.t t) ir)
      | _, _ => none)
  | .Subscript o i _ => if isComp e || !notSlice i then none else (match fe o, fe i, fe e with
    | some io, some ii, some ie => some (.put io ii ie)
    | _, _, _ => none)
  | _ => none
def isBad (c : TC) (x : Str) : Bool := x == "BadThing" && match c.gl.lookup x with
  | some (.cls 0 _) => true
  | _ => false
def trSt (c : TC) (sc : Scope) (fe : Tr) (mu : Str → Bool) (fs : List Stmt → Option (List S)) : Stmt → Option S
  | .Expr (.Call (.Attribute (.Name y py) m apos) [e] [] cpos) _ => if m == "append" && notStar e && (apos.endLine == cpos.line) then (match fe (.Name y py), fe e with
    | some io, some ie => some (.app io ie)
    | _, _ => none) else none
  | .Expr (.Call (.Attribute (.Name y py) m apos) [i, e] [] cpos) _ => if m == "insert" && notStar i && notStar e && (apos.endLine == cpos.line) then (match fe (.Name y py), fe i, fe e with
    | some io, some ii, some ie => some (.ins io ii ie)
    | _, _, _ => none) else none
  | .Expr e _ => if isComp e then none else (fe e).map .ex
  | .Pass _ => some .pass
  | .Break _ => some .brk
  | .Continue _ => some .cont
  | .Return (some e) _ => (fe e).map .ret
  | .Return none _ => some (.ret (.c .none))
  | .If t a b _ => match fe t, fs a, fs b with
    | some it, some ia, some ib => some (.iff it ia ib)
    | _, _, _ => none
  | .While t b [] _ => match fe t, fs b with
    | some it, some ib => some (.whl it ib)
    | _, _ => none
  | .For tg e b [] _ => if notSet e then (match trT c.N sc.names tg, trIt c sc fe tg e, fs b with
    | some t, some it, some ib => some (.fr t it ib)
    | _, _, _ => none) else none
  | .Raise (some (.Call (.Name x _) [a] [] _)) none _ => if isBad c x && isGl sc x && notStar a then (fe a).map fun i => .rais 0 [i] else none
  | .AugAssign (.Name x _) op e _ => if augOk op then (match slot c sc x, fe e with
    | some i, some ie => some (.aug i op ie)
    | _, _ => none) else none
  | .Assign [tg] e _ => trAsg c sc fe mu tg e
  | _ => none
/-- fz: what is made data ahead of a statement -/
def trSs (c : TC) (sc : Scope) (fe : Tr) (mu : Str → Bool) (fz : Stmt → List Nat) : Nat → List Stmt → Option (List S)
  | 0, _ => none
  | _ + 1, [] => some []
  | n + 1, s :: r => match trSt c sc fe mu (trSs c sc fe mu fz n) s, trSs c sc fe mu fz n r with
    | some ir, some irs => some ((fz s).map .frz ++ ir :: irs)
    | _, _ => none
/-- what is known where statements run -/
structure StX (X : Cx) (z : Cz) (cf : CF) (c : TC) (k : Nat) (sc : Scope) : Prop where
  t : TrOk X z cf c k sc
  tp : TopOk X z c k
  hp : PassesOwn (model X.prog X.w) X.A X.env X.xe
  tk : Takes X fun cls d _ H => z.W cls d H
  fn : ∀ x, X.fn x = true
  kind : X.env.scope.kind = .function
  bad : ∀ nf, c.gl.lookup ("BadThing" : Str) = some (.cls 0 nf) → ∃ C fI, PySem.BadX.BadTxt X.prog X.K X.mg C fI ∧ z.cls 0 = some (C, [("thing" : Str)])
section
variable {X : Cx} {z : Cz} {cf : CF} {c : TC} {k : Nat} {sc : Scope} {n : Nat}
theorem slot_of (q : StX X z cf c k sc) {x : Str} {i : Nat} (h : slot c sc x = some i) : X.N[i]? = some x ∧ TgOk X x := by
  unfold slot at h
  split at h
  · rename_i e
    exact ⟨by rw [q.t.hN]; exact idx_at h, .inl (by rw [q.t.hs]; exact e), .inl (q.fn x)⟩
  · rename_i e
    exact ⟨by rw [q.t.hN]; exact idx_at h, .inr (by rw [q.t.hs]; exact e), .inl (q.fn x)⟩
  · cases h
theorem tg_of (q : StX X z cf c k sc) : ∀ x, sc.names.lookup x = some .local ∨ sc.names.lookup x = some .cell → TgOk X x := fun x h => by
  rcases h with e | e
  · exact ⟨.inl (by rw [q.t.hs]; exact e), .inl (q.fn x)⟩
  · exact ⟨.inr (by rw [q.t.hs]; exact e), .inl (q.fn x)⟩
theorem good_of (q : StX X z cf c k sc) {e : Expr} {ir : E} (h : trE c n sc true e = some ir) : Good X z cf e ir := trE_ok n q.t (fun _ => q.tp) h
/-- a list that is made new -/
theorem new_of (q : StX X z cf c k sc) {e : Expr} {ir : E} (h : trE c n sc true e = some ir) (hn : newE c sc e = true) : SU X z cf e ir := by
  cases n with
  | zero => simp [trE] at h
  | succ n =>
    have hf : ∀ {e ir}, trE c n sc true e = some ir → Good X z cf e ir := fun {e ir} h => good_of q h
    unfold newE at hn
    split at hn
    · have h : (trI (trE c n sc true) _).map E.lst = some ir := h
      rw [Option.map_eq_some_iff] at h
      obtain ⟨irs, h1, rfl⟩ := h
      exact su_lst q.t.o (trI_ok hf q.t h1)
    · obtain ⟨tt, it, cc, ee, rfl, l⟩ := lc_inv q.t (fun _ => q.tp) h
      exact su_lc q.t.o l
    · obtain ⟨tt, it, cc, t1, it1, cc1, ee, rfl, l⟩ := lc2_inv q.t (fun _ => q.tp) h
      exact su_lc2 q.t.o l
    · rename_i a b pos
      have h : (match trE c n sc true a, trE c n sc true b with
        | some i, some j => some (E.bin .Add i j)
        | _, _ => none) = some ir := h
      split at h
      · rename_i i j h1 h2
        cases h
        exact su_bin q.t.o (hf h1).1 (hf h2).1
      · cases h
    · rename_i a b pos
      have h : (match trE c n sc true a, trE c n sc true b with
        | some i, some j => some (E.bin .Mult i j)
        | _, _ => none) = some ir := h
      split at h
      · rename_i i j h1 h2
        cases h
        exact su_bin q.t.o (hf h1).1 (hf h2).1
      · cases h
    · rename_i x p a pos
      rw [Bool.and_eq_true] at hn
      have hx : x = "list" := eq_of_beq hn.1
      subst hx
      have h : trCall c sc (trE c n sc true) "list" [a] = some ir := by cases a <;> exact h
      obtain ⟨hg, hm⟩ := bi_of q.t hn.2
      unfold trCall at h
      rw [hm] at h
      split at h
      · simp only at h
        split at h
        · rename_i hna
          split at h
          · rename_i b ia hb h1
            cases h
            have hb' : bl1.lookup ("list" : Str) = some .list := by rfl
            rw [hb'] at hb
            cases hb
            exact su_list q.t.o hg hm (hf h1).1 hna
          · cases h
        · cases h
      · cases h
    · cases hn
theorem trV_of (q : StX X z cf c k sc) {nw : Bool} {e : Expr} {ir : E} (h : trV c sc (trE c n sc true) nw e = some ir) : SE X z cf e ir := by
  unfold trV at h
  split at h
  · rename_i hc
    rw [Bool.and_eq_true] at hc
    rw [Option.map_eq_some_iff] at h
    obtain ⟨i, h1, rfl⟩ := h
    exact se_new q.t.o (new_of q h1 hc.2)
  · exact (good_of q h).1
theorem trVs_of (q : StX X z cf c k sc) : ∀ {es : List (Bool × Expr)} {irs : List E}, trVs c sc (trE c n sc true) es = some irs → SA X z cf (es.map (·.2)) irs
  | [], irs, h => by simp only [trVs, Option.some.injEq] at h; subst h; exact sa_nil
  | (b, e) :: r, irs, h => by
    simp only [trVs] at h
    split at h
    · rename_i hn
      split at h
      · rename_i i is h1 h2
        cases h
        exact sa_cons hn (trV_of q h1) (trVs_of q h2)
      · cases h
    · cases h
theorem swS (e : Expr) (t : Expr) (l : Nat) (env : Env) : swapsWithSole [t] e l env = swapsWith e (some t) l env := rfl
theorem sp_none {ts : List Expr} {n0 : Nat} {p : Pos} {e : Expr} {env : Env} (h : ∀ vs n p, e ≠ .Tuple vs n p) : swappedStores [.Tuple ts n0 p] e env = pure none := by
  cases e with
  | Tuple vs n p => exact absurd rfl (h vs n p)
  | _ => rfl
theorem spN_some {names : List (Str × NameKind)} {line : Nat} {x y : Str} {px : Pos} (h : spN names line (.Name x px) = some y) : y = x ∧ names.lookup x = some .local := by
  simp only [spN] at h
  split at h
  · rename_i hc
    cases h
    rw [Bool.and_eq_true] at hc
    exact ⟨rfl, eq_of_beq hc.1⟩
  · cases h
theorem spR_ns {names : List (Str × NameKind)} {ts vs : List Expr} {ns : List Str} (h : spR names ts vs = some (some ns)) : ∃ line, ns = ts.filterMap (spN names line) ∧ ns.length = ts.length := by
  unfold spR at h
  split at h
  · cases h
  · split at h
    · cases h
    · simp only at h
      split at h
      · cases h
      · rename_i hd
        split at h
        · cases h
        · split at h
          · cases h
          · cases h
            refine ⟨_, rfl, ?_⟩
            simp only [Bool.or_eq_true, bne_iff_ne, ne_eq, not_or, Decidable.not_not] at hd
            exact hd.1
theorem spR_two {names : List (Str × NameKind)} {vs : List Expr} {ns : List Str} {x y : Str} {px py : Pos} (h : spR names [.Name x px, .Name y py] vs = some (some ns)) : ns = [x, y] ∧ names.lookup x = some .local ∧ names.lookup y = some .local := by
  obtain ⟨line, rfl, hl⟩ := spR_ns h
  cases h1 : spN names line (.Name x px) with
  | none =>
    cases h2 : spN names line (.Name y py) with
    | none => simp [List.filterMap_cons, h1, h2] at hl
    | some b => simp [List.filterMap_cons, h1, h2] at hl
  | some a =>
    cases h2 : spN names line (.Name y py) with
    | none => simp [List.filterMap_cons, h1, h2] at hl
    | some b =>
      obtain ⟨rfl, l1⟩ := spN_some h1
      obtain ⟨rfl, l2⟩ := spN_some h2
      exact ⟨by simp [List.filterMap_cons, h1, h2], l1, l2⟩
theorem spR_three {names : List (Str × NameKind)} {vs : List Expr} {ns : List Str} {x y w : Str} {px py pw : Pos} (h : spR names [.Name x px, .Name y py, .Name w pw] vs = some (some ns)) : ns = [x, y, w] ∧ names.lookup x = some .local ∧ names.lookup y = some .local ∧ names.lookup w = some .local := by
  obtain ⟨line, rfl, hl⟩ := spR_ns h
  have key : ∀ (o1 o2 o3 : Option Str), spN names line (.Name x px) = o1 → spN names line (.Name y py) = o2 → spN names line (.Name w pw) = o3 → o1 ≠ none ∧ o2 ≠ none ∧ o3 ≠ none := by
    intro o1 o2 o3 h1 h2 h3
    cases o1 <;> cases o2 <;> cases o3 <;> simp [List.filterMap_cons, h1, h2, h3] at hl ⊢
  obtain ⟨k1, k2, k3⟩ := key _ _ _ rfl rfl rfl
  obtain ⟨a, h1⟩ := Option.ne_none_iff_exists'.mp k1
  obtain ⟨b, h2⟩ := Option.ne_none_iff_exists'.mp k2
  obtain ⟨d, h3⟩ := Option.ne_none_iff_exists'.mp k3
  obtain ⟨rfl, l1⟩ := spN_some h1
  obtain ⟨rfl, l2⟩ := spN_some h2
  obtain ⟨rfl, l3⟩ := spN_some h3
  exact ⟨by simp [List.filterMap_cons, h1, h2, h3], l1, l2, l3⟩
theorem lc_gens {n : Nat} {top : Bool} {elt : Expr} {gs : List Comprehension} {scope : Scope} {pos : Pos} {ir : E} (h : trE c n sc top (.ListComp elt gs scope pos) = some ir) :
    (∃ m tg iter ifs, n = m + 1 ∧ gs = [⟨tg, iter, ifs, 0⟩]) ∨ ∃ m tg iter ifs tg1 iter1 ifs1, n = m + 1 ∧ gs = [⟨tg, iter, ifs, 0⟩, ⟨tg1, iter1, ifs1, 0⟩] := by
  cases n with
  | zero => simp [trE] at h
  | succ n =>
    simp only [trE] at h
    unfold trF at h
    split at h <;> first
      | (rename_i heq; cases heq; done)
      | (rename_i heq; cases heq; exact .inl ⟨_, _, _, _, rfl, rfl⟩)
      | (rename_i heq; cases heq; exact .inr ⟨_, _, _, _, _, _, _, rfl, rfl⟩)
      | cases h
theorem trAsg_ok (q : StX X z cf c k sc) {mu : Str → Bool} {tg e : Expr} {pos : Pos} {ir : S} (h : trAsg c sc (trE c n sc true) mu tg e = some ir) : SS X z cf (.Assign [tg] e pos) ir := by
  have ordinary : ∀ {ts : List Expr} {n0 : Nat} {px : Pos} {t : List Tg} {ie : E}, trTs c.N sc.names ts = some t → trE c n sc true e = some ie → swappedStores [.Tuple ts n0 px] e X.env = pure none → SS X z cf (.Assign [.Tuple ts n0 px] e pos) (.asg (.t t) ie) := fun {ts n0 px t ie} ht he hw =>
    ss_asgT q.t.o (names := sc.names) (by rw [q.t.hN]; exact ht) (tg_of q) (by rw [swS]; exact sw_tup) hw (good_of q he).1
  unfold trAsg at h
  split at h
  · rename_i x py
    split at h
    · rename_i i hi
      obtain ⟨hN, hT⟩ := slot_of q hi
      split at h
      · rename_i elt gs scope lpos
        rw [Option.map_eq_some_iff] at h
        obtain ⟨ie, he, rfl⟩ := h
        cases hb : swB X.env.scope x py (.ListComp elt gs scope lpos) with
        | false =>
          have hsw : swapsWith (.ListComp elt gs scope lpos) (some (.Name x py)) pos.line X.env = pure false := by rw [sw_lc q.kind, hb]
          split
          · rename_i hc
            rw [Bool.and_eq_true] at hc
            exact ss_asgN q.t.o hN hT hsw (se_new q.t.o (new_of q he hc.2))
          · exact ss_asgN q.t.o hN hT hsw (good_of q he).1
        | true =>
          have hl : X.env.scope.names.lookup x = some .local := by
            unfold swB at hb
            simp only [Bool.and_eq_true] at hb
            exact eq_of_beq hb.1.1
          have hsw : swapsWith (.ListComp elt gs scope lpos) (some (.Name x py)) pos.line X.env = pure true := by rw [sw_lc q.kind, hb]
          rcases lc_gens he with ⟨m, tg, iter, ifs, rfl, rfl⟩ | ⟨m, tg, iter, ifs, tg1, iter1, ifs1, rfl, rfl⟩
          · obtain ⟨tt, it, cc, ee, rfl, l⟩ := lc_inv q.t (fun _ => q.tp) he
            split
            · exact ss_newLc q.t.o l hN hl hsw
            · exact ss_setLc q.t.o l hN hl hsw
          · obtain ⟨tt, it, cc, t1, it1, cc1, ee, rfl, l⟩ := lc2_inv q.t (fun _ => q.tp) he
            split
            · exact ss_newLc2 q.t.o l hN hl hsw
            · exact ss_setLc2 q.t.o l hN hl hsw
      · split at h
        · cases h
        · rename_i hc
          rw [Option.map_eq_some_iff] at h
          obtain ⟨ie, he, rfl⟩ := h
          exact ss_asgN q.t.o hN hT (sw_no (by simpa using hc) _ _ _) (trV_of q he)
    · cases h
  · rename_i ts n0 px
    split at h
    · rename_i vs n1 p1
      split at h
      · rename_i ns hsp
        have hsp' := hsp
        rw [← q.t.hs] at hsp
        split at h
        · rename_i x px' y py' a b
          split at h
          · rename_i i j irs hi hj hv
            split at h
            · rename_i hij
              cases h
              obtain ⟨rfl, l1, l2⟩ := spR_two hsp
              exact ss_par2 q.t.o (slot_of q hi).1 (slot_of q hj).1 hij l1 l2 (trVs_of q hv) (sp_eq q.kind hsp)
            · cases h
          · cases h
        · rename_i x px' y py' w pw' a b d
          split at h
          · rename_i i j m irs hi hj hm hv
            split at h
            · rename_i hij
              cases h
              obtain ⟨rfl, l1, l2, l3⟩ := spR_three hsp
              exact ss_par3 q.t.o (slot_of q hi).1 (slot_of q hj).1 (slot_of q hm).1 hij.1 hij.2.1 hij.2.2 l1 l2 l3 (trVs_of q hv) (sp_eq q.kind hsp)
            · cases h
          · cases h
        · cases h
      · rename_i hsp
        rw [← q.t.hs] at hsp
        split at h
        · rename_i t ie ht he
          cases h
          exact ordinary ht he (sp_eq q.kind hsp)
        · cases h
      · cases h
    · rename_i hnt
      split at h
      · rename_i t ie ht he
        cases h
        exact ordinary ht he (sp_none fun vs n p q => hnt vs n p q)
      · cases h
  · rename_i o i p
    split at h
    · cases h
    · rename_i hc
      simp only [Bool.or_eq_true, Bool.not_eq_true', not_or, Bool.not_eq_true, Bool.not_eq_false] at hc
      split at h
      · rename_i io ii ie h1 h2 h3
        cases h
        exact ss_put q.t.o (notSlice_of hc.2) (by rw [swS]; exact sw_no hc.1 _ _ _) (by cases e <;> rfl) (good_of q h1).1 (good_of q h2).1 (good_of q h3).1
      · cases h
  · cases h
theorem trSt_ok (q : StX X z cf c k sc) {mu : Str → Bool} {fs : List Stmt → Option (List S)} (hs : ∀ {ss irs}, fs ss = some irs → SB X z cf ss irs) {st : Stmt} {ir : S} (h : trSt c sc (trE c n sc true) mu fs st = some ir) : SS X z cf st ir := by
  unfold trSt at h
  split at h
  · rename_i y py m apos e cpos pos
    split at h
    · rename_i hc
      simp only [Bool.and_eq_true] at hc
      have hm : m = "append" := eq_of_beq hc.1.1
      subst hm
      split at h
      · rename_i io ie h1 h2
        cases h
        exact ss_app q.t.o rfl hc.1.2 hc.2 (good_of q h1).1 (good_of q h2).1
      · cases h
    · cases h
  · rename_i y py m apos i e cpos pos
    split at h
    · rename_i hc
      simp only [Bool.and_eq_true] at hc
      have hm : m = "insert" := eq_of_beq hc.1.1.1
      subst hm
      split at h
      · rename_i io ii ie h1 h2 h3
        cases h
        exact ss_ins q.t.o rfl hc.1.1.2 hc.1.2 hc.2 (good_of q h1).1 (good_of q h2).1 (good_of q h3).1
      · cases h
    · cases h
  · split at h
    · cases h
    · rename_i hc
      rw [Option.map_eq_some_iff] at h
      obtain ⟨ie, he, rfl⟩ := h
      exact ss_ex (good_of q he).1 fun env => sw_no (by simpa using hc) _ _ _
  · cases h; exact ss_pass
  · cases h; exact ss_brk
  · cases h; exact ss_cont
  · rw [Option.map_eq_some_iff] at h
    obtain ⟨ie, he, rfl⟩ := h
    exact ss_ret (good_of q he).1
  · cases h; exact ss_retN
  · split at h
    · rename_i it ia ib h1 h2 h3
      cases h
      exact ss_if (good_of q h1).2 (hs h2) (hs h3)
    · cases h
  · split at h
    · rename_i it ib h1 h2
      cases h
      exact ss_whl q.hp (good_of q h1).2 (hs h2)
    · cases h
  · split at h
    · rename_i hn
      split at h
      · rename_i t it ib h1 h2 h3
        cases h
        exact ss_for q.t.o q.hp (names := sc.names) (by rw [q.t.hN]; exact h1) (tg_of q) (notSet_of hn) (trIt_ok (fun {e ir} h => good_of q h) q.t h2) (hs h3)
      · cases h
    · cases h
  · rename_i x p a pos pos2
    split at h
    · rename_i hc
      simp only [Bool.and_eq_true] at hc
      rw [Option.map_eq_some_iff] at h
      obtain ⟨ia, h1, rfl⟩ := h
      have hb := hc.1.1
      unfold isBad at hb
      rw [Bool.and_eq_true] at hb
      have hx : x = "BadThing" := eq_of_beq hb.1
      subst hx
      have hb2 := hb.2
      split at hb2
      · rename_i nf hl
        obtain ⟨C, fI, T, hcl⟩ := q.bad nf hl
        exact ss_raise (nf := nf) q.t.o T hcl q.tk (good_of q h1).1 hc.2 (gl_of q.t hc.1.2)
      · cases hb2
    · cases h
  · split at h
    · rename_i hop
      split at h
      · rename_i i ie hi h1
        cases h
        exact ss_aug q.t.o hop (slot_of q hi).1 (slot_of q hi).2 (good_of q h1).1
      · cases h
    · cases h
  · exact trAsg_ok q h
  · cases h
theorem sb_frzs {ss : List Stmt} {irs : List S} (hr : SB X z cf ss irs) : ∀ l : List Nat, SB X z cf ss (l.map S.frz ++ irs)
  | [] => hr
  | i :: l => sb_frz (sb_frzs hr l)
theorem trSs_ok (q : StX X z cf c k sc) {mu : Str → Bool} {fz : Stmt → List Nat} : ∀ (m : Nat) {ss : List Stmt} {irs : List S}, trSs c sc (trE c n sc true) mu fz m ss = some irs → SB X z cf ss irs
  | 0, ss, irs, h => by simp [trSs] at h
  | m + 1, [], irs, h => by simp only [trSs, Option.some.injEq] at h; subst h; exact sb_nil
  | m + 1, s :: r, irs, h => by
    simp only [trSs] at h
    split at h
    · rename_i ir is h1 h2
      cases h
      exact sb_frzs (sb_cons (trSt_ok q (fun {ss irs} h => trSs_ok q m h) h1) (trSs_ok q m h2)) _
    · cases h
end
end Sm

set_option Elab.async false
set_option linter.all false
set_option maxRecDepth 100000
set_option maxHeartbeats 4000000
/-! SmY: every def keeps the evaluator's promise. -/
namespace Sm
open PySem PySem.Spec PyProof.Rows L2
/-- what is known of one def -/
def DefOk (K : PySem.W.Frag) (mg : Str → Option Value) (base : Heap) (T : List (Addr × Str)) (gl : List (Str × Gk)) (Pg : List Fn) (x : Str) (i np : Nat) : Prop :=
  ∃ (f : Addr) (ps N : List Str) (name qual : Str) (params : Arguments) (body : List Stmt) (scope : Scope) (kV doc pm cdv ct oc : Value) (an od : Option Addr) (osl : Array (Option Value)) (lam : Bool) (n m : Nat) (mu : Str → Bool) (fz : Stmt → List Nat) (irs : List S),
    mg x = some (.ref f) ∧ PySem.W.keepIn K (.ref f) = true ∧ Binds K (PySem.W.fnOf name qual params body scope .none kV doc pm an cdv ct) ps [] ∧ ps.length = np ∧
    K.lookup f = some ⟨oc, od, .func (PySem.W.fnOf name qual params body scope .none kV doc pm an cdv ct), osl⟩ ∧ PySem.W.codeIn K cdv qual = true ∧ FnScope N ps scope ∧ Pg[i]? = some ⟨np, N.length, irs⟩ ∧
    trSs ⟨N, gl, lam⟩ scope (trE ⟨N, gl, lam⟩ n scope true) mu fz m body = some irs ∧
    (lam = true → ∃ c P, cdv = .ref c ∧ LamX.TabB base mg c P ∧ (P, (qual ++ ".<locals>.") ++ "<lambda>") ∈ T ∧ ∀ p ∈ T, p.1 = P → p.2 = (qual ++ ".<locals>.") ++ "<lambda>")
structure PgOk (P : Program) (K : PySem.W.Frag) (mg : Str → Option Value) (base : Heap) (T : List (Addr × Str)) (cls : Nat → Option (Addr × List Str)) (gl : List (Str × Gk)) (Pg : List Fn) : Prop where
  con : ∀ x d, gl.lookup x = some (.con d) → ∃ v u, mg x = some u ∧ RelV v u ∧ ∀ H, Rp K H v d
  bi : ∀ x, gl.lookup x = some .bi → mg x = none
  refu : gl.lookup ("_law_refuses" : Str) = some .refu → ∃ g C fI, RefTxt K mg g ∧ PySem.BadX.BadTxt P K mg C fI ∧ cls 0 = some (C, [("thing" : Str)]) ∧ mg "repr" = none
  bad : ∀ nf, gl.lookup ("BadThing" : Str) = some (.cls 0 nf) → ∃ C fI, PySem.BadX.BadTxt P K mg C fI ∧ cls 0 = some (C, [("thing" : Str)])
  fn : ∀ x i np, gl.lookup x = some (.fn i np) → DefOk K mg base T gl Pg x i np
section
variable {K : PySem.W.Frag} {T : List (Addr × Str)} {φ φ' : List Addr} {st st' : Sto} {H H' : Hp}
theorem Step.take (s : StOk K φ st H) (p : Step T φ st H φ' st' H') : Step T φ st H φ (st'.take st.length) H' :=
  ⟨⟨[], by simp, by simp⟩, fun i h => by
    rw [List.getElem?_take_of_lt (List.getElem?_eq_some_iff.mp h).1]
    exact p.gone i h, p.ext, p.dom, p.tab⟩
theorem StOk.take (s : StOk K φ st H) (p : Step T φ st H φ' st' H') (s' : StOk K φ' st' H') : StOk K φ (st'.take st.length) H' := by
  obtain ⟨ψ, e, _⟩ := p.pre
  have up : ∀ {i : Nat} {a : Addr}, φ[i]? = some a → φ'[i]? = some a := fun {i a} h => by
    rw [e, List.getElem?_append_left]
    · exact h
    · exact (List.getElem?_eq_some_iff.mp h).1
  have dn : ∀ {i : Nat} {o : MO}, (st'.take st.length)[i]? = some o → st'[i]? = some o := fun {i o} h => by
    rw [List.getElem?_take] at h
    split at h
    · exact h
    · cases h
  refine ⟨?_, fun i j a o o' h1 h2 h3 h4 => s'.nd i j a o o' (up h1) (up h2) (dn h3) (dn h4), fun i a xs h1 h2 => s'.lst i a xs (up h1) (dn h2), fun i a xs h1 h2 => s'.dct i a xs (up h1) (dn h2)⟩
  rw [List.length_take, s.len]
  have := s'.len
  rw [e, List.length_append, s.len] at this
  omega
end
theorem rpRs_get {K : PySem.W.Frag} {φ : List Addr} {H : Hp} : ∀ {vs : List V} {xs : List RV}, RpRs K φ H vs xs → vs.length = xs.length ∧ ∀ (i : Nat) x, xs[i]? = some x → ∃ v, vs[i]? = some v ∧ RpR K φ H v x
  | _, _, .nil => ⟨rfl, fun i x h => by simp at h⟩
  | _, _, .cons r rr => by
    obtain ⟨h1, h2⟩ := rpRs_get rr
    refine ⟨by simp [h1], fun i x h => ?_⟩
    cases i with
    | zero => simp at h; subst h; exact ⟨_, rfl, r⟩
    | succ i => simpa using h2 i x (by simpa using h)
theorem start_sim {K : PySem.W.Frag} {φ : List Addr} {H : Hp} {vs : List V} {xs : List RV} {N : List Str} {np : Nat} (r : RpRs K φ H vs xs) (hl : xs.length = np) (hN : np ≤ N.length) : SimL K φ H (xs.map some ++ List.replicate (N.length - np) none) (L2.start N vs) := by
  obtain ⟨h1, h2⟩ := rpRs_get r
  have e : L2.start N vs = vs.map some ++ List.replicate (N.length - vs.length) none := rfl
  rw [e]
  refine ⟨by simp; omega, fun i x hx => ?_⟩
  by_cases hi : i < xs.length
  · rw [List.getElem?_append_left (by simpa using hi), List.getElem?_map] at hx
    rw [List.getElem?_append_left (by simp; omega), List.getElem?_map]
    cases q : xs[i]? with
    | none => rw [q] at hx; cases hx
    | some y =>
      rw [q] at hx
      cases hx
      obtain ⟨v, k1, k2⟩ := h2 i _ q
      exact ⟨v, by rw [k1]; rfl, k2⟩
  · rw [List.getElem?_append_right (by simpa using hi)] at hx
    rw [List.getElem?_replicate] at hx
    split at hx <;> cases hx
section
variable {P : Program} {w : World} {K : PySem.W.Frag} {mg : Str → Option Value} {base : Heap} {T : List (Addr × Str)} {cls : Nat → Option (Addr × List Str)} {gl : List (Str × Gk)} {Pg : List Fn}
/-- a def's body: where it runs -/
theorem stx_of {k : Nat} {N ps : List Str} {qual : Str} {scope : Scope} {f : Addr} {cdv : Value} {lam : Bool} {A : Around} {outer : List Env} {s : Shared} {H : Hp} {E : XK} (G : PgOk P K mg base T cls gl Pg)
    (hF : ∀ x i np, gl.lookup x = some (.fn i np) → ∃ f fd ps, mg x = some (.ref f) ∧ PySem.W.keepIn K (.ref f) = true ∧ Binds K fd ps [] ∧ ps.length = np ∧ FnG P w K mg base (3 * k) f fd ps (spF K T cls (callF Pg k) i))
    (S : FnScope N ps scope) (hr : Room (3 * k + 2) (A.deeper (envOfC qual scope s.heap.objs.size f cdv))) (hg : A.guards = some [])
    (hl : lam = true → ∃ c P, cdv = .ref c ∧ LamX.TabB base mg c P ∧ (P, (qual ++ ".<locals>.") ++ "<lambda>") ∈ T ∧ ∀ p ∈ T, p.1 = P → p.2 = (qual ++ ".<locals>.") ++ "<lambda>") :
    StX (cxOf (L2.CX P w) P w K mg base N qual scope f cdv A outer s H E) ⟨K, T, cls, E⟩ (callF Pg k) ⟨N, gl, lam⟩ k scope := by
  have tk : Takes (cxOf (L2.CX P w) P w K mg base N qual scope f cdv A outer s H E) fun cls d _ H => E cls d H := takes_of rfl rfl rfl rfl
  refine ⟨⟨⟨rfl, rfl, S.nd, hr.mono (by omega), hg, passes_call tk fun _ _ _ _ h => h, G.con, G.bi, hF⟩, rfl, rfl⟩, ⟨fun hlam => ⟨hr, rfl, rfl, hl hlam⟩, G.refu⟩, passes_of rfl, tk, fun _ => rfl, S.kind, G.bad⟩
theorem fnG_step {k : Nat} (G : PgOk P K mg base T cls gl Pg)
    (hF : ∀ x i np, gl.lookup x = some (.fn i np) → ∃ f fd ps, mg x = some (.ref f) ∧ PySem.W.keepIn K (.ref f) = true ∧ Binds K fd ps [] ∧ ps.length = np ∧ FnG P w K mg base (3 * k) f fd ps (spF K T cls (callF Pg k) i))
    {x : Str} {i np : Nat} (h : gl.lookup x = some (.fn i np)) : ∃ f fd ps, mg x = some (.ref f) ∧ PySem.W.keepIn K (.ref f) = true ∧ Binds K fd ps [] ∧ ps.length = np ∧ FnG P w K mg base (3 * (k + 1)) f fd ps (spF K T cls (callF Pg (k + 1)) i) := by
  obtain ⟨f, ps, N, name, qual, params, body, scope, kV, doc, pm, cdv, ct, oc, an, od, osl, lam, n, m, mu, fz, irs, h1, h2, h3, h4, lk, hcd, S, hP, htr, hlam⟩ := G.fn x i np h
  refine ⟨f, _, ps, h1, h2, h3, h4, ?_⟩
  have eC : ∀ xs st, callF Pg (k + 1) i xs st = runF (callF Pg k) ⟨np, N.length, irs⟩ xs st := fun xs st => by
    show (match Pg[i]? with | some fn => runF (callF Pg k) fn xs st | none => .no) = _
    rw [hP]
  have len : ∀ vs H Q E, spF K T cls (callF Pg (k + 1)) i vs H Q E → vs.length = ps.length := fun vs H Q E ⟨φ, st, xs, s, t, r, p⟩ => by
    rw [eC] at p
    unfold runF at p
    split at p
    · rename_i hl
      rw [(rpRs_get r).1, hl, h4]
    · exact (p : False).elim
  refine ⟨len, fun A outer s H args us vs Q E hr hgu e0 hb r hsp => ?_⟩
  have hl := len _ _ _ _ hsp
  have KX : K.In s.heap := e0.mod.kin.keeps fun b o e => (e0.bs b o e).1
  have lim : s.heap.NoLimit := e0.mod.nolimit.keeps fun b o e => (e0.bs b o e).1
  have hkind : ∀ y ∈ ps.zip us, scope.names.lookup y.1 = some .local ∨ (scope.names.lookup y.1 = some .cell ∧ ((cellsFrom (s.heap.objs.size + 1) scope.names []).lookup y.1).isSome = true) := fun ⟨n, v⟩ hy => by
    rcases S.par n (List.of_mem_zip hy).1 with q | q
    · exact .inl q
    · exact .inr ⟨q, PySem.W.cellsFrom_some _ _ _ (.inl q)⟩
  have hr3 : Room (3 * k + 3) A := hr
  refine codeAny_call_function hr.depth (KX _ _ lk) rfl S.co S.gen rfl (PySem.W.codeRec_of KX hcd) (hb _ _ _ _ ?_)
  refine wpAny_newFunctionEnv_cells S.kind hkind fun env he s1 xx => ?_
  subst he
  refine ⟨lim.keeps xx.toInCall.keep, codeAny_func ?_⟩
  have q := stx_of (w := w) (outer := outer) (H := H) (E := E) (qual := qual) (f := f) (cdv := cdv) (A := A) (s := s) G hF S (hr3.deeper _) hgu hlam
  have I : Inv (cxOf (L2.CX P w) P w K mg base N qual scope f cdv A outer s H E) [] (L2.start N vs) H s1 := inv_start S hr.hd e0 hl r xx
  obtain ⟨φ, st, xs, s0, t0, r0, p⟩ := hsp
  rw [eC] at p
  unfold runF at p
  have hpl : np ≤ N.length := by
    have := congrArg List.length S.pre
    rw [List.length_take] at this
    omega
  split at p
  · rename_i hxl
    have hxl : xs.length = np := hxl
    have rd : tS ⟨K, T, cls, E⟩ (exs (exN (callF Pg k) EN SN) irs) { nx := fun _ H' => Q .non H', rt := Q } (L2.start N vs) H := by
      refine ⟨φ, xs.map some ++ List.replicate (N.length - np) none, st, s0, start_sim r0 hxl hpl, t0, ?_⟩
      have p : Post ⟨K, T, cls, E⟩ φ st H (match exs (exN (callF Pg k) EN SN) irs (xs.map some ++ List.replicate (N.length - np) none) st with
        | .ok (.rt x) st' => .ok (.d x) (st'.take st.length)
        | .ok (.nx _) st' => .ok (.d .none) (st'.take st.length)
        | .ex c xs st' => .ex c xs (st'.take st.length)
        | _ => .no) (fun x φ' _ H' => ∀ v, RpR K φ' H' v x → Q v H') := p
      cases hx : exs (exN (callF Pg k) EN SN) irs (xs.map some ++ List.replicate (N.length - np) none) st with
      | no => rw [hx] at p; exact p
      | ex c ys st' =>
        rw [hx] at p
        exact fun φ' H' d C fs vs p' s' => p φ H' d C fs vs (p'.take s0) (s0.take p' s')
      | ok fl st' =>
        rw [hx] at p
        cases fl with
        | rt x => exact fun φ' H' p' s' v rv => p φ H' (p'.take s0) (s0.take p' s') v rv
        | nx lo => exact fun φ' H' p' s' σ' l' => p φ H' (p'.take s0) (s0.take p' s') .non .non
        | bk lo => exact (p : False).elim
        | ct lo => exact (p : False).elim
    refine wpAny_mono (((trSs_ok q m htr) SN).run [] s1 (L2.start N vs) H _ I rd) (fun fl s' hs => ?_) fun e s' hs => hs
    have fin : ∀ {σ' : L2.St} {H' : Hp} {v : V} {u : Value}, Inv (cxOf (L2.CX P w) P w K mg base N qual scope f cdv A outer s H E) [] σ' H' s' → RelV v u → Q v H' → CE outer P w H s Q u s' :=
      fun {σ' H' v u} J rv q => ⟨v, H', J.os, J.bare, J.base, J.hok, rv, q⟩
    cases fl with
    | ret u =>
      obtain ⟨v, σ', H', J, rv, q⟩ := hs
      exact fin J rv q
    | next =>
      obtain ⟨σ', H', J, q⟩ := hs
      exact fin (v := V.non) (u := Value.none) J rfl q
    | brk =>
      obtain ⟨_, _, _, q⟩ := hs
      exact False.elim q
    | cont =>
      obtain ⟨_, _, _, q⟩ := hs
      exact False.elim q
  · exact (p : False).elim
theorem fnG_all (G : PgOk P K mg base T cls gl Pg) : ∀ (k : Nat) (x : Str) (i np : Nat), gl.lookup x = some (.fn i np) → ∃ f fd ps, mg x = some (.ref f) ∧ PySem.W.keepIn K (.ref f) = true ∧ Binds K fd ps [] ∧ ps.length = np ∧ FnG P w K mg base (3 * k) f fd ps (spF K T cls (callF Pg k) i)
  | 0, x, i, np, h => by
    obtain ⟨f, ps, N, name, qual, params, body, scope, kV, doc, pm, cdv, ct, oc, an, od, osl, lam, n, m, mu, fz, irs, h1, h2, h3, h4, _⟩ := G.fn x i np h
    exact ⟨f, _, ps, h1, h2, h3, h4, fun vs H Q E ⟨φ, st, xs, s, t, r, p⟩ => (p : False).elim, fun A outer s H args us vs Q E hr hgu e0 hb r ⟨φ, st, xs, s', t, r', p⟩ => (p : False).elim⟩
  | k + 1, x, i, np, h => fnG_step G (fun x i np h => fnG_all G k x i np h) h
end
end Sm

set_option Elab.async false
set_option linter.all false
set_option maxRecDepth 100000
set_option maxHeartbeats 4000000
/-! SmZ: the end of a law: from the evaluator's run to the row (after HandS.EndTab, with the promise FnG). -/
namespace Sm
open PySem PySem.Spec PyProof.Rows L2 LamX
theorem rpInts {K : PySem.W.Frag} {H : Hp} (ns : List Int) : RpL K H (ns.map V.int) (ns.map PyData.int) := RpL.of_ints ns
theorem law_callG {P : Program} {w : World} {K : PySem.W.Frag} {mg mb : Str → Option Value} {k : Nat} {fa a : Addr} {cs : List (Addr × Addr)} {sp : Sp} {s₁ : Shared} {vs : List Value} {ns : List Int}
    (KX : K.In s₁.heap) (hns : s₁.heap.Ns mainGlobals mg) (hb : s₁.heap.Ns builtinsNs mb) (hbb : ∀ x : Str, x ≠ "__name__" → mb x = bootBuiltins x) (hlim : s₁.heap.NoLimit) (hg : s₁.gens = #[])
    (hT : ∀ p ∈ cs, s₁.heap.get? p.2 = some { cls := .none, data := .fields #[] }) (nT : ∀ p ∈ cs, K.lookup p.2 = none) (C : ∀ p ∈ cs, PySem.W.CodeHd s₁.heap p.1 p.2)
    (hbm : ∃ (bm : Addr) (ob : Obj), mg "__builtins__" = some (.ref bm) ∧ bm ≠ builtinsNs ∧ s₁.heap.get? bm = some ob ∧ ob.cls = .type "module" ∧ ob.dict = some builtinsNs ∧ ob.data = .plain)
    (ha : s₁.heap.get? a = some { cls := .type "list", data := .seq vs.toArray }) (hi : IntsAre vs ns) (hl : ns.length ≤ sizeLine) (hr : Room k callerA)
    (F : ∀ base : Heap, K.In base → base.Ns mainGlobals mg → (∀ p ∈ cs, TabB base mg p.1 p.2) → ∃ fd ps, Binds K fd ps [] ∧ ps.length = 1 ∧ FnG P w K mg base k fa fd ps sp)
    (hsp : ∀ H : Hp, (∀ p ∈ cs, H p.2 = some (.tbl #[])) → FzL K H a (ns.map V.int) → sp [.ref a] H (fun v _ => v = .bl true) fun _ _ _ => False) :
    codeAny (model P w) callerA (.call (.ref fa) ⟨[.ref a], []⟩) (fun r s' => r = .ok (.ret (.bool true)) ∧ OldK s₁.heap s'.heap ∧ s'.os = s₁.os ∧ AllBare s'.gens) s₁ := by
  have rv := vals_ints hi
  have lenV := hi.length
  have isT : ∀ b : Addr, b ∈ cs.map (·.2) → s₁.heap.get? b = some { cls := .none, data := .fields #[] } := fun b hb => by
    obtain ⟨p, hp, e⟩ := List.mem_map.mp hb
    rw [← e]
    exact hT p hp
  have aT : a ∉ cs.map (·.2) := fun z => by
    have q := isT a z
    rw [ha] at q
    have z' : Data.seq vs.toArray _ = Data.fields #[] := congrArg Obj.data (Option.some.inj q)
    cases z'
  have memT : ∀ p ∈ cs, p.2 ∈ cs.map (·.2) := fun p hp => List.mem_map.mpr ⟨p, hp, rfl⟩
  -- from an abstract heap in which nothing but the script and the tables may be tracked
  have core : ∀ H : Hp, (∀ p ∈ cs, H p.2 = some (.tbl #[])) → (∀ b, H b = none ∨ b ∈ cs.map (·.2) ∨ ∃ o xs, H b = some (.frz o (.lst xs))) → FzL K H a (ns.map V.int) → HOk P w H s₁.heap → (∀ b, H b ≠ none → b = a ∨ b ∈ cs.map (·.2)) → (H a ≠ none → K.lookup a = none) →
      codeAny (model P w) callerA (.call (.ref fa) ⟨[.ref a], []⟩) (fun r s' => r = .ok (.ret (.bool true)) ∧ OldK s₁.heap s'.heap ∧ s'.os = s₁.os ∧ AllBare s'.gens) s₁ := by
    intro H hH hO hS hok hA hK
    have base_of : ∀ {b : Addr} {o : Obj}, s₁.heap.get? b = some o → H b = none → (hidT s₁.heap H).get? b = some o := fun e n => hidT_get e n
    have noD : ∀ {b : Addr} {o : Obj}, s₁.heap.get? b = some o → (∀ vs n, o.data ≠ .seq vs n) → o.data ≠ .fields #[] → H b = none := fun {b o} e h1 h2 => by
      cases q : H b with
      | none => rfl
      | some u =>
        rcases hA b (by rw [q]; simp) with e' | e'
        · rw [e', ha] at e
          cases e
          exact (h1 _ _ rfl).elim
        · rw [isT b e'] at e
          cases e
          exact (h2 rfl).elim
    have noA : ∀ {b : Addr} {o : Obj} {es : Array DictEntry} {ep : Nat}, s₁.heap.get? b = some o → o.data = .dict es ep → H b = none := fun {b o es ep} e d => by
      refine noD e (fun vs n z => ?_) fun z => ?_
      · rw [d] at z
        cases z
      · rw [d] at z
        cases z
    have nsK : ∀ {b : Addr} {m : Str → Option Value}, s₁.heap.Ns b m → (hidT s₁.heap H).Ns b m := fun {b m} ⟨o, es, ep, e, d, r⟩ => ⟨o, es, ep, base_of e (noA e d), d, r⟩
    have hKb : K.In (hidT s₁.heap H) := fun b o e => base_of (KX b o e) (by
      cases q : H b with
      | none => rfl
      | some u =>
        rcases hA b (by rw [q]; simp) with e' | e'
        · rw [e'] at e q
          rw [hK (by rw [q]; simp)] at e
          cases e
        · obtain ⟨p, hp, ep⟩ := List.mem_map.mp e'
          rw [← ep, nT p hp] at e
          cases e)
    have hM : L2.Mod K mg (hidT s₁.heap H) := ⟨hKb, nsK hns, ⟨mb, nsK hb, hbb⟩, let ⟨mc, h1, h2⟩ := hlim; ⟨mc, nsK h1, h2⟩⟩
    have TB : ∀ p ∈ cs, TabB (hidT s₁.heap H) mg p.1 p.2 := fun p hp => by
      have hTp := hT p hp
      refine ⟨?_, ?_, fun z => ?_⟩
      · obtain ⟨o, us, file, tf, flags, tg, inF, text, tt, e1, r1, r2, r3, r4, r5, r6, r7, r8, hne⟩ := C p hp
        refine ⟨o, us, file, tf, flags, tg, inF, text, tt, base_of e1 (noD e1 (fun vs n z => ?_) fun z => ?_), r1, r2, r3, r4, r5, r6, r7, r8, hne⟩
        · rw [r2] at z
          cases z
        · rw [r2] at z
          cases z
          simp at r3
      · obtain ⟨bm, ob, b1, b2, b3, b4, b5, b6⟩ := hbm
        have nG : bm ≠ mainGlobals := fun q => by
          obtain ⟨o, es, ep, e, hd, _⟩ := hns
          rw [q, e] at b3
          cases b3
          rw [hd] at b6
          cases b6
        have nP : bm ≠ p.2 := fun q => by
          rw [q, hTp] at b3
          cases b3
          cases b6
        refine ⟨bm, ob, b1, b2, nG, nP, base_of b3 (noD b3 (fun vs n z => ?_) fun z => ?_), b4, b5, b6⟩
        · rw [b6] at z
          cases z
        · rw [b6] at z
          cases z
      · obtain ⟨o, es, ep, e, hd, _⟩ := hns
        rw [z, hTp] at e
        cases e
        cases hd
    have e0 : Env0 P w K mg (hidT s₁.heap H) callerA [] s₁ H := ⟨rfl, hM, fun b o e => of_hidT e, Nat.le_of_eq (hidT_size _ _), trivial, fun b hb => absurd (show b ∈ ([] : List Addr) from hb) (by simp), hok, .of_eq hg⟩
    obtain ⟨fd, ps, hbd, hps, FF⟩ := F _ hKb (nsK hns) TB
    have hbs := hbd s₁ [.ref a] KX (by simp [hps])
    rw [List.append_nil] at hbs
    refine codeAny_mono (FF.run callerA [] s₁ H ⟨[.ref a], []⟩ [.ref a] [.ref a] _ _ hr rfl e0 hbs (.cons rfl .nil) (hsp H hH hS)) fun r s' h => ?_
    cases r with
    | error e =>
      obtain ⟨_, _, _, _, _, _, _, _, _, _, _, _, z⟩ := h
      exact z.elim
    | ok fl =>
      cases fl with
      | next => exact False.elim h
      | brk => exact False.elim h
      | cont => exact False.elim h
      | ret u =>
        obtain ⟨v, H', os, bare, un, hok', r', q⟩ := h
        have q' : v = .bl true := q
        subst q'
        obtain rfl : u = Value.bool true := r'
        have key : ∀ b o, b ∉ cs.map (·.2) → s₁.heap.get? b = some o → s'.heap.get? b = some o := fun b o nb e => by
          cases q : H b with
          | none => exact un.keep b o e q (by intro z; exact absurd (show b ∈ ([] : List Addr) from z) (by simp)) (by simp)
          | some u =>
            rcases hO b with z | z | ⟨ob, xs, z⟩
            · rw [q] at z; cases z
            · exact absurd z nb
            · have z2 := un.frzs b ob _ z
              obtain ⟨e1, _⟩ := hok b _ z
              obtain ⟨e2, _⟩ := hok' b _ z2
              rw [e] at e1; cases e1
              exact e2
        have grown : ∀ p ∈ cs, ∃ more : Array Value, s'.heap.get? p.2 = some { cls := .none, data := .fields more } := fun p hp => by
          obtain ⟨more, z⟩ := un.tbls p.2 #[] (hH p hp)
          exact ⟨_, hok' p.2 _ z⟩
        refine ⟨rfl, ⟨fun b o e => ?_, fun b o e => ?_⟩, os, bare⟩
        · by_cases hb : b ∈ cs.map (·.2)
          · obtain ⟨p, hp, ep⟩ := List.mem_map.mp hb
            obtain ⟨more, hm⟩ := grown p hp
            rw [← ep] at e ⊢
            rw [hT p hp] at e
            cases e
            exact .inr (.inl ⟨((C p hp).tab (hT p hp)).isCodeTable, rfl, #[], more, rfl, by rw [Array.empty_append]; exact hm⟩)
          · exact .inl (key b o hb e)
        · by_cases hb : b ∈ cs.map (·.2)
          · obtain ⟨p, hp, ep⟩ := List.mem_map.mp hb
            obtain ⟨more, hm⟩ := grown p hp
            rw [← ep]
            exact ⟨_, hm⟩
          · exact ⟨o, key b o hb e⟩
  cases hk : K.lookup a with
  | some o =>
    have e := KX a o hk
    rw [ha] at e
    cases e
    refine core (fun b => if b ∈ cs.map (·.2) then some (.tbl #[]) else none) (fun p hp => if_pos (memT p hp)) (fun b => ?_) (.inr ⟨vs, 0, hk, by rw [lenV]; exact hl, rv⟩) (fun b u z => ?_) (fun b z => ?_) fun z => absurd (show (if a ∈ cs.map (·.2) then some (HO.tbl #[]) else none) = none from if_neg aT) z
    · by_cases hb : b ∈ cs.map (·.2)
      · exact .inr (.inl hb)
      · exact .inl (if_neg hb)
    · by_cases hb : b ∈ cs.map (·.2)
      · have z' := (if_pos hb).symm.trans z
        cases z'
        exact isT b hb
      · have z' := (if_neg hb).symm.trans z
        cases z'
    · by_cases hb : b ∈ cs.map (·.2)
      · exact .inr hb
      · exact absurd (if_neg hb) z
  | none =>
    refine core (fun b => if b = a then some (.frz { cls := .type "list", data := .seq vs.toArray } (.lst (ns.map V.int))) else if b ∈ cs.map (·.2) then some (.tbl #[]) else none) (fun p hp => (if_neg (show ¬ p.2 = a from fun z => aT (by rw [← z]; exact memT p hp))).trans (if_pos (memT p hp))) (fun b => ?_)
      (.inl ⟨{ cls := .type "list", data := .seq vs.toArray }, if_pos rfl⟩) (fun b u z => ?_) (fun b z => ?_) fun _ => hk
    · by_cases hb : b = a
      · exact .inr (.inr ⟨_, _, if_pos hb⟩)
      · by_cases hb2 : b ∈ cs.map (·.2)
        · exact .inr (.inl hb2)
        · exact .inl ((if_neg hb).trans (if_neg hb2))
    · by_cases hb : b = a
      · have z' := (if_pos hb).symm.trans z
        cases z'
        rw [hb]
        exact ⟨ha, by rw [List.length_map]; exact hl, vs, _, rv, ha⟩
      · have z1 := (if_neg hb).symm.trans z
        by_cases hb2 : b ∈ cs.map (·.2)
        · have z' := (if_pos hb2).symm.trans z1
          cases z'
          exact isT b hb2
        · have z' := (if_neg hb2).symm.trans z1
          cases z'
    · by_cases hb : b = a
      · exact .inl hb
      · by_cases hb2 : b ∈ cs.map (·.2)
        · exact .inr hb2
        · exact absurd ((if_neg hb).trans (if_neg hb2)) z
/-- what the head's heap tells of a law's program -/
def LawG (P : Program) (w : World) (K : PySem.W.Frag) (gl : List (Str × Gk)) (Pg : List Fn) (iLaw : Nat) (mg : Str → Option Value) (fa : Addr) (h : Heap) : Prop :=
  ∃ (cs : List (Addr × Addr)) (T : List (Addr × Str)) (cls : Nat → Option (Addr × List Str)), (∀ p ∈ cs, h.get? p.2 = some { cls := .none, data := .fields #[] }) ∧ (∀ p ∈ cs, K.lookup p.2 = none) ∧ (∀ p ∈ cs, PySem.W.CodeHd h p.1 p.2) ∧
    (∀ q ∈ T, ∃ p ∈ cs, p.2 = q.1) ∧ gl.lookup ("law" : Str) = some (.fn iLaw 1) ∧ mg "law" = some (.ref fa) ∧
    (∀ base : Heap, K.In base → base.Ns mainGlobals mg → (∀ p ∈ cs, TabB base mg p.1 p.2) → PgOk P K mg base T cls gl Pg)
theorem walk_sm {l : PySem.W.OpenLaw} {n k : Nat} {q : Program} {loose : List Str} {XP : (Str → Option Value) → Heap → Prop} {YP : World → Heap → Prop} {d : DefRec} {gl : List (Str × Gk)} {Pg : List Fn} {iLaw : Nat}
    (hn : l.most = some n) (hn2 : n ≤ sizeLine) (hdf : d.params.defaults = []) (hr : Room (3 * k) callerA)
    (F : ∀ (w : World) (mg : Str → Option Value) (fa : Addr) (h : Heap), YP w h → h.Ns mainGlobals mg → mg d.name = some (.ref fa) → ∃ K : PySem.W.Frag, K.In h ∧ LawG l.prog w K gl Pg iLaw mg fa h)
    (hev : ∀ ns : List Int, ns.length ≤ n → (∀ z ∈ ns, Builtin.Int.intBits z ≤ 1048576) → ∃ st', callF Pg k iLaw [.d (.list (ns.map PyData.int))] [] = .ok (.d (.bool true)) st') :
    PySem.W.WalkO q loose XP YP l.row.toRowW d [] (fun f vs => PySem.call f vs) := by
  refine Att.attach_callB hn hdf fun w s₀ s₁ mg mb fa o pm cd doc a vs ns G Y ho hd hcd hmg hobj hints hlen hbits hg => ?_
  obtain ⟨K, KX, cs, T, cls, hT, nT, C, hTc, hlaw, hmgl, hP⟩ := F w mg fa _ Y G.T.g hmg
  obtain ⟨st', hst⟩ := hev ns hlen hbits
  refine law_callG (sp := spF K T cls (callF Pg k) iLaw) KX G.T.g G.T.b G.T.builtins G.T.nolimit hg hT nT C G.T.bmain hobj hints (Nat.le_trans hlen hn2) hr (fun base h1 h2 h3 => ?_) fun H hH hS => ?_
  · obtain ⟨f, fd, ps, q1, q2, q3, q4, q5⟩ := fnG_all (w := w) (hP base h1 h2 h3) k "law" iLaw 1 hlaw
    rw [hmgl] at q1
    cases q1
    exact ⟨fd, ps, q3, q4, q5⟩
  · refine ⟨[], [], [.d (.list (ns.map PyData.int))], ⟨rfl, by simp, by simp, by simp⟩, fun q hq => ?_, .cons (show Rp K H (.ref a) (.list (ns.map PyData.int)) from .lst hS (rpInts ns)) .nil, ?_⟩
    · obtain ⟨p, hp, e⟩ := hTc q hq
      exact TabS.nil (by rw [← e]; exact hH p hp)
    · rw [hst]
      intro φ' H' _ _ v rv
      have rv : Rp K H' v (.bool true) := rv
      cases rv
      rfl
end Sm

set_option Elab.async false
set_option linter.all false
set_option maxRecDepth 100000
set_option maxHeartbeats 4000000
/-! SnA: from a program's text to the small language. -/
namespace Sm
open PySem PySem.Spec PyProof.Rows L2
/-! ### names of comprehensions -/
/-- the parts of an expression -/
def kids : Expr → List Expr
  | .BoolOp _ es _ => es
  | .BinOp a _ b _ => [a, b]
  | .UnaryOp _ a _ => [a]
  | .Lambda _ b _ _ => [b]
  | .IfExp a b c _ => [a, b, c]
  | .Dict ks vs _ => ks.filterMap id ++ vs
  | .Set es _ _ => es
  | .ListComp e gs _ _ => e :: gs.flatMap fun g => g.target :: g.iter :: g.ifs
  | .SetComp e gs _ _ => e :: gs.flatMap fun g => g.target :: g.iter :: g.ifs
  | .DictComp k v gs _ _ => k :: v :: gs.flatMap fun g => g.target :: g.iter :: g.ifs
  | .Compare a _ bs _ => a :: bs
  | .Call f as ks _ => f :: as ++ ks.map fun k => k.value
  | .Attribute e _ _ => [e]
  | .Subscript a i _ => [a, i]
  | .Starred e _ => [e]
  | .List es _ => es
  | .Tuple es _ _ => es
  | .Slice a b c _ => [a, b, c].filterMap id
  | _ => []
def ownNames (sc : Scope) : List Str := sc.names.filterMap fun y => match y.2 with
  | .local => some y.1
  | .cell => some y.1
  | _ => none
def scOf : Expr → List Str
  | .ListComp _ _ sc _ => ownNames sc
  | .SetComp _ _ sc _ => ownNames sc
  | .DictComp _ _ _ sc _ => ownNames sc
  | .Lambda _ _ sc _ => ownNames sc
  | _ => []
def compE : Nat → Expr → List Str
  | 0, _ => []
  | n + 1, e => scOf e ++ (kids e).flatMap (compE n)
def kidsS : Stmt → List Expr × List Stmt
  | .Return (some e) _ => ([e], [])
  | .Assign ts e _ => (ts ++ [e], [])
  | .AugAssign t _ e _ => ([t, e], [])
  | .For t e b o _ => ([t, e], b ++ o)
  | .While t b o _ => ([t], b ++ o)
  | .If t b o _ => ([t], b ++ o)
  | .Raise (some e) _ _ => ([e], [])
  | .Expr e _ => ([e], [])
  | .Try b hs o f _ => ([], b ++ hs.flatMap (fun h => match h with | .ExceptHandler _ _ b _ => b) ++ o ++ f)
  | _ => ([], [])
def compS : Nat → Stmt → List Str
  | 0, _ => []
  | n + 1, s => (kidsS s).1.flatMap (compE 30) ++ (kidsS s).2.flatMap (compS n)
def uniq : List Str → List Str → List Str
  | acc, [] => acc.reverse
  | acc, x :: r => if acc.contains x then uniq acc r else uniq (x :: acc) r
def namesOf (ps : List Str) (sc : Scope) (body : List Stmt) : List Str := uniq [] (ps ++ ownNames sc ++ (body.flatMap (compS 30)).filter fun x => x != (".0" : Str))
/-! ### which names hold things that are changed -/
/-- by callee: which parameters it changes -/
abbrev Mt := List (Str × List Bool)
def mtAt (cm : Mt) (f : Str) (i : Nat) : Bool := ((cm.lookup f).getD []).getD i false
def nmO : Expr → List Str
  | .Name x _ => [x]
  | _ => []
def argMut (cm : Mt) (f : Str) (as : List Expr) : List Str := (as.zipIdx.flatMap fun (a, i) => if mtAt cm f i then nmO a else [])
def mutE (cm : Mt) : Nat → Expr → List Str
  | 0, _ => []
  | n + 1, e => (match e with
    | .Call (.Attribute (.Name x _) m _) _ _ _ => if ["append", "pop", "insert", "extend"].contains (m.toString) then [x] else []
    | .Call (.Name f _) as _ _ => argMut cm f as
    | _ => []) ++ (kids e).flatMap (mutE cm n)
def mutS (cm : Mt) : Nat → Stmt → List Str
  | 0, _ => []
  | n + 1, s => (match s with
    | .Assign [.Subscript (.Name x _) _ _] _ _ => [x]
    | _ => []) ++ (kidsS s).1.flatMap (mutE cm 30) ++ (kidsS s).2.flatMap (mutS cm n)
/-- a name that is given a name that is changed is changed, too -/
def aliS (mu : List Str) : Nat → Stmt → List Str
  | 0, _ => []
  | n + 1, s => (match s with
    | .Assign [.Name x _] (.Name y _) _ => if mu.contains x then [y] else []
    | .Assign [.Tuple ts _ _] (.Tuple vs _ _) _ => (ts.zip vs).flatMap fun (t, v) => match t, v with
      | .Name x _, .Name y _ => if mu.contains x then [y] else []
      | _, _ => []
    | _ => []) ++ (kidsS s).2.flatMap (aliS mu n)
def mutOf (cm : Mt) (body : List Stmt) : List Str :=
  let m0 := uniq [] (body.flatMap (mutS cm 30))
  let m1 := uniq [] (m0 ++ body.flatMap (aliS m0 30))
  uniq [] (m1 ++ body.flatMap (aliS m1 30))
/-! ### where data is wanted -/
def dpA (f : Expr → List Str) : Expr → List Str
  | .Name _ _ => []
  | e => f e
def dpE (cm : Mt) (mu : List Str) : Nat → Expr → List Str
  | 0, _ => []
  | n + 1, e => match e with
    | .Name x _ => if mu.contains x then [x] else []
    | .UnaryOp .Not a _ => dpA (dpE cm mu n) a
    | .IfExp t a b _ => dpA (dpE cm mu n) t ++ dpE cm mu n a ++ dpE cm mu n b
    | .Compare a [_] [b] _ => dpA (dpE cm mu n) a ++ dpA (dpE cm mu n) b
    | .Subscript a (.Slice l h s p) _ => dpE cm mu n a ++ dpE cm mu n (.Slice l h s p)
    | .Subscript a i _ => dpA (dpE cm mu n) a ++ dpE cm mu n i
    | .Call (.Attribute _ _ _) as _ _ => as.flatMap (dpE cm mu n)
    | .Call (.Name f _) as ks _ => if ["enumerate", "zip"].contains f.toString then as.flatMap (dpE cm mu n)
      else if (cm.lookup f).isSome then as.zipIdx.flatMap fun (a, i) => if mtAt cm f i then dpA (dpE cm mu n) a else dpE cm mu n a
      else as.flatMap (dpA (dpE cm mu n)) ++ ks.flatMap fun k => dpE cm mu n k.value
    | e => (kids e).flatMap (dpE cm mu n)
def dpS (cm : Mt) (mu : List Str) : Stmt → List Str
  | .Expr e _ => dpE cm mu 30 e
  | .Assign [.Name _ _] e _ => dpA (dpE cm mu 30) e
  | .Assign [.Tuple _ _ _] (.Tuple vs _ _) _ => vs.flatMap (dpA (dpE cm mu 30))
  | .Assign [.Subscript _ i _] e _ => dpE cm mu 30 i ++ dpE cm mu 30 e
  | .Assign _ e _ => dpE cm mu 30 e
  | .AugAssign _ _ e _ => dpE cm mu 30 e
  | .Return (some e) _ => dpE cm mu 30 e
  | .If t _ _ _ => dpA (dpE cm mu 30) t
  | .While t _ _ _ => dpA (dpE cm mu 30) t
  | .For _ e _ _ _ => dpE cm mu 30 e
  | .Raise (some e) _ _ => dpE cm mu 30 e
  | _ => []
/-! ### defs -/
structure Dd where
  name : Str
  params : Arguments
  body : List Stmt
  scope : Scope
def ddOf : Stmt → Option Dd
  | .FunctionDef n a b _ _ _ sc _ _ _ => some ⟨n, a, b, sc⟩
  | _ => none
def Dd.ps (d : Dd) : List Str := d.params.args.map (·.arg)
def Dd.N (d : Dd) : List Str := namesOf d.ps d.scope d.body
/-- which parameters a def changes -/
def mutP (cm : Mt) (d : Dd) : List Bool := let m := mutOf cm d.body; d.ps.map fun x => m.contains x
def mtOf (ds : List Dd) : Nat → Mt
  | 0 => ds.map fun d => (d.name, d.ps.map fun _ => false)
  | n + 1 => let cm := mtOf ds n; ds.map fun d => (d.name, mutP cm d)
def hasLam : Nat → Expr → Bool
  | 0, _ => false
  | n + 1, e => (match e with
    | .Lambda _ _ _ _ => true
    | _ => false) || (kids e).any (hasLam n)
def hasLamS : Nat → Stmt → Bool
  | 0, _ => false
  | n + 1, s => (kidsS s).1.any (hasLam 30) || (kidsS s).2.any (hasLamS n)
def Dd.lam (d : Dd) : Bool := d.body.any (hasLamS 30)
/-- parameters of a def that are not to be made data -/
def Dd.fz (cm : Mt) (d : Dd) : Stmt → List Nat := let mu := mutOf cm d.body; fun s => ((uniq [] (dpS cm mu s)).filter fun x => !d.ps.contains x).filterMap fun x => slot ⟨d.N, [], false⟩ d.scope x
def Dd.irs (cm : Mt) (gl : List (Str × Gk)) (d : Dd) : Option (List S) := let mu := mutOf cm d.body; trSs ⟨d.N, gl, d.lam⟩ d.scope (trE ⟨d.N, gl, d.lam⟩ 60 d.scope true) (fun x => mu.contains x) (d.fz cm) 60 d.body
def constD : Nat → Expr → Option D
  | 0, _ => none
  | n + 1, e => match e with
    | .Constant (.int i) _ _ => some (.int i)
    | .Constant (.bool b) _ _ => some (.bool b)
    | .Constant (.str s) _ _ => some (.str s)
    | .Constant .none _ _ => some .none
    | .UnaryOp .USub (.Constant (.int i) _ _) _ => some (.int (-i))
    | .Tuple es _ _ => (es.mapM (constD n)).map .tuple
    | _ => none
def biNames : List Str := ["len", "sum", "all", "any", "abs", "int", "tuple", "list", "sorted", "min", "max", "repr", "isinstance", "bool", "str", "dict", "range", "enumerate", "zip", "set", "super"]
/-- sk: the defs that are left out -/
def defsOf (sk : List Str) (body : List Stmt) : List Dd := (body.filterMap ddOf).filter fun d => d.name != ("_law_refuses" : Str) && !sk.contains d.name
def consOf (body : List Stmt) : List (Str × D) := body.filterMap fun s => match s with
  | .Assign [.Name x _] e _ => if dun x then none else (constD 10 e).map fun d => (x, d)
  | _ => none
def clsOf (body : List Stmt) : List Str := body.filterMap fun s => match s with
  | .ClassDef n _ _ _ _ _ _ _ _ _ _ => some n
  | _ => none
def glOf (sk : List Str) (body : List Stmt) : List (Str × Gk) :=
  ((defsOf sk body).zipIdx.map fun (d, i) => (d.name, Gk.fn i d.ps.length)) ++ (consOf body).map (fun (x, d) => (x, Gk.con d)) ++ (if (clsOf body).contains "BadThing" then [(("BadThing" : Str), Gk.cls 0 1)] else []) ++
    (if (body.filterMap ddOf).any (fun d => d.name == ("_law_refuses" : Str)) then [(("_law_refuses" : Str), Gk.refu)] else []) ++ biNames.map fun x => (x, Gk.bi)
def pgOf (sk : List Str) (body : List Stmt) : List Fn := let cm := mtOf (defsOf sk body) 6; (defsOf sk body).map fun d => ⟨d.ps.length, d.N.length, (d.irs cm (glOf sk body)).getD []⟩
/-- the defs that are not translated -/
def badDefs (sk : List Str) (body : List Stmt) : List Str := let cm := mtOf (defsOf sk body) 6; (defsOf sk body).filterMap fun d => if (d.irs cm (glOf sk body)).isSome then none else some d.name
end Sm

set_option Elab.async false
set_option linter.all false
set_option maxRecDepth 100000
set_option maxHeartbeats 4000000
/-! SnB: what the head says of a program's heap, turned to what the promise asks. -/
namespace Sm
open PySem PySem.Spec PyProof.Rows L2
/-! ### binding -/
theorem zip_look : ∀ {ps : List Str} {us : List Value} {n : Str}, us.length = ps.length → n ∈ ps → ∃ u, (ps.zip us).lookup n = some u
  | [], us, n, _, h => by cases h
  | p :: ps, [], n, hl, h => by simp at hl
  | p :: ps, u :: us, n, hl, h => by
    rw [List.zip_cons_cons, List.lookup_cons]
    cases e : n == p with
    | true => exact ⟨u, rfl⟩
    | false =>
      rcases List.mem_cons.mp h with rfl | h
      · simp at e
      · exact zip_look (by simpa using hl) h
theorem fm_congr {α β : Type} {f g : α → Option β} : ∀ {l : List α}, (∀ n ∈ l, f n = g n) → l.filterMap f = l.filterMap g
  | [], _ => rfl
  | a :: l, h => by
    rw [List.filterMap_cons, List.filterMap_cons, h a (by simp), fm_congr fun n hn => h n (by simp [hn])]
theorem zip_back : ∀ {ps : List Str} {us : List Value}, ps.Nodup → us.length = ps.length → ps.filterMap (fun n => ((ps.zip us).lookup n).map (n, ·)) = ps.zip us
  | [], us, _, _ => by simp
  | p :: ps, [], _, hl => by simp at hl
  | p :: ps, u :: us, hn, hl => by
    rw [List.nodup_cons] at hn
    have ih := zip_back (us := us) hn.2 (by simpa using hl)
    rw [List.zip_cons_cons, List.filterMap_cons]
    have e : (((p, u) :: ps.zip us).lookup p).map (p, ·) = some (p, u) := by rw [List.lookup_cons]; simp
    rw [e]
    simp only [List.cons.injEq, true_and]
    refine Eq.trans (fm_congr fun n hn' => ?_) ih
    rw [List.lookup_cons]
    have : (n == p) = false := by
      rw [beq_eq_false_iff_ne]
      rintro rfl
      exact hn.1 hn'
    rw [this]
theorem bind_plain {x qual : Str} {as : List Arg} {body : List Stmt} {scope : Scope} {kV doc pm cdv ct : Value} {an : Option Addr} {us : List Value} (hnd : (as.map (·.arg)).Nodup) (hl : us.length = (as.map (·.arg)).length) :
    bindArgs (PySem.W.fnOf x qual { posonlyargs := [], args := as, vararg := none, kwonlyargs := [], kw_defaults := [], kwarg := none, defaults := [] } body scope .none kV doc pm an cdv ct) ⟨us, []⟩ = pure ((as.map (·.arg)).zip us) := by
  have e1 : seqItems? Value.none = pure none := by rfl
  have hmiss : ((as.map (·.arg)).filter fun n => (((as.map (·.arg)).zip us).lookup n).isNone) = [] := by
    rw [List.filter_eq_nil_iff]
    intro n hn
    obtain ⟨u, e⟩ := zip_look hl hn
    rw [e]; simp
  have hz := zip_back hnd hl
  unfold bindArgs
  simp only [List.map_nil, List.nil_append, List.append_nil, e1, pure_bind, Option.getD_none, List.forIn_nil, hl]
  generalize (as.map (·.arg)) = ps at *
  simp only [List.drop_nil, List.length_nil, Nat.sub_zero, List.take_length, hmiss, gt_iff_lt, Nat.lt_irrefl, decide_false, Bool.false_and, Bool.false_eq_true, if_false, List.isEmpty_nil, Bool.not_true, List.zip_nil_right, List.forIn_nil, pure_bind, hz]
def plainP : Arguments → Bool
  | ⟨[], _, none, [], [], none, []⟩ => true
  | _ => false
theorem plainP_of {a : Arguments} (h : plainP a = true) : a = { posonlyargs := [], args := a.args, vararg := none, kwonlyargs := [], kw_defaults := [], kwarg := none, defaults := [] } := by
  obtain ⟨a1, a2, a3, a4, a5, a6, a7⟩ := a
  unfold plainP at h
  split at h
  · rename_i h'
    cases h'
    rfl
  · cases h
/-! ### constants -/
def datB (K : PySem.W.Frag) : Nat → Value → D → Bool
  | 0, _, _ => false
  | n + 1, u, d => match d with
    | .none => (match u with | .none => true | _ => false)
    | .bool b => (match u with | .bool c => b == c | _ => false)
    | .int i => (match u with | .int j _ => decide (i = j) | _ => false)
    | .str x => (match u with | .str y _ => decide (x = y) | _ => false)
    | .tuple ds => (match u with
      | .ref a => (match K.lookup a with
        | some ⟨.type c, _, .seq its _, _⟩ => decide (c = "tuple") && decide (its.size ≤ sizeLine) && decide (its.size = ds.length) && (its.toList.zip ds).all fun p => datB K n p.1 p.2
        | _ => false)
      | _ => false)
    | _ => false
theorem datB_ok {K : PySem.W.Frag} : ∀ (n : Nat) {u : Value} {d : D}, datB K n u d = true → ∃ v, RelV v u ∧ ∀ H, Rp K H v d
  | 0, u, d, h => by simp [datB] at h
  | n + 1, u, d, h => by
    unfold datB at h
    split at h
    · split at h
      · exact ⟨.non, rfl, fun H => .non⟩
      · cases h
    · split at h
      · rename_i b _ c
        have : b = c := eq_of_beq h
        subst this
        exact ⟨.bl b, rfl, fun H => .bl b⟩
      · cases h
    · split at h
      · rename_i i _ j t
        have : i = j := of_decide_eq_true h
        subst this
        exact ⟨.int i, ⟨t, rfl⟩, fun H => .int i⟩
      · cases h
    · split at h
      · rename_i i _ j t
        have : i = j := of_decide_eq_true h
        subst this
        exact ⟨.str i, ⟨t, rfl⟩, fun H => .str i⟩
      · cases h
    · rename_i ds
      split at h
      · rename_i a
        split at h
        · rename_i c od its e sl q
          simp only [Bool.and_eq_true, decide_eq_true_eq] at h
          obtain ⟨⟨⟨hc, hz⟩, hl⟩, ha⟩ := h
          have key : ∀ (l : List Value) (ds : List D), l.length = ds.length → ((l.zip ds).all fun p => datB K n p.1 p.2) = true → ∃ vs, Vals vs l ∧ ∀ H, RpL K H vs ds := by
            intro l
            induction l with
            | nil =>
              intro ds hl _
              cases ds with
              | nil => exact ⟨[], .nil, fun H => .nil⟩
              | cons d ds => simp at hl
            | cons u l ih =>
              intro ds hl ha
              cases ds with
              | nil => simp at hl
              | cons d ds =>
                rw [List.zip_cons_cons, List.all_cons, Bool.and_eq_true] at ha
                obtain ⟨v, r1, r2⟩ := datB_ok n ha.1
                obtain ⟨vs, r3, r4⟩ := ih ds (by simpa using hl) ha.2
                exact ⟨v :: vs, .cons r1 r3, fun H => .cons (r2 H) (r4 H)⟩
          obtain ⟨vs, r3, r4⟩ := key its.toList ds (by simpa using hl) ha
          refine ⟨.ref a, rfl, fun H => .tup (.inr ⟨_, its, e, q, ?_, rfl, hz, r3⟩) (r4 H)⟩
          rw [hc]
        · cases h
      · cases h
    · cases h
/-! ### the own error -/
open PySem.W in
def clsB (K : Frag) (C : Addr) : Bool := match K.lookup C with
  | some ⟨.type "type", _, .cls cd, sl⟩ => (match cd.mro, sl.toList with
    | .ref C' :: bm, [_, _, _, _, some (.builtin n), _] => C' == C && n == "ValueError.__new__" && !cd.hasDel && cd.hasDict && PySem.HandSPX.refsVE bm
    | _, _ => false)
  | _ => false
theorem clsB_ok {K : PySem.W.Frag} {C : Addr} (q : clsB K C = true) : ∃ nm q N bs bm sn sub ab col dd k0 k1 k2 k3 k5, K.lookup C = some (excClassObj nm q C N bs bm true sn sub ab col dd k0 k1 k2 k3 k5 "ValueError.__new__") ∧ PySem.HandSPX.refsVE bm = true := by
  unfold clsB at q
  split at q
  · rename_i dd cd sl ho
    split at q
    · rename_i C' bm k0 k1 k2 k3 n k5 hm hs
      simp only [Bool.and_eq_true, beq_iff_eq, Bool.not_eq_true'] at q
      obtain ⟨⟨⟨⟨rfl, rfl⟩, hdel⟩, hhd⟩, hre⟩ := q
      obtain ⟨nm, bs, mro, ns, qn, hd, sn, sub, ab, col, del⟩ := cd
      dsimp only at hm hdel hhd
      subst hm hdel hhd
      have hsl : sl = #[k0, k1, k2, k3, some (.builtin "ValueError.__new__"), k5] := by
        obtain ⟨l⟩ := sl
        simp only at hs
        rw [hs]
      subst hsl
      exact ⟨nm, qn, ns, bs, bm, sn, sub, ab, col, dd, k0, k1, k2, k3, k5, ho, hre⟩
    · cases q
  · cases q
end Sm

set_option Elab.async false
set_option linter.all false
set_option maxRecDepth 100000
set_option maxHeartbeats 4000000
/-! SnC: from the head's facts to the law. -/
namespace Sm
open PySem PySem.Spec PyProof.Rows L2
def dfs (sk : List Str) (body : List Stmt) : List He.DefD := ((body.filterMap ddOf).filter fun d => !sk.contains d.name).map fun d => ⟨(d.name, none), d.name, d.name, d.params, d.body, d.scope, [], []⟩
def tfs (sk : List Str) (body : List Stmt) : List He.Defn := ((defsOf sk body).filter (·.lam)).map fun d => (d.name, none)
abbrev FnB : Type := Option (Str × Str × Arguments × FuncBody × Scope × Addr × List Str × Addr)
def fnB (K : PySem.W.Frag) : FnB := match K.lookup (He.ma K (He.ga K "BadThing") "__init__") with
  | some ⟨_, _, .func fd, _⟩ => some (fd.name, fd.qualname, fd.params, fd.body, fd.scope, fd.globals, fd.closure.map (·.1), fd.builtins)
  | _ => none
def isFile (file : Str) : Option Value → Bool
  | some (.str f _) => decide (f = file)
  | _ => false
/-- the closure cell and the code object of the own error's __init__ -/
def iniB (file : Str) (K : PySem.W.Frag) : Bool := match K.lookup (He.ma K (He.ga K "BadThing") "__init__") with
  | some ⟨_, _, .func fd, _⟩ => (match fd.defaults, fd.kwdefaults, fd.code, fd.closure with
    | .none, .none, .ref cda, [(_, cc)] => PySem.W.codeIn K (.ref cda) fd.qualname && (match K.lookup cda with
      | some ⟨_, _, .fields vs, _⟩ => isFile file (vs[2]?)
      | _ => false) && (match K.lookup cc with
      | some ⟨_, _, .cell (some (.ref C)), _⟩ => decide (C = He.ga K "BadThing")
      | _ => false)
    | _, _, _, _ => false)
  | _ => false
def badB (file : Str) (K : PySem.W.Frag) : Bool :=
  let C := He.ga K "BadThing"
  let fI := He.ma K C "__init__"
  He.eqO (PySem.W.nsIn K mainGlobals "BadThing") (some (some (.ref C))) && clsB K C && He.eqO (PySem.W.findIn K (.ref C) "__setattr__") (some (some (.builtin "object.__setattr__"))) &&
  He.eqO (PySem.W.findIn K (.ref C) "__getattribute__") (some (some (.builtin "BaseException.__getattribute__"))) && He.eqO (PySem.W.findIn K (.ref C) "__getattr__") (some none) && He.eqO (PySem.W.findIn K (.ref C) "thing") (some none) &&
  He.eqO (PySem.W.findIn K (.ref C) "__init__") (some (some (.ref fI))) && decide (PySem.W.typeIn K (.ref fI) = some (.type "function")) && PySem.W.keepIn K (.ref C) && decide (PySem.W.subIn K (.ref C) (.type "BaseException") = some true) &&
  decide (PySem.W.typeIn K (.ref C) = some (.type "type")) && PySem.W.hasDictIn K C && decide (PySem.W.exmOne K (.ref C) (.ref C) = some true) && He.eqO (PySem.W.nsIn K PySem.cStatics "thirdparty.any") (some none) &&
  He.eqO (PySem.W.ks_superIn K C C "__init__") (some (some (.builtin "ValueError.__init__"))) && decide (PySem.W.subIn K (.ref C) (.type "ValueError") = some true) && decide (PySem.W.mroIn K C (.ref C) = some true) &&
  He.eqO (PySem.W.nsIn K mainGlobals "super") (some none) && iniB file K
def glB (file : Str) (K : PySem.W.Frag) (q : Str × Gk) : Bool := match q.2 with
  | .bi => He.eqO (PySem.W.nsIn K mainGlobals q.1) (some none)
  | .con d => (match PySem.W.nsIn K mainGlobals q.1 with
    | some (some u) => datB K 9 u d
    | _ => false)
  | .cls _ _ => badB file K
  | _ => He.eqO (PySem.W.nsIn K mainGlobals q.1) (some (some (.ref (He.ga K q.1))))
def exB (sk : List Str) (file : Str) (body : List Stmt) (K : PySem.W.Frag) : Bool := (glOf sk body).all (glB file K) && decide ((tfs sk body).map fun p => (He.cT K p).2).Nodup
def iniOf : Option Stmt → FnB
  | some (.ClassDef _ _ _ [.FunctionDef n a b _ _ _ sc _ _ _] _ _ _ _ _ _ _) => some (n, "BadThing.__init__", a, .stmts b, sc, mainGlobals, ["__class__"], builtinsNs)
  | _ => none
/-! ### the Hook -/
/-- what is looked at: what the names reach in n steps, and the interpreter's own statics -/
def KS (n : Nat) (g : Addr → Option Obj) : PySem.W.Frag := He.frT g (He.asD g n ++ [PySem.cStatics])
theorem says_of {fn : List He.DefD} {tf : List He.Defn} {ex : PySem.W.Frag → Bool} {w : World} {h : Heap} {K : PySem.W.Frag} (hn : ∀ a o, h.get? a = some o → He.emptyTab o = true → K.lookup a = none)
    (e : ((He.obsT [] fn [] K, ex K && He.tabsB h.get? tf K) : He.AlX) = He.valX fn [] w) : He.SaysX [] fn [] tf ex w h K := by
  have e1 := congrArg Prod.fst e
  have e2 : (ex K && He.tabsB h.get? tf K) = true := congrArg Prod.snd e
  rw [Bool.and_eq_true] at e2
  have q : ∀ p ∈ tf, PySem.W.codeHdIn K (He.cT K p).1 (He.cT K p).2 = true ∧ ∃ o, h.get? (He.cT K p).2 = some o ∧ He.emptyTab o = true := by
    intro p hp
    have z := List.all_eq_true.mp e2.2 p hp
    rw [Bool.and_eq_true] at z
    refine ⟨z.1, ?_⟩
    have z2 := z.2
    split at z2
    · exact ⟨_, by assumption, z2⟩
    · cases z2
  exact { t := e1, more := e2.1, hd := fun p hp => (q p hp).1, out := fun p hp => let ⟨_, o, a, b⟩ := q p hp; hn _ o a b, empty := fun p hp => let ⟨_, o, a, b⟩ := q p hp; a.trans (congrArg some (He.emptyTab_eq b)) }
def hookS (n : Nat) (sk : List Str) (file : Str) (body : List Stmt) (ini : FnB) : PySem.W.Hook where
  α := He.AlX × FnB
  obs := fun s => (((He.obsT [] (dfs sk body) [] (KS n s.heap.get?), exB sk file body (KS n s.heap.get?) && He.tabsB s.heap.get? (tfs sk body) (KS n s.heap.get?)) : He.AlX), fnB (KS n s.heap.get?))
  val := fun w => (He.valX (dfs sk body) [] w, ini)
  says := fun w h => ∃ K : PySem.W.Frag, K.In h ∧ He.SaysX [] (dfs sk body) [] (tfs sk body) (exB sk file body) w h K ∧ fnB K = ini
  of := fun _ _ e => ⟨_, He.frT_in, says_of (fun _ _ a b => He.frT_none a b) (congrArg (fun z : He.AlX × FnB => z.1) e), congrArg (fun z : He.AlX × FnB => z.2) e⟩
  keeps := fun _ _ _ ⟨K, hK, c, e⟩ k => ⟨K, PySem.W.Frag.In.keeps hK k, ⟨c.t, c.more, c.hd, c.out, fun p hp => k _ _ (c.empty p hp)⟩, e⟩
def obS (n : Nat) (sk : List Str) (file : Str) (body : List Stmt) (s : PySem.W.SharedT) : He.AlX × FnB :=
  (((He.obsT [] (dfs sk body) [] (KS n (HandSHeadRun.getT s)), exB sk file body (KS n (HandSHeadRun.getT s)) && He.tabsB (HandSHeadRun.getT s) (tfs sk body) (KS n (HandSHeadRun.getT s))) : He.AlX), fnB (KS n (HandSHeadRun.getT s)))
theorem obS_eq {n : Nat} {sk : List Str} {file : Str} {body : List Stmt} {ini : FnB} (s : PySem.W.SharedT) : obS n sk file body s = (hookS n sk file body ini).obs s.abs := by
  have e : HandSHeadRun.getT s = s.abs.heap.get? := funext (HandSHeadRun.getT_eq s)
  unfold obS
  rw [e] <;> rfl
end Sm

set_option Elab.async false
set_option linter.all false
set_option maxRecDepth 100000
set_option maxHeartbeats 4000000
/-! SnD: the head's facts give what a law's program keeps. -/
namespace Sm
open PySem PySem.Spec PyProof.Rows L2
def ddB (d : Dd) : Bool := plainP d.params && C8.scC d.N d.ps d.scope && decide d.ps.Nodup
def rfD (sk : List Str) (body : List Stmt) : Option Dd := ((body.filterMap ddOf).filter fun d => !sk.contains d.name).find? fun d => d.name == ("_law_refuses" : Str)
def rfP : List Stmt → List Pos
  | [.Try [.Expr (.Call (.Name _ a0) _ _ a1) a2, .Return (some (.Constant _ _ a3)) a4] [.ExceptHandler (some (.Name _ a5)) _ [.Return (some (.Compare (.Call (.Name _ a6) [.Attribute (.Name _ a7) _ a8] _ a9) _ [.Call (.Name _ a10) [.Name _ a11] _ a12] a13)) a14] a15] _ _ a16] => [a0, a1, a2, a3, a4, a5, a6, a7, a8, a9, a10, a11, a12, a13, a14, a15, a16]
  | _ => []
def posF (l : List Pos) : Nat → Pos := fun i => l.getD i ⟨0, 0, 0, 0⟩
def rfScB (d : Dd) : Bool := plainP d.params && C8.scC ["work", "due", "e"] ["work", "due"] d.scope && decide (d.ps = (["work", "due"] : List Str)) && decide (d.scope.names.lookup ("work" : Str) = some .local) && decide (d.scope.names.lookup ("due" : Str) = some .local) && decide (d.scope.names.lookup ("e" : Str) = some .local) &&
  decide (d.scope.names.lookup ("BadThing" : Str) = some .globalImplicit) && decide (d.scope.names.lookup ("repr" : Str) = some .globalImplicit)
def clsD (body : List Stmt) : Option Stmt := body.find? fun s => match s with
  | .ClassDef n _ _ _ _ _ _ _ _ _ _ => n == ("BadThing" : Str)
  | _ => false
def iniM : Option Stmt → Str × List Pos
  | some (.ClassDef _ _ _ [.FunctionDef _ ⟨_, [⟨_, _, a0⟩, ⟨_, _, a1⟩], _, _, _, _, _⟩ [.Expr (.Call (.Attribute (.Call (.Name _ q0) _ _ q1) _ q2) [.Constant (.str m) _ q3] _ q4) q5, .Assign [.Attribute (.Name _ q6) _ q7] (.Name _ q8) q9] _ _ _ _ _ _ _] _ _ _ _ _ _ _) => (m, [q0, q1, q2, q3, q4, q5, q6, q7, q8, q9, a0, a1])
  | _ => ("", [])
abbrev iniW (o : Option Stmt) : FnB := some ("__init__", "BadThing.__init__", PySem.BadX.iA (posF (iniM o).2 10) (posF (iniM o).2 11), .stmts (PySem.BadX.iB (iniM o).1 (posF (iniM o).2)), PySem.BadX.iS, mainGlobals, ["__class__"], builtinsNs)
/-- what is looked at in the text alone -/
structure StatB (P : Program) (sk : List Str) (file : Str) : Prop where
  dd : (defsOf sk P.main.body).all ddB = true
  good : (badDefs sk P.main.body).isEmpty = true
  file : (P.main.file == file) = true
  top : (P.main.scope.names.lookup ("super" : Str)).isSome = false
  line : ((posF (iniM (clsD P.main.body)).2 2).endLine == (posF (iniM (clsD P.main.body)).2 4).line) = true
  ini : iniOf (clsD P.main.body) = iniW (clsD P.main.body)
  rf : (rfD sk P.main.body).map (fun d => d.body) = (rfD sk P.main.body).map fun d => rfB (posF (rfP d.body))
  rfs : (rfD sk P.main.body).any rfScB = true
  cl : (clsOf P.main.body).contains "BadThing" = true
theorem lk_mem {α : Type} {x : Str} {v : α} : ∀ {l : List (Str × α)}, l.lookup x = some v → (x, v) ∈ l
  | [], h => by cases h
  | (y, u) :: l, h => by
    rw [List.lookup_cons] at h
    split at h
    · rename_i e
      have e : x = y := by simpa using e
      cases h
      rw [e]; exact List.mem_cons_self
    · exact List.mem_cons_of_mem _ (lk_mem h)
theorem gl_fn {sk : List Str} {body : List Stmt} {x : Str} {i np : Nat} (h : (x, Gk.fn i np) ∈ glOf sk body) : ∃ d, (defsOf sk body)[i]? = some d ∧ d.name = x ∧ d.ps.length = np := by
  unfold glOf at h
  simp only [List.mem_append, List.mem_map] at h
  rcases h with (((⟨⟨d, j⟩, hm, e⟩ | ⟨q, _, e⟩) | h) | h) | ⟨q, _, e⟩
  · simp only [Prod.mk.injEq, Gk.fn.injEq] at e
    obtain ⟨e1, e2, e3⟩ := e
    subst e2
    exact ⟨d, List.mem_zipIdx_iff_getElem?.mp hm, e1, e3⟩
  · simp only [Prod.mk.injEq] at e
    cases e.2
  · split at h
    · simp at h
    · cases h
  · split at h
    · simp at h
    · cases h
  · simp only [Prod.mk.injEq] at e
    cases e.2
theorem nodup_inj {α β : Type} {f : α → β} : ∀ {l : List α}, (l.map f).Nodup → ∀ {a b : α}, a ∈ l → b ∈ l → f a = f b → a = b
  | [], _, a, b, ha, _, _ => by cases ha
  | c :: l, h, a, b, ha, hb, e => by
    rw [List.map_cons, List.nodup_cons] at h
    rcases List.mem_cons.mp ha with rfl | ha' <;> rcases List.mem_cons.mp hb with rfl | hb'
    · rfl
    · exact absurd (List.mem_map.mpr ⟨b, hb', e.symm⟩) h.1
    · exact absurd (List.mem_map.mpr ⟨a, ha', e⟩) h.1
    · exact nodup_inj h.2 ha' hb' e
abbrev lamN (x : Str) : Str := (x ++ ".<locals>.") ++ "<lambda>"
section
variable {P : Program} {w : World} {K : PySem.W.Frag} {mg : Str → Option Value} {base : Heap} {sk : List Str} {file : Str}
theorem def_facts {fn : List He.DefD} {h : Heap} {ex : PySem.W.Frag → Bool} {tf : List He.Defn} (c : He.SaysX [] fn [] tf ex w h K) {d : Dd} (hd : (⟨(d.name, none), d.name, d.name, d.params, d.body, d.scope, [], []⟩ : He.DefD) ∈ fn) (hp : plainP d.params = true) (hn : d.ps.Nodup) :
    ∃ (kV doc pm cdv ct oc : Value) (an od : Option Addr) (osl : Array (Option Value)), PySem.W.keepIn K (.ref (He.ga K d.name)) = true ∧ Binds K (PySem.W.fnOf d.name d.name d.params d.body d.scope .none kV doc pm an cdv ct) d.ps [] ∧
      K.lookup (He.ga K d.name) = some ⟨oc, od, .func (PySem.W.fnOf d.name d.name d.params d.body d.scope .none kV doc pm an cdv ct), osl⟩ ∧ PySem.W.codeIn K cdv d.name = true := by
  obtain ⟨fd, F⟩ := c.t.d.defs hd
  obtain ⟨oc, od, dV, kV, doc, pm, an, cdv, ct, osl, rfl, lk, hcd, hD, hK⟩ := F.ex
  rcases hD with ⟨_, rfl⟩ | ⟨e, _⟩
  · refine ⟨kV, doc, pm, cdv, ct, oc, an, od, osl, F.kp, ?_, lk, hcd⟩
    refine .all fun us hl => ?_
    show bindArgs (PySem.W.fnOf d.name d.name d.params d.body d.scope .none kV doc pm an cdv ct) ⟨us, []⟩ = pure (d.ps.zip us)
    have e := plainP_of hp
    have hl : us.length = (d.params.args.map (·.arg)).length := hl
    have hn : (d.params.args.map (·.arg)).Nodup := hn
    rw [e]
    exact bind_plain hn hl
  · exact absurd rfl e
theorem badTxt_of (hb : K.In base) (G : base.Ns mainGlobals mg) (st : StatB P sk file) (hs : He.eqO (PySem.W.nsIn K mainGlobals "super") (some none) = true) (h : badB file K = true) (hini : fnB K = iniOf (clsD P.main.body)) :
    PySem.BadX.BadTxt P K mg (He.ga K "BadThing") (He.ma K (He.ga K "BadThing") "__init__") := by
  unfold badB at h
  simp only [Bool.and_eq_true, decide_eq_true_eq] at h
  obtain ⟨⟨⟨⟨⟨⟨⟨⟨⟨⟨⟨⟨⟨⟨⟨⟨⟨⟨h0, h1⟩, h2⟩, h3⟩, h4⟩, h5⟩, h6⟩, h7⟩, h8⟩, h9⟩, h10⟩, h11⟩, h12⟩, h13⟩, h14⟩, h15⟩, h16⟩, h17⟩, h18⟩ := h
  refine ⟨PySem.W.mg_of hb G (He.eqO_ok h0), clsB_ok h1, He.eqO_ok h2, He.eqO_ok h3, He.eqO_ok h4, He.eqO_ok h5, He.eqO_ok h6, h7, h8, h9, h10, h11, h12, He.eqO_ok h13, He.eqO_ok h14, h15, h16, PySem.W.mg_none_of hb G (He.eqO_ok hs), st.top, ?_⟩
  rw [st.ini] at hini
  unfold fnB at hini
  unfold iniB at h18
  generalize K.lookup (He.ma K (He.ga K "BadThing") "__init__") = o at *
  match o, hini, h18 with
  | some ⟨oc, od, .func fd, osl⟩, hini, h18 =>
    obtain ⟨n1, n2, n3, n4, n5, n6, n7, n8, n9, n10, n11, n12, n13, n14, n15⟩ := fd
    simp only [iniW, Option.some.injEq, Prod.mk.injEq] at hini
    obtain ⟨e1, e2, e3, e4, e5, e6, e7, e8⟩ := hini
    subst e1 e2 e3 e4 e5 e6 e8
    match n8, n9, n13, n7, e7, h18 with
    | .none, .none, .ref cda, [(nm, cc)], e7, h18 =>
      dsimp only at h18
      simp only [List.map_cons, List.map_nil, List.cons.injEq, and_true] at e7
      subst e7
      simp only [Bool.and_eq_true] at h18
      obtain ⟨⟨k1, k2⟩, k3⟩ := h18
      split at k2
      · rename_i ccl cdd vs ccs k4
        unfold isFile at k2
        split at k2
        · rename_i f tf k5
          have k2 : f = file := of_decide_eq_true k2
          subst k2
          split at k3
          · rename_i cl cld C csl k6
            have k3 : C = He.ga K "BadThing" := of_decide_eq_true k3
            subst k3
            exact ⟨oc, od, _, _, _, cda, cc, _, osl, (iniM (clsD P.main.body)).1, posF (iniM (clsD P.main.body)).2 10, posF (iniM (clsD P.main.body)).2 11, posF (iniM (clsD P.main.body)).2, "BadThing.__init__", f, tf, vs, ccl, cl, cdd, cld, ccs, csl, st.line, rfl, k1, k4, k5, st.file, k6⟩
          · cases k3
        · cases k2
      · cases k2
theorem lawG_of {fa : Addr} {h : Heap} {iLaw : Nat} (hK : K.In h) (G : h.Ns mainGlobals mg) (c : He.SaysX [] (dfs sk P.main.body) [] (tfs sk P.main.body) (exB sk file P.main.body) w h K) (hini : fnB K = iniOf (clsD P.main.body)) (st : StatB P sk file) (hfa : mg "law" = some (.ref fa))
    (hlaw : (glOf sk P.main.body).lookup ("law" : Str) = some (.fn iLaw 1)) : LawG P w K (glOf sk P.main.body) (pgOf sk P.main.body) iLaw mg fa h := by
  have hex := c.more
  unfold exB at hex
  rw [Bool.and_eq_true, List.all_eq_true] at hex
  obtain ⟨hgl, hnd⟩ := hex
  have hnd := of_decide_eq_true hnd
  refine ⟨(tfs sk P.main.body).map (He.cT K), (tfs sk P.main.body).map fun p => ((He.cT K p).2, lamN p.1), fun n => if n = 0 then some (He.ga K "BadThing", [("thing" : Str)]) else none, fun p hp => ?_, fun p hp => ?_, fun p hp => ?_, fun q hq => ?_, hlaw, hfa, fun base hb Gb TB => ?_⟩
  · obtain ⟨q, hq, rfl⟩ := List.mem_map.mp hp
    exact c.empty q hq
  · obtain ⟨q, hq, rfl⟩ := List.mem_map.mp hp
    exact c.out q hq
  · obtain ⟨q, hq, rfl⟩ := List.mem_map.mp hp
    exact PySem.W.codeHd_of_K hK (c.hd q hq)
  · obtain ⟨p, hp, rfl⟩ := List.mem_map.mp hq
    exact ⟨He.cT K p, List.mem_map.mpr ⟨p, hp, rfl⟩, rfl⟩
  have biM : ∀ x : Str, x ∈ biNames → (x, Gk.bi) ∈ glOf sk P.main.body := fun x hx => List.mem_append_right _ (List.mem_map.mpr ⟨x, hx, rfl⟩)
  have biB : ∀ x : Str, (x, Gk.bi) ∈ glOf sk P.main.body → He.eqO (PySem.W.nsIn K mainGlobals x) (some none) = true := fun x hx => hgl _ hx
  have bad : badB file K = true := by
    have := hgl (("BadThing" : Str), Gk.cls 0 1) (by
      unfold glOf
      rw [st.cl]
      simp)
    exact this
  have bt := badTxt_of hb Gb st (biB _ (biM "super" (by decide))) bad hini
  refine ⟨fun x d e => ?_, fun x e => PySem.W.mg_none_of hb Gb (He.eqO_ok (biB x (lk_mem e))), fun e => ?_, fun nf e => ⟨_, _, bt, rfl⟩, fun x i np e => ?_⟩
  · have q : glB file K (x, .con d) = true := hgl _ (lk_mem e)
    unfold glB at q
    dsimp only at q
    split at q
    · rename_i u hu
      obtain ⟨v, r1, r2⟩ := datB_ok 9 q
      exact ⟨v, u, PySem.W.mg_of hb Gb hu, r1, r2⟩
    · cases q
  · refine ⟨He.ga K "_law_refuses", _, _, ?_, bt, rfl, PySem.W.mg_none_of hb Gb (He.eqO_ok (biB _ (biM "repr" (by decide))))⟩
    have q : glB file K ("_law_refuses", .refu) = true := hgl _ (lk_mem e)
    have q2 : He.eqO (PySem.W.nsIn K mainGlobals "_law_refuses") (some (some (.ref (He.ga K "_law_refuses")))) = true := q
    cases hr : rfD sk P.main.body with
    | none =>
      have := st.rfs
      rw [hr] at this
      cases this
    | some d =>
      have h1 := st.rf
      have h2 := st.rfs
      rw [hr] at h1 h2
      have h1 : d.body = rfB (posF (rfP d.body)) := Option.some.inj h1
      have h2 : rfScB d = true := h2
      have hm := List.mem_of_find?_eq_some hr
      have hnm : d.name = "_law_refuses" := by
        have := List.find?_some hr
        simpa using this
      unfold rfScB at h2
      simp only [Bool.and_eq_true, decide_eq_true_eq] at h2
      obtain ⟨⟨⟨⟨⟨⟨⟨k1, k2⟩, k3⟩, k4⟩, k5⟩, k6⟩, k7⟩, k8⟩ := h2
      obtain ⟨kV, doc, pm, cdv, ct, oc, an, od, osl, f1, f2, f3, f4⟩ := def_facts c (d := d) (List.mem_map.mpr ⟨d, hm, rfl⟩) k1 (by rw [k3]; decide)
      rw [hnm] at f1 f2 f3 f4
      rw [k3] at f2
      rw [h1] at f2 f3
      exact ⟨PySem.W.mg_of hb Gb (He.eqO_ok q2), f1, ⟨_, d.params, d.scope, kV, doc, pm, cdv, ct, oc, an, od, osl, f3, f4, C8.fnScope_by k2, f2, k4, k5, k6, k7, k8⟩⟩
  · have hm := lk_mem e
    obtain ⟨d, hi, hx, hnp⟩ := gl_fn hm
    have hdm : d ∈ defsOf sk P.main.body := List.mem_of_getElem? hi
    have hdB := List.all_eq_true.mp st.dd d hdm
    unfold ddB at hdB
    simp only [Bool.and_eq_true, decide_eq_true_eq] at hdB
    obtain ⟨⟨k1, k2⟩, k3⟩ := hdB
    have hdf : d ∈ (P.main.body.filterMap ddOf).filter fun d => !sk.contains d.name := by
      unfold defsOf at hdm
      rw [List.mem_filter] at hdm ⊢
      refine ⟨hdm.1, ?_⟩
      have := hdm.2
      rw [Bool.and_eq_true] at this
      exact this.2
    obtain ⟨kV, doc, pm, cdv, ct, oc, an, od, osl, f1, f2, f3, f4⟩ := def_facts c (d := d) (List.mem_map.mpr ⟨d, hdf, rfl⟩) k1 k3
    have q2 : He.eqO (PySem.W.nsIn K mainGlobals x) (some (some (.ref (He.ga K x)))) = true := hgl _ hm
    subst hx
    have hir : (d.irs (mtOf (defsOf sk P.main.body) 6) (glOf sk P.main.body)).isSome = true := by
      have g := List.isEmpty_iff.mp st.good
      have := List.filterMap_eq_nil_iff.mp g d hdm
      split at this
      · assumption
      · cases this
    obtain ⟨irs, hirs⟩ := Option.isSome_iff_exists.mp hir
    refine ⟨_, d.ps, d.N, d.name, d.name, d.params, d.body, d.scope, kV, doc, pm, cdv, ct, oc, an, od, osl, d.lam, 60, 60, _, d.fz (mtOf (defsOf sk P.main.body) 6), irs, PySem.W.mg_of hb Gb (He.eqO_ok q2), f1, f2, hnp, f3, f4, C8.fnScope_by k2, ?_, hirs, fun hl => ?_⟩
    · unfold pgOf
      dsimp only
      rw [List.getElem?_map, hi, Option.map_some, hirs, ← hnp]
      rfl
    · obtain ⟨cd, rfl⟩ := He.codeIn_ref f4
      have hpm : ((d.name, none) : He.Defn) ∈ tfs sk P.main.body := List.mem_map.mpr ⟨d, List.mem_filter.mpr ⟨hdm, hl⟩, rfl⟩
      have ec : He.codeOf K (d.name, none) = cd := He.codeOf_eq f3 rfl
      refine ⟨cd, (He.cT K (d.name, none)).2, rfl, ?_, List.mem_map.mpr ⟨_, hpm, rfl⟩, fun p hp e => ?_⟩
      · have := TB _ (List.mem_map.mpr ⟨_, hpm, rfl⟩)
        have e1 : (He.cT K (d.name, none)).1 = cd := ec
        rw [e1] at this
        exact this
      · obtain ⟨q, hq, rfl⟩ := List.mem_map.mp hp
        have := nodup_inj hnd hq hpm e
        subst this
        rfl
end
end Sm

set_option Elab.async false
set_option linter.all false
set_option maxRecDepth 100000
/-! SnE: running the evaluator on what is not known: loops as maps, filters, folds. -/
namespace Sm
open PySem PySem.Spec
section
variable {Pg : List Fn} {i k : Nat} {st : Sto} {cf : CF} {f : Ev} {lo : Lo}
theorem call_eq {fn : Fn} (h : Pg[i]? = some fn) (xs : List RV) : callF Pg (k + 1) i xs st = runF (callF Pg k) fn xs st := by
  show (match Pg[i]? with | some fn => runF (callF Pg k) fn xs st | none => .no) = _
  rw [h]
/-! one construct at a time (so that what is within is not unfolded) -/
section
variable {m en n : Nat} {a b c t : E} {x : D}
@[simp] theorem ev_c : ev cf (m + 1) (.c x) lo st = .ok (.d x) st := Eq.trans rfl rfl
@[simp] theorem ev_v {j : Nat} : ev cf (m + 1) (.v j) lo st = (match lo[j]? with | some (some x) => .ok x st | _ => .no) := Eq.trans rfl rfl
@[simp] theorem ev_tup {es : List (Bool × E)} : ev cf (m + 1) (.tup es) lo st = (evI (ev cf m) es lo st).bind fun xs st => if szOk xs.length then ret (.tuple xs) st else .no := Eq.trans rfl rfl
@[simp] theorem ev_lst {es : List (Bool × E)} : ev cf (m + 1) (.lst es) lo st = (evI (ev cf m) es lo st).bind fun xs st => if szOk xs.length then ret (.list xs) st else .no := Eq.trans rfl rfl
@[simp] theorem ev_bin {op : Operator} : ev cf (m + 1) (.bin op a b) lo st = (evP (ev cf m) a lo st).bind fun x st => (evP (ev cf m) b lo st).bind fun y st => (Rs.of (binD op x y) st).bind ret := Eq.trans rfl rfl
@[simp] theorem ev_neg : ev cf (m + 1) (.neg a) lo st = (evP (ev cf m) a lo st).bind fun x st => (Rs.of (negD x) st).bind ret := Eq.trans rfl rfl
@[simp] theorem ev_cmp {op : CmpOp} : ev cf (m + 1) (.cmp op a b) lo st = (ev cf m a lo st).bind fun x st => (ev cf m b lo st).bind fun y st => (Rs.of (rdV x st) st).bind fun x st => (Rs.of (rdV y st) st).bind fun y st => (Rs.of (cmpD op x y) st).bind fun k st => ret (.bool k) st := Eq.trans rfl rfl
@[simp] theorem ev_and : ev cf (m + 1) (.and a b) lo st = (evP (ev cf m) a lo st).bind fun x st => (asB x st).bind fun k st => if k then ev cf m b lo st else ret x st := Eq.trans rfl rfl
@[simp] theorem ev_or : ev cf (m + 1) (.or a b) lo st = (evP (ev cf m) a lo st).bind fun x st => (asB x st).bind fun k st => if k then ret x st else ev cf m b lo st := Eq.trans rfl rfl
@[simp] theorem ev_not : ev cf (m + 1) (.not a) lo st = (evD (ev cf m) a lo st).bind fun x st => (asB x st).bind fun k st => ret (.bool (!k)) st := Eq.trans rfl rfl
@[simp] theorem ev_ife : ev cf (m + 1) (.ife t a b) lo st = (evT (ev cf m) t lo st).bind fun k st => if k then ev cf m a lo st else ev cf m b lo st := Eq.trans rfl rfl
@[simp] theorem ev_ix : ev cf (m + 1) (.ix a b) lo st = (ev cf m a lo st).bind fun x st => (evP (ev cf m) b lo st).bind fun y st => (Rs.of (rdV x st) st).bind fun x st => (Rs.of (ixD x y) st).bind ret := Eq.trans rfl rfl
@[simp] theorem ev_chain {op op' : CmpOp} : ev cf (m + 1) (.chain op op' a b c) lo st = (evP (ev cf m) a lo st).bind fun x st => (evP (ev cf m) b lo st).bind fun y st => (Rs.of (cmpD op x y) st).bind fun k st =>
    if k then (evP (ev cf m) c lo st).bind fun z st => (Rs.of (cmpD op' y z) st).bind fun k st => ret (.bool k) st else ret (.bool false) st := Eq.trans rfl rfl
@[simp] theorem ev_sl {l h : Option E} : ev cf (m + 1) (.sl a l h) lo st = (evP (ev cf m) a lo st).bind fun x st => (optI (ev cf m) l lo st).bind fun l st => (optI (ev cf m) h lo st).bind fun h st => (Rs.of (slD x l h) st).bind ret := Eq.trans rfl rfl
@[simp] theorem ev_len : ev cf (m + 1) (.blt .len a) lo st = (evD (ev cf m) a lo st).bind fun x st => (Rs.of (bltD .len x) st).bind ret := Eq.trans rfl rfl
@[simp] theorem ev_sum : ev cf (m + 1) (.blt .sum a) lo st = (evD (ev cf m) a lo st).bind fun x st => (Rs.of (bltD .sum x) st).bind ret := Eq.trans rfl rfl
@[simp] theorem ev_all : ev cf (m + 1) (.blt .all a) lo st = (evD (ev cf m) a lo st).bind fun x st => (Rs.of (bltD .all x) st).bind ret := Eq.trans rfl rfl
@[simp] theorem ev_any : ev cf (m + 1) (.blt .any a) lo st = (evD (ev cf m) a lo st).bind fun x st => (Rs.of (bltD .any x) st).bind ret := Eq.trans rfl rfl
@[simp] theorem ev_abs : ev cf (m + 1) (.blt .abs a) lo st = (evD (ev cf m) a lo st).bind fun x st => (Rs.of (bltD .abs x) st).bind ret := Eq.trans rfl rfl
@[simp] theorem ev_int : ev cf (m + 1) (.blt .int a) lo st = (evD (ev cf m) a lo st).bind fun x st => (Rs.of (bltD .int x) st).bind ret := Eq.trans rfl rfl
@[simp] theorem ev_tuple : ev cf (m + 1) (.blt .tuple a) lo st = (evD (ev cf m) a lo st).bind fun x st => (Rs.of (bltD .tuple x) st).bind ret := Eq.trans rfl rfl
@[simp] theorem ev_list : ev cf (m + 1) (.blt .list a) lo st = (evD (ev cf m) a lo st).bind fun x st => (Rs.of (bltD .list x) st).bind ret := Eq.trans rfl rfl
@[simp] theorem ev_isI : ev cf (m + 1) (.blt .isI a) lo st = (evD (ev cf m) a lo st).bind fun x st => (Rs.of (bltD .isI x) st).bind ret := Eq.trans rfl rfl
@[simp] theorem ev_isB : ev cf (m + 1) (.blt .isB a) lo st = (evD (ev cf m) a lo st).bind fun x st => (Rs.of (bltD .isB x) st).bind ret := Eq.trans rfl rfl
@[simp] theorem ev_isT : ev cf (m + 1) (.blt .isT a) lo st = (evD (ev cf m) a lo st).bind fun x st => (Rs.of (bltD .isT x) st).bind ret := Eq.trans rfl rfl
@[simp] theorem ev_call {g : Nat} {as : List E} : ev cf (m + 1) (.call g as) lo st = (evRs (ev cf m) as lo st).bind fun xs st => cf g xs st := Eq.trans rfl rfl
@[simp] theorem ev_lc {own : List Nat} {tg : Tg} {it : It} {ifs : Option E} {elt : E} : ev cf (m + 1) (.lc own tg it ifs elt) lo st = (evIt (ev cf m) it lo st).bind fun xs st => if szOk xs.length then (match lcL (ev cf m) own tg ifs elt lo xs st with
    | .ok ys st => ret (.list ys) st
    | _ => .no) else .no := Eq.trans rfl rfl
@[simp] theorem ev_new : ev cf (m + 1) (.new a) lo st = (evP (ev cf m) a lo st).bind fun x st => match x with
    | .list xs => .ok (.r st.length) (st ++ [.lst xs])
    | _ => .no := Eq.trans rfl rfl
/-! statements -/
@[simp] theorem exsN {f : Ex} : exs f [] lo st = .ok (.nx lo) st := Eq.trans rfl rfl
/-- one statement, then the rest -/
def seqS (r : Rs Fl) (g : Lo → Sto → Rs Fl) : Rs Fl := match r with
  | .ok (.nx lo) st => g lo st
  | z => z
@[simp] theorem exsC {f : Ex} {s0 : S} {r : List S} : exs f (s0 :: r) lo st = seqS (f s0 lo st) (exs f r) := Eq.trans rfl rfl
@[simp] theorem seq_nx {g : Lo → Sto → Rs Fl} : seqS (.ok (.nx lo) st) g = g lo st := Eq.trans rfl rfl
@[simp] theorem seq_rt {g : Lo → Sto → Rs Fl} {x : D} : seqS (.ok (.rt x) st) g = .ok (.rt x) st := Eq.trans rfl rfl
@[simp] theorem seq_bk {g : Lo → Sto → Rs Fl} : seqS (.ok (.bk lo) st) g = .ok (.bk lo) st := Eq.trans rfl rfl
@[simp] theorem seq_ct {g : Lo → Sto → Rs Fl} : seqS (.ok (.ct lo) st) g = .ok (.ct lo) st := Eq.trans rfl rfl
@[simp] theorem seq_ex {g : Lo → Sto → Rs Fl} {c : Nat} {xs : List D} : seqS (.ex c xs st) g = .ex c xs st := Eq.trans rfl rfl
@[simp] theorem seq_no {g : Lo → Sto → Rs Fl} : seqS .no g = .no := Eq.trans rfl rfl
@[simp] theorem ex_ex : exN cf en (n + 1) (.ex a) lo st = (ev cf en a lo st).bind fun _ st => .ok (.nx lo) st := Eq.trans rfl rfl
@[simp] theorem ex_asg {j : Nat} : exN cf en (n + 1) (.asg (.n j) a) lo st = (ev cf en a lo st).bind fun x st => .ok (.nx (lo.set j (some x))) st := Eq.trans rfl rfl
@[simp] theorem ex_asgT {l : List Tg} : exN cf en (n + 1) (.asg (.t l) a) lo st = (evP (ev cf en) a lo st).bind fun x st => match bindT (.t l) x lo with
      | some lo => .ok (.nx lo) st
      | none => .no := Eq.trans rfl rfl
@[simp] theorem ex_par {is : List Nat} {es : List E} : exN cf en (n + 1) (.par is es) lo st = (evRs (ev cf en) es lo st).bind fun xs st => match setAll is xs lo with
      | some lo => .ok (.nx lo) st
      | none => .no := Eq.trans rfl rfl
@[simp] theorem ex_ret : exN cf en (n + 1) (.ret a) lo st = (evP (ev cf en) a lo st).bind fun x st => .ok (.rt x) st := Eq.trans rfl rfl
@[simp] theorem ex_iff {p q : List S} : exN cf en (n + 1) (.iff a p q) lo st = (evT (ev cf en) a lo st).bind fun k st => if k then exs (exN cf en n) p lo st else exs (exN cf en n) q lo st := Eq.trans rfl rfl
@[simp] theorem ex_whl {p : List S} : exN cf en (n + 1) (.whl a p) lo st = whL (evT (ev cf en) a) (exs (exN cf en n) p) WF lo st := Eq.trans rfl rfl
@[simp] theorem ex_fr {tg : Tg} {it : It} {p : List S} : exN cf en (n + 1) (.fr tg it p) lo st = (evIt (ev cf en) it lo st).bind fun xs st => forL (exs (exN cf en n) p) tg xs lo st := Eq.trans rfl rfl
@[simp] theorem ex_rais {c0 : Nat} {es : List E} : exN cf en (n + 1) (.rais c0 es) lo st = (evPs (ev cf en) es lo st).bind fun xs st => .ex c0 xs st := Eq.trans rfl rfl
end
/-- [elt for tg in xs] -/
theorem lcL_map {own : List Nat} {tg : Tg} {elt : E} (g : D → D) : ∀ {xs : List D}, (∀ x ∈ xs, ∃ lo', bindT tg x (wipeL own lo) = some lo' ∧ evP f elt lo' st = .ok (g x) st) → lcL f own tg none elt lo xs st = .ok (xs.map g) st
  | [], _ => rfl
  | x :: xs, h => by
    obtain ⟨lo', h1, h2⟩ := h x (by simp)
    have ih := lcL_map g (xs := xs) fun y hy => h y (by simp [hy])
    simp only [lcL, h1, evC, h2, ih, List.map_cons]
/-- [elt for tg in xs if c] -/
theorem lcL_filter {own : List Nat} {tg : Tg} {c elt : E} (p : D → Bool) (g : D → D) : ∀ {xs : List D}, (∀ x ∈ xs, ∃ lo', bindT tg x (wipeL own lo) = some lo' ∧ evT f c lo' st = .ok (p x) st ∧ (p x = true → evP f elt lo' st = .ok (g x) st)) →
    lcL f own tg (some c) elt lo xs st = .ok ((xs.filter p).map g) st
  | [], _ => rfl
  | x :: xs, h => by
    obtain ⟨lo', h1, h2, h3⟩ := h x (by simp)
    have ih := lcL_filter p g (xs := xs) fun y hy => h y (by simp [hy])
    cases hp : p x with
    | true => simp only [lcL, h1, evC, h2, hp, h3 hp, ih, List.filter_cons, if_true, List.map_cons]
    | false => simp only [lcL, h1, evC, h2, hp, ih, List.filter_cons, Bool.false_eq_true, if_false]
/-- for tg in xs: the state s goes on by step -/
theorem forL_fold {σ : Type} {b : Lo → Sto → Rs Fl} {tg : Tg} (L : σ → Lo) (S : σ → Sto) (step : σ → D → σ) : ∀ {xs : List D} (s : σ), (∀ s x, x ∈ xs → ∃ lo', bindT tg x (L s) = some lo' ∧ b lo' (S s) = .ok (.nx (L (step s x))) (S (step s x))) →
    forL b tg xs (L s) (S s) = .ok (.nx (L (xs.foldl step s))) (S (xs.foldl step s))
  | [], s, _ => rfl
  | x :: xs, s, h => by
    obtain ⟨lo', h1, h2⟩ := h s x (by simp)
    have ih := forL_fold L S step (xs := xs) (step s x) fun t y hy => h t y (by simp [hy])
    simp only [forL, h1, h2, ih, List.foldl_cons]
/-- while, by a measure; fin is what is reached -/
theorem whL_run {σ : Type} {t : Lo → Sto → Rs Bool} {b : Lo → Sto → Rs Fl} (L : σ → Lo) (S : σ → Sto) (go : σ → Bool) (step fin : σ → σ) (m : σ → Nat) (ok : σ → Prop) (hf : ∀ s, fin s = if go s then fin (step s) else s) (ht : ∀ s, ok s → t (L s) (S s) = .ok (go s) (S s))
    (hb : ∀ s, ok s → go s = true → ok (step s) ∧ m (step s) < m s ∧ b (L s) (S s) = .ok (.nx (L (step s))) (S (step s))) : ∀ (n : Nat) (s : σ), ok s → m s < n → whL t b n (L s) (S s) = .ok (.nx (L (fin s))) (S (fin s))
  | 0, s, _, h => absurd h (Nat.not_lt_zero _)
  | n + 1, s, hs, h => by
    cases hg : go s with
    | true =>
      obtain ⟨h1, h2, h3⟩ := hb s hs hg
      have ih := whL_run L S go step fin m ok hf ht hb n (step s) h1 (by omega)
      have e : fin s = fin (step s) := by rw [hf s, hg]; rfl
      simp only [whL, ht s hs, hg, h3, ih, e]
    | false =>
      have e : fin s = s := by rw [hf s, hg]; rfl
      simp only [whL, ht s hs, hg, e]
end
end Sm

set_option Elab.async false
set_option linter.all false
set_option maxRecDepth 100000
/-! K11a: the words' defs, run. -/
namespace Sm
open PySem PySem.Spec
section
variable {Pg : List Fn} {i j l k : Nat} {st : Sto}
def ri_is_whole : Fn := ⟨1, 1, [
  .ret (.and (.blt .isI (.v 0)) (.not (.blt .isB (.v 0))))]⟩
def ri_is_from (i_is_whole : Nat) : Fn := ⟨3, 3, [
  .ret (.and (.call i_is_whole [(.v 0)]) (.chain .LtE .LtE (.v 1) (.v 0) (.v 2)))]⟩
def ri_is_many : Fn := ⟨2, 2, [
  .ret (.and (.blt .isT (.v 0)) (.cmp .Eq (.blt .len (.v 0)) (.v 1)))]⟩
def isWh : D → Bool
  | .int _ => true
  | _ => false
theorem c_is_whole (h : Pg[i]? = some ri_is_whole) (x : D) : callF Pg (k + 1) i [.d x] st = .ok (.d (.bool (isWh x))) st := by
  rw [call_eq h]
  cases x <;> (simp [ri_is_whole, runF, exs, exN, exF, SN, EN, ev, evF, evP, evD, Rs.bind, Rs.of, rdV, asB, truD, bltD, ret, isWh])
def isFr (x : D) (a b : Int) : Bool := match x with
  | .int i => decide (a ≤ i) && decide (i ≤ b)
  | _ => false
theorem c_is_from (h : Pg[i]? = some (ri_is_from j)) (hw : Pg[j]? = some ri_is_whole) (x : D) (a b : Int) : callF Pg (k + 2) i [.d x, .d (.int a), .d (.int b)] st = .ok (.d (.bool (isFr x a b))) st := by
  rw [call_eq h]
  have e := fun st => c_is_whole (k := k) (st := st) hw x
  cases x with
  | int n =>
    by_cases h1 : a ≤ n <;> simp [ri_is_from, runF, exs, exN, exF, SN, EN, ev, evF, evP, evD, evRs, Rs.bind, Rs.of, rdV, asB, truD, bltD, ret, e, isWh, isFr, cmpD, h1]
  | _ => simp [ri_is_from, runF, exs, exN, exF, SN, EN, ev, evF, evP, evD, evRs, Rs.bind, Rs.of, rdV, asB, truD, bltD, ret, e, isWh, isFr, cmpD]
def isMn (x : D) (n : Nat) : Bool := match x with
  | .tuple l => decide (l.length = n)
  | _ => false
theorem c_is_many (h : Pg[i]? = some ri_is_many) (x : D) (n : Nat) : callF Pg (k + 1) i [.d x, .d (.int n)] st = .ok (.d (.bool (isMn x n))) st := by
  rw [call_eq h]
  cases x with
  | tuple l =>
    have e : eqOk (.int l.length) (.int n) = true := by rfl
    have e2 : PyData.eqv (.int l.length) (.int n) = decide (l.length = n) := by
      by_cases h : l.length = n
      · rw [h]; simp [PyData.eqv]
      · simp [PyData.eqv, h]; omega
    simp [ri_is_many, runF, exs, exN, exF, SN, EN, ev, evF, evP, evD, evRs, Rs.bind, Rs.of, rdV, asB, truD, bltD, ret, isMn, cmpD, e, e2]
  | _ => simp [ri_is_many, runF, exs, exN, exF, SN, EN, ev, evF, evP, evD, evRs, Rs.bind, Rs.of, rdV, asB, truD, bltD, ret, isMn, cmpD]
end
end Sm

set_option Elab.async false
set_option linter.all false
set_option maxRecDepth 100000
/-! SnF: rules for simp that run the evaluator; loops as maps over typed lists. -/
namespace Sm
open PySem PySem.Spec
section
variable {α β : Type} {st : Sto} {cf : CF} {f : Ev} {lo : Lo} {m en n : Nat} {a b c t : E} {x y : D}
@[simp] theorem bind_ok {x : α} {g : α → Sto → Rs β} : (Rs.ok x st).bind g = g x st := Eq.trans rfl rfl
@[simp] theorem bind_ex {i : Nat} {xs : List D} {g : α → Sto → Rs β} : (Rs.ex i xs st : Rs α).bind g = .ex i xs st := Eq.trans rfl rfl
@[simp] theorem of_some {x : α} : Rs.of (some x) st = .ok x st := Eq.trans rfl rfl
@[simp] theorem rdV_d : rdV (.d x) st = some x := Eq.trans rfl rfl
@[simp] theorem rdV_r {i : Nat} : rdV (.r i) st = (match st[i]? with
    | some (.lst xs) => some (.list xs)
    | some (.dct kvs) => some (.dict kvs)
    | _ => none) := Eq.trans rfl rfl
@[simp] theorem ret_ : ret x st = .ok (.d x) st := Eq.trans rfl rfl
@[simp] theorem evD_ : evD f a lo st = (f a lo st).bind fun x st => Rs.of (rdV x st) st := Eq.trans rfl rfl
@[simp] theorem evP_ : evP f a lo st = (f a lo st).bind fun x st => match x with
    | .d x => .ok x st
    | .r _ => .no := Eq.trans rfl rfl
@[simp] theorem evRsN : evRs f [] lo st = .ok [] st := Eq.trans rfl rfl
@[simp] theorem evRsC {es : List E} : evRs f (a :: es) lo st = (f a lo st).bind fun x st => (evRs f es lo st).bind fun xs st => .ok (x :: xs) st := Eq.trans rfl rfl
@[simp] theorem evPsN : evPs f [] lo st = .ok [] st := Eq.trans rfl rfl
@[simp] theorem evPsC {es : List E} : evPs f (a :: es) lo st = (evP f a lo st).bind fun x st => (evPs f es lo st).bind fun xs st => .ok (x :: xs) st := Eq.trans rfl rfl
@[simp] theorem evIN : evI f [] lo st = .ok [] st := Eq.trans rfl rfl
@[simp] theorem evIF {es : List (Bool × E)} : evI f ((false, a) :: es) lo st = (evP f a lo st).bind fun x st => (evI f es lo st).bind fun xs st => .ok (x :: xs) st := Eq.trans rfl rfl
@[simp] theorem evIT {es : List (Bool × E)} : evI f ((true, a) :: es) lo st = (evP f a lo st).bind fun x st => (Rs.of (seqOf x) st).bind fun ys st => (evI f es lo st).bind fun xs st => .ok (ys ++ xs) st := Eq.trans rfl rfl
@[simp] theorem asB_ : asB x st = Rs.of (truD x) st := Eq.trans rfl rfl
@[simp] theorem evT_ : evT f a lo st = (evD f a lo st).bind asB := Eq.trans rfl rfl
@[simp] theorem optIN : optI f none lo st = .ok none st := Eq.trans rfl rfl
@[simp] theorem optIS : optI f (some a) lo st = (evP f a lo st).bind fun x st => match x with
    | .int i => .ok (some i) st
    | _ => .no := Eq.trans rfl rfl
@[simp] theorem truB {k : Bool} : truD (.bool k) = some k := Eq.trans rfl rfl
@[simp] theorem truI {k : Int} : truD (.int k) = some (k != 0) := Eq.trans rfl rfl
@[simp] theorem seqT {xs : List D} : seqOf (.tuple xs) = some xs := Eq.trans rfl rfl
@[simp] theorem seqL {xs : List D} : seqOf (.list xs) = some xs := Eq.trans rfl rfl
@[simp] theorem it_e : evIt f (.e a) lo st = (evP f a lo st).bind fun x st => Rs.of (seqOf x) st := Eq.trans rfl rfl
def r1O (x : D) (st : Sto) : Rs (List D) := match x with
    | .int j => if rngOk 0 j then .ok (rangeN 0 j) st else .no
    | _ => .no
def r2O (x y : D) (st : Sto) : Rs (List D) := match x, y with
    | .int i, .int j => if rngOk i j then .ok (rangeN i j) st else .no
    | _, _ => .no
@[simp] theorem it_r1 : evIt f (.r1 a) lo st = (evP f a lo st).bind r1O := Eq.trans rfl rfl
@[simp] theorem it_r2 : evIt f (.r2 a b) lo st = (evP f a lo st).bind fun x st => (evP f b lo st).bind fun y st => r2O x y st := Eq.trans rfl rfl
@[simp] theorem r1O_int {j : Int} : r1O (.int j) st = if rngOk 0 j = true then .ok (rangeN 0 j) st else .no := Eq.trans rfl rfl
@[simp] theorem r2O_int {i j : Int} : r2O (.int i) (.int j) st = if rngOk i j = true then .ok (rangeN i j) st else .no := Eq.trans rfl rfl
@[simp] theorem it_en : evIt f (.en a) lo st = (evP f a lo st).bind fun x st => (Rs.of (seqOf x) st).bind fun xs st =>
      .ok (xs.zipIdx.map fun (p : D × Nat) => PyData.tuple [.int (p.2 : Int), p.1]) st := Eq.trans rfl rfl
@[simp] theorem it_zp : evIt f (.zp a b) lo st = (evP f a lo st).bind fun x st => (evP f b lo st).bind fun y st => (Rs.of (zipOf x y) st).bind fun (p : List D × List D) st =>
      .ok ((p.1.zip p.2).map fun (p : D × D) => PyData.tuple [p.1, p.2]) st := Eq.trans rfl rfl
/-! more constructs -/
@[simp] theorem ev_repr : ev cf (m + 1) (.blt .repr a) lo st = (evD (ev cf m) a lo st).bind fun x st => if reprOk x then ret (.str x.shown) st else .no := Eq.trans rfl rfl
def minO (o : Option (List D)) (st : Sto) : Rs RV := match o with
    | some (y :: ys) => if minOk (y :: ys) then ret (PySem.W.minD y ys) st else .no
    | _ => .no
def maxO (o : Option (List D)) (st : Sto) : Rs RV := match o with
    | some (y :: ys) => if minOk (y :: ys) then ret (PySem.W.maxD y ys) st else .no
    | _ => .no
def mnD : List D → D
  | y :: ys => PySem.W.minD y ys
  | [] => .none
def mxD : List D → D
  | y :: ys => PySem.W.maxD y ys
  | [] => .none
@[simp] theorem ev_min : ev cf (m + 1) (.blt .min a) lo st = (evD (ev cf m) a lo st).bind fun x st => minO (seqOf x) st := Eq.trans rfl rfl
@[simp] theorem ev_max : ev cf (m + 1) (.blt .max a) lo st = (evD (ev cf m) a lo st).bind fun x st => maxO (seqOf x) st := Eq.trans rfl rfl
theorem minO_of {xs : List D} (h : xs ≠ []) (ok : minOk xs = true) : minO (some xs) st = .ok (.d (mnD xs)) st := by
  cases xs with
  | nil => exact absurd rfl h
  | cons y ys => simp only [minO, ok, if_true, mnD]; rfl
theorem maxO_of {xs : List D} (h : xs ≠ []) (ok : minOk xs = true) : maxO (some xs) st = .ok (.d (mxD xs)) st := by
  cases xs with
  | nil => exact absurd rfl h
  | cons y ys => simp only [maxO, ok, if_true, mxD]; rfl
def sortLnO (x : D) (st : Sto) : Rs RV := match x with
    | .list ys => if ys.all isTup && noLsts ys && sortable (ys.map keyLn) && szOk ys.length then ret (.list (sortLn ys)) st else .no
    | _ => .no
@[simp] theorem ev_sortLn : ev cf (m + 1) (.blt .sortLn a) lo st = (evD (ev cf m) a lo st).bind sortLnO := Eq.trans rfl rfl
theorem sortLnO_of {ys : List D} (h : (ys.all isTup && noLsts ys && sortable (ys.map keyLn) && szOk ys.length) = true) : sortLnO (.list ys) st = .ok (.d (.list (sortLn ys))) st := by
  simp only [sortLnO, h, if_true]; rfl
@[simp] theorem ev_sumL : ev cf (m + 1) (.sumL a b) lo st = (ev cf m a lo st).bind fun x st => (evP (ev cf m) b lo st).bind fun y st => (Rs.of (rdV x st) st).bind fun x st => (Rs.of (sumLD x y) st).bind ret := Eq.trans rfl rfl
@[simp] theorem ev_lc2 {own own1 : List Nat} {tg tg1 : Tg} {it it1 : It} {ifs ifs1 : Option E} {elt : E} : ev cf (m + 1) (.lc2 own own1 tg it ifs tg1 it1 ifs1 elt) lo st = (evIt (ev cf m) it lo st).bind fun xs st => match lc2L (ev cf m) own own1 tg ifs tg1 it1 ifs1 elt lo xs st with
    | .ok ys st => if szOk ys.length then ret (.list ys) st else .no
    | _ => .no := Eq.trans rfl rfl
@[simp] theorem ev_refu : ev cf (m + 1) (.refu a b) lo st = (evP (ev cf m) b lo st).bind fun y st => match ev cf m a lo st with
    | .ok _ st => ret (.bool false) st
    | .ex 0 [x] st => if reprOk x && reprOk y then ret (.bool (decide (x.shown = y.shown))) st else .no
    | _ => .no := Eq.trans rfl rfl
@[simp] theorem ex_pass : exN cf en (n + 1) .pass lo st = .ok (.nx lo) st := Eq.trans rfl rfl
@[simp] theorem ex_brk : exN cf en (n + 1) .brk lo st = .ok (.bk lo) st := Eq.trans rfl rfl
@[simp] theorem ex_cont : exN cf en (n + 1) .cont lo st = .ok (.ct lo) st := Eq.trans rfl rfl
@[simp] theorem ex_aug {i : Nat} {op : Operator} : exN cf en (n + 1) (.aug i op a) lo st = (match lo[i]? with
    | some (some (.d x)) => (evP (ev cf en) a lo st).bind fun y st => (Rs.of (if isIntD x && isIntD y then binD op x y else none) st).bind fun z st => .ok (.nx (lo.set i (some (.d z)))) st
    | _ => .no) := Eq.trans rfl rfl
@[simp] theorem ex_put : exN cf en (n + 1) (.put a b c) lo st = (evP (ev cf en) c lo st).bind fun x st => (ev cf en a lo st).bind fun o st => (evP (ev cf en) b lo st).bind fun k st => match o with
    | .r i => match st[i]?, k with
      | some (.lst xs), .int k => match L2.ixN xs.length k with
        | some j => .ok (.nx lo) (st.set i (.lst (xs.set j x)))
        | none => .no
      | _, _ => .no
    | _ => .no := Eq.trans rfl rfl
@[simp] theorem ex_app : exN cf en (n + 1) (.app a b) lo st = (ev cf en a lo st).bind fun o st => match o with
    | .r i => match st[i]? with
      | some (.lst _) => (evP (ev cf en) b lo st).bind fun x st => match st[i]? with
        | some (.lst xs) => if szOk (xs.length + 1) then .ok (.nx lo) (st.set i (.lst (xs ++ [x]))) else .no
        | _ => .no
      | _ => .no
    | _ => .no := Eq.trans rfl rfl
@[simp] theorem ex_frz {i : Nat} : exN cf en (n + 1) (.frz i) lo st = (match lo[i]? with
    | some (some (.r j)) => match st[j]? with
      | some (.lst xs) => .ok (.nx (lo.map (thaw j (.list xs)))) (st.set j .gone)
      | some (.dct kvs) => .ok (.nx (lo.map (thaw j (.dict kvs)))) (st.set j .gone)
      | _ => .no
    | _ => .ok (.nx lo) st) := Eq.trans rfl rfl
@[simp] theorem forN {b : Lo → Sto → Rs Fl} {tg : Tg} : forL b tg [] lo st = .ok (.nx lo) st := Eq.trans rfl rfl
/-! typed lists -/
@[simp] theorem boolsOf_map (p : α → Bool) : ∀ as : List α, boolsOf (as.map fun a => .bool (p a)) = some (as.map p)
  | [] => rfl
  | a :: as => by simp only [List.map_cons, boolsOf, boolsOf_map p as, Option.map_some]
@[simp] theorem intsOf_map (p : α → Int) : ∀ as : List α, intsOf (as.map fun a => .int (p a)) = some (as.map p)
  | [] => rfl
  | a :: as => by simp only [List.map_cons, intsOf, intsOf_map p as, Option.map_some]
theorem lcL_mapT {own : List Nat} {tg : Tg} {elt : E} (e g : α → D) : ∀ {xs : List α}, (∀ a ∈ xs, ∃ lo', bindT tg (e a) (wipeL own lo) = some lo' ∧ evP f elt lo' st = .ok (g a) st) → lcL f own tg none elt lo (xs.map e) st = .ok (xs.map g) st
  | [], _ => rfl
  | x :: xs, h => by
    obtain ⟨lo', h1, h2⟩ := h x (by simp)
    have ih := lcL_mapT e g (xs := xs) fun y hy => h y (by simp [hy])
    simp only [List.map_cons, lcL, h1, evC, h2, ih]
theorem lcL_filterT {own : List Nat} {tg : Tg} {c elt : E} (e : α → D) (p : α → Bool) (g : α → D) : ∀ {xs : List α}, (∀ a ∈ xs, ∃ lo', bindT tg (e a) (wipeL own lo) = some lo' ∧ evT f c lo' st = .ok (p a) st ∧ (p a = true → evP f elt lo' st = .ok (g a) st)) →
    lcL f own tg (some c) elt lo (xs.map e) st = .ok ((xs.filter p).map g) st
  | [], _ => rfl
  | x :: xs, h => by
    obtain ⟨lo', h1, h2, h3⟩ := h x (by simp)
    have ih := lcL_filterT e p g (xs := xs) fun y hy => h y (by simp [hy])
    cases hp : p x with
    | true => simp only [List.map_cons, lcL, h1, evC, h2, hp, h3 hp, ih, List.filter_cons, if_true]
    | false => simp only [List.map_cons, lcL, h1, evC, h2, hp, ih, List.filter_cons, Bool.false_eq_true, if_false]
theorem lc2L_mapT {own own1 : List Nat} {tg tg1 : Tg} {it1 : It} {elt : E} (e : α → D) (g : α → List D) : ∀ {xs : List α}, (∀ a ∈ xs, ∃ lo' zs, bindT tg (e a) (wipeL own lo) = some lo' ∧ evIt f it1 lo' st = .ok zs st ∧ lcL f own1 tg1 none elt lo' zs st = .ok (g a) st) →
    lc2L f own own1 tg none tg1 it1 none elt lo (xs.map e) st = .ok (xs.flatMap g) st
  | [], _ => rfl
  | x :: xs, h => by
    obtain ⟨lo', zs, h1, h2, h3⟩ := h x (by simp)
    have ih := lc2L_mapT e g (xs := xs) fun y hy => h y (by simp [hy])
    simp only [List.map_cons, lc2L, h1, evC, h2, h3, ih, List.flatMap_cons]
/-- items that are drawn: the store goes on -/
theorem lcL_draw {σ : Type} {own : List Nat} {tg : Tg} {elt : E} (S : σ → Sto) (e : β → D) (Q : β → Prop) : ∀ {xs : List D} (s : σ), (∀ s x, x ∈ xs → ∃ lo' b s', bindT tg x (wipeL own lo) = some lo' ∧ evP f elt lo' (S s) = .ok (e b) (S s') ∧ Q b) →
    ∃ (bs : List β) (s' : σ), bs.length = xs.length ∧ (∀ b ∈ bs, Q b) ∧ lcL f own tg none elt lo xs (S s) = .ok (bs.map e) (S s')
  | [], s, _ => ⟨[], s, rfl, by simp, rfl⟩
  | x :: xs, s, h => by
    obtain ⟨lo', b, s1, h1, h2, h3⟩ := h s x (by simp)
    obtain ⟨bs, s', i1, i2, i3⟩ := lcL_draw S e Q (xs := xs) s1 fun t y hy => h t y (by simp [hy])
    refine ⟨b :: bs, s', by simp [i1], ?_, ?_⟩
    · intro z hz
      rcases List.mem_cons.mp hz with rfl | hz
      · exact h3
      · exact i2 z hz
    · simp only [lcL, h1, evC, h2, i3, List.map_cons]
/-- for tg in xs, over a typed list -/
theorem forL_foldT {σ : Type} {b : Lo → Sto → Rs Fl} {tg : Tg} (e : α → D) (L : σ → Lo) (S : σ → Sto) (step : σ → α → σ) : ∀ {xs : List α} (s : σ), (∀ s a, a ∈ xs → ∃ lo', bindT tg (e a) (L s) = some lo' ∧ b lo' (S s) = .ok (.nx (L (step s a))) (S (step s a))) →
    forL b tg (xs.map e) (L s) (S s) = .ok (.nx (L (xs.foldl step s))) (S (xs.foldl step s))
  | [], s, _ => rfl
  | x :: xs, s, h => by
    obtain ⟨lo', h1, h2⟩ := h s x (by simp)
    have ih := forL_foldT e L S step (xs := xs) (step s x) fun t y hy => h t y (by simp [hy])
    simp only [List.map_cons, forL, h1, h2, ih, List.foldl_cons]
/-- the same, with names that hold what is forgotten, and a word of what holds after n items -/
theorem forL_junk {σ J : Type} {b : Lo → Sto → Rs Fl} {tg : Tg} (e : α → D) (L : σ → J → Lo) (S : σ → Sto) (step : σ → α → σ) (P : Nat → σ → Prop) (N : Nat) : ∀ (xs : List α) (n : Nat) (s : σ) (j : J), P n s → n + xs.length ≤ N → (∀ n s j a, n < N → P n s → a ∈ xs → ∃ lo' j', bindT tg (e a) (L s j) = some lo' ∧ b lo' (S s) = .ok (.nx (L (step s a) j')) (S (step s a)) ∧ P (n + 1) (step s a)) →
    ∃ j', forL b tg (xs.map e) (L s j) (S s) = .ok (.nx (L (xs.foldl step s) j')) (S (xs.foldl step s)) ∧ P (n + xs.length) (xs.foldl step s)
  | [], n, s, j, hp, _, _ => ⟨j, rfl, hp⟩
  | x :: xs, n, s, j, hp, hn, h => by
    simp only [List.length_cons] at hn
    obtain ⟨lo', j1, h1, h2, h3⟩ := h n s j x (by omega) hp (by simp)
    obtain ⟨j2, h4, h5⟩ := forL_junk e L S step P N xs (n + 1) (step s x) j1 h3 (by omega) fun n t j y hl hp hy => h n t j y hl hp (by simp [hy])
    refine ⟨j2, ?_, ?_⟩
    · simp only [List.map_cons, forL, h1, h2, h4, List.foldl_cons]
    · rw [List.foldl_cons, List.length_cons, show n + (xs.length + 1) = n + 1 + xs.length by omega]; exact h5
@[simp] theorem szOk_0 : szOk 0 = true := by decide
@[simp] theorem szOk_1 : szOk 1 = true := by decide
@[simp] theorem szOk_2 : szOk 2 = true := by decide
@[simp] theorem szOk_3 : szOk 3 = true := by decide
@[simp] theorem szOk_4 : szOk 4 = true := by decide
@[simp] theorem szOk_5 : szOk 5 = true := by decide
@[simp] theorem szOk_6 : szOk 6 = true := by decide
@[simp] theorem szOk_7 : szOk 7 = true := by decide
@[simp] theorem szOk_8 : szOk 8 = true := by decide
@[simp] theorem szOk_9 : szOk 9 = true := by decide
@[simp] theorem szOk_10 : szOk 10 = true := by decide
@[simp] theorem szOk_11 : szOk 11 = true := by decide
@[simp] theorem szOk_12 : szOk 12 = true := by decide
@[simp] theorem szOk_13 : szOk 13 = true := by decide
@[simp] theorem szOk_14 : szOk 14 = true := by decide
@[simp] theorem szOk_15 : szOk 15 = true := by decide
@[simp] theorem szOk_16 : szOk 16 = true := by decide
@[simp] theorem szOk_17 : szOk 17 = true := by decide
@[simp] theorem szOk_18 : szOk 18 = true := by decide
@[simp] theorem szOk_19 : szOk 19 = true := by decide
@[simp] theorem szOk_20 : szOk 20 = true := by decide
@[simp] theorem foldl_snoc (g : α → β) : ∀ (l : List α) (s : List β), l.foldl (fun s a => s ++ [g a]) s = s ++ l.map g
  | [], s => by simp
  | a :: l, s => by rw [List.foldl_cons, foldl_snoc g l]; simp
/-! a store with one more thing -/
@[simp] theorem sto_get {x : MO} : (st ++ [x])[st.length]? = some x := by simp
@[simp] theorem sto_set {x y : MO} : (st ++ [x]).set st.length y = st ++ [y] := by simp
@[simp] theorem sto_take {x : MO} : (st ++ [x]).take st.length = st := by simp
/-! what is compared -/
@[simp] theorem eqv_int {i j : Int} : PyData.eqv (.int i) (.int j) = decide (i = j) := by simp [PyData.eqv]; rfl
@[simp] theorem eqv_bool {i j : Bool} : PyData.eqv (.bool i) (.bool j) = decide (i = j) := by cases i <;> cases j <;> rfl
@[simp] theorem cmp_eqI {i j : Int} : cmpD .Eq (.int i) (.int j) = some (decide (i = j)) := by
  have : eqOk (.int i) (.int j) = true := rfl
  simp [cmpD, this]
@[simp] theorem cmp_neI {i j : Int} : cmpD .NotEq (.int i) (.int j) = some (!decide (i = j)) := by
  have : eqOk (.int i) (.int j) = true := rfl
  simp [cmpD, this]
@[simp] theorem cmp_eqB {i j : Bool} : cmpD .Eq (.bool i) (.bool j) = some (decide (i = j)) := by
  have : eqOk (.bool i) (.bool j) = true := rfl
  simp [cmpD, this]
@[simp] theorem cmp_neB {i j : Bool} : cmpD .NotEq (.bool i) (.bool j) = some (!decide (i = j)) := by
  have : eqOk (.bool i) (.bool j) = true := rfl
  simp [cmpD, this]
@[simp] theorem cmp_ltI {i j : Int} : cmpD .Lt (.int i) (.int j) = some (decide (i < j)) := Eq.trans rfl rfl
@[simp] theorem cmp_leI {i j : Int} : cmpD .LtE (.int i) (.int j) = some (decide (i ≤ j)) := Eq.trans rfl rfl
@[simp] theorem cmp_gtI {i j : Int} : cmpD .Gt (.int i) (.int j) = some (decide (j < i)) := Eq.trans rfl rfl
@[simp] theorem cmp_geI {i j : Int} : cmpD .GtE (.int i) (.int j) = some (decide (j ≤ i)) := Eq.trans rfl rfl
@[simp] theorem binD_add {i j : Int} : binD .Add (.int i) (.int j) = some (.int (i + j)) := Eq.trans rfl rfl
@[simp] theorem binD_sub {i j : Int} : binD .Sub (.int i) (.int j) = some (.int (i - j)) := Eq.trans rfl rfl
theorem binD_mul {i j : Int} (h : mulOk i j = true) : binD .Mult (.int i) (.int j) = some (.int (i * j)) := by simp [binD, h]
theorem binD_div {i j : Int} (h : divOk j = true) : binD .FloorDiv (.int i) (.int j) = some (.int (i / j)) := by simp [binD, h]
theorem binD_mod {i j : Int} (h : 0 < j) : binD .Mod (.int i) (.int j) = some (.int (i % j)) := by simp [binD, h]
theorem eqvAll_map {e : α → D} (h : ∀ a b, PyData.eqv (e a) (e b) = true ↔ a = b) : ∀ as bs : List α, PyData.eqvAll (as.map e) (bs.map e) = true ↔ as = bs
  | [], [] => by simp [PyData.eqvAll]
  | [], b :: bs => by simp [PyData.eqvAll]
  | a :: as, [] => by simp [PyData.eqvAll]
  | a :: as, b :: bs => by simp [PyData.eqvAll, h, eqvAll_map h as bs]
theorem plainAll_map {e : α → D} {as : List α} (h : ∀ a ∈ as, (e a).plain = true) : PyData.plainAll (as.map e) = true := by
  induction as with
  | nil => rfl
  | cons a as ih => simp [PyData.plainAll, h a (by simp), ih fun b hb => h b (by simp [hb])]
theorem depthAll_map {e : α → D} {as : List α} {d : Nat} (h : ∀ a ∈ as, (e a).depth ≤ d) : PyData.depthAll (as.map e) ≤ d := by
  induction as with
  | nil => exact Nat.zero_le _
  | cons a as ih =>
    have h1 := h a (by simp)
    have h2 := ih fun b hb => h b (by simp [hb])
    simp only [List.map_cons, PyData.depthAll]
    omega
@[simp] theorem rangeN_0 {n : Nat} : rangeN 0 (n : Int) = (List.range n).map fun (k : Nat) => PyData.int (k : Int) := by simp [rangeN]
theorem szOk_of {n : Nat} (h : n ≤ 1000000) : szOk n = true := decide_eq_true (Nat.le_trans h (by decide))
theorem rngOk_n {n : Nat} (h : n ≤ 16777216) : rngOk 0 (n : Int) = true := by
  simp only [rngOk_eq, Bool.and_eq_true, decide_eq_true_eq]
  omega
end
end Sm

set_option Elab.async false
set_option linter.all false
set_option maxRecDepth 100000
/-! SnG: the draws of a law: cell_at, draw, number, next, pick. -/
namespace Sm
open PySem PySem.Spec
section
variable {Pg : List Fn} {i j l k i1 i2 i3 i4 i5 i6 i7 : Nat} {st rest : Sto}
def ri__law_cell_at : Fn := ⟨2, 2, [
  .iff (.cmp .Lt (.v 1) (.blt .len (.v 0))) [.ret (.ix (.v 0) (.v 1))] [],
  .ret (.c (.int (0)))]⟩
def ri__law_draw : Fn := ⟨3, 4, [
  .asg (.n 3) (.tup [(false, (.c (.int (1000003)))), (false, (.c (.int (1000033)))), (false, (.c (.int (1000037)))), (false, (.c (.int (1000039)))), (false, (.c (.int (1000081)))), (false, (.c (.int (1000099)))), (false, (.c (.int (1000117)))), (false, (.c (.int (1000121)))), (false, (.c (.int (1000133)))), (false, (.c (.int (1000151)))), (false, (.c (.int (1000159)))), (false, (.c (.int (1000171)))), (false, (.c (.int (1000183)))), (false, (.c (.int (1000187)))), (false, (.c (.int (1000193)))), (false, (.c (.int (1000199))))]),
  .ret (.bin .Mod (.bin .Mod (.blt .int (.bin .Add (.bin .Mult (.v 0) (.c (.int (48271)))) (.bin .Mult (.v 1) (.c (.int (69621)))))) (.ix (.v 3) (.bin .Mod (.blt .int (.v 1)) (.c (.int (16)))))) (.v 2))]⟩
def ri__law_number (i__law_draw : Nat) : Fn := ⟨3, 7, [
  .asg (.n 3) (.c (.int (1))),
  .fr (.n 4) (.r1 (.bin .Mod (.blt .int (.v 1)) (.c (.int (24))))) [.asg (.n 3) (.bin .Mult (.v 3) (.c (.int (1009))))],
  .asg (.n 5) (.bin .FloorDiv (.bin .Sub (.v 0) (.bin .Pow (.c (.int (10))) (.c (.int (18))))) (.v 3)),
  .iff (.cmp .Gt (.v 5) (.c (.int (0)))) [.ret (.bin .Mod (.bin .Mod (.blt .int (.v 5)) (.c (.int (1009)))) (.v 2))] [],
  .asg (.n 6) (.bin .Mod (.blt .int (.v 0)) (.c (.int (1000003)))),
  .ret (.bin .Mod (.call i__law_draw [(.bin .Mult (.bin .Add (.v 6) (.bin .Mult (.c (.int (977))) (.v 1))) (.bin .Add (.bin .Add (.v 6) (.bin .Mult (.c (.int (31))) (.v 1))) (.c (.int (5))))), (.bin .Add (.bin .Mod (.blt .int (.v 1)) (.c (.int (9)))) (.c (.int (1)))), (.c (.int (999983)))]) (.v 2))]⟩
def ri__law_next (i__law_cell_at i__law_number : Nat) : Fn := ⟨2, 4, [
  .put (.v 0) (.c (.int (2))) (.bin .Add (.ix (.v 0) (.c (.int (2)))) (.c (.int (1)))),
  .asg (.n 2) (.bin .FloorDiv (.ix (.v 0) (.c (.int (2)))) (.c (.int (12)))),
  .asg (.n 3) (.bin .Add (.call i__law_cell_at [(.ix (.v 0) (.c (.int (0)))), (.bin .Add (.ix (.v 0) (.c (.int (1)))) (.v 2))]) (.bin .Mult (.c (.int (31))) (.v 2))),
  .ret (.call i__law_number [(.v 3), (.bin .Add (.bin .Mod (.blt .int (.ix (.v 0) (.c (.int (2))))) (.c (.int (12)))) (.c (.int (1)))), (.v 1)])]⟩
def ri__law_pick (i__law_next : Nat) : Fn := ⟨2, 2, [
  .ret (.ix (.v 1) (.call i__law_next [(.v 0), (.blt .len (.v 1))]))]⟩
@[simp] theorem blt_lenL {xs : List D} : bltD .len (.list xs) = some (.int xs.length) := Eq.trans rfl rfl
@[simp] theorem blt_lenT {xs : List D} : bltD .len (.tuple xs) = some (.int xs.length) := Eq.trans rfl rfl
@[simp] theorem blt_int {x : Int} : bltD .int (.int x) = some (.int x) := Eq.trans rfl rfl
@[simp] theorem blt_tupL {xs : List D} : bltD .tuple (.list xs) = some (.tuple xs) := Eq.trans rfl rfl
@[simp] theorem blt_tupT {xs : List D} : bltD .tuple (.tuple xs) = some (.tuple xs) := Eq.trans rfl rfl
@[simp] theorem blt_lstL {xs : List D} : bltD .list (.list xs) = some (.list xs) := Eq.trans rfl rfl
@[simp] theorem blt_lstT {xs : List D} : bltD .list (.tuple xs) = some (.list xs) := Eq.trans rfl rfl
@[simp] theorem blt_all {xs : List D} : bltD .all (.list xs) = (boolsOf xs).map fun bs => .bool (bs.all id) := Eq.trans rfl rfl
@[simp] theorem blt_any {xs : List D} : bltD .any (.list xs) = (boolsOf xs).map fun bs => .bool (bs.any id) := Eq.trans rfl rfl
@[simp] theorem blt_sum {xs : List D} : bltD .sum (.list xs) = (intsOf xs).map fun ns => .int ns.sum := Eq.trans rfl rfl
@[simp] theorem isT_t {xs : List D} : bltD .isT (.tuple xs) = some (.bool true) := Eq.trans rfl rfl
@[simp] theorem isT_l {xs : List D} : bltD .isT (.list xs) = some (.bool false) := Eq.trans rfl rfl
@[simp] theorem isT_n : bltD .isT .none = some (.bool false) := Eq.trans rfl rfl
@[simp] theorem isT_i {x : Int} : bltD .isT (.int x) = some (.bool false) := Eq.trans rfl rfl
@[simp] theorem isT_b {x : Bool} : bltD .isT (.bool x) = some (.bool false) := Eq.trans rfl rfl
@[simp] theorem isB_b {x : Bool} : bltD .isB (.bool x) = some (.bool true) := Eq.trans rfl rfl
@[simp] theorem isB_i {x : Int} : bltD .isB (.int x) = some (.bool false) := Eq.trans rfl rfl
@[simp] theorem isB_t {xs : List D} : bltD .isB (.tuple xs) = some (.bool false) := Eq.trans rfl rfl
@[simp] theorem pow109 : binD .Pow (.int 10) (.int 9) = some (.int 1000000000) := by
  have h : powOk 10 9 = true := by decide
  have e : (10 : Int) ^ (Int.toNat 9) = 1000000000 := by decide
  simp only [binD, h, if_true, e]
@[simp] theorem neg_int {x : Int} : negD (.int x) = some (.int (-x)) := Eq.trans rfl rfl
theorem sm_divOk' {q : Int} (h0 : 0 < q) (h1 : q < 1024 ^ 40) : divOk q = true := by
  simp only [divOk, Bool.and_eq_true, decide_eq_true_eq]
  refine ⟨h0, ?_⟩
  have e : (1024 : Int) ^ 40 = ((2 ^ 400 : Nat) : Int) := by decide
  rw [e] at h1
  have := (Nat.log2_lt (n := q.natAbs) (k := 400) (by omega)).2 (by omega)
  omega
theorem atI_nat {α : Type} {xs : List α} (n : Nat) : L2.atI xs (n : Int) = xs[n]? := by
  unfold L2.atI L2.ixN
  by_cases h : n < xs.length
  · simp [show (n : Int) < xs.length by omega, h]
  · simp [show ¬ (n : Int) < xs.length by omega, h, show ¬ (n : Int) < 0 by omega]
theorem c_cell_at (h : Pg[i]? = some ri__law_cell_at) (ns : List Int) (n : Nat) : callF Pg (k + 1) i [.d (.list (ns.map .int)), .d (.int n)] st = .ok (.d (.int (ns.getD n 0))) st := by
  rw [call_eq h]
  by_cases hn : n < ns.length
  · simp [ri__law_cell_at, runF, SN, EN, hn, ixD, atI_nat]
  · simp [ri__law_cell_at, runF, SN, EN, hn]
theorem binD_mulr {x y : Int} (h : y.natAbs < 2 ^ 64) : binD .Mult (.int x) (.int y) = some (.int (x * y)) := binD_mul (by simp only [mulOk, Bool.or_eq_true, decide_eq_true_eq]; exact .inl (.inr h))
theorem binD_mull {x y : Int} (h : x.natAbs < 2 ^ 64) : binD .Mult (.int x) (.int y) = some (.int (x * y)) := binD_mul (by simp only [mulOk, Bool.or_eq_true, decide_eq_true_eq]; exact .inl (.inl h))
def prm : D := .tuple [.int 1000003, .int 1000033, .int 1000037, .int 1000039, .int 1000081, .int 1000099, .int 1000117, .int 1000121, .int 1000133, .int 1000151, .int 1000159, .int 1000171, .int 1000183, .int 1000187, .int 1000193, .int 1000199]
theorem prm_at (n : Nat) (h : n < 16) : ∃ p : Int, 0 < p ∧ ixD prm (.int n) = some (.int p) := by
  have : n = 0 ∨ n = 1 ∨ n = 2 ∨ n = 3 ∨ n = 4 ∨ n = 5 ∨ n = 6 ∨ n = 7 ∨ n = 8 ∨ n = 9 ∨ n = 10 ∨ n = 11 ∨ n = 12 ∨ n = 13 ∨ n = 14 ∨ n = 15 := by omega
  rcases this with e | e | e | e | e | e | e | e | e | e | e | e | e | e | e | e <;> subst e <;> exact ⟨_, by decide, rfl⟩
theorem prm_mod (x : Int) : ∃ p : Int, 0 < p ∧ ixD prm (.int (x % 16)) = some (.int p) := by
  have h := prm_at (x % 16).toNat (by omega)
  rwa [show (((x % 16).toNat : Nat) : Int) = x % 16 by omega] at h
theorem c_law_draw (h : Pg[i]? = some ri__law_draw) (a x b : Int) (hb : 0 < b) : ∃ r : Int, 0 ≤ r ∧ r < b ∧ callF Pg (k + 1) i [.d (.int a), .d (.int x), .d (.int b)] st = .ok (.d (.int r)) st := by
  rw [call_eq h]
  obtain ⟨p, hp, e⟩ := prm_mod x
  simp only [prm] at e
  refine ⟨(a * 48271 + x * 69621) % p % b, Int.emod_nonneg _ (by omega), Int.emod_lt_of_pos _ hb, ?_⟩
  simp [ri__law_draw, runF, SN, EN, szOk, SZ, binD_mulr, binD_mod, e, hp, hb]
theorem scale_loop {cf : CF} {lo : Int → Option RV → Lo} (hs : ∀ p o x, (lo p o).set 4 (some (.d (.int x))) = lo p (some (.d (.int x)))) (hb : ∀ p x, exs (exN cf 60 39) [.asg (.n 3) (.bin .Mult (.v 3) (.c (.int (1009))))] (lo p x) st = .ok (.nx (lo (p * 1009) x)) st) : ∀ (xs : List D) (p : Int) (o : Option RV) (m : Nat), (∀ x ∈ xs, ∃ z, x = PyData.int z) → 0 < p → p < 1024 ^ m → m + xs.length ≤ 40 →
    ∃ (q : Int) (o' : Option RV), 0 < q ∧ q < 1024 ^ 40 ∧ forL (exs (exN cf 60 39) [.asg (.n 3) (.bin .Mult (.v 3) (.c (.int (1009))))]) (.n 4) xs (lo p o) st = .ok (.nx (lo q o')) st
  | [], p, o, m, _, h0, h1, h2 => ⟨p, o, h0, Int.lt_of_lt_of_le h1 (by
      have : (1024 : Nat) ^ m ≤ 1024 ^ 40 := Nat.pow_le_pow_right (by decide) (by simpa using h2)
      exact_mod_cast this), rfl⟩
  | x :: xs, p, o, m, hx, h0, h1, h2 => by
    obtain ⟨z, rfl⟩ := hx x (by simp)
    obtain ⟨q, o', h3, h4, h5⟩ := scale_loop hs hb xs (p * 1009) (some (.d (.int z))) (m + 1) (fun y hy => hx y (by simp [hy])) (by omega) (by rw [Int.pow_succ]; omega) (by simp only [List.length_cons] at h2; omega)
    refine ⟨q, o', h3, h4, ?_⟩
    simp only [forL, bindT, hs, hb, h5]
def W18 : Int := 1000000000000000000
@[simp] theorem pow1018 : binD .Pow (.int 10) (.int 18) = some (.int W18) := by
  have h : powOk 10 18 = true := by decide
  have e : (10 : Int) ^ (Int.toNat 18) = W18 := by decide
  simp only [binD, h, if_true, e]
theorem c_law_number (h : Pg[i]? = some (ri__law_number i1)) (h1 : Pg[i1]? = some ri__law_draw) (a n : Int) (hn0 : 0 ≤ n) (hn : n ≤ 1000) (b : Int) (hb : 0 < b) : ∃ r : Int, 0 ≤ r ∧ r < b ∧ callF Pg (k + 2) i [.d (.int a), .d (.int n), .d (.int b)] st = .ok (.d (.int r)) st := by
  obtain ⟨q, o, q0, q1, e⟩ := scale_loop (st := st) (cf := callF Pg (k + 1)) (lo := fun p o => [some (.d (.int a)), some (.d (.int n)), some (.d (.int b)), some (.d (.int p)), o, none, none]) (fun p o x => rfl) (fun p x => by simp [binD_mulr])
    (rangeN 0 (n % 24)) 1 none 1 (fun x hx => by
      simp only [rangeN, List.mem_map] at hx
      obtain ⟨z, _, rfl⟩ := hx
      exact ⟨_, rfl⟩) (by decide) (by decide) (by simp [rangeN]; omega)
  have hr : rngOk 0 (n % 24) = true := by
    simp only [rngOk_eq, Bool.and_eq_true, decide_eq_true_eq]; omega
  have hd : divOk q = true := sm_divOk' q0 q1
  obtain ⟨r, r0, r1, e2⟩ := c_law_draw (k := k) (st := st) h1 ((a % 1000003 + 977 * n) * (a % 1000003 + 31 * n + 5)) (n % 9 + 1) 999983 (by decide)
  have m1 : binD .Mult (.int (a % 1000003 + 977 * n)) (.int (a % 1000003 + 31 * n + 5)) = some (.int ((a % 1000003 + 977 * n) * (a % 1000003 + 31 * n + 5))) := binD_mulr (by omega)
  by_cases hp : 0 < (a - W18) / q
  · refine ⟨(a - W18) / q % 1009 % b, Int.emod_nonneg _ (by omega), Int.emod_lt_of_pos _ hb, ?_⟩
    rw [call_eq h]
    simp [ri__law_number, runF, SN, EN, hr, e, binD_mod, binD_div hd, hp, hb]
  · refine ⟨r % b, Int.emod_nonneg _ (by omega), Int.emod_lt_of_pos _ hb, ?_⟩
    rw [call_eq h]
    simp [ri__law_number, runF, SN, EN, hr, e, binD_mod, binD_div hd, hp, hb, binD_mull, m1, e2]
/-- the draws' store: the script's cells, how many were drawn -/
def drw (ns : List Int) (c : Nat) : MO := .lst [.list (ns.map .int), .int 0, .int c]
theorem c_law_next (h : Pg[i]? = some (ri__law_next i1 i2)) (h1 : Pg[i1]? = some ri__law_cell_at) (h2 : Pg[i2]? = some (ri__law_number i3)) (h3 : Pg[i3]? = some ri__law_draw) (ns : List Int) (c : Nat) (b : Int) (hb : 0 < b) :
    ∃ r : Int, 0 ≤ r ∧ r < b ∧ callF Pg (k + 3) i [.r 0, .d (.int b)] (drw ns c :: rest) = .ok (.d (.int r)) (drw ns (c + 1) :: rest) := by
  have q : ((c : Int) + 1) / 12 = (((c + 1) / 12 : Nat) : Int) := by omega
  have e1 := c_cell_at (k := k + 1) (st := drw ns (c + 1) :: rest) h1 ns ((c + 1) / 12)
  obtain ⟨r, r0, r1, e2⟩ := c_law_number (k := k) (st := drw ns (c + 1) :: rest) h2 h3 (ns.getD ((c + 1) / 12) 0 + 31 * (((c + 1) / 12 : Nat) : Int)) ((c + 1) % 12 + 1) (by omega) (by omega) b hb
  refine ⟨r, r0, r1, ?_⟩
  rw [call_eq h]
  have d12 : divOk 12 = true := by decide
  have i2' : L2.ixN 3 2 = some 2 := rfl
  have a2 : ∀ x : D, L2.atI [.list (ns.map .int), .int 0, x] 2 = some x := fun x => rfl
  have a1 : ∀ x : D, L2.atI [.list (ns.map .int), .int 0, x] 1 = some (.int 0) := fun x => rfl
  have a0 : ∀ x : D, L2.atI [.list (ns.map .int), .int 0, x] 0 = some (.list (ns.map .int)) := fun x => rfl
  simp only [drw, List.getD_eq_getElem?_getD] at e1 e2
  push_cast at e1 e2
  have e3 : (c : Int) + 1 = ((c + 1 : Nat) : Int) := by omega
  simp [ri__law_next, runF, SN, EN, drw, rdV, ixD, a2, a1, a0, i2', binD_div d12, binD_mod, binD_mull, e1, e2]
theorem c_law_pick (h : Pg[i]? = some (ri__law_pick j)) (h0 : Pg[j]? = some (ri__law_next i1 i2)) (h1 : Pg[i1]? = some ri__law_cell_at) (h2 : Pg[i2]? = some (ri__law_number i3)) (h3 : Pg[i3]? = some ri__law_draw) (ns : List Int) (c : Nat) (xs : List D) (hx : 0 < xs.length) :
    ∃ x ∈ xs, callF Pg (k + 4) i [.r 0, .d (.list xs)] (drw ns c :: rest) = .ok (.d x) (drw ns (c + 1) :: rest) := by
  obtain ⟨r, r0, r1, e⟩ := c_law_next (k := k) (rest := rest) h0 h1 h2 h3 ns c (xs.length : Int) (by omega)
  have hr : r.toNat < xs.length := by omega
  refine ⟨xs[r.toNat], List.getElem_mem hr, ?_⟩
  rw [call_eq h]
  have e2 : ixD (.list xs) (.int ((r.toNat : Nat) : Int)) = some xs[r.toNat] := by simp only [ixD, atI_nat]; simp [hr]
  rw [show ((r.toNat : Nat) : Int) = r by omega] at e2
  simp [ri__law_pick, runF, SN, EN, e, e2]
end
end Sm

set_option Elab.async false
set_option linter.all false
set_option maxRecDepth 100000
/-! SnH: how long the text of short data is. -/
namespace Sm
open PySem PySem.Spec
mutual
def wsh : D → Nat
  | .none => 4
  | .bool _ => 5
  | .int i => i.natAbs.log2 + 2
  | .str _ => 0
  | .list xs => wshA xs + 3
  | .tuple xs => wshA xs + 3
  | .dict _ => 0
def wshA : List D → Nat
  | [] => 0
  | x :: xs => wsh x + 2 + wshA xs
end
mutual
def rpl : D → Bool
  | .none => true
  | .bool _ => true
  | .int i => decide (i.natAbs.log2 < 1000)
  | .str _ => false
  | .list xs => rplA xs
  | .tuple xs => rplA xs
  | .dict _ => false
def rplA : List D → Bool
  | [] => true
  | x :: xs => rpl x && rplA xs
end
theorem listText_len (ts : List Str) : (listText ts).length ≤ piled ts + 3 := by
  cases ts with
  | nil => exact Nat.le_of_ble_eq_true rfl
  | cons t r =>
    have h := textFrom_length_pos r 1 (("[" : Str) ++ (if (0 : Nat) > 0 then ", " else "" : String) ++ t) (Nat.succ_pos 0)
    have e : ((("[" : Str) ++ (if (0 : Nat) > 0 then ", " else "" : String) ++ t)).length = 1 + t.length := by
      rw [strLen_append, strLen_append]; rfl
    have hX : (listText (t :: r)).length = (textFrom 0 "[" (t :: r)).length + 1 := by
      show (textFrom 0 "[" (t :: r) ++ "]").length = _
      rw [strLen_append]; rfl
    have hY : (textFrom 0 "[" (t :: r)).length = (textFrom 1 (("[" : Str) ++ (if (0 : Nat) > 0 then ", " else "" : String) ++ t) r).length := rfl
    rw [hX, hY, h, e, piled_cons]; omega
theorem tupleText_len (ts : List Str) : (tupleText ts).length ≤ piled ts + 3 := by
  unfold tupleText
  rw [strLen_append, strLen_append]
  have e1 : ((("(" : String) : Str)).length = 1 := rfl
  have e3 : (((if ts.length == 1 then ",)" else ")" : String) : Str)).length ≤ 2 := by split <;> decide
  rw [e1]
  by_cases h : ts = []
  · subst h
    have : (Str.join ", " []).length = 0 := rfl
    omega
  · have := join_length_add ts h
    omega
mutual
theorem wsh_len : ∀ x : D, rpl x = true → x.shown.length ≤ wsh x
  | .none, _ => Nat.le_of_ble_eq_true rfl
  | .bool true, _ => Nat.le_of_ble_eq_true rfl
  | .bool false, _ => Nat.le_of_ble_eq_true rfl
  | .int i, h => by
    simp only [PyData.shown, wsh]
    show (Str.ofString (toString i)).length ≤ _
    rw [ofString_length]
    exact int_text_length_le (k := i.natAbs.log2 + 1) (by omega) (by omega)
  | .str _, h => by simp [rpl] at h
  | .list xs, h => by
    have := listText_len (PyData.shownAll xs)
    have := wshA_len xs (by simpa [rpl] using h)
    simp only [PyData.shown, wsh]; omega
  | .tuple xs, h => by
    have := tupleText_len (PyData.shownAll xs)
    have := wshA_len xs (by simpa [rpl] using h)
    simp only [PyData.shown, wsh]; omega
  | .dict _, h => by simp [rpl] at h
theorem wshA_len : ∀ xs : List D, rplA xs = true → piled (PyData.shownAll xs) ≤ wshA xs
  | [], _ => Nat.le_refl _
  | x :: xs, h => by
    simp only [rplA, Bool.and_eq_true] at h
    have := wsh_len x h.1
    have := wshA_len xs h.2
    simp only [PyData.shownAll, piled_cons, wshA]; omega
end
mutual
theorem rpl_show : ∀ x : D, rpl x = true → x.showable = true ∧ x.hasDict = false
  | .none, _ => by simp [PyData.showable, PyData.hasDict]
  | .bool _, _ => by simp [PyData.showable, PyData.hasDict]
  | .int i, h => by
    simp only [rpl, decide_eq_true_eq] at h
    simp only [PyData.showable, PyData.hasDict, decide_eq_true_eq, and_true]; omega
  | .str _, h => by simp [rpl] at h
  | .list xs, h => by
    have := rplA_show xs (by simpa [rpl] using h)
    simpa [PyData.showable, PyData.hasDict] using this
  | .tuple xs, h => by
    have := rplA_show xs (by simpa [rpl] using h)
    simpa [PyData.showable, PyData.hasDict] using this
  | .dict _, h => by simp [rpl] at h
theorem rplA_show : ∀ xs : List D, rplA xs = true → PyData.showableAll xs = true ∧ PyData.hasDictAll xs = false
  | [], _ => by simp [PyData.showableAll, PyData.hasDictAll]
  | x :: xs, h => by
    simp only [rplA, Bool.and_eq_true] at h
    have h1 := rpl_show x h.1
    have h2 := rplA_show xs h.2
    simp [PyData.showableAll, PyData.hasDictAll, h1, h2]
end
theorem reprOk_w {x : D} (h : rpl x = true) (d : x.depth ≤ 64) (w : wsh x ≤ 1000000) : reprOk x = true := by
  obtain ⟨h1, h2⟩ := rpl_show x h
  have h3 := wsh_len x h
  simp only [reprOk, h1, h2, Bool.not_false, Bool.and_true, Bool.true_and, Bool.and_eq_true, decide_eq_true_eq]
  have : SZ = 16777216 := rfl
  omega
theorem rplA_map {α : Type} {e : α → D} {as : List α} (h : ∀ a ∈ as, rpl (e a) = true) : rplA (as.map e) = true := by
  induction as with
  | nil => rfl
  | cons a as ih => simp [rplA, h a (by simp), ih fun b hb => h b (by simp [hb])]
theorem wshA_map {α : Type} {e : α → D} {as : List α} {d : Nat} (h : ∀ a ∈ as, wsh (e a) ≤ d) : wshA (as.map e) ≤ as.length * (d + 2) := by
  induction as with
  | nil => exact Nat.zero_le _
  | cons a as ih =>
    have h1 := h a (by simp)
    have h2 := ih fun b hb => h b (by simp [hb])
    simp only [List.map_cons, wshA, List.length_cons, Nat.succ_mul]
    omega
end Sm

set_option Elab.async false
set_option linter.all false
set_option maxRecDepth 100000
/-! SnI: sorting typed lists. -/
namespace Sm
open PySem PySem.Spec PyProof.Rows
section
variable {β : Type} (κ : β → D)
theorem dle_eq (a b : β) : PySem.W.dataLe false κ a b = !PySem.W.dataLt (κ b) (κ a) := by rw [PySem.W.dataLe_eq]; rfl
theorem dle_trans (a b c : β) (h1 : PySem.W.dataLe false κ a b = true) (h2 : PySem.W.dataLe false κ b c = true) : PySem.W.dataLe false κ a c = true := by
  rw [dle_eq] at h1 h2 ⊢
  simp only [Bool.not_eq_true'] at h1 h2 ⊢
  cases h : PySem.W.dataLt (κ c) (κ a) with
  | false => rfl
  | true =>
    rcases lex_negTrans _ (PySem.W.keyToks (κ b)) _ h with e | e
    · unfold PySem.W.dataLt at h2; rw [e] at h2; exact h2
    · unfold PySem.W.dataLt at h1; rw [e] at h1; exact h1
theorem dle_total (a b : β) : (PySem.W.dataLe false κ a b || PySem.W.dataLe false κ b a) = true := by
  rw [dle_eq, dle_eq]
  cases h : PySem.W.dataLt (κ b) (κ a) with
  | false => rfl
  | true =>
    cases h2 : PySem.W.dataLt (κ a) (κ b) with
    | false => rfl
    | true =>
      have := lex_trans _ _ _ h h2
      rw [lex_irrefl] at this
      exact absurd this (by decide)
theorem dle_anti (hk : ∀ a b, PySem.W.keyToks (κ a) = PySem.W.keyToks (κ b) → a = b) (a b : β) (h1 : PySem.W.dataLe false κ a b = true) (h2 : PySem.W.dataLe false κ b a = true) : a = b := by
  rw [dle_eq] at h1 h2
  simp only [Bool.not_eq_true'] at h1 h2
  exact hk a b (lex_total _ _ h2 h1)
theorem sort_filter (hk : ∀ a b, PySem.W.keyToks (κ a) = PySem.W.keyToks (κ b) → a = b) (p : β → Bool) (l : List β) : (l.mergeSort (PySem.W.dataLe false κ)).filter p = (l.filter p).mergeSort (PySem.W.dataLe false κ) := by
  refine List.Perm.eq_of_pairwise (le := fun a b => PySem.W.dataLe false κ a b = true) (fun a b _ _ => dle_anti κ hk a b) ?_ (List.pairwise_mergeSort (dle_trans κ) (dle_total κ) _) ?_
  · exact (List.pairwise_mergeSort (dle_trans κ) (dle_total κ) l).filter p
  · exact ((List.mergeSort_perm l _).filter p).trans (List.mergeSort_perm _ _).symm
end
theorem alikes_map' {α : Type} {e : α → D} {as : List α} (h : ∀ a ∈ as, ∀ b ∈ as, PySem.W.alike (e a) (e b) = true) : alikes (as.map e) = true := by
  simp only [alikes, List.all_map, List.all_eq_true, Function.comp_apply]
  exact fun a ha b hb => h a ha b hb
/-! lists of small numbers, as tuples -/
def ltD (t : List Nat) : D := .tuple (t.map fun (n : Nat) => .int (n : Int))
def kyL (t : List Nat) : D := .tuple [.int t.length, ltD t]
theorem key_lt (t : List Nat) : keyLn (ltD t) = kyL t := by simp [keyLn, ltD, kyL]
theorem toks_ints : ∀ a b : List Nat, PySem.W.keyToksAll (a.map fun (n : Nat) => PyData.int (n : Int)) ++ [Sum.inl 0] = PySem.W.keyToksAll (b.map fun (n : Nat) => PyData.int (n : Int)) ++ [Sum.inl 0] → a = b
  | [], [], _ => rfl
  | [], b :: bs, h => by simp [PySem.W.keyToksAll] at h
  | a :: as, [], h => by simp [PySem.W.keyToksAll] at h
  | a :: as, b :: bs, h => by
    simp only [List.map_cons, PySem.W.keyToksAll, PySem.W.keyToks, List.cons_append, List.nil_append, List.cons.injEq, true_and] at h
    rw [toks_ints as bs h.2]
    have := Sum.inl.inj h.1
    congr 1; omega
theorem kyL_inj (a b : List Nat) (h : PySem.W.keyToks (kyL a) = PySem.W.keyToks (kyL b)) : a = b := by
  simp only [kyL, ltD, PySem.W.keyToks, PySem.W.keyToksAll, List.cons_append, List.nil_append, List.cons.injEq, true_and] at h
  exact toks_ints a b h.2
def srL (l : List (List Nat)) : List (List Nat) := l.mergeSort (PySem.W.dataLe false kyL)
theorem sortLn_map (l : List (List Nat)) : sortLn (l.map ltD) = (srL l).map ltD := by
  unfold sortLn srL
  rw [List.map_mergeSort (s := PySem.W.dataLe false keyLn)]
  intro a _ b _
  rw [dle_eq, dle_eq, key_lt, key_lt]
theorem srL_filter (p : List Nat → Bool) (l : List (List Nat)) : (srL l).filter p = srL (l.filter p) := sort_filter kyL kyL_inj p l
theorem srL_mem {l : List (List Nat)} {t : List Nat} : t ∈ srL l ↔ t ∈ l := List.mem_mergeSort
theorem srL_len {l : List (List Nat)} : (srL l).length = l.length := List.length_mergeSort l
theorem alike_lt : ∀ a b : List Nat, PySem.W.alikeAll (a.map fun (n : Nat) => PyData.int (n : Int)) (b.map fun (n : Nat) => PyData.int (n : Int)) = true
  | [], b => by cases b <;> simp [PySem.W.alikeAll]
  | a :: as, [] => by simp [PySem.W.alikeAll]
  | a :: as, b :: bs => by simp [PySem.W.alikeAll, PySem.W.alike, alike_lt as bs]
theorem depth_lt (t : List Nat) : (ltD t).depth ≤ 1 := by
  have := depthAll_map (e := fun (n : Nat) => PyData.int (n : Int)) (as := t) (d := 0) (fun _ _ => by simp [PyData.depth])
  simp only [ltD, PyData.depth]; omega
theorem plain_lt (t : List Nat) : (ltD t).plain = true := by
  have := plainAll_map (e := fun (n : Nat) => PyData.int (n : Int)) (as := t) (fun _ _ => by simp [PyData.plain])
  simpa only [ltD, PyData.plain] using this
theorem noLst_ints (t : List Nat) : noLsts (t.map fun (n : Nat) => PyData.int (n : Int)) = true := by
  induction t with
  | nil => rfl
  | cons a t ih => simp [noLsts, noLst, ih]
theorem noLsts_lt (l : List (List Nat)) : noLsts (l.map ltD) = true := by
  induction l with
  | nil => rfl
  | cons a t ih => simp [noLsts, noLst, ltD, noLst_ints, ih]
theorem sortable_lt (l : List (List Nat)) : sortable ((l.map ltD).map keyLn) = true := by
  have e : (l.map ltD).map keyLn = l.map kyL := by rw [List.map_map]; exact List.map_congr_left fun t _ => key_lt t
  rw [e]
  simp only [sortable, Bool.and_eq_true, Bool.or_eq_true, List.all_map, List.all_eq_true, Function.comp_apply, decide_eq_true_eq]
  refine ⟨⟨.inl fun t _ => rfl, ?_⟩, fun t _ => ?_⟩
  · exact alikes_map' fun a _ b _ => by simp [kyL, ltD, PySem.W.alikeAll, PySem.W.alike, alike_lt]
  · have := depth_lt t
    simp only [kyL, PyData.depth, PyData.depthAll]; omega
theorem cmp_in' {a : Nat} {t : List Nat} : cmpD .In (.int a) (ltD t) = some (t.contains a) := by
  have h1 : inOk (.int a) (t.map fun (n : Nat) => PyData.int (n : Int)) = true := by
    have := plainAll_map (e := fun (n : Nat) => PyData.int (n : Int)) (as := t) (fun _ _ => by simp [PyData.plain])
    simp [inOk, PyData.plain, PyData.depth, this]
  simp only [cmpD, ltD, h1, if_true, List.any_map]
  congr 1
  clear h1
  induction t with
  | nil => rfl
  | cons b t ih =>
    simp only [List.any_cons, Function.comp_apply, List.contains_cons, eqv_int]
    rw [← ih]
    congr 1
    by_cases h : a = b
    · simp [h]
    · simp [h, show ¬ (b : Int) = a by omega]
theorem cmp_in {a : Nat} {t : List Nat} : cmpD .In (.int a) (ltD t) = some (decide (a ∈ t)) := by rw [cmp_in']; simp
theorem eqv_lt {a b : List Nat} : PyData.eqv (ltD a) (ltD b) = decide (a = b) := by
  have h := eqvAll_map (e := fun (n : Nat) => PyData.int (n : Int)) (fun x y => by simp; omega) a b
  simp only [ltD, PyData.eqv]
  by_cases e : a = b
  · rw [h.2 e]; simp [e]
  · simp only [e, decide_false]
    cases q : PyData.eqvAll (a.map fun (n : Nat) => PyData.int (n : Int)) (b.map fun (n : Nat) => PyData.int (n : Int)) with
    | false => rfl
    | true => exact absurd (h.1 q) e
theorem eqOk_lt {a b : List Nat} : eqOk (ltD a) (ltD b) = true := by
  have h := depth_lt a
  simp only [eqOk, plain_lt, Bool.and_true, Bool.true_and, Bool.or_eq_true, decide_eq_true_eq]
  omega
theorem cmp_neL {a b : List Nat} : cmpD .NotEq (ltD a) (ltD b) = some (!decide (a = b)) := by
  simp only [cmpD, eqOk_lt, if_true, eqv_lt]
end Sm

set_option Elab.async false
set_option linter.all false
set_option maxRecDepth 100000
/-! K11b: fractions, run: divisor, lean, plus, times, total. -/
namespace Sm
open PySem PySem.Spec
/-! sizes -/
def sm (n : Nat) (x : Int) : Prop := x.natAbs < 2 ^ n
theorem sm_mono {n m : Nat} {x : Int} (h : sm n x) (l : n ≤ m) : sm m x := Nat.lt_of_lt_of_le h (Nat.pow_le_pow_right (by omega) l)
theorem sm_mul {n m : Nat} {x y : Int} (h : sm n x) (l : sm m y) : sm (n + m) (x * y) := by
  unfold sm at *
  rw [Int.natAbs_mul, Nat.pow_add]
  exact Nat.mul_lt_mul'' h l
theorem sm_add {n : Nat} {x y : Int} (h : sm n x) (l : sm n y) : sm (n + 1) (x + y) := by
  unfold sm at *
  rw [Nat.pow_succ]
  omega
theorem sm_log {n : Nat} {x : Int} (h : sm n x) : x.natAbs.log2 ≤ n := by
  rcases Nat.eq_zero_or_pos x.natAbs with e | e
  · rw [e]; simp
  · exact Nat.le_of_lt ((Nat.log2_lt (by omega)).2 h)
theorem sm_mulOk {n m : Nat} {x y : Int} (h : sm n x) (l : sm m y) (k : n + m < 1000000) : mulOk x y = true := by
  have h1 := sm_log h
  have h2 := sm_log l
  simp only [mulOk, Bool.or_eq_true, decide_eq_true_eq]
  right; omega
theorem sm_divOk {n : Nat} {x : Int} (h : sm n x) (p : 0 < x) (k : n < 9000) : divOk x = true := by
  have h1 := sm_log h
  simp only [divOk, Bool.and_eq_true, decide_eq_true_eq]
  exact ⟨p, by omega⟩
/-! gcd's steps -/
def bz (x : Nat) : Nat := if x = 0 then 0 else x.log2 + 1
theorem bz_le {x k : Nat} : bz x ≤ k ↔ x < 2 ^ k := by
  unfold bz
  split
  · simp [*, Nat.pow_pos]
  · rw [← Nat.log2_lt (by assumption)]; omega
theorem bz_half {x a : Nat} (h : 2 * x < a) : bz x < bz a := by
  have h1 : a < 2 ^ bz a := bz_le.1 (Nat.le_refl _)
  cases e : bz a with
  | zero => rw [e] at h1; simp at h1; omega
  | succ k =>
    rw [e, Nat.pow_succ] at h1
    have : bz x ≤ k := bz_le.2 (by omega)
    omega
def gMe (s : Nat × Nat) : Nat := bz s.1 + bz s.2 + (if s.1 < s.2 then 1 else 0)
theorem gMe_lt {a b : Nat} (h : 0 < b) : gMe (b, a % b) < gMe (a, b) := by
  have hm := Nat.mod_lt a h
  unfold gMe
  by_cases l : a < b
  · rw [Nat.mod_eq_of_lt l]
    simp only [l, if_true, show ¬ b < a by omega, if_false]
    omega
  · have l' : b ≤ a := by omega
    have d := Nat.div_add_mod a b
    have q : 1 ≤ a / b := (Nat.le_div_iff_mul_le h).2 (by omega)
    have : b * 1 ≤ b * (a / b) := Nat.mul_le_mul_left b q
    have := bz_half (x := a % b) (a := a) (by omega)
    simp only [show ¬ b < a % b by omega, if_false, l]
    omega
section
variable {Pg : List Fn} {i j l k i1 i2 i3 i4 i5 i6 i7 : Nat} {st : Sto}
def ri_divisor : Fn := ⟨2, 2, [
  .par [0, 1] [(.blt .abs (.v 0)), (.blt .abs (.v 1))],
  .whl (.cmp .Gt (.v 1) (.c (.int (0)))) [.par [0, 1] [(.v 1), (.bin .Sub (.v 0) (.bin .Mult (.v 1) (.bin .FloorDiv (.v 0) (.v 1))))]],
  .ret (.v 0)]⟩
abbrev gL (s : Nat × Nat) : Lo := [some (.d (.int s.1)), some (.d (.int s.2))]
def gcdF : Nat × Nat → Nat × Nat := fun s => (Nat.gcd s.1 s.2, 0)
theorem abs_nat (x : Int) : (if x < 0 then -x else x) = (x.natAbs : Int) := by split <;> omega
theorem sub_div (x y : Nat) : (x : Int) - y * ((x : Int) / y) = ((x % y : Nat) : Int) := by
  have := Int.emod_def x y
  omega
theorem gcd_while {cf : CF} {n : Nat} (a b : Nat) (ha : a < 2 ^ 8000) (hb : b < 2 ^ 8000) :
    whL (evT (ev cf 60) (.cmp .Gt (.v 1) (.c (.int (0))))) (exs (exN cf 60 (n + 1)) [.par [0, 1] [(.v 1), (.bin .Sub (.v 0) (.bin .Mult (.v 1) (.bin .FloorDiv (.v 0) (.v 1))))]]) WF (gL (a, b)) st = .ok (.nx (gL (Nat.gcd a b, 0))) st := by
  have h := whL_run (t := evT (ev cf 60) (.cmp .Gt (.v 1) (.c (.int (0))))) (b := exs (exN cf 60 (n + 1)) [.par [0, 1] [(.v 1), (.bin .Sub (.v 0) (.bin .Mult (.v 1) (.bin .FloorDiv (.v 0) (.v 1))))]]) gL (fun _ => st) (fun s => decide (0 < s.2)) (fun s => (s.2, s.1 % s.2)) gcdF gMe (fun s => s.1 < 2 ^ 8000 ∧ s.2 < 2 ^ 8000)
    (fun s => by
      obtain ⟨x, y⟩ := s
      cases y with
      | zero => simp [gcdF]
      | succ y => simp only [gcdF, Nat.zero_lt_succ, decide_true, if_true, Prod.mk.injEq, and_true]; rw [Nat.gcd_comm, Nat.gcd_rec, Nat.gcd_comm])
    (fun s hs => by simp [gL]) (fun s hs hg => by
      have hg : 0 < s.2 := of_decide_eq_true hg
      have hm := Nat.mod_lt s.1 hg
      refine ⟨⟨hs.2, Nat.lt_trans hm hs.2⟩, gMe_lt hg, ?_⟩
      have s1 : sm 8000 (s.1 : Int) := hs.1
      have s2 : sm 8000 (s.2 : Int) := hs.2
      have d1 : divOk (s.2 : Int) = true := sm_divOk s2 (by omega) (by decide)
      have q : (s.1 : Int) / s.2 = ((s.1 / s.2 : Nat) : Int) := by simp
      have s3 : sm 8000 ((s.1 : Int) / s.2) := by rw [q]; exact Nat.lt_of_le_of_lt (Nat.div_le_self _ _) hs.1
      have m1 := sm_mulOk s2 s3 (by decide)
      simp [gL, binD_div d1, binD_mul m1, sub_div, setAll]) WF (a, b) ⟨ha, hb⟩ (by
        have h1 := bz_le.2 ha
        have h2 := bz_le.2 hb
        unfold gMe WF
        split <;> simp only <;> omega)
  exact h
theorem c_divisor (h : Pg[i]? = some ri_divisor) (a b : Int) (ha : sm 8000 a) (hb : sm 8000 b) : callF Pg (k + 1) i [.d (.int a), .d (.int b)] st = .ok (.d (.int (Int.gcd a b))) st := by
  rw [call_eq h]
  have hw := gcd_while (st := st) (cf := callF Pg k) (n := 38) a.natAbs b.natAbs ha hb
  simp only [gL] at hw
  simp [ri_divisor, runF, SN, EN, bltD, abs_nat, setAll, hw, Int.gcd]
/-! lean -/
def lnF (t b : Int) : Int × Int := (t / (Int.gcd t b : Int), b / (Int.gcd t b : Int))
def frD (p : Int × Int) : D := .tuple [.int p.1, .int p.2]
end
end Sm

set_option Elab.async false
set_option linter.all false
set_option maxRecDepth 100000
/-! K11c: fractions: lean, plus, times, total; the law's own. -/
namespace Sm
open PySem PySem.Spec
section
variable {Pg : List Fn} {i j l k i1 i2 i3 i4 i5 i6 i7 : Nat} {st : Sto}
abbrev Ra := Int × Int
def fok (n : Nat) (p : Ra) : Prop := 0 ≤ p.1 ∧ 0 < p.2 ∧ sm n p.1 ∧ sm n p.2
theorem sm_divn {n : Nat} {x : Int} {g : Nat} (h : sm n x) : sm n (x / (g : Int)) := by
  unfold sm at *
  exact Nat.lt_of_le_of_lt (Int.natAbs_ediv_le_natAbs x g) h
theorem gcd_p {t b : Int} (hb : 0 < b) : 0 < (Int.gcd t b : Int) := by
  have : Int.gcd t b ≠ 0 := fun e => by
    rw [Int.gcd_eq_zero_iff] at e
    omega
  omega
theorem sm_gcd {n : Nat} {t b : Int} (hb : 0 < b) (h : sm n b) : sm n (Int.gcd t b : Int) := by
  have := Int.gcd_le_natAbs_right (a := t) (b := b) (by omega)
  unfold sm at *
  omega
theorem ln_mul1 {t b : Int} : (lnF t b).1 * (Int.gcd t b : Int) = t := Int.ediv_mul_cancel (Int.gcd_dvd_left t b)
theorem ln_mul2 {t b : Int} : (lnF t b).2 * (Int.gcd t b : Int) = b := Int.ediv_mul_cancel (Int.gcd_dvd_right t b)
theorem fok_ln {n : Nat} {t b : Int} (ht : 0 ≤ t) (hb : 0 < b) (h1 : sm n t) (h2 : sm n b) : fok n (lnF t b) := by
  have g := gcd_p (t := t) hb
  refine ⟨Int.ediv_nonneg ht (by omega), ?_, sm_divn h1, sm_divn h2⟩
  have e := ln_mul2 (t := t) (b := b)
  have : 0 < (lnF t b).2 * (Int.gcd t b : Int) := by omega
  exact Int.pos_of_mul_pos_left this (by omega)
theorem fok_mono {n m : Nat} {p : Ra} (h : fok n p) (l : n ≤ m) : fok m p := ⟨h.1, h.2.1, sm_mono h.2.2.1 l, sm_mono h.2.2.2 l⟩
@[simp] theorem ix_fr0 {p : Ra} : ixD (frD p) (.int 0) = some (.int p.1) := rfl
@[simp] theorem ix_fr1 {p : Ra} : ixD (frD p) (.int 1) = some (.int p.2) := rfl
def ri_lean (i_divisor : Nat) : Fn := ⟨2, 3, [
  .asg (.n 2) (.call i_divisor [(.v 0), (.v 1)]),
  .ret (.tup [(false, (.bin .FloorDiv (.v 0) (.v 2))), (false, (.bin .FloorDiv (.v 1) (.v 2)))])]⟩
theorem c_lean (h : Pg[i]? = some (ri_lean j)) (hd : Pg[j]? = some ri_divisor) {n : Nat} (t b : Int) (hb : 0 < b) (s1 : sm n t) (s2 : sm n b) (hn : n ≤ 8000) : callF Pg (k + 2) i [.d (.int t), .d (.int b)] st = .ok (.d (frD (lnF t b))) st := by
  rw [call_eq h]
  have e := fun st => c_divisor (k := k) (st := st) hd t b (sm_mono s1 hn) (sm_mono s2 hn)
  have d := binD_div (i := t) (sm_divOk (sm_gcd (t := t) hb s2) (gcd_p hb) (by omega))
  have d' := binD_div (i := b) (sm_divOk (sm_gcd (t := t) hb s2) (gcd_p hb) (by omega))
  simp [ri_lean, runF, SN, EN, e, d, d', szOk, SZ, frD, lnF]
def plF (p q : Ra) : Ra := lnF (p.1 * q.2 + q.1 * p.2) (p.2 * q.2)
def tmF (p q : Ra) : Ra := lnF (p.1 * q.1) (p.2 * q.2)
theorem pl_sm {n m : Nat} {p q : Ra} (hp : fok n p) (hq : fok m q) : 0 ≤ p.1 * q.2 + q.1 * p.2 ∧ 0 < p.2 * q.2 ∧ sm (n + m + 1) (p.1 * q.2 + q.1 * p.2) ∧ sm (n + m + 1) (p.2 * q.2) := by
  obtain ⟨a1, a2, a3, a4⟩ := hp
  obtain ⟨b1, b2, b3, b4⟩ := hq
  have h1 := Int.mul_nonneg a1 (Int.le_of_lt b2)
  have h2 := Int.mul_nonneg b1 (Int.le_of_lt a2)
  refine ⟨by omega, Int.mul_pos a2 b2, sm_add (sm_mul a3 b4) ?_, sm_mono (sm_mul a4 b4) (by omega)⟩
  rw [Nat.add_comm]; exact sm_mul b3 a4
theorem fok_pl {n m : Nat} {p q : Ra} (hp : fok n p) (hq : fok m q) : fok (n + m + 1) (plF p q) := by
  obtain ⟨h1, h2, h3, h4⟩ := pl_sm hp hq
  exact fok_ln h1 h2 h3 h4
theorem tm_sm {n m : Nat} {p q : Ra} (hp : fok n p) (hq : fok m q) : 0 ≤ p.1 * q.1 ∧ 0 < p.2 * q.2 ∧ sm (n + m) (p.1 * q.1) ∧ sm (n + m) (p.2 * q.2) :=
  ⟨Int.mul_nonneg hp.1 hq.1, Int.mul_pos hp.2.1 hq.2.1, sm_mul hp.2.2.1 hq.2.2.1, sm_mul hp.2.2.2 hq.2.2.2⟩
theorem fok_tm {n m : Nat} {p q : Ra} (hp : fok n p) (hq : fok m q) : fok (n + m) (tmF p q) := by
  obtain ⟨h1, h2, h3, h4⟩ := tm_sm hp hq
  exact fok_ln h1 h2 h3 h4
def ri_plus (i_lean : Nat) : Fn := ⟨2, 2, [
  .ret (.call i_lean [(.bin .Add (.bin .Mult (.ix (.v 0) (.c (.int (0)))) (.ix (.v 1) (.c (.int (1))))) (.bin .Mult (.ix (.v 1) (.c (.int (0)))) (.ix (.v 0) (.c (.int (1)))))), (.bin .Mult (.ix (.v 0) (.c (.int (1)))) (.ix (.v 1) (.c (.int (1)))))])]⟩
theorem fmul1 {n m : Nat} {p q : Ra} (hp : fok n p) (hq : fok m q) (l : n + m < 8000) : mulOk p.1 q.1 = true := sm_mulOk hp.2.2.1 hq.2.2.1 (by omega)
theorem fmul2 {n m : Nat} {p q : Ra} (hp : fok n p) (hq : fok m q) (l : n + m < 8000) : mulOk p.2 q.2 = true := sm_mulOk hp.2.2.2 hq.2.2.2 (by omega)
theorem fmul3 {n m : Nat} {p q : Ra} (hp : fok n p) (hq : fok m q) (l : n + m < 8000) : mulOk p.1 q.2 = true := sm_mulOk hp.2.2.1 hq.2.2.2 (by omega)
theorem c_plus (h : Pg[i]? = some (ri_plus i1)) (h1 : Pg[i1]? = some (ri_lean i2)) (h2 : Pg[i2]? = some ri_divisor) {n m : Nat} {p q : Ra} (hp : fok n p) (hq : fok m q) (l : n + m < 7000) :
    callF Pg (k + 3) i [.d (frD p), .d (frD q)] st = .ok (.d (frD (plF p q))) st := by
  rw [call_eq h]
  obtain ⟨q1, q2, q3, q4⟩ := pl_sm hp hq
  have e := fun st => c_lean (k := k) (st := st) h1 h2 _ _ q2 q3 q4 (by omega)
  simp [ri_plus, runF, SN, EN, e, binD_mul (fmul3 hp hq (by omega)), binD_mul (fmul3 hq hp (by omega)), binD_mul (fmul2 hp hq (by omega)), plF]
def ri_times (i_lean : Nat) : Fn := ⟨2, 2, [
  .ret (.call i_lean [(.bin .Mult (.ix (.v 0) (.c (.int (0)))) (.ix (.v 1) (.c (.int (0))))), (.bin .Mult (.ix (.v 0) (.c (.int (1)))) (.ix (.v 1) (.c (.int (1)))))])]⟩
theorem c_times (h : Pg[i]? = some (ri_times i1)) (h1 : Pg[i1]? = some (ri_lean i2)) (h2 : Pg[i2]? = some ri_divisor) {n m : Nat} {p q : Ra} (hp : fok n p) (hq : fok m q) (l : n + m < 7000) :
    callF Pg (k + 3) i [.d (frD p), .d (frD q)] st = .ok (.d (frD (tmF p q))) st := by
  rw [call_eq h]
  obtain ⟨q1, q2, q3, q4⟩ := tm_sm hp hq
  have e := fun st => c_lean (k := k) (st := st) h1 h2 _ _ q2 q3 q4 (by omega)
  simp [ri_times, runF, SN, EN, e, binD_mul (fmul1 hp hq (by omega)), binD_mul (fmul2 hp hq (by omega)), tmF]
def ri_total (i_plus : Nat) : Fn := ⟨1, 3, [
  .asg (.n 1) (.tup [(false, (.c (.int (0)))), (false, (.c (.int (1))))]),
  .fr (.n 2) (.e (.v 0)) [.asg (.n 1) (.call i_plus [(.v 1), (.v 2)])],
  .ret (.v 1)]⟩
/-- a sum of fractions, in the order at hand -/
def toFr (p : Ra) (l : List Ra) : Ra := l.foldl plF p
def toF (l : List Ra) : Ra := toFr (0, 1) l
theorem fok_01 : fok 1 (0, 1) := ⟨by decide, by decide, by simp [sm], by simp [sm]⟩
theorem fok_to {n m : Nat} {l : List Ra} : ∀ {p : Ra}, fok m p → (∀ q ∈ l, fok n q) → fok (m + l.length * (n + 1)) (toFr p l) := by
  induction l generalizing m with
  | nil => intro p h _; simpa [toFr] using h
  | cons q l ih =>
    intro p h hl
    have := ih (fok_pl h (hl q (by simp))) fun r hr => hl r (by simp [hr])
    refine fok_mono this ?_
    simp only [List.length_cons, Nat.succ_mul]
    omega
theorem tot_loop {b : Lo → Sto → Rs Fl} {lo : Ra → Option RV → Lo} {tg : Nat} {n : Nat} : ∀ {l : List Ra} (m : Nat) (p : Ra) (o : Option RV), fok m p → (∀ q ∈ l, fok n q) →
    (∀ o p q, (lo p o).set tg (some (.d (frD q))) = lo p (some (.d (frD q)))) →
    (∀ m p q, m ≤ 2000 → fok m p → fok n q → b (lo p (some (.d (frD q)))) st = .ok (.nx (lo (plF p q) (some (.d (frD q))))) st) → m + l.length * (n + 1) ≤ 2000 →
    ∃ o', forL b (.n tg) (l.map frD) (lo p o) st = .ok (.nx (lo (toFr p l) o')) st
  | [], m, p, o, _, _, _, _, _ => ⟨o, rfl⟩
  | q :: l, m, p, o, hp, hl, hs, hb, hm => by
    simp only [List.length_cons, Nat.succ_mul] at hm
    obtain ⟨o', ih⟩ := tot_loop (l := l) (m + n + 1) (plF p q) (some (.d (frD q))) (fok_pl hp (hl q (by simp))) (fun r hr => hl r (by simp [hr])) hs hb (by omega)
    refine ⟨o', ?_⟩
    simp only [List.map_cons, forL, bindT, hs, hb m p q (by omega) hp (hl q (by simp)), ih]
    rfl
theorem c_total (h : Pg[i]? = some (ri_total i3)) (h3 : Pg[i3]? = some (ri_plus i1)) (h1 : Pg[i1]? = some (ri_lean i2)) (h2 : Pg[i2]? = some ri_divisor) {n : Nat} {l : List Ra} {x : D} (hx : seqOf x = some (l.map frD)) (hl : ∀ q ∈ l, fok n q) (hm : 1 + l.length * (n + 1) ≤ 2000) (hn : n ≤ 2000) :
    callF Pg (k + 4) i [.d x] st = .ok (.d (frD (toF l))) st := by
  rw [call_eq h]
  obtain ⟨o, e⟩ := tot_loop (st := st) (b := exs (exN (callF Pg (k + 3)) 60 39) [.asg (.n 1) (.call i3 [(.v 1), (.v 2)])]) (lo := fun p o => [some (.d x), some (.d (frD p)), o]) (tg := 2) (l := l) 1 (0, 1) none fok_01 hl (fun o p q => rfl)
    (fun m p q hm hp hq => by
      have e := fun st => c_plus (k := k) (st := st) h3 h1 h2 hp hq (by omega)
      simp [e]) hm
  simp only [show ((frD (0, 1)) : D) = .tuple [.int 0, .int 1] from rfl] at e
  simp [ri_total, runF, SN, EN, szOk, SZ, hx, e, toF]
/-! the law's own -/
def ri__law_lean : Fn := ⟨2, 4, [
  .par [2, 3] [(.blt .abs (.v 0)), (.blt .abs (.v 1))],
  .whl (.cmp .Gt (.v 3) (.c (.int (0)))) [.par [2, 3] [(.v 3), (.bin .Sub (.v 2) (.bin .Mult (.v 3) (.bin .FloorDiv (.v 2) (.v 3))))]],
  .ret (.tup [(false, (.bin .FloorDiv (.v 0) (.v 2))), (false, (.bin .FloorDiv (.v 1) (.v 2)))])]⟩
theorem gcd_while2 {cf : CF} {n : Nat} {u v : Option RV} (a b : Nat) (ha : a < 2 ^ 8000) (hb : b < 2 ^ 8000) :
    whL (evT (ev cf 60) (.cmp .Gt (.v 3) (.c (.int (0))))) (exs (exN cf 60 (n + 1)) [.par [2, 3] [(.v 3), (.bin .Sub (.v 2) (.bin .Mult (.v 3) (.bin .FloorDiv (.v 2) (.v 3))))]]) WF (u :: v :: gL (a, b)) st = .ok (.nx (u :: v :: gL (Nat.gcd a b, 0))) st := by
  have h := whL_run (t := evT (ev cf 60) (.cmp .Gt (.v 3) (.c (.int (0))))) (b := exs (exN cf 60 (n + 1)) [.par [2, 3] [(.v 3), (.bin .Sub (.v 2) (.bin .Mult (.v 3) (.bin .FloorDiv (.v 2) (.v 3))))]]) (fun s => u :: v :: gL s) (fun _ => st) (fun s => decide (0 < s.2)) (fun s => (s.2, s.1 % s.2)) gcdF gMe (fun s => s.1 < 2 ^ 8000 ∧ s.2 < 2 ^ 8000)
    (fun s => by
      obtain ⟨x, y⟩ := s
      cases y with
      | zero => simp [gcdF]
      | succ y => simp only [gcdF, Nat.zero_lt_succ, decide_true, if_true, Prod.mk.injEq, and_true]; rw [Nat.gcd_comm, Nat.gcd_rec, Nat.gcd_comm])
    (fun s hs => by simp [gL]) (fun s hs hg => by
      have hg : 0 < s.2 := of_decide_eq_true hg
      have hm := Nat.mod_lt s.1 hg
      refine ⟨⟨hs.2, Nat.lt_trans hm hs.2⟩, gMe_lt hg, ?_⟩
      have s1 : sm 8000 (s.1 : Int) := hs.1
      have s2 : sm 8000 (s.2 : Int) := hs.2
      have d1 : divOk (s.2 : Int) = true := sm_divOk s2 (by omega) (by decide)
      have q : (s.1 : Int) / s.2 = ((s.1 / s.2 : Nat) : Int) := by simp
      have s3 : sm 8000 ((s.1 : Int) / s.2) := by rw [q]; exact Nat.lt_of_le_of_lt (Nat.div_le_self _ _) hs.1
      have m1 := sm_mulOk s2 s3 (by decide)
      simp [gL, binD_div d1, binD_mul m1, sub_div, setAll]) WF (a, b) ⟨ha, hb⟩ (by
        have h1 := bz_le.2 ha
        have h2 := bz_le.2 hb
        unfold gMe WF
        split <;> simp only <;> omega)
  exact h
theorem c__law_lean (h : Pg[i]? = some ri__law_lean) {n : Nat} (t b : Int) (hb : 0 < b) (s1 : sm n t) (s2 : sm n b) (hn : n ≤ 8000) : callF Pg (k + 1) i [.d (.int t), .d (.int b)] st = .ok (.d (frD (lnF t b))) st := by
  rw [call_eq h]
  have hw := gcd_while2 (st := st) (cf := callF Pg k) (n := 38) (u := some (.d (.int t))) (v := some (.d (.int b))) t.natAbs b.natAbs (sm_mono s1 hn) (sm_mono s2 hn)
  simp only [gL] at hw
  have d := binD_div (i := t) (sm_divOk (sm_gcd (t := t) hb s2) (gcd_p hb) (by omega))
  have d' := binD_div (i := b) (sm_divOk (sm_gcd (t := t) hb s2) (gcd_p hb) (by omega))
  simp only [Int.gcd] at d d'
  simp [ri__law_lean, runF, SN, EN, bltD, abs_nat, setAll, hw, frD, lnF, Int.gcd, d, d', szOk, SZ]
def ri__law_by (i_lean : Nat) : Fn := ri_times i_lean
theorem c__law_by (h : Pg[i]? = some (ri_times i1)) (h1 : Pg[i1]? = some ri__law_lean) {n m : Nat} {p q : Ra} (hp : fok n p) (hq : fok m q) (l : n + m < 7000) :
    callF Pg (k + 2) i [.d (frD p), .d (frD q)] st = .ok (.d (frD (tmF p q))) st := by
  rw [call_eq h]
  obtain ⟨q1, q2, q3, q4⟩ := tm_sm hp hq
  have e := fun st => c__law_lean (k := k) (st := st) h1 _ _ q2 q3 q4 (by omega)
  simp [ri_times, runF, SN, EN, e, binD_mul (fmul1 hp hq (by omega)), binD_mul (fmul2 hp hq (by omega)), tmF]
def ri__law_sum (i__law_lean : Nat) : Fn := ⟨1, 3, [
  .asg (.n 1) (.tup [(false, (.c (.int (0)))), (false, (.c (.int (1))))]),
  .fr (.n 2) (.e (.v 0)) [.asg (.n 1) (.call i__law_lean [(.bin .Add (.bin .Mult (.ix (.v 1) (.c (.int (0)))) (.ix (.v 2) (.c (.int (1))))) (.bin .Mult (.ix (.v 2) (.c (.int (0)))) (.ix (.v 1) (.c (.int (1)))))), (.bin .Mult (.ix (.v 1) (.c (.int (1)))) (.ix (.v 2) (.c (.int (1)))))])],
  .ret (.v 1)]⟩
theorem c__law_sum (h : Pg[i]? = some (ri__law_sum i1)) (h1 : Pg[i1]? = some ri__law_lean) {n : Nat} {l : List Ra} {x : D} (hx : seqOf x = some (l.map frD)) (hl : ∀ q ∈ l, fok n q) (hm : 1 + l.length * (n + 1) ≤ 2000) (hn : n ≤ 2000) :
    callF Pg (k + 2) i [.d x] st = .ok (.d (frD (toF l))) st := by
  rw [call_eq h]
  obtain ⟨o, e⟩ := tot_loop (st := st) (b := exs (exN (callF Pg (k + 1)) 60 39) [.asg (.n 1) (.call i1 [(.bin .Add (.bin .Mult (.ix (.v 1) (.c (.int (0)))) (.ix (.v 2) (.c (.int (1))))) (.bin .Mult (.ix (.v 2) (.c (.int (0)))) (.ix (.v 1) (.c (.int (1)))))), (.bin .Mult (.ix (.v 1) (.c (.int (1)))) (.ix (.v 2) (.c (.int (1)))))])]) (lo := fun p o => [some (.d x), some (.d (frD p)), o]) (tg := 2) (l := l) 1 (0, 1) none fok_01 hl (fun o p q => rfl)
    (fun m p q hm hp hq => by
      obtain ⟨q1, q2, q3, q4⟩ := pl_sm hp hq
      have e := fun st => c__law_lean (k := k) (st := st) h1 _ _ q2 q3 q4 (by omega)
      simp [e, binD_mul (fmul3 hp hq (by omega)), binD_mul (fmul3 hq hp (by omega)), binD_mul (fmul2 hp hq (by omega)), plF]) hm
  simp only [show ((frD (0, 1)) : D) = .tuple [.int 0, .int 1] from rfl] at e
  simp [ri__law_sum, runF, SN, EN, szOk, SZ, hx, e, toF]
def ri__law_less : Fn := ⟨2, 2, [
  .ret (.cmp .Lt (.bin .Mult (.ix (.v 0) (.c (.int (0)))) (.ix (.v 1) (.c (.int (1))))) (.bin .Mult (.ix (.v 1) (.c (.int (0)))) (.ix (.v 0) (.c (.int (1))))))]⟩
theorem c__law_less (h : Pg[i]? = some ri__law_less) {n m : Nat} {p q : Ra} (hp : fok n p) (hq : fok m q) (l : n + m < 7000) :
    callF Pg (k + 1) i [.d (frD p), .d (frD q)] st = .ok (.d (.bool (decide (p.1 * q.2 < q.1 * p.2)))) st := by
  rw [call_eq h]
  simp [ri__law_less, runF, SN, EN, binD_mul (fmul3 hp hq (by omega)), binD_mul (fmul3 hq hp (by omega))]
end
end Sm

set_option Elab.async false
set_option linter.all false
set_option maxRecDepth 100000
/-! K11p: k11's defs, as the translation gives them (printed by gen_pg.py). -/
namespace Sm
open PySem PySem.Spec
namespace K11
def ri_is_fraction (i_is_many i_is_from i_divisor : Nat) : Fn := ⟨1, 1, [
  .iff (.or (.not (.call i_is_many [(.v 0), (.c (.int (2)))])) (.or (.not (.call i_is_from [(.ix (.v 0) (.c (.int (0)))), (.neg (.bin .Pow (.c (.int (10))) (.c (.int (9))))), (.bin .Pow (.c (.int (10))) (.c (.int (9))))])) (.not (.call i_is_from [(.ix (.v 0) (.c (.int (1)))), (.c (.int (1))), (.bin .Pow (.c (.int (10))) (.c (.int (9))))])))) [.ret (.c (.bool false))] [],
  .ret (.cmp .Eq (.call i_divisor [(.ix (.v 0) (.c (.int (0)))), (.ix (.v 0) (.c (.int (1))))]) (.c (.int (1))))]⟩
def ri_is_rows : Fn := ⟨1, 3, [
  .iff (.or (.not (.blt .isT (.v 0))) (.not (.chain .LtE .LtE (.c (.int (1))) (.blt .len (.v 0)) (.c (.int (5)))))) [.ret (.c (.bool false))] [],
  .iff (.not (.blt .all (.lc [1] (.n 1) (.e (.v 0)) none (.and (.blt .isT (.v 1)) (.cmp .LtE (.blt .len (.v 1)) (.c (.int (8)))))))) [.ret (.c (.bool false))] [],
  .ret (.blt .all (.lc [1] (.n 1) (.e (.v 0)) none (.and (.cmp .Eq (.blt .len (.v 1)) (.blt .len (.ix (.v 0) (.c (.int (0)))))) (.blt .all (.lc [2] (.n 2) (.e (.v 1)) none (.blt .isB (.v 2)))))))]⟩
def ri_check_rows (i_is_rows : Nat) : Fn := ⟨1, 1, [
  .iff (.not (.call i_is_rows [(.v 0)])) [.rais 0 [(.v 0)]] []]⟩
def ri_check_truth (i_is_many : Nat) : Fn := ⟨2, 3, [
  .iff (.or (.not (.call i_is_many [(.v 1), (.blt .len (.ix (.v 0) (.c (.int (0)))))])) (.not (.blt .all (.lc [2] (.n 2) (.e (.v 1)) none (.blt .isB (.v 2)))))) [.rais 0 [(.v 1)]] []]⟩
def ri_check_shares (i_is_many i_is_fraction : Nat) : Fn := ⟨2, 3, [
  .iff (.or (.not (.call i_is_many [(.v 1), (.blt .len (.v 0))])) (.not (.blt .all (.lc [2] (.n 2) (.e (.v 1)) none (.and (.call i_is_fraction [(.v 2)]) (.cmp .Gt (.ix (.v 2) (.c (.int (0)))) (.c (.int (0))))))))) [.rais 0 [(.v 1)]] []]⟩
def ri_votes_for (i_total : Nat) : Fn := ⟨2, 6, [
  .asg (.n 2) (.call i_total [(.lc [4, 5] (.t [(.n 4), (.n 5)]) (.zp (.v 0) (.v 1)) (some (.v 4)) (.v 5))]),
  .asg (.n 3) (.call i_total [(.v 1)]),
  .ret (.cmp .GtE (.bin .Mult (.bin .Mult (.c (.int (2))) (.ix (.v 2) (.c (.int (0))))) (.ix (.v 3) (.c (.int (1))))) (.bin .Mult (.ix (.v 3) (.c (.int (0)))) (.ix (.v 2) (.c (.int (1))))))]⟩
def ri_voted (i_check_shares i_votes_for : Nat) : Fn := ⟨2, 3, [
  .iff (.or (.not (.blt .isT (.v 0))) (.not (.chain .LtE .LtE (.c (.int (1))) (.blt .len (.v 0)) (.c (.int (5)))))) [.rais 0 [(.v 0)]] [],
  .iff (.not (.blt .all (.lc [2] (.n 2) (.e (.v 0)) none (.blt .isB (.v 2))))) [.rais 0 [(.v 0)]] [],
  .ex (.call i_check_shares [(.v 0), (.v 1)]),
  .ret (.call i_votes_for [(.v 0), (.v 1)])]⟩
def ri_shares_behind (i_check_rows i_check_truth i_times : Nat) : Fn := ⟨2, 7, [
  .ex (.call i_check_rows [(.v 0)]),
  .ex (.call i_check_truth [(.v 0), (.v 1)]),
  .asg (.n 2) (.new (.lst [])),
  .fr (.n 3) (.e (.v 0)) [.asg (.n 4) (.tup [(false, (.c (.int (1)))), (false, (.c (.int (1))))]), .fr (.t [(.n 5), (.n 6)]) (.zp (.v 3) (.v 1)) [.asg (.n 4) (.ife (.cmp .NotEq (.v 5) (.v 6)) (.call i_times [(.v 4), (.tup [(false, (.c (.int (1)))), (false, (.c (.int (2))))])]) (.v 4))], .app (.v 2) (.v 4)],
  .ret (.blt .tuple (.v 2))]⟩
def ri_calls_along (i_check_rows i_check_truth i_votes_for i_times : Nat) : Fn := ⟨2, 10, [
  .ex (.call i_check_rows [(.v 0)]),
  .ex (.call i_check_truth [(.v 0), (.v 1)]),
  .par [2, 3] [(.bin .Mult (.lst [(false, (.tup [(false, (.c (.int (1)))), (false, (.c (.int (1))))]))]) (.blt .len (.v 0))), (.new (.lst []))],
  .fr (.t [(.n 4), (.n 5)]) (.en (.v 1)) [.asg (.n 6) (.lc [7] (.n 7) (.e (.v 0)) none (.ix (.v 7) (.v 4))), .app (.v 3) (.call i_votes_for [(.v 6), (.v 2)]), .asg (.n 2) (.lc [8, 9] (.t [(.n 8), (.n 9)]) (.zp (.v 6) (.v 2)) none (.ife (.cmp .NotEq (.v 8) (.v 5)) (.call i_times [(.v 9), (.tup [(false, (.c (.int (1)))), (false, (.c (.int (2))))])]) (.v 9)))],
  .ret (.blt .tuple (.v 3))]⟩
def ri_mistakes_along (i_calls_along : Nat) : Fn := ⟨2, 7, [
  .asg (.n 2) (.call i_calls_along [(.v 0), (.v 1)]),
  .asg (.n 3) (.blt .tuple (.lc [4] (.n 4) (.e (.v 0)) none (.blt .len (.lc [5, 6] (.t [(.n 5), (.n 6)]) (.zp (.v 4) (.v 1)) (some (.cmp .NotEq (.v 5) (.v 6))) (.c (.int (1))))))),
  .ret (.tup [(false, (.blt .len (.lc [5, 6] (.t [(.n 5), (.n 6)]) (.zp (.v 2) (.v 1)) (some (.cmp .NotEq (.v 5) (.v 6))) (.c (.int (1)))))), (false, (.v 3))])]⟩
def ri_truths_of : Fn := ⟨1, 5, [
  .asg (.n 1) (.lst [(false, (.tup []))]),
  .fr (.n 2) (.r1 (.blt .len (.ix (.v 0) (.c (.int (0)))))) [.asg (.n 1) (.lc2 [3, 4] [4] (.n 3) (.e (.v 1)) none (.n 4) (.e (.tup [(false, (.c (.bool false))), (false, (.c (.bool true)))])) none (.tup [(true, (.v 3)), (false, (.v 4))]))],
  .ret (.v 1)]⟩
def ri_worst_truth (i_check_rows i_is_from i_truths_of i_mistakes_along : Nat) : Fn := ⟨2, 4, [
  .ex (.call i_check_rows [(.v 0)]),
  .iff (.not (.call i_is_from [(.v 1), (.c (.int (0))), (.c (.int (8)))])) [.rais 0 [(.v 1)]] [],
  .asg (.n 2) (.lc [3] (.n 3) (.e (.call i_truths_of [(.v 0)])) (some (.cmp .LtE (.blt .min (.ix (.call i_mistakes_along [(.v 0), (.v 3)]) (.c (.int (1))))) (.v 1))) (.tup [(false, (.neg (.ix (.call i_mistakes_along [(.v 0), (.v 3)]) (.c (.int (0)))))), (false, (.v 3))])),
  .ret (.tup [(false, (.neg (.ix (.blt .min (.v 2)) (.c (.int (0)))))), (false, (.ix (.blt .min (.v 2)) (.c (.int (1)))))])]⟩
def ri_is_within_bound (i_mistakes_along : Nat) : Fn := ⟨2, 7, [
  .asg (.t [(.n 2), (.n 3)]) (.call i_mistakes_along [(.v 0), (.v 1)]),
  .par [4, 5] [(.c (.int (1))), (.blt .len (.v 0))],
  .fr (.n 6) (.r1 (.v 2)) [.par [4, 5] [(.bin .Mult (.c (.int (4))) (.v 4)), (.bin .Mult (.c (.int (3))) (.v 5))]],
  .fr (.n 6) (.r1 (.blt .min (.v 3))) [.aug 5 .Mult (.c (.int (2)))],
  .ret (.cmp .LtE (.v 4) (.v 5))]⟩
def ri_shares_matter (i_voted i_check_shares i_votes_for : Nat) : Fn := ⟨3, 4, [
  .asg (.n 3) (.call i_voted [(.v 0), (.v 1)]),
  .ex (.call i_check_shares [(.v 0), (.v 2)]),
  .ret (.cmp .NotEq (.v 3) (.call i_votes_for [(.v 0), (.v 2)]))]⟩
def ri_deciding (i_voted i_votes_for : Nat) : Fn := ⟨2, 8, [
  .asg (.n 2) (.call i_voted [(.v 0), (.v 1)]),
  .asg (.n 3) (.new (.lst [])),
  .fr (.n 4) (.r1 (.blt .len (.v 0))) [.asg (.n 5) (.blt .tuple (.lc [6, 7] (.t [(.n 6), (.n 7)]) (.en (.v 0)) none (.cmp .NotEq (.v 7) (.cmp .Eq (.v 6) (.v 4))))), .iff (.cmp .NotEq (.call i_votes_for [(.v 5), (.v 1)]) (.v 2)) [.app (.v 3) (.v 4)] []],
  .ret (.blt .tuple (.v 3))]⟩
def ri_least_catching (i_check_shares i_votes_for : Nat) : Fn := ⟨1, 6, [
  .iff (.or (.not (.blt .isT (.v 0))) (.not (.chain .LtE .LtE (.c (.int (1))) (.blt .len (.v 0)) (.c (.int (5)))))) [.rais 0 [(.v 0)]] [],
  .ex (.call i_check_shares [(.v 0), (.v 0)]),
  .asg (.n 1) (.lst [(false, (.tup []))]),
  .fr (.n 2) (.r1 (.blt .len (.v 0))) [.asg (.n 1) (.bin .Add (.v 1) (.lc [4] (.n 4) (.e (.v 1)) none (.tup [(true, (.v 4)), (false, (.v 2))])))],
  .asg (.n 3) (.blt .sortLn (.lc [4] (.n 4) (.e (.v 1)) (some (.call i_votes_for [(.lc [2] (.n 2) (.r1 (.blt .len (.v 0))) none (.cmp .In (.v 2) (.v 4))), (.v 0)])) (.v 4))),
  .ret (.blt .tuple (.lc [4] (.n 4) (.e (.v 3)) (some (.not (.blt .any (.lc [5] (.n 5) (.e (.v 3)) none (.and (.cmp .NotEq (.v 5) (.v 4)) (.blt .all (.lc [2] (.n 2) (.e (.v 5)) none (.cmp .In (.v 2) (.v 4))))))))) (.v 4)))]⟩
def ri__law_lots : Fn := ⟨1, 4, [
  .asg (.n 1) (.lst [(false, (.tup []))]),
  .fr (.n 2) (.r1 (.v 0)) [.asg (.n 1) (.bin .Add (.v 1) (.lc [3] (.n 3) (.e (.v 1)) none (.bin .Add (.v 3) (.tup [(false, (.v 2))]))))],
  .ret (.blt .sortLn (.v 1))]⟩
def ri__law_voted (i__law_sum i__law_less i__law_by : Nat) : Fn := ⟨2, 6, [
  .par [2, 3] [(.call i__law_sum [(.lc [4, 5] (.t [(.n 4), (.n 5)]) (.zp (.v 0) (.v 1)) (some (.v 4)) (.v 5))]), (.call i__law_sum [(.v 1)])],
  .ret (.not (.call i__law_less [(.call i__law_by [(.v 2), (.tup [(false, (.c (.int (2)))), (false, (.c (.int (1))))])]), (.v 3)]))]⟩
def ri__law_along (i__law_voted i__law_by : Nat) : Fn := ⟨2, 8, [
  .par [2, 3] [(.bin .Mult (.lst [(false, (.tup [(false, (.c (.int (1)))), (false, (.c (.int (1))))]))]) (.blt .len (.v 0))), (.tup [])],
  .fr (.t [(.n 4), (.n 5)]) (.en (.v 1)) [.asg (.n 3) (.bin .Add (.v 3) (.tup [(false, (.call i__law_voted [(.lc [6] (.n 6) (.e (.v 0)) none (.ix (.v 6) (.v 4))), (.v 2)]))])), .asg (.n 2) (.lc [6, 7] (.t [(.n 6), (.n 7)]) (.zp (.v 0) (.v 2)) none (.ife (.cmp .Eq (.ix (.v 6) (.v 4)) (.v 5)) (.v 7) (.call i__law_by [(.v 7), (.tup [(false, (.c (.int (1)))), (false, (.c (.int (2))))])])))],
  .ret (.tup [(false, (.v 3)), (false, (.blt .tuple (.v 2)))])]⟩
def ri__law_truths : Fn := ⟨1, 4, [
  .asg (.n 1) (.lst [(false, (.tup []))]),
  .fr (.n 2) (.r1 (.v 0)) [.asg (.n 1) (.sumL (.lc [3] (.n 3) (.e (.v 1)) none (.lst [(false, (.bin .Add (.v 3) (.tup [(false, (.c (.bool false)))]))), (false, (.bin .Add (.v 3) (.tup [(false, (.c (.bool true)))])))])) (.lst []))],
  .ret (.v 1)]⟩
def ri__law_wrong : Fn := ⟨2, 4, [
  .ret (.blt .len (.lc [2, 3] (.t [(.n 2), (.n 3)]) (.zp (.v 0) (.v 1)) (some (.cmp .NotEq (.v 2) (.v 3))) (.c (.int (1)))))]⟩
def ri__law_refused_right (i_is_rows i_calls_along i_shares_behind i_worst_truth i_is_within_bound i_mistakes_along i_voted i_deciding i_shares_matter i_least_catching : Nat) : Fn := ⟨3, 5, [
  .fr (.n 3) (.e (.tup [(false, (.c .none)), (false, (.tup [])), (false, (.lst [(false, (.tup []))])), (false, (.tup [(false, (.tup [(false, (.c (.int (1))))]))])), (false, (.tup [(false, (.tup [])), (false, (.tup [(false, (.c (.bool true)))]))])), (false, (.tup [(false, (.bin .Mult (.tup [(false, (.c (.bool true)))]) (.c (.int (9)))))])), (false, (.bin .Mult (.tup [(false, (.tup []))]) (.c (.int (6)))))])) [.iff (.call i_is_rows [(.v 3)]) [.ret (.c (.bool false))] [], .iff (.not (.refu (.call i_calls_along [(.v 3), (.c .none)]) (.v 3))) [.ret (.c (.bool false))] [], .iff (.not (.refu (.call i_shares_behind [(.v 3), (.c .none)]) (.v 3))) [.ret (.c (.bool false))] [], .iff (.not (.refu (.call i_worst_truth [(.v 3), (.c .none)]) (.v 3))) [.ret (.c (.bool false))] [], .iff (.not (.refu (.call i_is_within_bound [(.v 3), (.c .none)]) (.v 3))) [.ret (.c (.bool false))] []],
  .fr (.n 3) (.e (.tup [(false, (.c .none)), (false, (.bin .Add (.v 1) (.tup [(false, (.c (.bool true)))]))), (false, (.ife (.cmp .NotEq (.v 1) (.tup [])) (.bin .Mult (.tup [(false, (.c (.int (1))))]) (.blt .len (.v 1))) (.tup [(false, (.c (.int (1))))]))), (false, (.blt .list (.v 1)))])) [.iff (.not (.refu (.call i_mistakes_along [(.v 0), (.v 3)]) (.v 3))) [.ret (.c (.bool false))] [], .iff (.not (.refu (.call i_shares_behind [(.v 0), (.v 3)]) (.v 3))) [.ret (.c (.bool false))] []],
  .fr (.n 3) (.e (.tup [(false, (.neg (.c (.int (1))))), (false, (.c (.int (9)))), (false, (.c .none))])) [.iff (.not (.refu (.call i_worst_truth [(.v 0), (.v 3)]) (.v 3))) [.ret (.c (.bool false))] []],
  .asg (.n 4) (.bin .Mult (.tup [(false, (.c (.bool true)))]) (.blt .len (.v 2))),
  .fr (.n 3) (.e (.tup [(false, (.c .none)), (false, (.tup [])), (false, (.tup [(false, (.c (.int (1))))])), (false, (.bin .Mult (.tup [(false, (.c (.bool true)))]) (.c (.int (6))))), (false, (.lst [(false, (.c (.bool true)))]))])) [.iff (.not (.refu (.call i_voted [(.v 3), (.c .none)]) (.v 3))) [.ret (.c (.bool false))] [], .iff (.not (.refu (.call i_deciding [(.v 3), (.c .none)]) (.v 3))) [.ret (.c (.bool false))] []],
  .fr (.n 3) (.e (.tup [(false, (.c .none)), (false, (.bin .Mult (.tup [(false, (.tup [(false, (.c (.int (0)))), (false, (.c (.int (1))))]))]) (.blt .len (.v 2)))), (false, (.bin .Mult (.tup [(false, (.tup [(false, (.c (.int (2)))), (false, (.c (.int (4))))]))]) (.blt .len (.v 2)))), (false, (.bin .Add (.v 2) (.tup [(false, (.tup [(false, (.c (.int (1)))), (false, (.c (.int (1))))]))]))), (false, (.bin .Mult (.tup [(false, (.tup [(false, (.neg (.c (.int (1))))), (false, (.c (.int (1))))]))]) (.blt .len (.v 2))))])) [.iff (.not (.refu (.call i_voted [(.v 4), (.v 3)]) (.v 3))) [.ret (.c (.bool false))] [], .iff (.not (.refu (.call i_shares_matter [(.v 4), (.v 2), (.v 3)]) (.v 3))) [.ret (.c (.bool false))] []],
  .fr (.n 3) (.e (.tup [(false, (.c .none)), (false, (.tup [])), (false, (.tup [(false, (.tup [(false, (.c (.int (0)))), (false, (.c (.int (1))))]))])), (false, (.bin .Mult (.tup [(false, (.tup [(false, (.c (.int (1)))), (false, (.c (.int (1))))]))]) (.c (.int (6)))))])) [.iff (.not (.refu (.call i_least_catching [(.v 3)]) (.v 3))) [.ret (.c (.bool false))] []],
  .ret (.c (.bool true))]⟩
def ri_law (i__law_pick i__law_next i__law_along i__law_wrong i_is_rows i_calls_along i_shares_behind i_mistakes_along i_is_within_bound i__law_truths i_worst_truth i__law_lean i__law_voted i_voted i_shares_matter i_deciding i__law_lots i_least_catching i__law_refused_right : Nat) : Fn := ⟨1, 28, [
  .asg (.n 1) (.new (.lst [(false, (.sl (.v 0) none (some (.c (.int (63)))))), (false, (.c (.int (0)))), (false, (.c (.int (0))))])),
  .asg (.n 2) (.call i__law_pick [(.v 1), (.lst [(false, (.c (.int (0)))), (false, (.c (.int (1)))), (false, (.c (.int (2)))), (false, (.c (.int (3)))), (false, (.c (.int (4)))), (false, (.c (.int (5)))), (false, (.c (.int (6)))), (false, (.c (.int (8))))])]),
  .asg (.n 4) (.blt .tuple (.lc [3] (.n 3) (.r1 (.bin .Add (.c (.int (1))) (.call i__law_next [(.v 1), (.c (.int (5)))]))) none (.blt .tuple (.lc [22] (.n 22) (.r1 (.v 2)) none (.cmp .Eq (.call i__law_next [(.v 1), (.c (.int (2)))]) (.c (.int (0)))))))),
  .asg (.n 5) (.blt .tuple (.lc [22] (.n 22) (.r1 (.v 2)) none (.cmp .Eq (.call i__law_next [(.v 1), (.c (.int (2)))]) (.c (.int (0)))))),
  .asg (.t [(.n 6), (.n 7)]) (.call i__law_along [(.v 4), (.v 5)]),
  .asg (.n 8) (.blt .tuple (.lc [23] (.n 23) (.e (.v 4)) none (.call i__law_wrong [(.v 23), (.v 5)]))),
  .asg (.n 9) (.call i__law_wrong [(.v 6), (.v 5)]),
  .iff (.or (.not (.call i_is_rows [(.v 4)])) (.or (.cmp .NotEq (.call i_calls_along [(.v 4), (.v 5)]) (.v 6)) (.or (.cmp .NotEq (.call i_shares_behind [(.v 4), (.v 5)]) (.v 7)) (.cmp .NotEq (.call i_mistakes_along [(.v 4), (.v 5)]) (.tup [(false, (.v 9)), (false, (.v 8))]))))) [.ret (.c (.bool false))] [],
  .par [10, 11] [(.c (.int (1))), (.blt .len (.v 4))],
  .fr (.n 3) (.r1 (.v 9)) [.par [10, 11] [(.bin .Mult (.c (.int (4))) (.v 10)), (.bin .Mult (.c (.int (3))) (.v 11))]],
  .fr (.n 3) (.r1 (.blt .min (.v 8))) [.asg (.n 11) (.bin .Mult (.c (.int (2))) (.v 11))],
  .iff (.or (.not (.call i_is_within_bound [(.v 4), (.v 5)])) (.cmp .Gt (.v 10) (.v 11))) [.ret (.c (.bool false))] [],
  .asg (.n 12) (.call i__law_next [(.v 1), (.c (.int (9)))]),
  .asg (.n 13) (.lc [24] (.n 24) (.e (.call i__law_truths [(.v 2)])) (some (.cmp .LtE (.blt .min (.lc [23] (.n 23) (.e (.v 4)) none (.call i__law_wrong [(.v 23), (.v 24)]))) (.v 12))) (.tup [(false, (.neg (.call i__law_wrong [(.ix (.call i__law_along [(.v 4), (.v 24)]) (.c (.int (0)))), (.v 24)]))), (false, (.v 24))])),
  .iff (.cmp .NotEq (.call i_worst_truth [(.v 4), (.v 12)]) (.tup [(false, (.neg (.ix (.blt .min (.v 13)) (.c (.int (0)))))), (false, (.ix (.blt .min (.v 13)) (.c (.int (1)))))])) [.ret (.c (.bool false))] [],
  .asg (.n 14) (.bin .Add (.c (.int (1))) (.call i__law_next [(.v 1), (.c (.int (5)))])),
  .asg (.t [(.n 15), (.n 16)]) (.lc [25] (.n 25) (.r1 (.c (.int (2)))) none (.blt .tuple (.lc [22] (.n 22) (.r1 (.v 14)) none (.call i__law_lean [(.bin .Add (.c (.int (1))) (.call i__law_next [(.v 1), (.c (.int (6)))])), (.bin .Add (.c (.int (1))) (.call i__law_next [(.v 1), (.c (.int (4)))]))])))),
  .asg (.n 17) (.blt .tuple (.lc [22] (.n 22) (.r1 (.v 14)) none (.cmp .Eq (.call i__law_next [(.v 1), (.c (.int (2)))]) (.c (.int (0)))))),
  .asg (.n 18) (.call i__law_voted [(.v 17), (.v 15)]),
  .iff (.or (.cmp .NotEq (.call i_voted [(.v 17), (.v 15)]) (.v 18)) (.cmp .NotEq (.call i_shares_matter [(.v 17), (.v 15), (.v 16)]) (.cmp .NotEq (.v 18) (.call i__law_voted [(.v 17), (.v 16)])))) [.ret (.c (.bool false))] [],
  .asg (.n 19) (.lc [22] (.n 22) (.r1 (.v 14)) none (.blt .tuple (.lc [26, 24] (.t [(.n 26), (.n 24)]) (.en (.v 17)) none (.cmp .NotEq (.v 24) (.cmp .Eq (.v 22) (.v 26)))))),
  .iff (.cmp .NotEq (.call i_deciding [(.v 17), (.v 15)]) (.blt .tuple (.lc [22] (.n 22) (.r1 (.v 14)) (some (.cmp .NotEq (.call i__law_voted [(.ix (.v 19) (.v 22)), (.v 15)]) (.v 18))) (.v 22)))) [.ret (.c (.bool false))] [],
  .asg (.n 20) (.lc [27] (.n 27) (.e (.call i__law_lots [(.v 14)])) (some (.call i__law_voted [(.lc [22] (.n 22) (.r1 (.v 14)) none (.cmp .In (.v 22) (.v 27))), (.v 15)])) (.v 27)),
  .asg (.n 21) (.lc [27] (.n 27) (.e (.v 20)) (some (.not (.blt .any (.lc [24] (.n 24) (.e (.v 20)) none (.and (.cmp .NotEq (.v 24) (.v 27)) (.blt .all (.lc [22] (.n 22) (.e (.v 24)) none (.cmp .In (.v 22) (.v 27))))))))) (.v 27)),
  .iff (.cmp .NotEq (.call i_least_catching [(.v 15)]) (.blt .tuple (.v 21))) [.ret (.c (.bool false))] [],
  .ret (.call i__law_refused_right [(.v 4), (.v 5), (.v 15)])]⟩
def pg : List Fn := [ri_is_whole, ri_is_from 0, ri_is_many, ri_divisor, ri_lean 3, ri_plus 4, ri_times 4, ri_total 5, ri_is_fraction 2 1 3, ri_is_rows, ri_check_rows 9, ri_check_truth 2, ri_check_shares 2 8, ri_votes_for 7, ri_voted 12 13, ri_shares_behind 10 11 6, ri_calls_along 10 11 13 6, ri_mistakes_along 16, ri_truths_of, ri_worst_truth 10 1 18 17, ri_is_within_bound 17, ri_shares_matter 14 12 13, ri_deciding 14 13, ri_least_catching 12 13, ri__law_cell_at, ri__law_draw, ri__law_number 25, ri__law_next 24 26, ri__law_pick 27, ri__law_lean, ri__law_sum 29, ri_times 29, ri__law_less, ri__law_lots, ri__law_voted 30 32 31, ri__law_along 34 31, ri__law_truths, ri__law_wrong, ri__law_refused_right 9 16 15 19 20 17 14 22 21 23, ri_law 28 27 35 37 9 16 15 17 20 36 19 29 34 14 21 22 33 23 38]
end K11
end Sm

set_option Elab.async false
set_option linter.all false
set_option maxRecDepth 100000
/-! K11d: votes. -/
namespace Sm
open PySem PySem.Spec
@[simp] theorem zip_typed {α β : Type} (f : α → D) (g : β → D) (as : List α) (bs : List β) : ((as.map f).zip (bs.map g)).map (fun (p : D × D) => PyData.tuple [p.1, p.2]) = (as.zip bs).map fun p => .tuple [f p.1, g p.2] := by
  rw [List.zip_map, List.map_map]; rfl
@[simp] theorem enum_typed {α : Type} (f : α → D) (as : List α) : (as.map f).zipIdx.map (fun (p : D × Nat) => PyData.tuple [.int (p.2 : Int), p.1]) = as.zipIdx.map fun p => .tuple [.int p.2, f p.1] := by
  rw [List.zipIdx_map, List.map_map]; rfl
namespace K11
section
variable {k : Nat} {st rest : Sto}
def badF (bs : List Bool) (l : List Ra) : List Ra := ((bs.zip l).filter fun p => p.1).map (·.2)
def vtF (bs : List Bool) (l : List Ra) : Bool := decide ((toF l).1 * (toF (badF bs l)).2 ≤ 2 * (toF (badF bs l)).1 * (toF l).2)
theorem bad_mem {bs : List Bool} {l : List Ra} {q : Ra} (h : q ∈ badF bs l) : q ∈ l := by
  simp only [badF, List.mem_map, List.mem_filter] at h
  obtain ⟨p, ⟨h1, _⟩, rfl⟩ := h
  exact (List.of_mem_zip h1).2
theorem bad_len {bs : List Bool} {l : List Ra} : (badF bs l).length ≤ l.length := by
  simp only [badF, List.length_map]
  refine Nat.le_trans (List.length_filter_le _ _) ?_
  simp only [List.length_zip]; omega
theorem fok_toF {n : Nat} {l : List Ra} (hl : ∀ q ∈ l, fok n q) (h : l.length ≤ 10) (hn : n ≤ 100) : fok 1100 (toF l) := by
  refine fok_mono (fok_to fok_01 hl) ?_
  have : l.length * (n + 1) ≤ 10 * 101 := Nat.mul_le_mul h (by omega)
  omega
theorem c_votes_for {n : Nat} {x y : D} {bs : List Bool} {l : List Ra} (hx : seqOf x = some (bs.map .bool)) (hy : seqOf y = some (l.map frD)) (hl : ∀ q ∈ l, fok n q) (h : l.length ≤ 10) (hn : n ≤ 100) :
    callF pg (k + 5) 13 [.d x, .d y] st = .ok (.d (.bool (vtF bs l))) st := by
  have hb : ∀ q ∈ badF bs l, fok n q := fun q hq => hl q (bad_mem hq)
  have hbl : (badF bs l).length ≤ 10 := Nat.le_trans bad_len h
  have m1 : l.length * (n + 1) ≤ 10 * 101 := Nat.mul_le_mul h (by omega)
  have m2 : (badF bs l).length * (n + 1) ≤ 10 * 101 := Nat.mul_le_mul hbl (by omega)
  have e1 := fun st => c_total (Pg := pg) (i := 7) (i3 := 5) (i1 := 4) (i2 := 3) (k := k) (st := st) (x := y) rfl rfl rfl rfl hy hl (by omega) (by omega)
  have e2 := fun st => c_total (Pg := pg) (i := 7) (i3 := 5) (i1 := 4) (i2 := 3) (k := k) (st := st) (x := .list ((badF bs l).map frD)) rfl rfl rfl rfl rfl hb (by omega) (by omega)
  have f1 := fok_toF hl h hn
  have f2 := fok_toF hb hbl hn
  have g1 : mulOk 2 (toF (badF bs l)).1 = true := sm_mulOk (n := 2) (by unfold sm; decide) f2.2.2.1 (by decide)
  have g2 : sm 1102 (2 * (toF (badF bs l)).1) := sm_mul (n := 2) (m := 1100) (by unfold sm; decide) f2.2.2.1
  have g3 : mulOk (2 * (toF (badF bs l)).1) (toF l).2 = true := sm_mulOk g2 f1.2.2.2 (by decide)
  have g4 : mulOk (toF l).1 (toF (badF bs l)).2 = true := sm_mulOk f1.2.2.1 f2.2.2.2 (by decide)
  have g5 : szOk (min bs.length l.length) = true := by
    exact szOk_of (by omega)
  have hbf : (badF bs l).map frD = ((bs.zip l).filter fun q => q.1).map fun q => frD q.2 := by simp [badF]
  simp only [hbf] at e2
  rw [call_eq (show pg[13]? = some (ri_votes_for 7) from rfl)]
  simp [ri_votes_for, runF, SN, EN, hx, hy, zipOf, g5]
  rw [lcL_filterT (p := fun (q : Bool × Ra) => q.1) (g := fun q => frD q.2)]
  · simp [e1, e2, g5, binD_mul g1, binD_mul g3, binD_mul g4, vtF]
  · rintro ⟨u, v⟩ _
    exact ⟨_, rfl, by simp [wipeL], fun _ => by simp [wipeL]⟩
end
end K11
end Sm

set_option Elab.async false
set_option linter.all false
set_option maxRecDepth 100000
/-! K11e: what is checked. -/
namespace Sm
open PySem PySem.Spec
namespace K11
section
variable {k : Nat} {st rest : Sto}
def bsD (bs : List Bool) : D := .tuple (bs.map .bool)
def rwD (rows : List (List Bool)) : D := .tuple (rows.map bsD)
def frsD (l : List Ra) : D := .tuple (l.map frD)
@[simp] theorem seq_bs {bs : List Bool} : seqOf (bsD bs) = some (bs.map .bool) := rfl
@[simp] theorem seq_rw {bs : List (List Bool)} : seqOf (rwD bs) = some (bs.map bsD) := rfl
@[simp] theorem seq_fr {bs : List Ra} : seqOf (frsD bs) = some (bs.map frD) := rfl
@[simp] theorem len_bs {bs : List Bool} : bltD .len (bsD bs) = some (.int bs.length) := by simp [bsD]
@[simp] theorem len_rw {bs : List (List Bool)} : bltD .len (rwD bs) = some (.int bs.length) := by simp [rwD]
@[simp] theorem len_fr {bs : List Ra} : bltD .len (frsD bs) = some (.int bs.length) := by simp [frsD]
@[simp] theorem isT_bs {bs : List Bool} : bltD .isT (bsD bs) = some (.bool true) := rfl
@[simp] theorem isT_rw {bs : List (List Bool)} : bltD .isT (rwD bs) = some (.bool true) := rfl
@[simp] theorem isT_fr {bs : List Ra} : bltD .isT (frsD bs) = some (.bool true) := rfl
/-- rows that are right -/
structure GR (rows : List (List Bool)) (L : Nat) : Prop where
  ne : rows ≠ []
  le : rows.length ≤ 5
  len : ∀ r ∈ rows, r.length = L
  L8 : L ≤ 8
theorem GR.l1 {rows : List (List Bool)} {L : Nat} (g : GR rows L) : 1 ≤ rows.length := by
  cases rows with
  | nil => exact absurd rfl g.ne
  | cons r rs => simp
theorem GR.ix {rows : List (List Bool)} {L : Nat} (g : GR rows L) : ∃ r0, r0.length = L ∧ ixD (rwD rows) (.int 0) = some (bsD r0) := by
  cases rows with
  | nil => exact absurd rfl g.ne
  | cons r rs => exact ⟨r, g.len r (by simp), by simp only [ixD, rwD, List.map_cons]; exact atI_nat 0⟩
theorem c_is_rows {rows : List (List Bool)} {L : Nat} (g : GR rows L) : callF pg (k + 1) 9 [.d (rwD rows)] st = .ok (.d (.bool true)) st := by
  have h0 := g.l1
  have h5 := g.le
  obtain ⟨r0, hr0, hi⟩ := g.ix
  have s1 : szOk rows.length = true := szOk_of (by omega)
  rw [call_eq (show pg[9]? = some ri_is_rows from rfl)]
  simp [ri_is_rows, runF, SN, EN, s1, show (1 : Int) ≤ rows.length by omega, show (rows.length : Int) ≤ 5 by omega]
  rw [lcL_mapT (e := bsD) (g := fun r => .bool true)]
  · simp [s1]
    rw [lcL_mapT (e := bsD) (g := fun r => .bool true)]
    · simp
    · intro r hr
      have hl := g.len r hr
      have s2 : szOk r.length = true := szOk_of (by have := g.L8; omega)
      refine ⟨_, rfl, ?_⟩
      simp [wipeL, hi, hr0, hl]
      rw [lcL_mapT (e := PyData.bool) (g := fun r => .bool true)]
      · simp [← hl, s2]
      · intro b hb
        exact ⟨_, rfl, by simp [wipeL]⟩
  · intro r hr
    have := g.len r hr
    have := g.L8
    exact ⟨_, rfl, by simp [wipeL]; omega⟩
def isFrB (p : Ra) : Bool := decide (-1000000000 ≤ p.1) && decide (p.1 ≤ 1000000000) && (decide (1 ≤ p.2) && decide (p.2 ≤ 1000000000)) && decide (Int.gcd p.1 p.2 = 1)
theorem c_is_fraction {p : Ra} (h1 : sm 64 p.1) (h2 : sm 64 p.2) : callF pg (k + 3) 8 [.d (frD p)] st = .ok (.d (.bool (isFrB p))) st := by
  have e1 : ∀ st, callF pg (k + 2) 2 [.d (frD p), .d (.int 2)] st = .ok (.d (.bool true)) st := fun st => c_is_many (Pg := pg) (i := 2) (k := k + 1) (st := st) rfl (frD p) 2
  have e2 := fun st => c_is_from (Pg := pg) (i := 1) (j := 0) (k := k) (st := st) rfl rfl (.int p.1) (-1000000000) 1000000000
  have e3 := fun st => c_is_from (Pg := pg) (i := 1) (j := 0) (k := k) (st := st) rfl rfl (.int p.2) 1 1000000000
  have e4 := fun st => c_divisor (Pg := pg) (i := 3) (k := k + 1) (st := st) rfl p.1 p.2 (sm_mono h1 (by decide)) (sm_mono h2 (by decide))
  simp only [frD, isFr] at e1 e2 e3 e4
  rw [call_eq (show pg[8]? = some (ri_is_fraction 2 1 3) from rfl)]
  have i0 : ixD (.tuple [.int p.1, .int p.2]) (.int 0) = some (.int p.1) := rfl
  have i1 : ixD (.tuple [.int p.1, .int p.2]) (.int 1) = some (.int p.2) := rfl
  cases f1 : decide (-1000000000 ≤ p.1) && decide (p.1 ≤ 1000000000) with
  | false =>
    rw [f1] at e2
    simp [ri_is_fraction, runF, SN, EN, frD, e1, i0, i1, e2, isFrB, f1]
  | true =>
    rw [f1] at e2
    cases f2 : decide (1 ≤ p.2) && decide (p.2 ≤ 1000000000) with
    | false =>
      rw [f2] at e3
      simp [ri_is_fraction, runF, SN, EN, frD, e1, i0, i1, e2, e3, isFrB, f1, f2]
    | true =>
      rw [f2] at e3
      simp [ri_is_fraction, runF, SN, EN, frD, e1, i0, i1, e2, e3, e4, isFrB, f1, f2]
      omega
def okS (q : Ra) : Bool := isFrB q && decide (0 < q.1)
def chkS (n : Nat) (l : List Ra) : Bool := decide (l.length = n) && l.all okS
theorem c_check_shares {x : D} {n : Nat} {l : List Ra} (hx : bltD .len x = some (.int n)) (hl : ∀ q ∈ l, sm 64 q.1 ∧ sm 64 q.2) (hm : l.length ≤ 1000) :
    callF pg (k + 4) 12 [.d x, .d (frsD l)] st = if chkS n l then .ok (.d .none) st else .ex 0 [frsD l] st := by
  have e1 := fun st => c_is_many (Pg := pg) (i := 2) (k := k + 2) (st := st) rfl (frsD l) n
  simp only [isMn, frsD, List.length_map] at e1
  have s1 : szOk l.length = true := szOk_of (by omega)
  rw [call_eq (show pg[12]? = some (ri_check_shares 2 8) from rfl)]
  cases f1 : decide (l.length = n) with
  | false =>
    rw [f1] at e1
    simp [ri_check_shares, runF, SN, EN, hx, frsD, e1, chkS, f1]
  | true =>
    rw [f1] at e1
    simp [ri_check_shares, runF, SN, EN, hx, frsD, e1, s1]
    rw [lcL_mapT (e := frD) (g := fun q => .bool (okS q))]
    · cases f2 : l.all okS with
      | true => simp [chkS, f1, f2, Function.comp_def, List.all_map]
      | false => simp [chkS, f1, f2, Function.comp_def, List.all_map]
    · intro q hq
      obtain ⟨h1, h2⟩ := hl q hq
      have e3 := fun st => c_is_fraction (k := k) (st := st) h1 h2
      refine ⟨_, rfl, ?_⟩
      cases f3 : isFrB q with
      | false => simp [wipeL, e3, okS, f3]
      | true => simp [wipeL, e3, okS, f3]
end
end K11
end Sm

set_option Elab.async false
set_option linter.all false
set_option maxRecDepth 100000
/-! K11f: checks that raise; voted. -/
namespace Sm
open PySem PySem.Spec
namespace K11
section
variable {k : Nat} {st rest : Sto}
theorem c_check_rows {rows : List (List Bool)} {L : Nat} (g : GR rows L) : callF pg (k + 2) 10 [.d (rwD rows)] st = .ok (.d .none) st := by
  have e := fun st => c_is_rows (k := k) (st := st) g
  rw [call_eq (show pg[10]? = some (ri_check_rows 9) from rfl)]
  simp [ri_check_rows, runF, SN, EN, e]
theorem c_check_rows_x {x : D} (e : ∀ st, callF pg (k + 1) 9 [.d x] st = .ok (.d (.bool false)) st) : callF pg (k + 2) 10 [.d x] st = .ex 0 [x] st := by
  rw [call_eq (show pg[10]? = some (ri_check_rows 9) from rfl)]
  simp [ri_check_rows, runF, SN, EN, e]
def isBl : D → Bool
  | .bool _ => true
  | _ => false
@[simp] theorem isB_eq {x : D} : bltD .isB x = some (.bool (isBl x)) := by cases x <;> rfl
def isTu : D → Bool
  | .tuple _ => true
  | _ => false
theorem isT_eq {x : D} : bltD .isT x = some (.bool (isTu x)) := by cases x <;> rfl
def chkT (L : Nat) : D → Bool
  | .tuple ys => decide (ys.length = L) && ys.all isBl
  | _ => false
theorem c_check_truth {rows : List (List Bool)} {L : Nat} (g : GR rows L) (y : D) : callF pg (k + 2) 11 [.d (rwD rows), .d y] st = if chkT L y then .ok (.d .none) st else .ex 0 [y] st := by
  obtain ⟨r0, hr0, hi⟩ := g.ix
  have e1 := fun st => c_is_many (Pg := pg) (i := 2) (k := k) (st := st) rfl y L
  rw [call_eq (show pg[11]? = some (ri_check_truth 2) from rfl)]
  cases y with
  | tuple ys =>
    simp only [isMn] at e1
    cases f1 : decide (ys.length = L) with
    | false =>
      rw [f1] at e1
      simp [ri_check_truth, runF, SN, EN, hi, hr0, e1, chkT, f1]
    | true =>
      rw [f1] at e1
      have f1' := of_decide_eq_true f1
      have s1 : szOk L = true := szOk_of (by have := g.L8; omega)
      simp [ri_check_truth, runF, SN, EN, hi, hr0, e1, f1', s1]
      rw [lcL_map (g := fun q => .bool (isBl q))]
      · cases f2 : ys.all isBl with
        | true => simp [chkT, f1, f2, Function.comp_def, List.all_map]
        | false => simp [chkT, f1, f2, Function.comp_def, List.all_map]
      · intro q hq
        exact ⟨_, rfl, by simp [wipeL]⟩
  | _ =>
    simp only [isMn] at e1
    simp [ri_check_truth, runF, SN, EN, hi, hr0, e1, chkT]
theorem chkT_bs {L : Nat} {bs : List Bool} (h : bs.length = L) : chkT L (bsD bs) = true := by
  simp [chkT, bsD, h, isBl]
theorem c_check_shares_n {x : D} {n : Nat} (hx : bltD .len x = some (.int n)) : callF pg (k + 4) 12 [.d x, .d .none] st = .ex 0 [.none] st := by
  have e1 := fun st => c_is_many (Pg := pg) (i := 2) (k := k + 2) (st := st) rfl .none n
  simp only [isMn] at e1
  rw [call_eq (show pg[12]? = some (ri_check_shares 2 8) from rfl)]
  simp [ri_check_shares, runF, SN, EN, hx, e1]
/-- right shares are fractions of small size -/
theorem sm_of {x : Int} (h1 : -1000000000 ≤ x) (h2 : x ≤ 1000000000) : sm 30 x := by unfold sm; omega
theorem okS_fok {q : Ra} (h : okS q = true) : fok 30 q := by
  simp only [okS, isFrB, Bool.and_eq_true, decide_eq_true_eq] at h
  obtain ⟨⟨⟨⟨h1, h2⟩, h3, h4⟩, _⟩, h5⟩ := h
  exact ⟨by omega, by omega, sm_of h1 h2, sm_of (by omega) h4⟩
theorem chkS_fok {n : Nat} {l : List Ra} (h : chkS n l = true) : l.length = n ∧ ∀ q ∈ l, fok 30 q := by
  simp only [chkS, Bool.and_eq_true, decide_eq_true_eq, List.all_eq_true] at h
  exact ⟨h.1, fun q hq => okS_fok (h.2 q hq)⟩
theorem c_voted {bs : List Bool} {l : List Ra} (h1 : 1 ≤ bs.length) (h5 : bs.length ≤ 5) (hl : ∀ q ∈ l, sm 64 q.1 ∧ sm 64 q.2) (hm : l.length ≤ 1000) :
    callF pg (k + 6) 14 [.d (bsD bs), .d (frsD l)] st = if chkS bs.length l then .ok (.d (.bool (vtF bs l))) st else .ex 0 [frsD l] st := by
  have e1 := fun st => c_check_shares (k := k + 1) (st := st) (x := bsD bs) (n := bs.length) len_bs hl hm
  have s1 : szOk bs.length = true := szOk_of (by omega)
  rw [call_eq (show pg[14]? = some (ri_voted 12 13) from rfl)]
  simp [ri_voted, runF, SN, EN, s1, show (1 : Int) ≤ bs.length by omega, show (bs.length : Int) ≤ 5 by omega]
  rw [lcL_mapT (e := PyData.bool) (g := fun q => .bool true)]
  · cases f : chkS bs.length l with
    | true =>
      obtain ⟨g1, g2⟩ := chkS_fok f
      have e2 := fun st => c_votes_for (k := k) (st := st) (x := bsD bs) (y := frsD l) rfl rfl g2 (by omega) (by omega)
      simp [e1, f, e2]
    | false => simp [e1, f]
  · intro q hq
    exact ⟨_, rfl, by simp [wipeL, isBl]⟩
theorem c_voted_n {bs : List Bool} (h1 : 1 ≤ bs.length) (h5 : bs.length ≤ 5) : callF pg (k + 6) 14 [.d (bsD bs), .d .none] st = .ex 0 [.none] st := by
  have e1 := fun st => c_check_shares_n (k := k + 1) (st := st) (x := bsD bs) (n := bs.length) len_bs
  have s1 : szOk bs.length = true := szOk_of (by omega)
  rw [call_eq (show pg[14]? = some (ri_voted 12 13) from rfl)]
  simp [ri_voted, runF, SN, EN, s1, show (1 : Int) ≤ bs.length by omega, show (bs.length : Int) ≤ 5 by omega]
  rw [lcL_mapT (e := PyData.bool) (g := fun q => .bool true)]
  · simp [e1]
  · intro q hq
    exact ⟨_, rfl, by simp [wipeL, isBl]⟩
theorem c_shares_matter {bs : List Bool} {l o : List Ra} (h1 : 1 ≤ bs.length) (h5 : bs.length ≤ 5) (hl : chkS bs.length l = true) (ho : ∀ q ∈ o, sm 64 q.1 ∧ sm 64 q.2) (hm : o.length ≤ 1000) :
    callF pg (k + 7) 21 [.d (bsD bs), .d (frsD l), .d (frsD o)] st = if chkS bs.length o then .ok (.d (.bool (vtF bs l != vtF bs o))) st else .ex 0 [frsD o] st := by
  obtain ⟨l1, l2⟩ := chkS_fok hl
  have e0 := fun st => c_voted (k := k) (st := st) h1 h5 (l := l) (fun q hq => ⟨sm_mono (l2 q hq).2.2.1 (by decide), sm_mono (l2 q hq).2.2.2 (by decide)⟩) (by omega)
  have e1 := fun st => c_check_shares (k := k + 2) (st := st) (x := bsD bs) (n := bs.length) len_bs ho hm
  rw [call_eq (show pg[21]? = some (ri_shares_matter 14 12 13) from rfl)]
  cases f : chkS bs.length o with
  | true =>
    obtain ⟨g1, g2⟩ := chkS_fok f
    have e2 := fun st => c_votes_for (k := k + 1) (st := st) (x := bsD bs) (y := frsD o) rfl rfl g2 (by omega) (by omega)
    simp [ri_shares_matter, runF, SN, EN, e0, hl, e1, f, e2]
    cases vtF bs l <;> cases vtF bs o <;> rfl
  | false => simp [ri_shares_matter, runF, SN, EN, e0, hl, e1, f]
theorem c_shares_matter_n {bs : List Bool} {l : List Ra} (h1 : 1 ≤ bs.length) (h5 : bs.length ≤ 5) (hl : chkS bs.length l = true) :
    callF pg (k + 7) 21 [.d (bsD bs), .d (frsD l), .d .none] st = .ex 0 [.none] st := by
  obtain ⟨l1, l2⟩ := chkS_fok hl
  have e0 := fun st => c_voted (k := k) (st := st) h1 h5 (l := l) (fun q hq => ⟨sm_mono (l2 q hq).2.2.1 (by decide), sm_mono (l2 q hq).2.2.2 (by decide)⟩) (by omega)
  have e1 := fun st => c_check_shares_n (k := k + 2) (st := st) (x := bsD bs) (n := bs.length) len_bs
  rw [call_eq (show pg[21]? = some (ri_shares_matter 14 12 13) from rfl)]
  simp [ri_shares_matter, runF, SN, EN, e0, hl, e1]
/-- calls that are refused -/
def chkC : D → Bool
  | .tuple ys => decide (1 ≤ ys.length) && decide (ys.length ≤ 5) && ys.all isBl
  | _ => false
theorem c_voted_x {y z : D} (h : chkC y = false) : callF pg (k + 6) 14 [.d y, .d z] st = .ex 0 [y] st := by
  rw [call_eq (show pg[14]? = some (ri_voted 12 13) from rfl)]
  cases y with
  | tuple ys =>
    by_cases f1 : 1 ≤ ys.length
    · by_cases f2 : ys.length ≤ 5
      · have s1 : szOk ys.length = true := szOk_of (by omega)
        have h' : ys.all isBl = false := by simpa [chkC, f1, f2] using h
        simp [ri_voted, runF, SN, EN, s1, show (1 : Int) ≤ ys.length by omega, show (ys.length : Int) ≤ 5 by omega]
        rw [lcL_map (g := fun q => .bool (isBl q))]
        · simp [Function.comp_def, List.all_map, h']
        · intro q hq
          exact ⟨_, rfl, by simp [wipeL]⟩
      · simp [ri_voted, runF, SN, EN, show (1 : Int) ≤ ys.length by omega, show ¬ (ys.length : Int) ≤ 5 by omega]
    · simp [ri_voted, runF, SN, EN, show ¬ (1 : Int) ≤ ys.length by omega]
  | _ => simp [ri_voted, runF, SN, EN, isT_eq, isTu]
/-! the law's own vote -/
theorem vt_law {b w : Ra} {n : Nat} (hb : fok n b) : (!decide ((tmF b (2, 1)).1 * w.2 < w.1 * (tmF b (2, 1)).2)) = decide (w.1 * b.2 ≤ 2 * b.1 * w.2) := by
  have g : 0 < (Int.gcd (b.1 * 2) (b.2 * 1) : Int) := gcd_p (by have := hb.2.1; omega)
  have e1 := ln_mul1 (t := b.1 * 2) (b := b.2 * 1)
  have e2 := ln_mul2 (t := b.1 * 2) (b := b.2 * 1)
  have : ((tmF b (2, 1)).1 * w.2 < w.1 * (tmF b (2, 1)).2) ↔ ¬ (w.1 * b.2 ≤ 2 * b.1 * w.2) := by
    rw [← Int.mul_lt_mul_right g, Int.not_le]
    have a1 : (tmF b (2, 1)).1 * w.2 * (Int.gcd (b.1 * 2) (b.2 * 1) : Int) = 2 * b.1 * w.2 := by
      rw [Int.mul_right_comm, tmF, e1, Int.mul_comm b.1 2]
    have a2 : w.1 * (tmF b (2, 1)).2 * (Int.gcd (b.1 * 2) (b.2 * 1) : Int) = w.1 * b.2 := by
      rw [Int.mul_assoc, tmF, e2, Int.mul_one]
    rw [a1, a2]
  simp only [this, decide_not, Bool.not_not]
theorem c__law_voted {n : Nat} {x y : D} {bs : List Bool} {l : List Ra} (hx : seqOf x = some (bs.map .bool)) (hy : seqOf y = some (l.map frD)) (hl : ∀ q ∈ l, fok n q) (h : l.length ≤ 10) (hn : n ≤ 100) :
    callF pg (k + 3) 34 [.d x, .d y] st = .ok (.d (.bool (vtF bs l))) st := by
  have hb : ∀ q ∈ badF bs l, fok n q := fun q hq => hl q (bad_mem hq)
  have hbl : (badF bs l).length ≤ 10 := Nat.le_trans bad_len h
  have m1 : l.length * (n + 1) ≤ 10 * 101 := Nat.mul_le_mul h (by omega)
  have m2 : (badF bs l).length * (n + 1) ≤ 10 * 101 := Nat.mul_le_mul hbl (by omega)
  have e1 := fun st => c__law_sum (Pg := pg) (i := 30) (i1 := 29) (k := k) (st := st) (x := y) rfl rfl hy hl (by omega) (by omega)
  have e2 := fun st => c__law_sum (Pg := pg) (i := 30) (i1 := 29) (k := k) (st := st) (x := .list ((badF bs l).map frD)) rfl rfl rfl hb (by omega) (by omega)
  have f1 := fok_toF hl h hn
  have f2 := fok_toF hb hbl hn
  have f21 : fok 2 (2, 1) := ⟨by decide, by decide, by simp [sm], by simp [sm]⟩
  have f3 := fok_tm f2 f21
  have e21 : frD (2, 1) = .tuple [.int 2, .int 1] := rfl
  have e3 := fun st => c__law_by (Pg := pg) (i := 31) (i1 := 29) (k := k) (st := st) rfl rfl f2 f21 (by omega)
  simp only [e21] at e3
  have e4 := fun st => c__law_less (Pg := pg) (i := 32) (k := k + 1) (st := st) rfl f3 f1 (by omega)
  have g5 : szOk (min bs.length l.length) = true := szOk_of (by omega)
  have hbf : (badF bs l).map frD = ((bs.zip l).filter fun q => q.1).map fun q => frD q.2 := by simp [badF]
  simp only [hbf] at e2
  have v := vt_law (b := toF (badF bs l)) (w := toF l) f2
  rw [call_eq (show pg[34]? = some (ri__law_voted 30 32 31) from rfl)]
  simp [ri__law_voted, runF, SN, EN, hx, hy, zipOf, g5]
  rw [lcL_filterT (p := fun (q : Bool × Ra) => q.1) (g := fun q => frD q.2)]
  · simp [e1, e2, e3, e4, g5, setAll, szOk, SZ]
    simp only [vtF, ← v, decide_not, Bool.not_not]
  · rintro ⟨u, v⟩ _
    exact ⟨_, rfl, by simp [wipeL], fun _ => by simp [wipeL]⟩
end
end K11
end Sm

set_option Elab.async false
set_option linter.all false
set_option maxRecDepth 100000
/-! K11g: shares behind rows. -/
namespace Sm
open PySem PySem.Spec
namespace K11
section
variable {k : Nat} {st rest : Sto}
def hv (m : Nat) : Ra := (1, 2 ^ m)
theorem hv_0 : frD (hv 0) = .tuple [.int 1, .int 1] := rfl
theorem tm_hv (m : Nat) : tmF (hv m) (1, 2) = hv (m + 1) := by
  simp [tmF, hv, lnF, Int.pow_succ]
theorem fok_hv {m : Nat} (h : m ≤ 60) : fok 62 (hv m) := by
  refine ⟨by simp [hv], Int.pow_pos (by decide), sm_mono (n := 1) (by simp [hv, sm]) (by decide), sm_mono (n := m + 1) ?_ (by omega)⟩
  simp only [hv, sm]
  rw [Int.natAbs_pow]
  exact Nat.pow_lt_pow_right (by decide) (by omega)
theorem fok_12 : fok 2 (1, 2) := ⟨by decide, by decide, by simp [sm], by simp [sm]⟩
theorem c_half (m : Nat) (h : m ≤ 60) : callF pg (k + 3) 6 [.d (frD (hv m)), .d (.tuple [.int 1, .int 2])] st = .ok (.d (frD (hv (m + 1)))) st := by
  have e := c_times (Pg := pg) (i := 6) (i1 := 4) (i2 := 3) (k := k) (st := st) rfl rfl rfl (fok_hv h) fok_12 (by omega)
  rw [tm_hv] at e
  exact e
theorem c_lhalf (m : Nat) (h : m ≤ 60) : callF pg (k + 2) 31 [.d (frD (hv m)), .d (.tuple [.int 1, .int 2])] st = .ok (.d (frD (hv (m + 1)))) st := by
  have e := c__law_by (Pg := pg) (i := 31) (i1 := 29) (k := k) (st := st) rfl rfl (fok_hv h) fok_12 (by omega)
  rw [tm_hv] at e
  exact e
/-- how often two rows differ -/
def wr (a b : List Bool) : Nat := ((a.zip b).filter fun p => p.1 != p.2).length
theorem wr_le {a b : List Bool} : wr a b ≤ a.length := by
  refine Nat.le_trans (List.length_filter_le _ _) ?_
  simp only [List.length_zip]; omega
theorem wr_fold (l : List (Bool × Bool)) (m : Nat) : l.foldl (fun m p => if p.1 != p.2 then m + 1 else m) m = m + (l.filter fun p => p.1 != p.2).length := by
  induction l generalizing m with
  | nil => rfl
  | cons p l ih =>
    rw [List.foldl_cons, ih, List.filter_cons]
    cases p.1 != p.2 <;> simp <;> omega
theorem c_shares_behind_x {x y : D} (e : ∀ st, callF pg (k + 1) 9 [.d x] st = .ok (.d (.bool false)) st) : callF pg (k + 3) 15 [.d x, .d y] st = .ex 0 [x] st := by
  have e1 := fun st => c_check_rows_x (k := k) (st := st) e
  rw [call_eq (show pg[15]? = some (ri_shares_behind 10 11 6) from rfl)]
  simp [ri_shares_behind, runF, SN, EN, e1]
theorem c_shares_behind_t {rows : List (List Bool)} {L : Nat} (g : GR rows L) {y : D} (h : chkT L y = false) : callF pg (k + 3) 15 [.d (rwD rows), .d y] st = .ex 0 [y] st := by
  have e1 := fun st => c_check_rows (k := k) (st := st) g
  have e2 := fun st => c_check_truth (k := k) (st := st) g y
  rw [call_eq (show pg[15]? = some (ri_shares_behind 10 11 6) from rfl)]
  simp [ri_shares_behind, runF, SN, EN, e1, e2, h]
theorem c_shares_behind {rows : List (List Bool)} {L : Nat} (g : GR rows L) {tr : List Bool} (h : tr.length = L) : callF pg (k + 4) 15 [.d (rwD rows), .d (bsD tr)] st = .ok (.d (frsD (rows.map fun r => hv (wr r tr)))) st := by
  have e1 := fun st => c_check_rows (k := k + 1) (st := st) g
  have e2 := fun st => c_check_truth (k := k + 1) (st := st) g (bsD tr)
  simp only [chkT_bs h, if_true] at e2
  rw [call_eq (show pg[15]? = some (ri_shares_behind 10 11 6) from rfl)]
  simp [ri_shares_behind, runF, SN, EN, e1, e2]
  obtain ⟨j, e, _⟩ := forL_junk (b := exs (exN (callF pg (k + 3)) 60 39) [.asg (.n 4) (.tup [(false, (.c (.int (1)))), (false, (.c (.int (1))))]), .fr (.t [(.n 5), (.n 6)]) (.zp (.v 3) (.v 1)) [.asg (.n 4) (.ife (.cmp .NotEq (.v 5) (.v 6)) (.call 6 [(.v 4), (.tup [(false, (.c (.int (1)))), (false, (.c (.int (2))))])]) (.v 4))], .app (.v 2) (.v 4)]) (tg := .n 3) bsD
    (fun (s : List Ra) (j : Option RV × Option RV × Option RV × Option RV) => [some (.d (rwD rows)), some (.d (bsD tr)), some (.r st.length), j.1, j.2.1, j.2.2.1, j.2.2.2]) (fun s => st ++ [.lst (s.map frD)]) (fun s r => s ++ [hv (wr r tr)]) (fun n s => s.length = n) rows.length rows 0 [] (none, none, none, none) rfl (by omega) (by
      intro n s j r hn hs hr
      have hrl := g.len r hr
      have h8 := g.L8
      obtain ⟨j', e', _⟩ := forL_junk (b := exs (exN (callF pg (k + 3)) 60 38) [.asg (.n 4) (.ife (.cmp .NotEq (.v 5) (.v 6)) (.call 6 [(.v 4), (.tup [(false, (.c (.int (1)))), (false, (.c (.int (2))))])]) (.v 4))]) (tg := .t [(.n 5), (.n 6)]) (fun (p : Bool × Bool) => PyData.tuple [.bool p.1, .bool p.2])
        (fun (m : Nat) (j : Option RV × Option RV) => [some (.d (rwD rows)), some (.d (bsD tr)), some (.r st.length), some (.d (bsD r)), some (.d (frD (hv m))), j.1, j.2]) (fun _ => st ++ [.lst (s.map frD)]) (fun m p => if p.1 != p.2 then m + 1 else m) (fun n m => m ≤ n) 8 (r.zip tr) 0 0 (j.2.2.1, j.2.2.2) (by omega) (by simp only [List.length_zip]; omega) (by
          rintro n m j ⟨a, b⟩ hn hm hab
          refine ⟨_, (some (.d (.bool a)), some (.d (.bool b))), rfl, ?_, ?_⟩
          · cases a <;> cases b <;> simp [c_half m (by omega)]
          · cases a <;> cases b <;> simp <;> omega)
      rw [wr_fold, hv_0] at e'
      simp only at e'
      refine ⟨_, (some (.d (bsD r)), some (.d (frD (hv (wr r tr)))), j'.1, j'.2), rfl, ?_, by simp [hs]⟩
      · have s1 : szOk (s.length + 1) = true := szOk_of (by have := g.le; omega)
        simp only [Nat.zero_add] at e'
        simp [zipOf, e', s1, wr])
  simp only [foldl_snoc, List.nil_append] at e
  simp at e
  simp [e, frsD]
end
end K11
end Sm

set_option Elab.async false
set_option linter.all false
set_option maxRecDepth 100000
/-! K11h: calls along rows, the program's and the law's. -/
namespace Sm
open PySem PySem.Spec
theorem repD_list {x : D} {n : Nat} (h : n ≤ 1000000) : binD .Mult (.list [x]) (.int n) = some (.list (List.replicate n x)) := by
  have e : repOk 1 (n : Int) = true := by
    simp only [repOk_eq, Bool.and_eq_true, decide_eq_true_eq]
    have : SZ = 16777216 := rfl
    omega
  have e2 : repL [x] n = List.replicate n x := by
    unfold repL
    induction n with
    | zero => rfl
    | succ n ih => simp [List.replicate_succ]
  simp [binD, e, e2]
theorem repD_tup {x : D} {n : Nat} (h1 : 1 ≤ n) (h : n ≤ 1000) : binD .Mult (.tuple [x]) (.int n) = some (.tuple (List.replicate n x)) := by
  have e : repTOk 1 (n : Int) = true := by
    simp only [repTOk, Bool.or_eq_true, Bool.and_eq_true, decide_eq_true_eq]
    omega
  have e2 : repL [x] n = List.replicate n x := by
    unfold repL
    clear e h h1
    induction n with
    | zero => rfl
    | succ n ih => simp [List.replicate_succ]
  simp [binD, e, e2]
namespace K11
section
variable {k : Nat} {st rest : Sto}
def hvD (m : Nat) : D := frD (hv m)
def cls (rows : List (List Bool)) (n : Nat) : List Bool := rows.map fun r => r.getD n false
abbrev AS := List Bool × List Nat
def alStep (rows : List (List Bool)) (s : AS) (p : Bool × Nat) : AS := (s.1 ++ [vtF (cls rows p.2) (s.2.map hv)], ((cls rows p.2).zip s.2).map fun q => if q.1 != p.1 then q.2 + 1 else q.2)
def alF (rows : List (List Bool)) (tr : List Bool) : AS := tr.zipIdx.foldl (alStep rows) ([], List.replicate rows.length 0)
def alP (rows : List (List Bool)) (n : Nat) (s : AS) : Prop := s.1.length = n ∧ s.2.length = rows.length ∧ ∀ m ∈ s.2, m ≤ n
theorem alP_0 {rows : List (List Bool)} : alP rows 0 ([], List.replicate rows.length 0) := ⟨rfl, by simp, fun m hm => by simp [List.mem_replicate] at hm; omega⟩
theorem alP_S {rows : List (List Bool)} {n : Nat} {s : AS} (h : alP rows n s) (p : Bool × Nat) : alP rows (n + 1) (alStep rows s p) := by
  obtain ⟨h1, h2, h3⟩ := h
  refine ⟨by simp [alStep, h1], by simp [alStep, cls, h2], ?_⟩
  intro m hm
  simp only [alStep, List.mem_map] at hm
  obtain ⟨⟨a, b⟩, hq, rfl⟩ := hm
  have := h3 b (List.of_mem_zip hq).2
  simp only; split <;> omega
theorem bs_ix {r : List Bool} {n : Nat} (h : n < r.length) : ixD (bsD r) (.int n) = some (.bool (r.getD n false)) := by
  simp only [bsD, ixD, atI_nat]; simp [h]
theorem c_calls_along_x {x y : D} (e : ∀ st, callF pg (k + 1) 9 [.d x] st = .ok (.d (.bool false)) st) : callF pg (k + 3) 16 [.d x, .d y] st = .ex 0 [x] st := by
  have e1 := fun st => c_check_rows_x (k := k) (st := st) e
  rw [call_eq (show pg[16]? = some (ri_calls_along 10 11 13 6) from rfl)]
  simp [ri_calls_along, runF, SN, EN, e1]
theorem c_calls_along_t {rows : List (List Bool)} {L : Nat} (g : GR rows L) {y : D} (h : chkT L y = false) : callF pg (k + 3) 16 [.d (rwD rows), .d y] st = .ex 0 [y] st := by
  have e1 := fun st => c_check_rows (k := k) (st := st) g
  have e2 := fun st => c_check_truth (k := k) (st := st) g y
  rw [call_eq (show pg[16]? = some (ri_calls_along 10 11 13 6) from rfl)]
  simp [ri_calls_along, runF, SN, EN, e1, e2, h]
theorem c_calls_along {rows : List (List Bool)} {L : Nat} (g : GR rows L) {tr : List Bool} (h : tr.length = L) : callF pg (k + 6) 16 [.d (rwD rows), .d (bsD tr)] st = .ok (.d (bsD (alF rows tr).1)) st := by
  have h5 := g.le
  have h8 := g.L8
  have e1 := fun st => c_check_rows (k := k + 3) (st := st) g
  have e2 := fun st => c_check_truth (k := k + 3) (st := st) g (bsD tr)
  simp only [chkT_bs h, if_true] at e2
  rw [call_eq (show pg[16]? = some (ri_calls_along 10 11 13 6) from rfl)]
  simp [ri_calls_along, runF, SN, EN, e1, e2, repD_list (n := rows.length) (by omega), setAll]
  obtain ⟨j, e, _⟩ := forL_junk (b := exs (exN (callF pg (k + 5)) 60 39) [.asg (.n 6) (.lc [7] (.n 7) (.e (.v 0)) none (.ix (.v 7) (.v 4))), .app (.v 3) (.call 13 [(.v 6), (.v 2)]), .asg (.n 2) (.lc [8, 9] (.t [(.n 8), (.n 9)]) (.zp (.v 6) (.v 2)) none (.ife (.cmp .NotEq (.v 8) (.v 5)) (.call 6 [(.v 9), (.tup [(false, (.c (.int (1)))), (false, (.c (.int (2))))])]) (.v 9)))]) (tg := .t [(.n 4), (.n 5)])
    (fun (p : Bool × Nat) => PyData.tuple [.int p.2, .bool p.1])
    (fun (s : AS) (j : Option RV × Option RV × Option RV) => [some (.d (rwD rows)), some (.d (bsD tr)), some (.d (.list (s.2.map hvD))), some (.r st.length), j.1, j.2.1, j.2.2, none, none, none]) (fun s => st ++ [.lst (s.1.map .bool)]) (alStep rows) (alP rows) L tr.zipIdx 0 ([], List.replicate rows.length 0) (none, none, none) alP_0 (by simp [h]) (by
      rintro n s j ⟨mk, at'⟩ hn hs hm
      have hat : at' < L := by
        have := List.mem_zipIdx hm
        omega
      obtain ⟨p1, p2, p3⟩ := hs
      refine ⟨_, (some (.d (.int at')), some (.d (.bool mk)), some (.d (.list ((cls rows at').map .bool)))), rfl, ?_, alP_S ⟨p1, p2, p3⟩ _⟩
      have s1 : szOk rows.length = true := szOk_of (by omega)
      have s2 : szOk (s.1.length + 1) = true := szOk_of (by omega)
      have e3 := fun st => c_votes_for (k := k) (st := st) (x := .list ((cls rows at').map .bool)) (y := .list (s.2.map hvD)) (bs := cls rows at') (l := s.2.map hv) (n := 62) rfl (by simp [hvD]) (by
        intro q hq
        obtain ⟨m, hm, rfl⟩ := List.mem_map.1 hq
        have := p3 m hm
        exact fok_hv (by omega)) (by simp; omega) (by decide)
      simp [s1]
      rw [lcL_mapT (e := bsD) (g := fun r => .bool (r.getD at' false))]
      · have hc : (rows.map fun r => PyData.bool (r.getD at' false)) = (cls rows at').map .bool := by simp [cls]
        simp only [List.getD_eq_getElem?_getD] at hc
        simp [hc, e3, s2, zipOf]
        rw [lcL_mapT (g := fun q => hvD (if q.1 != mk then q.2 + 1 else q.2))]
        · have s3 : szOk (min (cls rows at').length s.2.length) = true := szOk_of (by omega)
          simp [alStep, s3, Function.comp_def]
        · rintro ⟨c, m⟩ hq
          have := p3 m (List.of_mem_zip hq).2
          refine ⟨_, rfl, ?_⟩
          cases c <;> cases mk <;> simp [wipeL, hvD, c_half m (by omega)]
      · intro r hr
        have := g.len r hr
        exact ⟨_, rfl, by simp [wipeL, bs_ix (show at' < r.length by omega)]⟩)
  have hl : (tr.zipIdx.foldl (alStep rows) ([], List.replicate rows.length 0)) = alF rows tr := rfl
  rw [hl] at e
  simp only [List.map_replicate, show hvD 0 = .tuple [.int 1, .int 1] from rfl, List.map_nil] at e
  rw [e]
  simp [bsD]
def ri__law_along_body : List S := [.asg (.n 3) (.bin .Add (.v 3) (.tup [(false, (.call 34 [(.lc [6] (.n 6) (.e (.v 0)) none (.ix (.v 6) (.v 4))), (.v 2)]))])), .asg (.n 2) (.lc [6, 7] (.t [(.n 6), (.n 7)]) (.zp (.v 0) (.v 2)) none (.ife (.cmp .Eq (.ix (.v 6) (.v 4)) (.v 5)) (.v 7) (.call 31 [(.v 7), (.tup [(false, (.c (.int (1)))), (false, (.c (.int (2))))])])))]
theorem c__law_along {rows : List (List Bool)} {L : Nat} (g : GR rows L) {tr : List Bool} (h : tr.length = L) : callF pg (k + 6) 35 [.d (rwD rows), .d (bsD tr)] st = .ok (.d (.tuple [bsD (alF rows tr).1, .tuple ((alF rows tr).2.map hvD)])) st := by
  have h5 := g.le
  have h8 := g.L8
  rw [call_eq (show pg[35]? = some (ri__law_along 34 31) from rfl)]
  simp [ri__law_along, runF, SN, EN, repD_list (n := rows.length) (by omega), setAll]
  obtain ⟨j, e, _⟩ := forL_junk (b := exs (exN (callF pg (k + 5)) 60 39) ri__law_along_body) (tg := .t [(.n 4), (.n 5)])
    (fun (p : Bool × Nat) => PyData.tuple [.int p.2, .bool p.1])
    (fun (s : AS) (j : Option RV × Option RV) => [some (.d (rwD rows)), some (.d (bsD tr)), some (.d (.list (s.2.map hvD))), some (.d (.tuple (s.1.map .bool))), j.1, j.2, none, none]) (fun s => st) (alStep rows) (alP rows) L tr.zipIdx 0 ([], List.replicate rows.length 0) (none, none) alP_0 (by simp [h]) (by
      rintro n s j ⟨mk, at'⟩ hn hs hm
      have hat : at' < L := by
        have := List.mem_zipIdx hm
        omega
      obtain ⟨p1, p2, p3⟩ := hs
      refine ⟨_, (some (.d (.int at')), some (.d (.bool mk))), rfl, ?_, alP_S ⟨p1, p2, p3⟩ _⟩
      have s1 : szOk rows.length = true := szOk_of (by omega)
      have s2 : szOk (s.1.length + 1) = true := szOk_of (by omega)
      have e3 := fun st => c__law_voted (k := k + 2) (st := st) (x := .list ((cls rows at').map .bool)) (y := .list (s.2.map hvD)) (bs := cls rows at') (l := s.2.map hv) (n := 62) rfl (by simp [hvD]) (by
        intro q hq
        obtain ⟨m, hm, rfl⟩ := List.mem_map.1 hq
        have := p3 m hm
        exact fok_hv (by omega)) (by simp; omega) (by decide)
      simp [s1, ri__law_along_body]
      rw [lcL_mapT (e := bsD) (g := fun r => .bool (r.getD at' false))]
      · have hc : (rows.map fun r => PyData.bool (r.getD at' false)) = (cls rows at').map .bool := by simp [cls]
        simp only [List.getD_eq_getElem?_getD] at hc
        simp [hc, e3, s2, zipOf, binD]
        rw [lcL_mapT (g := fun (q : List Bool × Nat) => hvD (if q.1.getD at' false != mk then q.2 + 1 else q.2))]
        · have s3 : szOk (min rows.length s.2.length) = true := szOk_of (by omega)
          simp [alStep, s3, Function.comp_def, cls, List.zip_map_left]
        · rintro ⟨r, m⟩ hq
          have := p3 m (List.of_mem_zip hq).2
          have hr := g.len r (List.of_mem_zip hq).1
          refine ⟨_, rfl, ?_⟩
          have hix := bs_ix (r := r) (n := at') (by omega)
          revert hix
          generalize r.getD at' false = c
          intro hix
          cases c <;> cases mk <;> simp [wipeL, hvD, c_lhalf m (by omega), hix]
      · intro r hr
        have := g.len r hr
        exact ⟨_, rfl, by simp [wipeL, bs_ix (show at' < r.length by omega)]⟩)
  have hl : (tr.zipIdx.foldl (alStep rows) ([], List.replicate rows.length 0)) = alF rows tr := rfl
  rw [hl] at e
  simp only [List.map_replicate, show hvD 0 = .tuple [.int 1, .int 1] from rfl, List.map_nil, ri__law_along_body] at e
  rw [e]
  simp [bsD]
end
end K11
end Sm

set_option Elab.async false
set_option linter.all false
set_option maxRecDepth 100000
/-! K11i: mistakes, truths, the worst truth, the bound. -/
namespace Sm
open PySem PySem.Spec
/-! min over whole numbers -/
theorem alikes_map {α : Type} {e : α → D} {as : List α} (h : ∀ a ∈ as, ∀ b ∈ as, PySem.W.alike (e a) (e b) = true) : alikes (as.map e) = true := by
  simp only [alikes, List.all_map, List.all_eq_true, Function.comp_apply]
  exact fun a ha b hb => h a ha b hb
theorem minOk_map {α : Type} {e : α → D} {as : List α} (h : ∀ a ∈ as, ∀ b ∈ as, PySem.W.alike (e a) (e b) = true) (hn : ∀ a ∈ as, isNon (e a) = false) (hp : ∀ a ∈ as, (e a).plain = true) (hd : ∀ a ∈ as, (e a).depth ≤ 64) : minOk (as.map e) = true := by
  simp only [minOk, Bool.and_eq_true, decide_eq_true_eq, List.all_map, List.all_eq_true, Function.comp_apply]
  exact ⟨⟨⟨alikes_map h, fun a ha => by rw [hn a ha]; rfl⟩, plainAll_map hp⟩, depthAll_map hd⟩
def mnI : List Int → Int
  | [] => 0
  | n :: ns => ns.foldl min n
theorem minOk_ints (ns : List Int) : minOk (ns.map .int) = true := minOk_map (fun a _ b _ => by simp [PySem.W.alike]) (fun a _ => rfl) (fun a _ => by simp [PyData.plain]) (fun a _ => by simp [PyData.depth])
theorem minO_ints {st : Sto} {ns : List Int} (hn : ns ≠ []) : minO (some (ns.map .int)) st = .ok (.d (.int (mnI ns))) st := by
  rw [minO_of (by simp [hn]) (minOk_ints ns)]
  cases ns with
  | nil => exact absurd rfl hn
  | cons n ns => simp [mnD, PySem.W.minD_ints, mnI]
theorem foldl_min_le : ∀ (ns : List Int) (n : Int), ns.foldl min n ≤ n ∧ ∀ m ∈ ns, ns.foldl min n ≤ m
  | [], n => ⟨Int.le_refl _, by simp⟩
  | m :: ns, n => by
    obtain ⟨h1, h2⟩ := foldl_min_le ns (min n m)
    refine ⟨by simp only [List.foldl_cons]; omega, ?_⟩
    intro z hz
    rcases List.mem_cons.1 hz with rfl | hz
    · simp only [List.foldl_cons]; omega
    · exact h2 z hz
theorem foldl_min_mem : ∀ (ns : List Int) (n : Int), ns.foldl min n = n ∨ ns.foldl min n ∈ ns
  | [], n => .inl rfl
  | m :: ns, n => by
    rcases foldl_min_mem ns (min n m) with h | h
    · rw [List.foldl_cons, h]
      rcases Int.min_def n m ▸ (by split <;> simp : (if n ≤ m then n else m) = n ∨ (if n ≤ m then n else m) = m) with e | e
      · exact .inl e
      · exact .inr (by rw [e]; simp)
    · exact .inr (by rw [List.foldl_cons]; exact List.mem_cons_of_mem _ h)
theorem mnI_le {ns : List Int} {m : Int} (h : m ∈ ns) : mnI ns ≤ m := by
  cases ns with
  | nil => simp at h
  | cons n ns =>
    rcases List.mem_cons.1 h with rfl | h
    · exact (foldl_min_le ns _).1
    · exact (foldl_min_le ns _).2 m h
theorem mnI_mem {ns : List Int} (h : ns ≠ []) : mnI ns ∈ ns := by
  cases ns with
  | nil => exact absurd rfl h
  | cons n ns =>
    rcases foldl_min_mem ns n with e | e
    · simp [mnI, e]
    · exact List.mem_cons_of_mem _ e
namespace K11
section
variable {k : Nat} {st rest : Sto}
theorem c__law_wrong {x y : D} {a b : List Bool} (hx : seqOf x = some (a.map .bool)) (hy : seqOf y = some (b.map .bool)) (ha : a.length ≤ 1000) : callF pg (k + 1) 37 [.d x, .d y] st = .ok (.d (.int (wr a b))) st := by
  have s1 : szOk (min a.length b.length) = true := szOk_of (by omega)
  rw [call_eq (show pg[37]? = some ri__law_wrong from rfl)]
  simp [ri__law_wrong, runF, SN, EN, hx, hy, zipOf, s1]
  rw [lcL_filterT (p := fun (q : Bool × Bool) => q.1 != q.2) (g := fun _ => .int 1)]
  · simp [wr]
  · rintro ⟨u, v⟩ _
    exact ⟨_, rfl, by cases u <;> cases v <;> simp [wipeL], fun _ => by simp [wipeL]⟩
theorem al_len {rows : List (List Bool)} {tr : List Bool} : (alF rows tr).1.length = tr.length := by
  have : ∀ (l : List (Bool × Nat)) (s : AS), (l.foldl (alStep rows) s).1.length = s.1.length + l.length := by
    intro l
    induction l with
    | nil => intro s; rfl
    | cons p l ih => intro s; rw [List.foldl_cons, ih]; simp [alStep]; omega
  rw [alF, this]; simp
def each (rows : List (List Bool)) (tr : List Bool) : List Int := rows.map fun r => (wr r tr : Int)
theorem c_mistakes_along_x {x y : D} (e : ∀ st, callF pg (k + 1) 9 [.d x] st = .ok (.d (.bool false)) st) : callF pg (k + 4) 17 [.d x, .d y] st = .ex 0 [x] st := by
  have e1 := fun st => c_calls_along_x (k := k) (st := st) (y := y) e
  rw [call_eq (show pg[17]? = some (ri_mistakes_along 16) from rfl)]
  simp [ri_mistakes_along, runF, SN, EN, e1]
theorem c_mistakes_along_t {rows : List (List Bool)} {L : Nat} (g : GR rows L) {y : D} (h : chkT L y = false) : callF pg (k + 4) 17 [.d (rwD rows), .d y] st = .ex 0 [y] st := by
  have e1 := fun st => c_calls_along_t (k := k) (st := st) g h
  rw [call_eq (show pg[17]? = some (ri_mistakes_along 16) from rfl)]
  simp [ri_mistakes_along, runF, SN, EN, e1]
theorem c_mistakes_along {rows : List (List Bool)} {L : Nat} (g : GR rows L) {tr : List Bool} (h : tr.length = L) :
    callF pg (k + 7) 17 [.d (rwD rows), .d (bsD tr)] st = .ok (.d (.tuple [.int (wr (alF rows tr).1 tr), .tuple ((each rows tr).map .int)])) st := by
  have h8 := g.L8
  have h5 := g.le
  have e1 := fun st => c_calls_along (k := k) (st := st) g h
  have s1 : szOk rows.length = true := szOk_of (by omega)
  have hl := al_len (rows := rows) (tr := tr)
  have s2 : szOk (min (alF rows tr).1.length tr.length) = true := szOk_of (by omega)
  rw [call_eq (show pg[17]? = some (ri_mistakes_along 16) from rfl)]
  simp [ri_mistakes_along, runF, SN, EN, e1, s1]
  rw [lcL_mapT (e := bsD) (g := fun r => .int (wr r tr))]
  · simp [zipOf]
    rw [lcL_filterT (p := fun (q : Bool × Bool) => q.1 != q.2) (g := fun _ => .int 1)]
    · simp [wr, each, s2]
    · rintro ⟨u, v⟩ _
      exact ⟨_, rfl, by cases u <;> cases v <;> simp [wipeL], fun _ => by simp [wipeL]⟩
  · intro r hr
    have hrl := g.len r hr
    have s3 : szOk (min r.length tr.length) = true := szOk_of (by omega)
    refine ⟨_, rfl, ?_⟩
    simp [wipeL, zipOf, s3]
    rw [lcL_filterT (p := fun (q : Bool × Bool) => q.1 != q.2) (g := fun _ => .int 1)]
    · simp [wr]
    · rintro ⟨u, v⟩ _
      exact ⟨_, rfl, by cases u <;> cases v <;> simp [wipeL], fun _ => by simp [wipeL]⟩
/-! truths -/
def trStep (s : List (List Bool)) (_ : Nat) : List (List Bool) := s.flatMap fun t => [t ++ [false], t ++ [true]]
def trF (n : Nat) : List (List Bool) := (List.range n).foldl trStep [[]]
def trP (n : Nat) (s : List (List Bool)) : Prop := s.length = 2 ^ n ∧ ∀ t ∈ s, t.length = n
theorem trP_S {n m : Nat} {s : List (List Bool)} (h : trP n s) : trP (n + 1) (trStep s m) := by
  obtain ⟨h1, h2⟩ := h
  refine ⟨?_, ?_⟩
  · simp only [trStep, List.length_flatMap, List.length_cons, List.length_nil, List.map_const', List.sum_replicate_nat, h1, Nat.pow_succ]
  · intro t ht
    simp only [trStep, List.mem_flatMap, List.mem_cons, List.not_mem_nil, or_false] at ht
    obtain ⟨u, hu, rfl | rfl⟩ := ht <;> simp [h2 u hu]
theorem trF_S (n : Nat) : trF (n + 1) = trStep (trF n) n := by simp [trF, List.range_succ]
theorem trP_F (n : Nat) : trP n (trF n) := by
  induction n with
  | zero => exact ⟨rfl, by simp [trF]⟩
  | succ n ih => rw [trF_S]; exact trP_S ih
theorem trF_mem : ∀ (n : Nat) (t : List Bool), t.length = n → t ∈ trF n
  | 0, t, h => by rw [List.length_eq_zero_iff.1 h]; simp [trF]
  | n + 1, t, h => by
    have hne : t ≠ [] := fun e => by rw [e] at h; simp at h
    have e := List.dropLast_concat_getLast hne
    rw [trF_S, trStep, List.mem_flatMap]
    refine ⟨t.dropLast, trF_mem n _ (by simp [h]), ?_⟩
    rw [← e]
    cases t.getLast hne <;> simp
/-- truths, typed -/
theorem trStep_map (s : List (List Bool)) (n : Nat) : s.flatMap (fun t => [bsD (t ++ [false]), bsD (t ++ [true])]) = (trStep s n).map bsD := by simp [trStep, List.map_flatMap]
theorem c_truths_of {rows : List (List Bool)} {L : Nat} (g : GR rows L) : callF pg (k + 1) 18 [.d (rwD rows)] st = .ok (.d (.list ((trF L).map bsD))) st := by
  have h8 := g.L8
  obtain ⟨r0, hr0, hi⟩ := g.ix
  have hr : rngOk 0 (L : Int) = true := rngOk_n (by omega)
  rw [call_eq (show pg[18]? = some ri_truths_of from rfl)]
  simp [ri_truths_of, runF, SN, EN, hi, hr0, hr]
  obtain ⟨j, e, _⟩ := forL_junk (b := exs (exN (callF pg k) 60 39) [.asg (.n 1) (.lc2 [3, 4] [4] (.n 3) (.e (.v 1)) none (.n 4) (.e (.tup [(false, (.c (.bool false))), (false, (.c (.bool true)))])) none (.tup [(true, (.v 3)), (false, (.v 4))]))]) (tg := .n 2)
    (fun (n : Nat) => PyData.int n) (fun (s : List (List Bool)) (j : Option RV) => [some (.d (rwD rows)), some (.d (.list (s.map bsD))), j, none, none]) (fun s => st) trStep trP L (List.range L) 0 [[]] none ⟨rfl, by simp⟩ (by simp) (by
      intro n s j m hn hs hm
      have hs' := trP_S (m := m) hs
      refine ⟨_, some (.d (.int m)), rfl, ?_, hs'⟩
      simp
      rw [lc2L_mapT (e := bsD) (g := fun t => [bsD (t ++ [false]), bsD (t ++ [true])])]
      · have s1 : szOk (trStep s m).length = true := szOk_of (by
          rw [hs'.1]
          have : 2 ^ (n + 1) ≤ 2 ^ 9 := Nat.pow_le_pow_right (by decide) (by omega)
          omega)
        rw [trStep_map s m]
        simp [s1]
      · intro t ht
        have s1 : szOk (t.length + 1) = true := szOk_of (by have := hs.2 t ht; omega)
        exact ⟨_, _, rfl, by simp [wipeL]; rfl, by simp [lcL, bindT, evC, wipeL, s1, bsD]⟩)
  have hl : (List.range L).foldl trStep [[]] = trF L := rfl
  rw [hl] at e
  simp only [List.map_cons, List.map_nil, show bsD [] = .tuple [] from rfl] at e
  simp [e]
theorem lstsOf_map {α : Type} (g : α → List D) : ∀ as : List α, lstsOf (as.map fun a => .list (g a)) = some (as.map g)
  | [] => rfl
  | a :: as => by simp only [List.map_cons, lstsOf, lstsOf_map g as, Option.map_some]
theorem c__law_truths {L : Nat} (h8 : L ≤ 8) : callF pg (k + 1) 36 [.d (.int L)] st = .ok (.d (.list ((trF L).map bsD))) st := by
  have hr : rngOk 0 (L : Int) = true := rngOk_n (by omega)
  rw [call_eq (show pg[36]? = some ri__law_truths from rfl)]
  simp [ri__law_truths, runF, SN, EN, hr]
  obtain ⟨j, e, _⟩ := forL_junk (b := exs (exN (callF pg k) 60 39) [.asg (.n 1) (.sumL (.lc [3] (.n 3) (.e (.v 1)) none (.lst [(false, (.bin .Add (.v 3) (.tup [(false, (.c (.bool false)))]))), (false, (.bin .Add (.v 3) (.tup [(false, (.c (.bool true)))])))])) (.lst []))]) (tg := .n 2)
    (fun (n : Nat) => PyData.int n) (fun (s : List (List Bool)) (j : Option RV) => [some (.d (.int L)), some (.d (.list (s.map bsD))), j, none]) (fun s => st) trStep trP L (List.range L) 0 [[]] none ⟨rfl, by simp⟩ (by simp) (by
      intro n s j m hn hs hm
      have hs' := trP_S (m := m) hs
      refine ⟨_, some (.d (.int m)), rfl, ?_, hs'⟩
      have hp : 2 ^ n ≤ 2 ^ 8 := Nat.pow_le_pow_right (by decide) (by omega)
      have s0 : szOk s.length = true := szOk_of (by rw [hs.1]; omega)
      simp [s0]
      rw [lcL_mapT (e := bsD) (g := fun t => .list [bsD (t ++ [false]), bsD (t ++ [true])])]
      · have s1 : szOk (trStep s m).length = true := szOk_of (by rw [hs'.1, Nat.pow_succ]; omega)
        have e1 : (s.map fun t => [bsD (t ++ [false]), bsD (t ++ [true])]).flatten = (trStep s m).map bsD := by rw [← trStep_map s m, List.flatMap_def]
        have e2 : (List.map (List.length ∘ fun a => [bsD (a ++ [false]), bsD (a ++ [true])]) s).sum = (trStep s m).length := by
          have := congrArg List.length e1
          simpa [List.length_flatten] using this
        simp only [sumLD, lstsOf_map]
        simp [sumLD, lstsOf_map, e1, e2, s1]
      · intro t ht
        have s1 : szOk (t.length + 1) = true := szOk_of (by have := hs.2 t ht; omega)
        exact ⟨_, rfl, by simp [wipeL, bsD, binD, s1]⟩)
  have hl : (List.range L).foldl trStep [[]] = trF L := rfl
  rw [hl] at e
  simp only [List.map_cons, List.map_nil, show bsD [] = .tuple [] from rfl] at e
  simp [e]
end
end K11
end Sm

set_option Elab.async false
set_option linter.all false
set_option maxRecDepth 100000
/-! K11j: the worst truth, the bound. -/
namespace Sm
open PySem PySem.Spec
theorem mnD_mem {α : Type} {e : α → D} {as : List α} (h : as ≠ []) : ∃ a ∈ as, mnD (as.map e) = e a := by
  cases as with
  | nil => exact absurd rfl h
  | cons a as =>
    have : ∀ (l : List α) (b : α), ∃ c, (c = b ∨ c ∈ l) ∧ PySem.W.minD (e b) (l.map e) = e c := by
      intro l
      induction l with
      | nil => intro b; exact ⟨b, .inl rfl, rfl⟩
      | cons d l ih =>
        intro b
        unfold PySem.W.minD
        rw [List.map_cons, List.foldl_cons]
        split
        · obtain ⟨c, h1, h2⟩ := ih d
          exact ⟨c, .inr (by rcases h1 with rfl | h1 <;> simp [*]), h2⟩
        · obtain ⟨c, h1, h2⟩ := ih b
          exact ⟨c, by rcases h1 with rfl | h1 <;> simp [*], h2⟩
    obtain ⟨c, h1, h2⟩ := this as a
    exact ⟨c, by simpa using h1, h2⟩
namespace K11
section
variable {k : Nat} {st rest : Sto}
def wrs (rows : List (List Bool)) (tr : List Bool) : Nat := wr (alF rows tr).1 tr
theorem each_ne {rows : List (List Bool)} {L : Nat} (g : GR rows L) (tr : List Bool) : each rows tr ≠ [] := by
  have := g.ne
  simpa [each] using this
def wl (rows : List (List Bool)) (L : Nat) (b : Int) : List (Int × List Bool) := ((trF L).filter fun t => decide (mnI (each rows t) ≤ b)).map fun t => (-(wrs rows t : Int), t)
def wd (p : Int × List Bool) : D := .tuple [.int p.1, bsD p.2]
theorem wd_minOk (l : List (Int × List Bool)) : minOk (l.map wd) = true := by
  have al : ∀ as bs : List Bool, PySem.W.alikeAll (as.map .bool) (bs.map .bool) = true := by
    intro as
    induction as with
    | nil => intro bs; cases bs <;> simp [PySem.W.alikeAll]
    | cons a as ih => intro bs; cases bs <;> simp [PySem.W.alikeAll, PySem.W.alike, ih]
  refine minOk_map (fun a _ b _ => by simp [wd, bsD, PySem.W.alike, PySem.W.alikeAll, al]) (fun a _ => rfl) (fun a _ => ?_) (fun a _ => ?_)
  · have := plainAll_map (e := PyData.bool) (as := a.2) (fun _ _ => by simp [PyData.plain])
    simp [wd, bsD, PyData.plain, PyData.plainAll, this]
  · have := depthAll_map (e := PyData.bool) (as := a.2) (d := 0) (fun _ _ => by simp [PyData.depth])
    simp [wd, bsD, PyData.depth, PyData.depthAll] at this ⊢
    omega
/-- the worst truth, as both tell it -/
def wtD (l : List (Int × List Bool)) : D := match mnD (l.map wd) with
  | .tuple [.int a, t] => .tuple [.int (-a), t]
  | _ => .none
theorem wt_mem {l : List (Int × List Bool)} (h : l ≠ []) : ∃ p ∈ l, mnD (l.map wd) = wd p ∧ wtD l = .tuple [.int (-p.1), bsD p.2] := by
  obtain ⟨p, hp, e⟩ := mnD_mem (e := wd) h
  exact ⟨p, hp, e, by simp only [wtD, e, wd]⟩
theorem c_worst_truth_x {x y : D} (e : ∀ st, callF pg (k + 1) 9 [.d x] st = .ok (.d (.bool false)) st) : callF pg (k + 3) 19 [.d x, .d y] st = .ex 0 [x] st := by
  have e1 := fun st => c_check_rows_x (k := k) (st := st) e
  rw [call_eq (show pg[19]? = some (ri_worst_truth 10 1 18 17) from rfl)]
  simp [ri_worst_truth, runF, SN, EN, e1]
theorem c_worst_truth_b {rows : List (List Bool)} {L : Nat} (g : GR rows L) {y : D} (h : isFr y 0 8 = false) : callF pg (k + 3) 19 [.d (rwD rows), .d y] st = .ex 0 [y] st := by
  have e1 := fun st => c_check_rows (k := k) (st := st) g
  have e2 := fun st => c_is_from (Pg := pg) (i := 1) (j := 0) (k := k) (st := st) rfl rfl y 0 8
  simp only [h] at e2
  rw [call_eq (show pg[19]? = some (ri_worst_truth 10 1 18 17) from rfl)]
  simp [ri_worst_truth, runF, SN, EN, e1, e2]
theorem c_worst_truth {rows : List (List Bool)} {L : Nat} (g : GR rows L) {b : Int} (h0 : 0 ≤ b) (h8 : b ≤ 8) (hw : wl rows L b ≠ []) : callF pg (k + 8) 19 [.d (rwD rows), .d (.int b)] st = .ok (.d (wtD (wl rows L b))) st := by
  have hL := g.L8
  have e1 := fun st => c_check_rows (k := k + 5) (st := st) g
  have e2 := fun st => c_is_from (Pg := pg) (i := 1) (j := 0) (k := k + 5) (st := st) rfl rfl (.int b) 0 8
  simp only [isFr, decide_eq_true h0, decide_eq_true h8, Bool.and_self] at e2
  have e3 := fun st => c_truths_of (k := k + 6) (st := st) g
  have hP := trP_F L
  have hp : 2 ^ L ≤ 2 ^ 8 := Nat.pow_le_pow_right (by decide) hL
  have s0 : szOk (trF L).length = true := szOk_of (by rw [hP.1]; omega)
  rw [call_eq (show pg[19]? = some (ri_worst_truth 10 1 18 17) from rfl)]
  simp [ri_worst_truth, runF, SN, EN, e1, e2, e3, s0]
  rw [lcL_filterT (e := bsD) (p := fun t => decide (mnI (each rows t) ≤ b)) (g := fun t => wd (-(wrs rows t : Int), t))]
  · have e4 : (((trF L).filter fun t => decide (mnI (each rows t) ≤ b)).map fun t => wd (-(wrs rows t : Int), t)) = (wl rows L b).map wd := by simp [wl, Function.comp_def]
    obtain ⟨p, hp, m1, m2⟩ := wt_mem hw
    have i0 : ixD (wd p) (.int 0) = some (.int p.1) := rfl
    have i1 : ixD (wd p) (.int 1) = some (bsD p.2) := rfl
    rw [e4]
    simp [minO_of (show (wl rows L b).map wd ≠ [] by simp [hw]) (wd_minOk _), m1, i0, i1, m2]
  · intro t ht
    have e5 := fun st => c_mistakes_along (k := k) (st := st) g (hP.2 t ht)
    have i0 : ∀ x y : D, ixD (.tuple [x, y]) (.int 0) = some x := fun _ _ => rfl
    have i1 : ∀ x y : D, ixD (.tuple [x, y]) (.int 1) = some y := fun _ _ => rfl
    exact ⟨_, rfl, by simp [wipeL, e5, i1, minO_ints (each_ne g t)], fun _ => by simp [wipeL, e5, i0, wd, wrs]⟩
/-! the bound -/
theorem lr_fold {n : Nat} {a : Int} : (List.range n).foldl (fun (s : Int × Int) (_ : Nat) => (4 * s.1, 3 * s.2)) (1, a) = (4 ^ n, 3 ^ n * a) := by
  induction n with
  | zero => simp
  | succ n ih =>
    rw [List.range_succ, List.foldl_append, ih]
    simp only [List.foldl_cons, List.foldl_nil, Int.pow_succ, Prod.mk.injEq]
    constructor
    · omega
    · rw [Int.mul_comm (3 ^ n) 3, Int.mul_assoc]
theorem db_fold {n : Nat} {a : Int} : (List.range n).foldl (fun (s : Int) (_ : Nat) => 2 * s) a = 2 ^ n * a := by
  induction n with
  | zero => simp
  | succ n ih =>
    rw [List.range_succ, List.foldl_append, ih]
    simp only [List.foldl_cons, List.foldl_nil, Int.pow_succ]
    rw [Int.mul_comm (2 ^ n) 2, Int.mul_assoc]
theorem mn_nat {rows : List (List Bool)} {L : Nat} (g : GR rows L) (tr : List Bool) : ∃ n : Nat, mnI (each rows tr) = n ∧ n ≤ L ∧ (∃ r ∈ rows, n = wr r tr) ∧ ∀ r ∈ rows, n ≤ wr r tr := by
  have h := mnI_mem (each_ne g tr)
  obtain ⟨r, hr, e⟩ := List.mem_map.1 h
  refine ⟨wr r tr, e.symm, ?_, ⟨r, hr, rfl⟩, ?_⟩
  · have := wr_le (a := r) (b := tr)
    have := g.len r hr
    omega
  · intro q hq
    have := mnI_le (ns := each rows tr) (m := (wr q tr : Int)) (List.mem_map.2 ⟨q, hq, rfl⟩)
    omega
theorem c_within_x {x y : D} (e : ∀ st, callF pg (k + 1) 9 [.d x] st = .ok (.d (.bool false)) st) : callF pg (k + 5) 20 [.d x, .d y] st = .ex 0 [x] st := by
  have e1 := fun st => c_mistakes_along_x (k := k) (st := st) (y := y) e
  rw [call_eq (show pg[20]? = some (ri_is_within_bound 17) from rfl)]
  simp [ri_is_within_bound, runF, SN, EN, ex_asgT, e1]
theorem c_within {rows : List (List Bool)} {L : Nat} (g : GR rows L) {tr : List Bool} (h : tr.length = L) :
    callF pg (k + 8) 20 [.d (rwD rows), .d (bsD tr)] st = .ok (.d (.bool (decide (((4 : Int) ^ wrs rows tr) ≤ 2 ^ (mnI (each rows tr)).toNat * ((3 : Int) ^ wrs rows tr * (rows.length : Int)))))) st := by
  have h8 := g.L8
  have e1 := fun st => c_mistakes_along (k := k) (st := st) g h
  obtain ⟨n, hn, hn8, _, _⟩ := mn_nat g tr
  have hwl : wrs rows tr ≤ 8 := by
    have := wr_le (a := (alF rows tr).1) (b := tr)
    have := al_len (rows := rows) (tr := tr)
    unfold wrs; omega
  have hr1 : rngOk 0 (wrs rows tr : Int) = true := rngOk_n (by omega)
  have hr2 : rngOk 0 (n : Int) = true := rngOk_n (by omega)
  rw [call_eq (show pg[20]? = some (ri_is_within_bound 17) from rfl)]
  rw [hn]
  obtain ⟨j1, f1, _⟩ := forL_junk (b := exs (exN (callF pg (k + 7)) 60 39) [.par [4, 5] [(.bin .Mult (.c (.int (4))) (.v 4)), (.bin .Mult (.c (.int (3))) (.v 5))]]) (tg := .n 6)
    (fun (n : Nat) => PyData.int n) (fun (s : Int × Int) (j : Option RV) => [some (.d (rwD rows)), some (.d (bsD tr)), some (.d (.int (wrs rows tr))), some (.d (.tuple ((each rows tr).map .int))), some (.d (.int s.1)), some (.d (.int s.2)), j]) (fun s => st) (fun s _ => (4 * s.1, 3 * s.2)) (fun _ _ => True) (wrs rows tr) (List.range (wrs rows tr)) 0 (1, (rows.length : Int)) none trivial (by simp) (by
      intro n s j m hn hs hm
      exact ⟨_, some (.d (.int m)), rfl, by simp [binD_mull, setAll], trivial⟩)
  rw [lr_fold] at f1
  obtain ⟨j2, f2, _⟩ := forL_junk (b := exs (exN (callF pg (k + 7)) 60 39) [.aug 5 .Mult (.c (.int (2)))]) (tg := .n 6)
    (fun (n : Nat) => PyData.int n) (fun (s : Int) (j : Option RV) => [some (.d (rwD rows)), some (.d (bsD tr)), some (.d (.int (wrs rows tr))), some (.d (.tuple ((each rows tr).map .int))), some (.d (.int ((4 : Int) ^ wrs rows tr))), some (.d (.int s)), j]) (fun s => st) (fun s _ => 2 * s) (fun _ _ => True) n (List.range n) 0 ((3 : Int) ^ wrs rows tr * (rows.length : Int)) j1 trivial (by simp) (by
      intro n s j m hn hs hm
      exact ⟨_, some (.d (.int m)), rfl, by simp [binD_mulr, isIntD, Int.mul_comm], trivial⟩)
  rw [db_fold] at f2
  simp only [wrs] at f1 f2 hr1
  simp [ri_is_within_bound, runF, SN, EN, ex_asgT, bindT, bindTs, e1, setAll, hr1]
  rw [f1]
  simp [minO_ints (each_ne g tr), hn, hr2]
  rw [f2]
  simp [wrs]
  rfl
end
end K11
end Sm

set_option Elab.async false
set_option linter.all false
set_option maxRecDepth 100000
/-! K11k: deciding voters, least lots. -/
namespace Sm
open PySem PySem.Spec
@[simp] theorem seq_lt {t : List Nat} : seqOf (ltD t) = some (t.map fun (n : Nat) => PyData.int (n : Int)) := Eq.trans rfl rfl
theorem foldl_filt {α : Type} (p : α → Bool) : ∀ (l s : List α), l.foldl (fun s a => if p a then s ++ [a] else s) s = s ++ l.filter p
  | [], s => by simp
  | a :: l, s => by
    rw [List.foldl_cons, foldl_filt p l, List.filter_cons]
    cases p a <;> simp
namespace K11
section
variable {k : Nat} {st rest : Sto}
def trn (bs : List Bool) (n : Nat) : List Bool := bs.zipIdx.map fun p => p.1 != decide (p.2 = n)
theorem trn_len {bs : List Bool} {n : Nat} : (trn bs n).length = bs.length := by simp [trn]
def dcs (bs : List Bool) (l : List Ra) : List Nat := (List.range bs.length).filter fun n => vtF (trn bs n) l != vtF bs l
def inD (n : Nat) : D := .int (n : Int)
theorem c_deciding_x {y z : D} (h : chkC y = false) : callF pg (k + 7) 22 [.d y, .d z] st = .ex 0 [y] st := by
  have e1 := fun st => c_voted_x (k := k) (st := st) (z := z) h
  rw [call_eq (show pg[22]? = some (ri_deciding 14 13) from rfl)]
  simp [ri_deciding, runF, SN, EN, e1]
theorem c_deciding {bs : List Bool} {l : List Ra} (h1 : 1 ≤ bs.length) (h5 : bs.length ≤ 5) (hl : chkS bs.length l = true) : callF pg (k + 7) 22 [.d (bsD bs), .d (frsD l)] st = .ok (.d (ltD (dcs bs l))) st := by
  obtain ⟨l1, l2⟩ := chkS_fok hl
  have e0 := fun st => c_voted (k := k) (st := st) h1 h5 (l := l) (fun q hq => ⟨sm_mono (l2 q hq).2.2.1 (by decide), sm_mono (l2 q hq).2.2.2 (by decide)⟩) (by omega)
  simp only [hl, if_true] at e0
  have hr : rngOk 0 (bs.length : Int) = true := rngOk_n (by omega)
  have s1 : szOk bs.length = true := szOk_of (by omega)
  rw [call_eq (show pg[22]? = some (ri_deciding 14 13) from rfl)]
  obtain ⟨j, e, _⟩ := forL_junk (b := exs (exN (callF pg (k + 6)) 60 39) [.asg (.n 5) (.blt .tuple (.lc [6, 7] (.t [(.n 6), (.n 7)]) (.en (.v 0)) none (.cmp .NotEq (.v 7) (.cmp .Eq (.v 6) (.v 4))))), .iff (.cmp .NotEq (.call 13 [(.v 5), (.v 1)]) (.v 2)) [.app (.v 3) (.v 4)] []]) (tg := .n 4)
    (fun (n : Nat) => PyData.int n) (fun (s : List Nat) (j : Option RV × Option RV) => [some (.d (bsD bs)), some (.d (frsD l)), some (.d (.bool (vtF bs l))), some (.r st.length), j.1, j.2, none, none]) (fun s => st ++ [.lst (s.map inD)]) (fun s n => if vtF (trn bs n) l != vtF bs l then s ++ [n] else s) (fun n s => s.length ≤ n) bs.length (List.range bs.length) 0 [] (none, none) (by simp) (by simp) (by
      intro n s j m hn hs hm
      refine ⟨_, (some (.d (.int m)), some (.d (bsD (trn bs m)))), rfl, ?_, by split <;> (try simp) <;> omega⟩
      have e2 := fun st => c_votes_for (k := k + 1) (st := st) (x := bsD (trn bs m)) (y := frsD l) rfl rfl l2 (by omega) (by omega)
      have s2 : szOk (s.length + 1) = true := szOk_of (by omega)
      simp [s1]
      rw [lcL_mapT (g := fun (p : Bool × Nat) => .bool (p.1 != decide (p.2 = m)))]
      · have e3 : (bs.zipIdx.map fun p => PyData.bool (p.1 != decide (p.2 = m))) = (trn bs m).map .bool := by simp [trn]
        rw [e3]
        simp only [bsD] at e2
        have e2' : ∀ st, callF pg (k + 6) 13 [.d (.tuple ((trn bs m).map .bool)), .d (frsD l)] st = .ok (.d (.bool (vtF (trn bs m) l))) st := e2
        cases f1 : vtF (trn bs m) l <;> cases f2 : vtF bs l <;> rw [f1] at e2' <;> simp [e2', f1, f2, s2, bsD, inD]
      · rintro ⟨u, v⟩ _
        refine ⟨_, rfl, ?_⟩
        have : decide ((v : Int) = m) = decide (v = m) := by by_cases h : v = m <;> simp [h]; omega
        cases u <;> by_cases h : v = m <;> simp [wipeL, h] <;> omega)
  rw [foldl_filt] at e
  simp only [List.nil_append, List.map_nil] at e
  simp [ri_deciding, runF, SN, EN, e0, hr]
  rw [e]
  simp [ltD, dcs, inD]
/-! lots -/
def lotStep (s : List (List Nat)) (n : Nat) : List (List Nat) := s ++ s.map fun t => t ++ [n]
def lotF (n : Nat) : List (List Nat) := (List.range n).foldl lotStep [[]]
def lotP (n : Nat) (s : List (List Nat)) : Prop := s.length = 2 ^ n ∧ ∀ t ∈ s, t.length ≤ n
theorem lotP_S {n m : Nat} {s : List (List Nat)} (h : lotP n s) : lotP (n + 1) (lotStep s m) := by
  obtain ⟨h1, h2⟩ := h
  refine ⟨by simp [lotStep, h1, Nat.pow_succ]; omega, ?_⟩
  intro t ht
  simp only [lotStep, List.mem_append, List.mem_map] at ht
  rcases ht with ht | ⟨u, hu, rfl⟩
  · have := h2 t ht; omega
  · have := h2 u hu; simp; omega
theorem lotF_S (n : Nat) : lotF (n + 1) = lotStep (lotF n) n := by simp [lotF, List.range_succ]
theorem lotP_F (n : Nat) : lotP n (lotF n) := by
  induction n with
  | zero => exact ⟨rfl, by simp [lotF]⟩
  | succ n ih => rw [lotF_S]; exact lotP_S ih
theorem lotStep_map (s : List (List Nat)) (n : Nat) : s.map ltD ++ s.map (fun t => ltD (t ++ [n])) = (lotStep s n).map ltD := by simp [lotStep]
/-- the lots that catch -/
def vl (l : List Ra) (n : Nat) (t : List Nat) : Bool := vtF ((List.range n).map fun m => decide (m ∈ t)) l
def fnF (l : List Ra) (n : Nat) : List (List Nat) := srL ((lotF n).filter (vl l n))
def lsF (l : List Ra) (n : Nat) : List (List Nat) := (fnF l n).filter fun t => !(fnF l n).any fun o => !decide (o = t) && o.all fun m => decide (m ∈ t)
theorem fn_len {l : List Ra} {n : Nat} (h : n ≤ 5) : (fnF l n).length ≤ 32 := by
  have h1 := (lotP_F n).1
  have h2 : 2 ^ n ≤ 2 ^ 5 := Nat.pow_le_pow_right (by decide) h
  have h3 := List.length_filter_le (vl l n) (lotF n)
  rw [fnF, srL_len]; omega
theorem fn_mem {l : List Ra} {n : Nat} {t : List Nat} (h : t ∈ fnF l n) : t.length ≤ n := by
  rw [fnF, srL_mem, List.mem_filter] at h
  exact (lotP_F n).2 t h.1
/-- what is asked of a lot, along its others -/
theorem in_all {cf : CF} {en : Nat} {o t : List Nat} {lo : Lo} {i j : Nat} (ho : o.length ≤ 5) (hij : j ≠ i) (hi : i < lo.length) (ht : lo[j]? = some (some (.d (ltD t)))) :
    lcL (ev cf (en + 2)) [i] (.n i) none (.cmp .In (.v i) (.v j)) lo (o.map fun (n : Nat) => PyData.int (n : Int)) st = .ok (o.map fun m => .bool (decide (m ∈ t))) st := by
  rw [lcL_mapT (g := fun m => .bool (decide (m ∈ t)))]
  intro m _
  refine ⟨_, rfl, ?_⟩
  simp [wipeL, hi, List.getElem?_set, hij, Ne.symm hij, ht, cmp_in]
end
end K11
end Sm

set_option Elab.async false
set_option linter.all false
set_option maxRecDepth 100000
/-! K11l: lots and least lots, run. -/
namespace Sm
open PySem PySem.Spec
namespace K11
section
variable {k : Nat} {st rest : Sto}
theorem sortLn_ok (l : List (List Nat)) (h : l.length ≤ 1000) : ((l.map ltD).all isTup && noLsts (l.map ltD) && sortable ((l.map ltD).map keyLn) && szOk (l.map ltD).length) = true := by
  have s1 : szOk l.length = true := szOk_of (by omega)
  have h1 : (l.map ltD).all isTup = true := by simp [List.all_map, Function.comp_def, isTup, ltD]
  rw [h1, noLsts_lt, sortable_lt, List.length_map, s1]; rfl
theorem c__law_lots {n : Nat} (h : n ≤ 5) : callF pg (k + 1) 33 [.d (.int n)] st = .ok (.d (.list ((srL (lotF n)).map ltD))) st := by
  have hr : rngOk 0 (n : Int) = true := rngOk_n (by omega)
  have hp : ∀ m ≤ 5, 2 ^ m ≤ 2 ^ 5 := fun m hm => Nat.pow_le_pow_right (by decide) hm
  rw [call_eq (show pg[33]? = some ri__law_lots from rfl)]
  obtain ⟨j, e, _⟩ := forL_junk (b := exs (exN (callF pg k) 60 39) [.asg (.n 1) (.bin .Add (.v 1) (.lc [3] (.n 3) (.e (.v 1)) none (.bin .Add (.v 3) (.tup [(false, (.v 2))]))))]) (tg := .n 2)
    (fun (n : Nat) => PyData.int n) (fun (s : List (List Nat)) (j : Option RV) => [some (.d (.int n)), some (.d (.list (s.map ltD))), j, none]) (fun _ => st) lotStep lotP n (List.range n) 0 [[]] none ⟨rfl, by simp⟩ (by simp) (by
      intro i s j m hi hs hm
      have hs' := lotP_S (m := m) hs
      have h1 := hp i (by omega)
      have h2 := hs.1
      have s1 : szOk s.length = true := szOk_of (by omega)
      have s2 : szOk (s.length + s.length) = true := szOk_of (by omega)
      refine ⟨_, some (.d (.int m)), rfl, ?_, hs'⟩
      simp [s1]
      rw [lcL_mapT (e := ltD) (g := fun t => ltD (t ++ [m]))]
      · simp [binD, s2, lotStep_map]
      · intro t ht
        have s3 : szOk (t.length + 1) = true := szOk_of (by have := hs.2 t ht; omega)
        refine ⟨_, rfl, ?_⟩
        simp [wipeL, ltD, binD, s3])
  have hl : (List.range n).foldl lotStep [[]] = lotF n := rfl
  rw [hl] at e
  simp only [List.map_cons, List.map_nil, show ltD [] = .tuple [] from rfl] at e
  simp [ri__law_lots, runF, SN, EN, hr]
  rw [e]
  have ok := sortLn_ok (lotF n) (by rw [(lotP_F n).1]; have := hp n h; omega)
  simp [sortLnO_of ok, sortLn_map]
theorem c_least_catching_n {x : D} (h : x = .none ∨ x = .tuple []) : callF pg (k + 6) 23 [.d x] st = .ex 0 [x] st := by
  rw [call_eq (show pg[23]? = some (ri_least_catching 12 13) from rfl)]
  rcases h with rfl | rfl
  · simp [ri_least_catching, runF, SN, EN]
  · simp [ri_least_catching, runF, SN, EN]
theorem c_least_catching_x {l : List Ra} (h : l.length = 0 ∨ 5 < l.length ∨ chkS l.length l = false) (hl : ∀ q ∈ l, sm 64 q.1 ∧ sm 64 q.2) (hm : l.length ≤ 1000) : callF pg (k + 6) 23 [.d (frsD l)] st = .ex 0 [frsD l] st := by
  have e1 := fun st => c_check_shares (k := k + 1) (st := st) (x := frsD l) (n := l.length) len_fr hl hm
  rw [call_eq (show pg[23]? = some (ri_least_catching 12 13) from rfl)]
  by_cases h1 : 1 ≤ l.length
  · by_cases h2 : l.length ≤ 5
    · have h3 : chkS l.length l = false := by rcases h with h | h | h <;> first | exact h | omega
      simp only [h3] at e1
      simp [ri_least_catching, runF, SN, EN, e1, show (1 : Int) ≤ l.length by omega, show (l.length : Int) ≤ 5 by omega]
    · simp [ri_least_catching, runF, SN, EN, show (1 : Int) ≤ l.length by omega, show ¬ (l.length : Int) ≤ 5 by omega]
  · simp [ri_least_catching, runF, SN, EN, show ¬ (1 : Int) ≤ l.length by omega]
theorem ins_map {n : Nat} {t : List Nat} : ((List.range n).map fun m => decide (m ∈ t)).map PyData.bool = (List.range n).map fun m => PyData.bool (decide (m ∈ t)) := by simp
theorem c_least_catching {l : List Ra} (h1 : 1 ≤ l.length) (h5 : l.length ≤ 5) (hl : chkS l.length l = true) : callF pg (k + 6) 23 [.d (frsD l)] st = .ok (.d (.tuple ((lsF l l.length).map ltD))) st := by
  obtain ⟨_, l2⟩ := chkS_fok hl
  have e1 := fun st => c_check_shares (k := k + 1) (st := st) (x := frsD l) (n := l.length) len_fr (fun q hq => ⟨sm_mono (l2 q hq).2.2.1 (by decide), sm_mono (l2 q hq).2.2.2 (by decide)⟩) (by omega)
  simp only [hl, if_true] at e1
  generalize hn : l.length = n at *
  have hr : rngOk 0 (n : Int) = true := rngOk_n (by omega)
  have hp : ∀ m ≤ 5, 2 ^ m ≤ 2 ^ 5 := fun m hm => Nat.pow_le_pow_right (by decide) hm
  rw [call_eq (show pg[23]? = some (ri_least_catching 12 13) from rfl)]
  obtain ⟨j, e, _⟩ := forL_junk (b := exs (exN (callF pg (k + 5)) 60 39) [.asg (.n 1) (.bin .Add (.v 1) (.lc [4] (.n 4) (.e (.v 1)) none (.tup [(true, (.v 4)), (false, (.v 2))])))]) (tg := .n 2)
    (fun (n : Nat) => PyData.int n) (fun (s : List (List Nat)) (j : Option RV) => [some (.d (frsD l)), some (.d (.list (s.map ltD))), j, none, none, none]) (fun _ => st) lotStep lotP n (List.range n) 0 [[]] none ⟨rfl, by simp⟩ (by simp) (by
      intro i s j m hi hs hm
      have hs' := lotP_S (m := m) hs
      have h1 := hp i (by omega)
      have h2 := hs.1
      have s1 : szOk s.length = true := szOk_of (by omega)
      have s2 : szOk (s.length + s.length) = true := szOk_of (by omega)
      refine ⟨_, some (.d (.int m)), rfl, ?_, hs'⟩
      simp [s1]
      rw [lcL_mapT (e := ltD) (g := fun t => ltD (t ++ [m]))]
      · simp [binD, s2, lotStep_map]
      · intro t ht
        have s3 : szOk (t.length + 1) = true := szOk_of (by have := hs.2 t ht; omega)
        refine ⟨_, rfl, ?_⟩
        simp [wipeL, s3]
        simp [ltD])
  have hlo : (List.range n).foldl lotStep [[]] = lotF n := rfl
  rw [hlo] at e
  simp only [List.map_cons, List.map_nil, show ltD [] = .tuple [] from rfl] at e
  have hL := (lotP_F n).1
  have hp5 := hp n h5
  have s1 : szOk (lotF n).length = true := szOk_of (by omega)
  have s2 : szOk n = true := szOk_of (by omega)
  simp [ri_least_catching, runF, SN, EN, e1, hn, hr, show (1 : Int) ≤ n by omega, show (n : Int) ≤ 5 by omega]
  rw [e]
  simp [s1]
  rw [lcL_filterT (e := ltD) (p := vl l n) (g := ltD)]
  · have ok := sortLn_ok ((lotF n).filter (vl l n)) (Nat.le_trans (List.length_filter_le _ _) (by omega))
    have hf : (srL ((lotF n).filter (vl l n))) = fnF l n := rfl
    have fl := fn_len (l := l) h5
    have s4 : szOk (fnF l n).length = true := szOk_of (by omega)
    simp [sortLnO_of ok, sortLn_map, hf, s4]
    rw [lcL_filterT (e := ltD) (p := fun t => !(fnF l n).any fun o => !decide (o = t) && o.all fun m => decide (m ∈ t)) (g := ltD)]
    · simp [lsF]
    · intro t ht
      have htl := fn_mem ht
      refine ⟨_, rfl, ?_, fun _ => by simp [wipeL]⟩
      simp [wipeL, s4]
      rw [lcL_mapT (e := ltD) (g := fun o => .bool (!decide (o = t) && o.all fun m => decide (m ∈ t)))]
      · simp [Function.comp_def]
      · intro o ho
        have hol := fn_mem ho
        refine ⟨_, rfl, ?_⟩
        have s3 : szOk o.length = true := szOk_of (by omega)
        by_cases c : o = t
        · simp [wipeL, cmp_neL, c]
        · simp [wipeL, cmp_neL, c, s3]
          rw [in_all (t := t) (by omega) (by decide) (by simp) (by simp)]
          simp [Function.comp_def]
  · intro t ht
    have htl := (lotP_F n).2 t ht
    have e2 := fun st => c_votes_for (k := k) (st := st) (x := .list ((List.range n).map fun m => .bool (decide (m ∈ t)))) (y := frsD l) (bs := (List.range n).map fun m => decide (m ∈ t)) (l := l) (by simp) rfl l2 (by omega) (by omega)
    refine ⟨_, rfl, ?_, fun _ => by simp [wipeL]⟩
    simp [wipeL, hn, hr, s2]
    rw [lcL_mapT (e := fun (m : Nat) => PyData.int m) (g := fun m => .bool (decide (m ∈ t)))]
    · simp [e2, vl]
    · intro m _
      exact ⟨_, rfl, by simp [wipeL, cmp_in]⟩
end
end K11
end Sm

set_option Elab.async false
set_option linter.all false
set_option maxRecDepth 100000
/-! K11m: what is refused. -/
namespace Sm
open PySem PySem.Spec
/-- every item passes -/
theorem forL_all {b : Lo → Sto → Rs Fl} {tg : Tg} {st : Sto} (L : Option RV → Lo) (Q : D → Prop) : ∀ (xs : List D) (j : Option RV), (∀ x ∈ xs, Q x) → (∀ j x, Q x → ∃ lo', bindT tg x (L j) = some lo' ∧ ∃ j', b lo' st = .ok (.nx (L j')) st) → ∃ j', forL b tg xs (L j) st = .ok (.nx (L j')) st
  | [], j, _, _ => ⟨j, rfl⟩
  | x :: xs, j, hq, h => by
    obtain ⟨lo', h1, j1, h2⟩ := h j x (hq x (by simp))
    obtain ⟨j2, h3⟩ := forL_all L Q xs j1 (fun y hy => hq y (by simp [hy])) h
    exact ⟨j2, by simp only [forL, h1, h2, h3]⟩
theorem rpk {x : D} (h : (rpl x && decide (x.depth ≤ 64) && decide (wsh x ≤ 1000000)) = true) : reprOk x = true := by
  simp only [Bool.and_eq_true, decide_eq_true_eq] at h
  exact reprOk_w h.1.1 h.1.2 h.2
namespace K11
section
variable {k : Nat} {st rest : Sto}
def rb1 : List S := [.iff (.call 9 [(.v 3)]) [.ret (.c (.bool false))] [], .iff (.not (.refu (.call 16 [(.v 3), (.c .none)]) (.v 3))) [.ret (.c (.bool false))] [], .iff (.not (.refu (.call 15 [(.v 3), (.c .none)]) (.v 3))) [.ret (.c (.bool false))] [], .iff (.not (.refu (.call 19 [(.v 3), (.c .none)]) (.v 3))) [.ret (.c (.bool false))] [], .iff (.not (.refu (.call 20 [(.v 3), (.c .none)]) (.v 3))) [.ret (.c (.bool false))] []]
def rb2 : List S := [.iff (.not (.refu (.call 17 [(.v 0), (.v 3)]) (.v 3))) [.ret (.c (.bool false))] [], .iff (.not (.refu (.call 15 [(.v 0), (.v 3)]) (.v 3))) [.ret (.c (.bool false))] []]
def rb3 : List S := [.iff (.not (.refu (.call 19 [(.v 0), (.v 3)]) (.v 3))) [.ret (.c (.bool false))] []]
def rb4 : List S := [.iff (.not (.refu (.call 14 [(.v 3), (.c .none)]) (.v 3))) [.ret (.c (.bool false))] [], .iff (.not (.refu (.call 22 [(.v 3), (.c .none)]) (.v 3))) [.ret (.c (.bool false))] []]
def rb5 : List S := [.iff (.not (.refu (.call 14 [(.v 4), (.v 3)]) (.v 3))) [.ret (.c (.bool false))] [], .iff (.not (.refu (.call 21 [(.v 4), (.v 2), (.v 3)]) (.v 3))) [.ret (.c (.bool false))] []]
def rb6 : List S := [.iff (.not (.refu (.call 23 [(.v 3)]) (.v 3))) [.ret (.c (.bool false))] []]
/-! is_rows of what is no rows -/
def nine : D := .tuple [.bool true, .bool true, .bool true, .bool true, .bool true, .bool true, .bool true, .bool true, .bool true]
def bad1 : List D := [.none, .tuple [], .list [.tuple []], .tuple [.tuple [.int 1]], .tuple [.tuple [], .tuple [.bool true]], .tuple [nine], .tuple [.tuple [], .tuple [], .tuple [], .tuple [], .tuple [], .tuple []]]
theorem bad1_rows : ∀ x ∈ bad1, ∀ k st, callF pg (k + 1) 9 [.d x] st = .ok (.d (.bool false)) st := by
  intro x hx k st
  rw [call_eq (show pg[9]? = some ri_is_rows from rfl)]
  have i0 : ∀ (x : D) (xs : List D), ixD (.tuple (x :: xs)) (.int 0) = some x := fun x xs => atI_nat 0
  simp only [bad1, List.mem_cons, List.not_mem_nil, or_false] at hx
  rcases hx with rfl | rfl | rfl | rfl | rfl | rfl | rfl <;> simp [ri_is_rows, runF, SN, EN, lcL, bindT, wipeL, evC, boolsOf, isB_eq, isBl, nine, i0]
theorem bad1_repr : ∀ x ∈ bad1, reprOk x = true := by
  intro x hx
  simp only [bad1, List.mem_cons, List.not_mem_nil, or_false] at hx
  rcases hx with rfl | rfl | rfl | rfl | rfl | rfl | rfl <;> exact rpk (by decide)
theorem rf1 {a b c o : Option RV} (j : Option RV) : ∃ j', forL (exs (exN (callF pg (k + 9)) 60 39) rb1) (.n 3) bad1 [a, b, c, j, o] st = .ok (.nx [a, b, c, j', o]) st := by
  refine forL_all (fun j => [a, b, c, j, o]) (fun x => x ∈ bad1) bad1 j (fun x hx => hx) ?_
  intro j x hx
  have h1 := bad1_rows x hx
  have hr := bad1_repr x hx
  have h0 := h1 (k + 8) st
  have h2 := fun st => c_calls_along_x (k := k + 6) (st := st) (y := .none) fun st => h1 (k + 6) st
  have h3 := fun st => c_shares_behind_x (k := k + 6) (st := st) (y := .none) fun st => h1 (k + 6) st
  have h4 := fun st => c_worst_truth_x (k := k + 6) (st := st) (y := .none) fun st => h1 (k + 6) st
  have h5 := fun st => c_within_x (k := k + 4) (st := st) (y := .none) fun st => h1 (k + 4) st
  refine ⟨_, rfl, some (.d x), ?_⟩
  simp [rb1, h0, h2, h3, h4, h5, hr]
theorem rf2 {rows : List (List Bool)} {L : Nat} (g : GR rows L) {xs : List D} (hq : ∀ x ∈ xs, chkT L x = false ∧ reprOk x = true) {b c o : Option RV} (j : Option RV) : ∃ j', forL (exs (exN (callF pg (k + 9)) 60 39) rb2) (.n 3) xs [some (.d (rwD rows)), b, c, j, o] st = .ok (.nx [some (.d (rwD rows)), b, c, j', o]) st := by
  refine forL_all (fun j => [some (.d (rwD rows)), b, c, j, o]) (fun x => chkT L x = false ∧ reprOk x = true) xs j hq ?_
  intro j x ⟨hx, hr⟩
  have h2 := fun st => c_mistakes_along_t (k := k + 5) (st := st) g hx
  have h3 := fun st => c_shares_behind_t (k := k + 6) (st := st) g hx
  refine ⟨_, rfl, some (.d x), ?_⟩
  simp [rb2, h2, h3, hr]
theorem rf3 {rows : List (List Bool)} {L : Nat} (g : GR rows L) {xs : List D} (hq : ∀ x ∈ xs, isFr x 0 8 = false ∧ reprOk x = true) {b c o : Option RV} (j : Option RV) : ∃ j', forL (exs (exN (callF pg (k + 9)) 60 39) rb3) (.n 3) xs [some (.d (rwD rows)), b, c, j, o] st = .ok (.nx [some (.d (rwD rows)), b, c, j', o]) st := by
  refine forL_all (fun j => [some (.d (rwD rows)), b, c, j, o]) (fun x => isFr x 0 8 = false ∧ reprOk x = true) xs j hq ?_
  intro j x ⟨hx, hr⟩
  have h2 := fun st => c_worst_truth_b (k := k + 6) (st := st) g hx
  refine ⟨_, rfl, some (.d x), ?_⟩
  simp [rb3, h2, hr]
theorem rf4 {xs : List D} (hq : ∀ x ∈ xs, chkC x = false ∧ reprOk x = true) {a b c o : Option RV} (j : Option RV) : ∃ j', forL (exs (exN (callF pg (k + 9)) 60 39) rb4) (.n 3) xs [a, b, c, j, o] st = .ok (.nx [a, b, c, j', o]) st := by
  refine forL_all (fun j => [a, b, c, j, o]) (fun x => chkC x = false ∧ reprOk x = true) xs j hq ?_
  intro j x ⟨hx, hr⟩
  have h2 := fun st => c_voted_x (k := k + 3) (st := st) (z := .none) hx
  have h3 := fun st => c_deciding_x (k := k + 2) (st := st) (z := .none) hx
  refine ⟨_, rfl, some (.d x), ?_⟩
  simp [rb4, h2, h3, hr]
/-- shares that are refused -/
def badS (n : Nat) (x : D) : Prop := x = .none ∨ ∃ l : List Ra, x = frsD l ∧ chkS n l = false ∧ l.length ≤ 1000 ∧ (∀ q ∈ l, sm 64 q.1 ∧ sm 64 q.2) ∧ reprOk x = true
theorem rf5 {bs : List Bool} {l : List Ra} (h1 : 1 ≤ bs.length) (h5 : bs.length ≤ 5) (hl : chkS bs.length l = true) {xs : List D} (hq : ∀ x ∈ xs, badS bs.length x) {a b : Option RV} (j : Option RV) :
    ∃ j', forL (exs (exN (callF pg (k + 9)) 60 39) rb5) (.n 3) xs [a, b, some (.d (frsD l)), j, some (.d (bsD bs))] st = .ok (.nx [a, b, some (.d (frsD l)), j', some (.d (bsD bs))]) st := by
  refine forL_all (fun j => [a, b, some (.d (frsD l)), j, some (.d (bsD bs))]) (badS bs.length) xs j hq ?_
  intro j x hx
  refine ⟨_, rfl, some (.d x), ?_⟩
  rcases hx with rfl | ⟨l', rfl, c1, c2, c3, hr⟩
  · have h2 := fun st => c_voted_n (k := k + 3) (st := st) h1 h5
    have h3 := fun st => c_shares_matter_n (k := k + 2) (st := st) h1 h5 hl
    have hr : reprOk .none = true := rpk (by decide)
    simp [rb5, h2, h3, hr]
  · have h2 := fun st => c_voted (k := k + 3) (st := st) h1 h5 c3 c2
    have h3 := fun st => c_shares_matter (k := k + 2) (st := st) h1 h5 hl c3 c2
    simp only [c1] at h2 h3
    simp [rb5, h2, h3, hr]
theorem rf6 {xs : List D} (hq : ∀ x ∈ xs, x = .none ∨ x = .tuple [] ∨ ∃ l : List Ra, x = frsD l ∧ (l.length = 0 ∨ 5 < l.length ∨ chkS l.length l = false) ∧ l.length ≤ 1000 ∧ (∀ q ∈ l, sm 64 q.1 ∧ sm 64 q.2) ∧ reprOk x = true) {a b c o : Option RV} (j : Option RV) :
    ∃ j', forL (exs (exN (callF pg (k + 9)) 60 39) rb6) (.n 3) xs [a, b, c, j, o] st = .ok (.nx [a, b, c, j', o]) st := by
  refine forL_all (fun j => [a, b, c, j, o]) (fun x => x = .none ∨ x = .tuple [] ∨ ∃ l : List Ra, x = frsD l ∧ (l.length = 0 ∨ 5 < l.length ∨ chkS l.length l = false) ∧ l.length ≤ 1000 ∧ (∀ q ∈ l, sm 64 q.1 ∧ sm 64 q.2) ∧ reprOk x = true) xs j hq ?_
  intro j x hx
  refine ⟨_, rfl, some (.d x), ?_⟩
  rcases hx with rfl | rfl | ⟨l', rfl, c1, c2, c3, hr⟩
  · have h2 := fun st => c_least_catching_n (k := k + 3) (st := st) (x := .none) (.inl rfl)
    have hr : reprOk .none = true := rpk (by decide)
    simp [rb6, h2, hr]
  · have h2 := fun st => c_least_catching_n (k := k + 3) (st := st) (x := .tuple []) (.inr rfl)
    have hr : reprOk (.tuple []) = true := rpk (by decide)
    simp [rb6, h2, hr]
  · have h2 := fun st => c_least_catching_x (k := k + 3) (st := st) c1 c3 c2
    simp [rb6, h2, hr]
/-! texts of rows and shares are short -/
theorem repr_bs {bs : List Bool} (h : bs.length ≤ 100) : reprOk (bsD bs) = true := by
  have h1 := rplA_map (e := PyData.bool) (as := bs) (fun _ _ => rfl)
  have h2 := wshA_map (e := PyData.bool) (as := bs) (d := 5) (fun _ _ => Nat.le_refl _)
  have h3 := depthAll_map (e := PyData.bool) (as := bs) (d := 0) (fun _ _ => by simp [PyData.depth])
  exact reprOk_w (by simpa [bsD, rpl] using h1) (by simp only [bsD, PyData.depth]; omega) (by simp only [bsD, wsh]; omega)
theorem repr_bl {bs : List Bool} (h : bs.length ≤ 100) : reprOk (.list (bs.map .bool)) = true := by
  have h1 := rplA_map (e := PyData.bool) (as := bs) (fun _ _ => rfl)
  have h2 := wshA_map (e := PyData.bool) (as := bs) (d := 5) (fun _ _ => Nat.le_refl _)
  have h3 := depthAll_map (e := PyData.bool) (as := bs) (d := 0) (fun _ _ => by simp [PyData.depth])
  exact reprOk_w (by simpa [rpl] using h1) (by simp only [PyData.depth]; omega) (by simp only [wsh]; omega)
theorem repr_ones {n : Nat} (h : n ≤ 100) : reprOk (.tuple (List.replicate n (.int 1))) = true := by
  have e : List.replicate n (PyData.int 1) = (List.replicate n ()).map fun _ => .int 1 := by simp
  rw [e]
  have h1 := rplA_map (e := fun _ : Unit => PyData.int 1) (as := List.replicate n ()) (fun _ _ => by decide)
  have h2 := wshA_map (e := fun _ : Unit => PyData.int 1) (as := List.replicate n ()) (d := 2) (fun _ _ => by decide)
  have h3 := depthAll_map (e := fun _ : Unit => PyData.int 1) (as := List.replicate n ()) (d := 0) (fun _ _ => by simp [PyData.depth])
  simp only [List.length_replicate] at h2
  exact reprOk_w (by simpa only [rpl] using h1) (by simp only [PyData.depth]; omega) (by simp only [wsh]; omega)
theorem repr_fr {l : List Ra} (h : l.length ≤ 100) (hs : ∀ q ∈ l, sm 64 q.1 ∧ sm 64 q.2) : reprOk (frsD l) = true := by
  have h1 := rplA_map (e := frD) (as := l) (fun q hq => by
    have a := sm_log (hs q hq).1
    have b := sm_log (hs q hq).2
    simp [frD, rpl, rplA]; omega)
  have h2 := wshA_map (e := frD) (as := l) (d := 140) (fun q hq => by
    have a := sm_log (hs q hq).1
    have b := sm_log (hs q hq).2
    simp [frD, wsh, wshA]; omega)
  have h3 := depthAll_map (e := frD) (as := l) (d := 1) (fun _ _ => by simp [frD, PyData.depth, PyData.depthAll])
  exact reprOk_w (by simpa [frsD, rpl] using h1) (by simp only [frsD, PyData.depth]; omega) (by simp only [frsD, wsh]; omega)
end
end K11
end Sm

set_option Elab.async false
set_option linter.all false
set_option maxRecDepth 100000
/-! K11n: _law_refused_right. -/
namespace Sm
open PySem PySem.Spec
namespace K11
section
variable {k : Nat} {st rest : Sto}
theorem rep9 : binD .Mult (.tuple [.bool true]) (.int 9) = some nine := Eq.trans rfl rfl
theorem rep6 : binD .Mult (.tuple [.tuple []]) (.int 6) = some (.tuple [.tuple [], .tuple [], .tuple [], .tuple [], .tuple [], .tuple []]) := Eq.trans rfl rfl
theorem rep6b : binD .Mult (.tuple [.bool true]) (.int 6) = some (.tuple [.bool true, .bool true, .bool true, .bool true, .bool true, .bool true]) := Eq.trans rfl rfl
theorem rep6c {x : D} : binD .Mult (.tuple [x]) (.int 6) = some (.tuple [x, x, x, x, x, x]) := Eq.trans rfl rfl
theorem cmp_tr {tr : List Bool} : cmpD .NotEq (bsD tr) (.tuple []) = some (!tr.isEmpty) := by
  have h := plainAll_map (e := PyData.bool) (as := tr) (fun _ _ => by simp [PyData.plain])
  have h1 : eqOk (bsD tr) (.tuple []) = true := by
    simp [eqOk, bsD, PyData.plain, PyData.plainAll, h, PyData.depth, PyData.depthAll]
  simp only [cmpD, h1, if_true]
  cases tr with
  | nil => simp [bsD, PyData.eqv, PyData.eqvAll]
  | cons b t => simp [bsD, PyData.eqv, PyData.eqvAll]
theorem frs_rep {n : Nat} {p : Ra} : PyData.tuple (List.replicate n (frD p)) = frsD (List.replicate n p) := by simp [frsD]
theorem smr {n : Nat} {p : Ra} (h : sm 64 p.1 ∧ sm 64 p.2) : ∀ q ∈ List.replicate n p, sm 64 q.1 ∧ sm 64 q.2 := by
  intro q hq
  rw [(List.mem_replicate.1 hq).2]
  exact h
theorem chkS_rep {n m : Nat} {p : Ra} (h1 : 1 ≤ n) (h : okS p = false) : chkS m (List.replicate n p) = false := by
  have : (List.replicate n p).all okS = false := by
    cases n with
    | zero => omega
    | succ n => simp [List.replicate_succ, h]
  simp [chkS, this]
theorem c__law_refused_right {rows : List (List Bool)} {L : Nat} (g : GR rows L) {tr : List Bool} (ht : tr.length = L) {l : List Ra} (h1 : 1 ≤ l.length) (h5 : l.length ≤ 5) (hl : chkS l.length l = true) :
    callF pg (k + 10) 38 [.d (rwD rows), .d (bsD tr), .d (frsD l)] st = .ok (.d (.bool true)) st := by
  have hL := g.L8
  obtain ⟨_, l2⟩ := chkS_fok hl
  have l3 : ∀ q ∈ l, sm 64 q.1 ∧ sm 64 q.2 := fun q hq => ⟨sm_mono (l2 q hq).2.2.1 (by decide), sm_mono (l2 q hq).2.2.2 (by decide)⟩
  have rN : reprOk .none = true := rpk (by decide)
  rw [call_eq (show pg[38]? = some (ri__law_refused_right 9 16 15 19 20 17 14 22 21 23) from rfl)]
  obtain ⟨j1, e1⟩ := rf1 (k := k) (st := st) (a := some (.d (rwD rows))) (b := some (.d (bsD tr))) (c := some (.d (frsD l))) (o := none) none
  simp only [bad1] at e1
  -- the third of the second lot
  have hthird : ∃ z, (if tr.isEmpty then PyData.tuple [.int 1] else .tuple (List.replicate L (.int 1))) = z ∧ chkT L z = false ∧ reprOk z = true := by
    cases tr with
    | nil =>
      simp only [List.length_nil] at ht
      exact ⟨_, rfl, by simp [chkT, ← ht], by simpa using rpk (x := .tuple [.int 1]) (by decide)⟩
    | cons b t =>
      refine ⟨_, rfl, ?_, repr_ones (by omega)⟩
      simp only [List.length_cons] at ht
      subst ht
      simp [chkT, isBl, List.replicate_succ]
  obtain ⟨z, hz, hz1, hz2⟩ := hthird
  have q1 : bsD (tr ++ [true]) = .tuple (tr.map .bool ++ [.bool true]) := by simp [bsD]
  obtain ⟨j2, e2⟩ := rf2 (k := k) (st := st) g (b := some (.d (bsD tr))) (c := some (.d (frsD l))) (o := none) (xs := [.none, bsD (tr ++ [true]), z, .list (tr.map .bool)]) (by
    intro x hx
    simp only [List.mem_cons, List.not_mem_nil, or_false] at hx
    rcases hx with rfl | rfl | rfl | rfl
    · exact ⟨rfl, rN⟩
    · exact ⟨by simp [chkT, bsD, ht], repr_bs (by simp; omega)⟩
    · exact ⟨hz1, hz2⟩
    · exact ⟨rfl, repr_bl (by omega)⟩) j1
  obtain ⟨j3, e3⟩ := rf3 (k := k) (st := st) g (b := some (.d (bsD tr))) (c := some (.d (frsD l))) (o := none) (xs := [.int (-1), .int 9, .none]) (by
    intro x hx
    simp only [List.mem_cons, List.not_mem_nil, or_false] at hx
    rcases hx with rfl | rfl | rfl
    · exact ⟨by decide, rpk (by decide)⟩
    · exact ⟨by decide, rpk (by decide)⟩
    · exact ⟨rfl, rN⟩) j2
  have hc : bsD (List.replicate l.length true) = .tuple (List.replicate l.length (.bool true)) := by simp [bsD]
  obtain ⟨j4, e4⟩ := rf4 (k := k) (st := st) (a := some (.d (rwD rows))) (b := some (.d (bsD tr))) (c := some (.d (frsD l))) (o := some (.d (bsD (List.replicate l.length true)))) (xs := [.none, .tuple [], .tuple [.int 1], .tuple [.bool true, .bool true, .bool true, .bool true, .bool true, .bool true], .list [.bool true]]) (by
    intro x hx
    simp only [List.mem_cons, List.not_mem_nil, or_false] at hx
    rcases hx with rfl | rfl | rfl | rfl | rfl <;> exact ⟨by decide, rpk (by decide)⟩) j3
  have f01 : frD (0, 1) = .tuple [.int 0, .int 1] := rfl
  have f24 : frD (2, 4) = .tuple [.int 2, .int 4] := rfl
  have f11 : frD (1, 1) = .tuple [.int 1, .int 1] := rfl
  have f1m : frD (-1, 1) = .tuple [.int (-1), .int 1] := rfl
  have f11' : frsD (l ++ [(1, 1)]) = .tuple (l.map frD ++ [.tuple [.int 1, .int 1]]) := by simp [frsD, f11]
  obtain ⟨j5, e5⟩ := rf5 (k := k) (st := st) (a := some (.d (rwD rows))) (b := some (.d (bsD tr))) (bs := List.replicate l.length true) (l := l) (by simpa using h1) (by simpa using h5) (by simpa using hl) (xs := [.none, frsD (List.replicate l.length (0, 1)), frsD (List.replicate l.length (2, 4)), frsD (l ++ [(1, 1)]), frsD (List.replicate l.length (-1, 1))]) (by
    intro x hx
    simp only [List.length_replicate]
    simp only [List.mem_cons, List.not_mem_nil, or_false] at hx
    have hm : ∀ p : Ra, okS p = false → sm 64 p.1 ∧ sm 64 p.2 → badS l.length (frsD (List.replicate l.length p)) := fun p hp hs => .inr ⟨_, rfl, chkS_rep h1 hp, by simp; omega, smr hs, repr_fr (by simp; omega) (smr hs)⟩
    rcases hx with rfl | rfl | rfl | rfl | rfl
    · exact .inl rfl
    · exact hm _ (by decide) ⟨by simp [sm], by simp [sm]⟩
    · exact hm _ (by decide) ⟨by simp [sm], by simp [sm]⟩
    · have hs : ∀ q ∈ l ++ [((1 : Int), (1 : Int))], sm 64 q.1 ∧ sm 64 q.2 := by
        intro q hq
        rcases List.mem_append.1 hq with hq | hq
        · exact l3 q hq
        · rw [List.mem_singleton.1 hq]; exact ⟨by simp [sm], by simp [sm]⟩
      exact .inr ⟨_, rfl, by simp [chkS], by simp; omega, hs, repr_fr (by simp; omega) hs⟩
    · exact hm _ (by decide) ⟨by simp [sm], by simp [sm]⟩) j4
  obtain ⟨j6, e6⟩ := rf6 (k := k) (st := st) (a := some (.d (rwD rows))) (b := some (.d (bsD tr))) (c := some (.d (frsD l))) (o := some (.d (bsD (List.replicate l.length true)))) (xs := [.none, .tuple [], frsD [(0, 1)], frsD (List.replicate 6 (1, 1))]) (by
    intro x hx
    simp only [List.mem_cons, List.not_mem_nil, or_false] at hx
    rcases hx with rfl | rfl | rfl | rfl
    · exact .inl rfl
    · exact .inr (.inl rfl)
    · exact .inr (.inr ⟨_, rfl, .inr (.inr (by decide)), by decide, by intro q hq; rw [List.mem_singleton.1 hq]; exact ⟨by simp [sm], by simp [sm]⟩, rpk (by decide)⟩)
    · exact .inr (.inr ⟨_, rfl, .inr (.inl (by decide)), by decide, smr ⟨by simp [sm], by simp [sm]⟩, rpk (by decide)⟩)) j5
  simp only [rb1] at e1
  simp only [rb2, q1] at e2
  simp only [rb3] at e3
  simp only [rb4, hc] at e4
  simp only [rb5, hc, ← frs_rep, f01, f24, f1m, f11'] at e5
  simp only [rb6, hc] at e6
  have e6' : (frsD [((0 : Int), (1 : Int))]) = .tuple [.tuple [.int 0, .int 1]] ∧ frsD (List.replicate 6 ((1 : Int), (1 : Int))) = .tuple [.tuple [.int 1, .int 1], .tuple [.int 1, .int 1], .tuple [.int 1, .int 1], .tuple [.int 1, .int 1], .tuple [.int 1, .int 1], .tuple [.int 1, .int 1]] := ⟨rfl, rfl⟩
  rw [e6'.1, e6'.2] at e6
  simp [ri__law_refused_right, runF, SN, EN, rep9, rep6]
  rw [e1]
  have s1 : szOk (tr.length + 1) = true := szOk_of (by omega)
  have s2 : szOk (l.length + 1) = true := szOk_of (by omega)
  have bT : ∀ xs : List D, szOk (tr.length + 1) = true → binD .Add (bsD tr) (.tuple [.bool true]) = some (.tuple (tr.map .bool ++ [.bool true])) := fun _ h => by simp [bsD, binD, h]
  have bL : bltD .list (bsD tr) = some (.list (tr.map .bool)) := by simp [bsD]
  have bS : binD .Add (frsD l) (.tuple [.tuple [.int 1, .int 1]]) = some (.tuple (l.map frD ++ [.tuple [.int 1, .int 1]])) := by simp [frsD, binD, s2]
  have hmid : (if tr = [] then Rs.ok (RV.d (.tuple [.int 1])) st else (Rs.of (binD .Mult (.tuple [.int 1]) (.int tr.length)) st).bind ret) = .ok (.d z) st := by
    by_cases he : tr = []
    · rw [if_pos he, ← hz]; simp [he]
    · rw [if_neg he, ← hz]
      have : 1 ≤ tr.length := by
        cases tr with
        | nil => exact absurd rfl he
        | cons _ _ => simp
      rw [repD_tup this (by omega), ht]
      simp [he]
  simp [bT [] s1, bL, cmp_tr]
  rw [hmid]
  simp
  rw [e2]
  simp
  rw [e3]
  simp [repD_tup h1 (show l.length ≤ 1000 by omega), rep6b]
  rw [e4]
  simp [repD_tup h1 (show l.length ≤ 1000 by omega), bS]
  rw [e5]
  simp [rep6c]
  rw [e6]
  simp
end
end K11
end Sm

set_option Elab.async false
set_option linter.all false
set_option maxRecDepth 100000
/-! K11o: the plain law: mistakes are bounded. -/
namespace Sm
open PySem PySem.Spec
namespace K11
theorem wr_cons {a b : Bool} {as bs : List Bool} : wr (a :: as) (b :: bs) = (if a != b then 1 else 0) + wr as bs := by
  simp only [wr, List.zip_cons_cons, List.filter_cons]
  cases a != b <;> simp; omega
/-- the shares after some marks -/
theorem al_snd (rows : List (List Bool)) : ∀ (tr : List Bool) (n : Nat) (f : List Bool) (c : List Bool → Nat), (∀ r ∈ rows, r.length = n + tr.length) →
    ((tr.zipIdx n).foldl (alStep rows) (f, rows.map c)).2 = rows.map fun r => c r + wr (r.drop n) tr
  | [], n, f, c, _ => by simp [wr]
  | mk :: tr, n, f, c, h => by
    rw [List.zipIdx_cons, List.foldl_cons]
    have e : alStep rows (f, rows.map c) (mk, n) = ((alStep rows (f, rows.map c) (mk, n)).1, rows.map fun r => if r.getD n false != mk then c r + 1 else c r) := by
      simp only [alStep, cls, List.zip_map', List.map_map, Prod.mk.injEq, true_and]
      rfl
    rw [e, al_snd rows tr (n + 1) _ _ (fun r hr => by have := h r hr; simp at this; omega)]
    refine List.map_congr_left fun r hr => ?_
    have hl := h r hr
    simp only [List.length_cons] at hl
    have hn : n < r.length := by omega
    rw [List.drop_eq_getElem_cons hn, wr_cons]
    have : r.getD n false = r[n] := by simp [hn]
    rw [this]
    split <;> omega
theorem al_behind {rows : List (List Bool)} {L : Nat} (g : GR rows L) {tr : List Bool} (h : tr.length = L) : (alF rows tr).2 = rows.map fun r => wr r tr := by
  have e : List.replicate rows.length 0 = rows.map fun _ => 0 := by simp [List.map_const']
  rw [alF, e, al_snd rows tr 0 [] (fun _ => 0) (fun r hr => by rw [g.len r hr, h]; omega)]
  simp
/-! weights -/
def SW (K : Nat) (ms : List Nat) : Nat := (ms.map fun m => 2 ^ (K - m)).sum
theorem pl_val {K m : Nat} (hm : m ≤ K) {p : Ra} {s : Int} (hp : 0 < p.2) (e : p.1 * 2 ^ K = p.2 * s) : 0 < (plF p (hv m)).2 ∧ (plF p (hv m)).1 * 2 ^ K = (plF p (hv m)).2 * (s + 2 ^ (K - m)) := by
  have hb : 0 < p.2 * (2 : Int) ^ m := Int.mul_pos hp (Int.pow_pos (by decide))
  have g := gcd_p (t := p.1 * 2 ^ m + 1 * p.2) hb
  have e1 := ln_mul1 (t := p.1 * 2 ^ m + 1 * p.2) (b := p.2 * 2 ^ m)
  have e2 := ln_mul2 (t := p.1 * 2 ^ m + 1 * p.2) (b := p.2 * 2 ^ m)
  have hpl : plF p (hv m) = lnF (p.1 * 2 ^ m + 1 * p.2) (p.2 * 2 ^ m) := rfl
  rw [hpl]
  generalize lnF (p.1 * 2 ^ m + 1 * p.2) (p.2 * 2 ^ m) = X at *
  generalize (Int.gcd (p.1 * 2 ^ m + 1 * p.2) (p.2 * 2 ^ m) : Int) = G at *
  have e3 : (2 : Int) ^ K = 2 ^ m * 2 ^ (K - m) := by rw [← Int.pow_add]; congr 1; omega
  refine ⟨?_, ?_⟩
  · have : 0 < X.2 * G := by omega
    exact Int.pos_of_mul_pos_left this (by omega)
  · refine Int.eq_of_mul_eq_mul_right (show G ≠ 0 by omega) ?_
    have l1 : X.1 * 2 ^ K * G = (X.1 * G) * 2 ^ K := by ac_rfl
    have l2 : X.2 * (s + 2 ^ (K - m)) * G = (X.2 * G) * (s + 2 ^ (K - m)) := by ac_rfl
    rw [l1, l2, e1, e2, Int.one_mul, Int.add_mul, Int.mul_add]
    have l3 : p.1 * 2 ^ m * 2 ^ K = (p.1 * 2 ^ K) * 2 ^ m := by ac_rfl
    rw [l3, e, e3]
    have l4 : p.2 * s * 2 ^ m = p.2 * 2 ^ m * s := by ac_rfl
    rw [l4]
    simp only [Int.mul_assoc]
theorem to_val {K : Nat} : ∀ (ms : List Nat) (p : Ra) (s : Int), (∀ m ∈ ms, m ≤ K) → 0 < p.2 → p.1 * 2 ^ K = p.2 * s → 0 < (toFr p (ms.map hv)).2 ∧ (toFr p (ms.map hv)).1 * 2 ^ K = (toFr p (ms.map hv)).2 * (s + (SW K ms : Int))
  | [], p, s, _, hp, e => ⟨hp, by simpa [toFr, SW] using e⟩
  | m :: ms, p, s, h, hp, e => by
    obtain ⟨h1, h2⟩ := pl_val (h m (by simp)) hp e
    obtain ⟨h3, h4⟩ := to_val ms (plF p (hv m)) (s + 2 ^ (K - m)) (fun m' hm => h m' (by simp [hm])) h1 h2
    have e2 : toFr p ((m :: ms).map hv) = toFr (plF p (hv m)) (ms.map hv) := rfl
    rw [e2]
    refine ⟨h3, ?_⟩
    rw [h4]
    congr 1
    simp only [SW, List.map_cons, List.sum_cons]
    push_cast
    omega
theorem vt_val {K : Nat} {bs : List Bool} {ms : List Nat} (h : ∀ m ∈ ms, m ≤ K) : vtF bs (ms.map hv) = decide (SW K ms ≤ 2 * SW K (((bs.zip ms).filter fun p => p.1).map (·.2))) := by
  have eb : badF bs (ms.map hv) = (((bs.zip ms).filter fun p => p.1).map (·.2)).map hv := by
    simp only [badF, List.zip_map_right, List.filter_map, List.map_map]
    rfl
  have hb : ∀ m ∈ ((bs.zip ms).filter fun p => p.1).map (·.2), m ≤ K := by
    intro m hm
    obtain ⟨q, hq, rfl⟩ := List.mem_map.1 hm
    exact h _ (List.of_mem_zip (List.mem_filter.1 hq).1).2
  obtain ⟨p1, v1⟩ := to_val ms (0, 1) 0 h (by decide) (by simp)
  obtain ⟨p2, v2⟩ := to_val (((bs.zip ms).filter fun p => p.1).map (·.2)) (0, 1) 0 hb (by decide) (by simp)
  unfold vtF
  rw [eb]
  have d : ∀ {p q : Prop} [Decidable p] [Decidable q], (p ↔ q) → decide p = decide q := fun h => decide_eq_decide.2 h
  apply d
  rw [toF, toF]
  generalize toFr (0, 1) (ms.map hv) = W at *
  generalize toFr (0, 1) ((((bs.zip ms).filter fun p => p.1).map (·.2)).map hv) = B at *
  generalize SW K ms = w at *
  generalize SW K (((bs.zip ms).filter fun p => p.1).map (·.2)) = b at *
  have hK : (0 : Int) < 2 ^ K := Int.pow_pos (by decide)
  simp only [Int.zero_add] at v1 v2
  rw [← Int.mul_le_mul_right hK]
  have l1 : W.1 * B.2 * 2 ^ K = (W.2 * B.2) * (w : Int) := by
    rw [show W.1 * B.2 * 2 ^ K = (W.1 * 2 ^ K) * B.2 by ac_rfl, v1]; ac_rfl
  have l2 : 2 * B.1 * W.2 * 2 ^ K = (W.2 * B.2) * (2 * (b : Int)) := by
    rw [show 2 * B.1 * W.2 * 2 ^ K = 2 * W.2 * (B.1 * 2 ^ K) by ac_rfl, v2]; ac_rfl
  rw [l1, l2, Int.mul_le_mul_left (Int.mul_pos p1 p2)]
  omega
/-! one mark -/
def Tw (K : Nat) (l : List (Bool × Nat)) : Nat := SW K ((l.filter fun p => p.1).map (·.2))
def Fw (K : Nat) (l : List (Bool × Nat)) : Nat := SW K ((l.filter fun p => !p.1).map (·.2))
theorem tf_sum {K : Nat} : ∀ l : List (Bool × Nat), SW K (l.map (·.2)) = Tw K l + Fw K l
  | [] => rfl
  | (b, m) :: l => by
    have := tf_sum (K := K) l
    cases b <;> simp [SW, Tw, Fw, List.filter_cons] at this ⊢ <;> omega
theorem half {K m : Nat} (h : m < K) : 2 * 2 ^ (K - (m + 1)) = 2 ^ (K - m) := by
  rw [show K - m = K - (m + 1) + 1 by omega, Nat.pow_succ]; omega
theorem tf_new {K : Nat} (mk : Bool) : ∀ l : List (Bool × Nat), (∀ p ∈ l, p.2 < K) → 2 * SW K (l.map fun q => if q.1 != mk then q.2 + 1 else q.2) = if mk then 2 * Tw K l + Fw K l else Tw K l + 2 * Fw K l
  | [], _ => by cases mk <;> rfl
  | (b, m) :: l, h => by
    have := tf_new (K := K) mk l fun p hp => h p (by simp [hp])
    have hh := half (h (b, m) (by simp))
    simp only at hh
    cases b <;> cases mk <;> simp [SW, Tw, Fw, List.filter_cons] at this ⊢ <;> omega
theorem one_mark {K : Nat} {bs : List Bool} {ms : List Nat} (hl : bs.length = ms.length) (h : ∀ m ∈ ms, m < K) (mk : Bool) :
    (if vtF bs (ms.map hv) != mk then 4 else 1) * SW K ((bs.zip ms).map fun q => if q.1 != mk then q.2 + 1 else q.2) ≤ (if vtF bs (ms.map hv) != mk then 3 else 1) * SW K ms := by
  have hz : ∀ p ∈ bs.zip ms, p.2 < K := fun p hp => h _ (List.of_mem_zip hp).2
  have e1 := tf_new (K := K) mk (bs.zip ms) hz
  have e2 := tf_sum (K := K) (bs.zip ms)
  have e3 : (bs.zip ms).map (·.2) = ms := by rw [← List.unzip_snd, List.unzip_zip_right (by omega)]
  rw [e3] at e2
  have e4 := vt_val (K := K) (bs := bs) (ms := ms) fun m hm => Nat.le_of_lt (h m hm)
  have e5 : SW K (((bs.zip ms).filter fun p => p.1).map (·.2)) = Tw K (bs.zip ms) := rfl
  rw [e5] at e4
  rw [e4]
  generalize SW K ((bs.zip ms).map fun q => if q.1 != mk then q.2 + 1 else q.2) = s' at *
  generalize SW K ms = s at *
  generalize Tw K (bs.zip ms) = t at *
  generalize Fw K (bs.zip ms) = f at *
  by_cases c : s ≤ 2 * t
  · cases mk <;> simp [c] at e1 ⊢ <;> omega
  · cases mk <;> simp [c] at e1 ⊢ <;> omega
theorem al_bound (rows : List (List Bool)) {K : Nat} : ∀ (tr : List Bool) (n : Nat) (f : List Bool) (ms : List Nat), ms.length = rows.length → (∀ m ∈ ms, m + tr.length ≤ K) →
    ∃ g, ((tr.zipIdx n).foldl (alStep rows) (f, ms)).1 = f ++ g ∧ g.length = tr.length ∧ 4 ^ wr g tr * SW K ((tr.zipIdx n).foldl (alStep rows) (f, ms)).2 ≤ 3 ^ wr g tr * SW K ms
  | [], n, f, ms, _, _ => ⟨[], by simp, rfl, by simp [wr]⟩
  | mk :: tr, n, f, ms, hl, h => by
    rw [List.zipIdx_cons, List.foldl_cons]
    have hl' : (cls rows n).length = ms.length := by simp [cls, hl]
    have o := one_mark (K := K) (bs := cls rows n) hl' (fun m hm => by have := h m hm; simp at this; omega) mk
    have e : alStep rows (f, ms) (mk, n) = (f ++ [vtF (cls rows n) (ms.map hv)], ((cls rows n).zip ms).map fun q => if q.1 != mk then q.2 + 1 else q.2) := rfl
    rw [e]
    obtain ⟨g, g1, g2, g3⟩ := al_bound rows (K := K) tr (n + 1) (f ++ [vtF (cls rows n) (ms.map hv)]) (((cls rows n).zip ms).map fun q => if q.1 != mk then q.2 + 1 else q.2) (by simp [hl, cls]) (by
      intro m hm
      obtain ⟨q, hq, rfl⟩ := List.mem_map.1 hm
      have := h q.2 (List.of_mem_zip hq).2
      simp only [List.length_cons] at this
      split <;> omega)
    refine ⟨vtF (cls rows n) (ms.map hv) :: g, by rw [g1]; simp, by simp [g2], ?_⟩
    rw [wr_cons]
    generalize ((tr.zipIdx (n + 1)).foldl (alStep rows) _).2 = z at *
    generalize SW K (((cls rows n).zip ms).map fun q => if q.1 != mk then q.2 + 1 else q.2) = s' at *
    generalize wr g tr = w at *
    cases c : vtF (cls rows n) (ms.map hv) != mk with
    | true =>
      rw [c] at o
      simp only [if_true, Nat.pow_add, Nat.pow_one] at o ⊢
      calc 4 * 4 ^ w * SW K z = 4 * (4 ^ w * SW K z) := by rw [Nat.mul_assoc]
        _ ≤ 4 * (3 ^ w * s') := Nat.mul_le_mul_left _ g3
        _ = 3 ^ w * (4 * s') := by rw [Nat.mul_left_comm]
        _ ≤ 3 ^ w * (3 * SW K ms) := Nat.mul_le_mul_left _ o
        _ = 3 * 3 ^ w * SW K ms := by rw [Nat.mul_left_comm, Nat.mul_assoc]
    | false =>
      rw [c] at o
      simp only [Bool.false_eq_true, if_false, Nat.zero_add, Nat.one_mul] at o ⊢
      exact Nat.le_trans g3 (Nat.mul_le_mul_left _ o)
theorem SW_rep {K n : Nat} : SW K (List.replicate n 0) = n * 2 ^ K := by simp [SW]
theorem SW_mem {K m : Nat} {ms : List Nat} (h : m ∈ ms) : 2 ^ (K - m) ≤ SW K ms := by
  induction ms with
  | nil => simp at h
  | cons a ms ih =>
    simp only [SW, List.map_cons, List.sum_cons] at ih ⊢
    rcases List.mem_cons.1 h with rfl | h
    · exact Nat.le_add_right _ _
    · exact Nat.le_trans (ih h) (Nat.le_add_left _ _)
theorem bound {rows : List (List Bool)} {L : Nat} (g : GR rows L) {tr : List Bool} (h : tr.length = L) : (4 : Int) ^ wrs rows tr ≤ 2 ^ (mnI (each rows tr)).toNat * ((3 : Int) ^ wrs rows tr * (rows.length : Int)) := by
  obtain ⟨n, hn, hnL, ⟨r, hr, hrn⟩, _⟩ := mn_nat g tr
  obtain ⟨c, c1, c2, c3⟩ := al_bound rows (K := L) tr 0 [] (List.replicate rows.length 0) (by simp) (fun m hm => by rw [(List.mem_replicate.1 hm).2]; omega)
  have e1 : (tr.zipIdx.foldl (alStep rows) ([], List.replicate rows.length 0)) = alF rows tr := rfl
  rw [e1] at c1 c3
  rw [List.nil_append] at c1
  rw [← c1, al_behind g h, SW_rep] at c3
  have m1 : n ∈ rows.map fun r => wr r tr := List.mem_map.2 ⟨r, hr, hrn.symm⟩
  have m2 := SW_mem (K := L) m1
  have w : wr (alF rows tr).1 tr = wrs rows tr := rfl
  rw [w] at c3
  have e2 : 2 ^ L = 2 ^ (L - n) * 2 ^ n := by rw [← Nat.pow_add]; congr 1; omega
  have key : 4 ^ wrs rows tr ≤ 2 ^ n * (3 ^ wrs rows tr * rows.length) := by
    have hp : 0 < 2 ^ (L - n) := Nat.pow_pos (by decide)
    refine Nat.le_of_mul_le_mul_right ?_ hp
    calc 4 ^ wrs rows tr * 2 ^ (L - n) ≤ 4 ^ wrs rows tr * SW L (rows.map fun r => wr r tr) := Nat.mul_le_mul_left _ m2
      _ ≤ 3 ^ wrs rows tr * (rows.length * 2 ^ L) := c3
      _ = 2 ^ n * (3 ^ wrs rows tr * rows.length) * 2 ^ (L - n) := by rw [e2]; ac_rfl
  rw [hn, Int.toNat_natCast]
  exact_mod_cast key
theorem wl_ne {rows : List (List Bool)} {L : Nat} (g : GR rows L) {b : Int} (h : 0 ≤ b) : wl rows L b ≠ [] := by
  obtain ⟨r, hr⟩ := List.exists_mem_of_ne_nil rows g.ne
  have w0 : ∀ r : List Bool, wr r r = 0 := by
    intro r
    induction r with
    | nil => rfl
    | cons a r ih => rw [wr_cons, ih]; simp
  have h1 : mnI (each rows r) ≤ 0 := by
    have := mnI_le (ns := each rows r) (m := (wr r r : Int)) (List.mem_map.2 ⟨r, hr, rfl⟩)
    rw [w0] at this
    exact this
  have hm : r ∈ trF L := trF_mem L r (g.len r hr)
  intro e
  have : (-(wrs rows r : Int), r) ∈ wl rows L b := by
    rw [wl, List.mem_map]
    exact ⟨r, List.mem_filter.2 ⟨hm, decide_eq_true (by omega)⟩, rfl⟩
  rw [e] at this
  simp at this
end K11
end Sm

set_option Elab.async false
set_option linter.all false
set_option maxRecDepth 100000
/-! K11q: the law, run. -/
namespace Sm
open PySem PySem.Spec
theorem cmp_ne_refl {x : D} (hp : x.plain = true) (hd : x.depth ≤ 64) : cmpD .NotEq x x = some false := by
  have e : eqOk x x = true := by simp [eqOk, hp, hd]
  have e2 : PyData.eqv x x = true := PySem.SeqAt.eqv_refl_plain x hp
  simp [cmpD, e, e2]
theorem cut_map (ns : List Int) (a b : Option Int) : ∃ ns' : List Int, cutL (ns.map .int) a b = ns'.map .int := ⟨_, by simp only [cutL, ← List.map_drop, ← List.map_take]; rfl⟩
namespace K11
section
variable {k : Nat} {st rest : Sto}
abbrev dw (ns : List Int) (c : Nat) : Sto := [drw ns c]
theorem nx (ns : List Int) (c : Nat) (b : Int) (hb : 0 < b) : ∃ r : Int, 0 ≤ r ∧ r < b ∧ callF pg (k + 10) 27 [.r 0, .d (.int b)] (dw ns c) = .ok (.d (.int r)) (dw ns (c + 1)) :=
  c_law_next (k := k + 7) (i1 := 24) (i2 := 26) (i3 := 25) rfl rfl rfl rfl ns c b hb
theorem draw_bits (ns : List Int) : ∀ (n c : Nat), ∃ (bs : List Bool) (c' : Nat), bs.length = n ∧ ∀ (m : Nat) (lo : Lo) (xs : List D), xs.length = n → lo[1]? = some (some (.r 0)) → 22 < lo.length →
    lcL (ev (callF pg (k + 10)) (m + 5)) [22] (.n 22) none (.cmp .Eq (.call 27 [.v 1, .c (.int 2)]) (.c (.int 0))) lo xs (dw ns c) = .ok (bs.map .bool) (dw ns c')
  | 0, c => ⟨[], c, rfl, fun m lo xs hx _ _ => by rw [List.length_eq_zero_iff.1 hx]; rfl⟩
  | n + 1, c => by
    obtain ⟨r, r0, r2, e⟩ := nx (k := k) ns c 2 (by decide)
    obtain ⟨bs, c', hb, e'⟩ := draw_bits ns n (c + 1)
    refine ⟨decide (r = 0) :: bs, c', by simp [hb], ?_⟩
    intro m lo xs hx h1 h22
    cases xs with
    | nil => simp at hx
    | cons x xs =>
      have := e' m lo xs (by simpa using hx) h1 h22
      simp [lcL, bindT, wipeL, evC, h1, List.getElem?_set, h22, e, this]
theorem draw_rows (ns : List Int) (L : Nat) (hL : L ≤ 1000) : ∀ (n c : Nat), ∃ (rs : List (List Bool)) (c' : Nat), rs.length = n ∧ (∀ r ∈ rs, r.length = L) ∧ ∀ (m : Nat) (lo : Lo) (xs : List D), xs.length = n → lo[1]? = some (some (.r 0)) → lo[2]? = some (some (.d (.int L))) → 22 < lo.length →
    lcL (ev (callF pg (k + 10)) (m + 7)) [3] (.n 3) none (.blt .tuple (.lc [22] (.n 22) (.r1 (.v 2)) none (.cmp .Eq (.call 27 [.v 1, .c (.int 2)]) (.c (.int 0))))) lo xs (dw ns c) = .ok (rs.map bsD) (dw ns c')
  | 0, c => ⟨[], c, rfl, by simp, fun m lo xs hx _ _ _ => by rw [List.length_eq_zero_iff.1 hx]; rfl⟩
  | n + 1, c => by
    obtain ⟨bs, c1, hb, e⟩ := draw_bits (k := k) ns L c
    obtain ⟨rs, c', hr, hl, e'⟩ := draw_rows ns L hL n c1
    refine ⟨bs :: rs, c', by simp [hr], by simpa [hb] using hl, ?_⟩
    intro m lo xs hx h1 h2 h22
    have hr0 : rngOk 0 (L : Int) = true := rngOk_n (by omega)
    have s1 : szOk L = true := szOk_of (by omega)
    cases xs with
    | nil => simp at hx
    | cons x xs =>
      have := e' m lo xs (by simpa using hx) h1 h2 h22
      simp [lcL, bindT, wipeL, evC, h1, h2, List.getElem?_set, h22, show 3 < lo.length by omega, hr0, s1, e, this]
      rfl
theorem ok_ln : ∀ a < 6, ∀ b < 4, okS (lnF ((a : Nat) + 1 : Int) ((b : Nat) + 1 : Int)) = true := by decide
theorem draw_shares (ns : List Int) : ∀ (n c : Nat), ∃ (l : List Ra) (c' : Nat), l.length = n ∧ (∀ q ∈ l, okS q = true) ∧ ∀ (m : Nat) (lo : Lo) (xs : List D), xs.length = n → lo[1]? = some (some (.r 0)) → 22 < lo.length →
    lcL (ev (callF pg (k + 10)) (m + 7)) [22] (.n 22) none (.call 29 [(.bin .Add (.c (.int (1))) (.call 27 [(.v 1), (.c (.int (6)))])), (.bin .Add (.c (.int (1))) (.call 27 [(.v 1), (.c (.int (4)))]))]) lo xs (dw ns c) = .ok (l.map frD) (dw ns c')
  | 0, c => ⟨[], c, rfl, by simp, fun m lo xs hx _ _ => by rw [List.length_eq_zero_iff.1 hx]; rfl⟩
  | n + 1, c => by
    obtain ⟨r, r0, r6, e⟩ := nx (k := k) ns c 6 (by decide)
    obtain ⟨s, s0, s4, e1⟩ := nx (k := k) ns (c + 1) 4 (by decide)
    obtain ⟨l, c', hb, hl, e'⟩ := draw_shares ns n (c + 2)
    have ok : okS (lnF (1 + r) (1 + s)) = true := by
      have := ok_ln r.toNat (by omega) s.toNat (by omega)
      rwa [show ((r.toNat : Nat) : Int) + 1 = 1 + r by omega, show ((s.toNat : Nat) : Int) + 1 = 1 + s by omega] at this
    refine ⟨lnF (1 + r) (1 + s) :: l, c', by simp [hb], by simpa [ok] using hl, ?_⟩
    intro m lo xs hx h1 h22
    have e2 := fun st => c__law_lean (Pg := pg) (i := 29) (k := k + 9) (st := st) (n := 30) rfl (1 + r) (1 + s) (by omega) (sm_of (by omega) (by omega)) (sm_of (by omega) (by omega)) (by decide)
    cases xs with
    | nil => simp at hx
    | cons x xs =>
      have := e' m lo xs (by simpa using hx) h1 h22
      simp [lcL, bindT, wipeL, evC, h1, List.getElem?_set, h22, e, e1, e2, this]
theorem draw_sides (ns : List Int) (n : Nat) (hn : n ≤ 1000) (c : Nat) : ∃ (l1 l2 : List Ra) (c' : Nat), l1.length = n ∧ l2.length = n ∧ (∀ q ∈ l1, okS q = true) ∧ (∀ q ∈ l2, okS q = true) ∧ ∀ (m : Nat) (lo : Lo) (x y : D), lo[1]? = some (some (.r 0)) → lo[14]? = some (some (.d (.int n))) → 25 < lo.length →
    lcL (ev (callF pg (k + 10)) (m + 9)) [25] (.n 25) none (.blt .tuple (.lc [22] (.n 22) (.r1 (.v 14)) none (.call 29 [(.bin .Add (.c (.int (1))) (.call 27 [(.v 1), (.c (.int (6)))])), (.bin .Add (.c (.int (1))) (.call 27 [(.v 1), (.c (.int (4)))]))]))) lo [x, y] (dw ns c) = .ok [frsD l1, frsD l2] (dw ns c') := by
  obtain ⟨l1, c1, h1, o1, e1⟩ := draw_shares (k := k) ns n c
  obtain ⟨l2, c2, h2, o2, e2⟩ := draw_shares (k := k) ns n c1
  refine ⟨l1, l2, c2, h1, h2, o1, o2, ?_⟩
  intro m lo x y g1 g2 g3
  have hr0 : rngOk 0 (n : Int) = true := rngOk_n (by omega)
  have s1 : szOk n = true := szOk_of (by omega)
  simp [lcL, bindT, wipeL, evC, g1, g2, List.getElem?_set, g3, show 22 < lo.length by omega, hr0, s1, e1, e2, frsD]
end
end K11
end Sm

set_option Elab.async false
set_option linter.all false
set_option maxRecDepth 100000
/-! K02p: k02's defs, as the translation gives them (printed by gen_pg.py). -/
namespace Sm
open PySem PySem.Spec
namespace K02
def ri_ascends : Fn := ⟨1, 3, [
  .ret (.blt .all (.lc [1, 2] (.t [(.n 1), (.n 2)]) (.zp (.v 0) (.sl (.v 0) (some (.c (.int (1)))) none)) none (.cmp .Lt (.v 1) (.v 2))))]⟩
def ri_is_lot (i_is_from i_ascends : Nat) : Fn := ⟨2, 3, [
  .ret (.and (.blt .isT (.v 0)) (.and (.blt .all (.lc [2] (.n 2) (.e (.v 0)) none (.call i_is_from [(.v 2), (.c (.int (0))), (.bin .Sub (.v 1) (.c (.int (1))))]))) (.call i_ascends [(.v 0)])))]⟩
def ri_lots_below : Fn := ⟨1, 4, [
  .asg (.n 1) (.lst [(false, (.tup []))]),
  .fr (.n 2) (.r1 (.v 0)) [.asg (.n 1) (.bin .Add (.v 1) (.lc [3] (.n 3) (.e (.v 1)) none (.tup [(true, (.v 3)), (false, (.v 2))])))],
  .ret (.blt .sortLn (.v 1))]⟩
def ri_is_marks (i_is_many i_is_lot : Nat) : Fn := ⟨2, 3, [
  .iff (.or (.not (.blt .isT (.v 1))) (.cmp .Gt (.blt .len (.v 1)) (.c (.int (60))))) [.ret (.c (.bool false))] [],
  .ret (.blt .all (.lc [2] (.n 2) (.e (.v 1)) none (.and (.call i_is_many [(.v 2), (.c (.int (2)))]) (.and (.call i_is_lot [(.ix (.v 2) (.c (.int (0)))), (.v 0)]) (.blt .isB (.ix (.v 2) (.c (.int (1)))))))))]⟩
def ri_check_marks (i_is_from i_is_marks : Nat) : Fn := ⟨2, 2, [
  .iff (.not (.call i_is_from [(.v 0), (.c (.int (1))), (.c (.int (6)))])) [.rais 0 [(.v 0)]] [],
  .iff (.not (.call i_is_marks [(.v 0), (.v 1)])) [.rais 0 [(.v 1)]] []]⟩
def ri_is_counts (i_is_many i_is_from : Nat) : Fn := ⟨1, 2, [
  .iff (.or (.not (.call i_is_many [(.v 0), (.c (.int (3)))])) (.or (.not (.call i_is_from [(.ix (.v 0) (.c (.int (0)))), (.c (.int (0))), (.c (.int (1000)))])) (.not (.call i_is_from [(.ix (.v 0) (.c (.int (1)))), (.c (.int (0))), (.c (.int (1000)))])))) [.ret (.c (.bool false))] [],
  .iff (.or (.not (.blt .isT (.ix (.v 0) (.c (.int (2)))))) (.not (.chain .LtE .LtE (.c (.int (1))) (.blt .len (.ix (.v 0) (.c (.int (2))))) (.c (.int (6)))))) [.ret (.c (.bool false))] [],
  .ret (.blt .all (.lc [1] (.n 1) (.e (.ix (.v 0) (.c (.int (2))))) none (.and (.call i_is_many [(.v 1), (.c (.int (2)))]) (.and (.call i_is_from [(.ix (.v 1) (.c (.int (0)))), (.c (.int (0))), (.ix (.v 0) (.c (.int (0))))]) (.call i_is_from [(.ix (.v 1) (.c (.int (1)))), (.c (.int (0))), (.ix (.v 0) (.c (.int (1))))])))))]⟩
def ri_check_counts (i_is_counts : Nat) : Fn := ⟨1, 1, [
  .iff (.not (.call i_is_counts [(.v 0)])) [.rais 0 [(.v 0)]] []]⟩
def ri_check_counted_letter (i_check_counts i_is_lot : Nat) : Fn := ⟨2, 2, [
  .ex (.call i_check_counts [(.v 0)]),
  .iff (.not (.call i_is_lot [(.v 1), (.blt .len (.ix (.v 0) (.c (.int (2)))))])) [.rais 0 [(.v 1)]] []]⟩
def ri_counted (i_check_marks : Nat) : Fn := ⟨2, 9, [
  .ex (.call i_check_marks [(.v 0), (.v 1)]),
  .asg (.n 2) (.lc [5, 6] (.t [(.n 5), (.n 6)]) (.e (.v 1)) (some (.v 6)) (.v 5)),
  .asg (.n 3) (.lc [5, 6] (.t [(.n 5), (.n 6)]) (.e (.v 1)) (some (.not (.v 6))) (.v 5)),
  .asg (.n 4) (.lc [7] (.n 7) (.r1 (.v 0)) none (.tup [(false, (.blt .len (.lc [8] (.n 8) (.e (.v 2)) (some (.cmp .In (.v 7) (.v 8))) (.v 8)))), (false, (.blt .len (.lc [8] (.n 8) (.e (.v 3)) (some (.cmp .In (.v 7) (.v 8))) (.v 8))))])),
  .ret (.tup [(false, (.blt .len (.v 2))), (false, (.blt .len (.v 3))), (false, (.blt .tuple (.v 4)))])]⟩
def ri_with_mark (i_check_counted_letter : Nat) : Fn := ⟨3, 9, [
  .ex (.call i_check_counted_letter [(.v 0), (.v 1)]),
  .iff (.not (.blt .isB (.v 2))) [.rais 0 [(.v 2)]] [],
  .iff (.cmp .Eq (.ix (.v 0) (.ife (.v 2) (.c (.int (0))) (.c (.int (1))))) (.c (.int (1000)))) [.rais 0 [(.v 0)]] [],
  .asg (.t [(.n 3), (.n 4)]) (.ife (.v 2) (.tup [(false, (.c (.int (1)))), (false, (.c (.int (0))))]) (.tup [(false, (.c (.int (0)))), (false, (.c (.int (1))))])),
  .asg (.n 5) (.lc [6, 7, 8] (.t [(.n 6), (.t [(.n 7), (.n 8)])]) (.en (.ix (.v 0) (.c (.int (2))))) none (.ife (.cmp .In (.v 6) (.v 1)) (.tup [(false, (.bin .Add (.v 7) (.v 3))), (false, (.bin .Add (.v 8) (.v 4)))]) (.tup [(false, (.v 7)), (false, (.v 8))]))),
  .ret (.tup [(false, (.bin .Add (.ix (.v 0) (.c (.int (0)))) (.v 3))), (false, (.bin .Add (.ix (.v 0) (.c (.int (1)))) (.v 4))), (false, (.blt .tuple (.v 5)))])]⟩
def ri_joined_counts (i_check_counts i_is_counts : Nat) : Fn := ⟨2, 5, [
  .ex (.call i_check_counts [(.v 0)]),
  .iff (.or (.not (.call i_is_counts [(.v 1)])) (.or (.cmp .NotEq (.blt .len (.ix (.v 1) (.c (.int (2))))) (.blt .len (.ix (.v 0) (.c (.int (2)))))) (.cmp .Gt (.blt .max (.lst [(false, (.bin .Add (.ix (.v 0) (.c (.int (0)))) (.ix (.v 1) (.c (.int (0)))))), (false, (.bin .Add (.ix (.v 0) (.c (.int (1)))) (.ix (.v 1) (.c (.int (1))))))])) (.c (.int (1000)))))) [.rais 0 [(.v 1)]] [],
  .asg (.n 2) (.lc [3, 4] (.t [(.n 3), (.n 4)]) (.zp (.ix (.v 0) (.c (.int (2)))) (.ix (.v 1) (.c (.int (2))))) none (.tup [(false, (.bin .Add (.ix (.v 3) (.c (.int (0)))) (.ix (.v 4) (.c (.int (0)))))), (false, (.bin .Add (.ix (.v 3) (.c (.int (1)))) (.ix (.v 4) (.c (.int (1))))))])),
  .ret (.tup [(false, (.bin .Add (.ix (.v 0) (.c (.int (0)))) (.ix (.v 1) (.c (.int (0)))))), (false, (.bin .Add (.ix (.v 0) (.c (.int (1)))) (.ix (.v 1) (.c (.int (1)))))), (false, (.blt .tuple (.v 2)))])]⟩
def ri_factor_of (i_lean : Nat) : Fn := ⟨2, 5, [
  .asg (.t [(.n 2), (.n 3), (.n 4)]) (.v 0),
  .ret (.call i_lean [(.bin .Mult (.bin .Add (.ix (.ix (.v 4) (.v 1)) (.c (.int (0)))) (.c (.int (1)))) (.bin .Add (.v 3) (.c (.int (2))))), (.bin .Mult (.bin .Add (.ix (.ix (.v 4) (.v 1)) (.c (.int (1)))) (.c (.int (1)))) (.bin .Add (.v 2) (.c (.int (2)))))])]⟩
def ri_odds_in (i_lean i_times i_factor_of : Nat) : Fn := ⟨2, 4, [
  .asg (.n 2) (.call i_lean [(.bin .Add (.ix (.v 0) (.c (.int (0)))) (.c (.int (1)))), (.bin .Add (.ix (.v 0) (.c (.int (1)))) (.c (.int (1))))]),
  .fr (.n 3) (.e (.v 1)) [.asg (.n 2) (.call i_times [(.v 2), (.call i_factor_of [(.v 0), (.v 3)])])],
  .ret (.v 2)]⟩
def ri_odds_of (i_check_counted_letter i_odds_in : Nat) : Fn := ⟨2, 2, [
  .ex (.call i_check_counted_letter [(.v 0), (.v 1)]),
  .ret (.call i_odds_in [(.v 0), (.v 1)])]⟩
def ri_word_factors (i_check_counts i_factor_of : Nat) : Fn := ⟨1, 2, [
  .ex (.call i_check_counts [(.v 0)]),
  .ret (.blt .tuple (.lc [1] (.n 1) (.r1 (.blt .len (.ix (.v 0) (.c (.int (2)))))) none (.call i_factor_of [(.v 0), (.v 1)])))]⟩
def ri_check_bound (i_is_many i_is_from i_lean : Nat) : Fn := ⟨1, 1, [
  .iff (.or (.not (.call i_is_many [(.v 0), (.c (.int (2)))])) (.or (.not (.call i_is_from [(.ix (.v 0) (.c (.int (0)))), (.c (.int (1))), (.c (.int (1000)))])) (.not (.call i_is_from [(.ix (.v 0) (.c (.int (1)))), (.c (.int (1))), (.c (.int (1000)))])))) [.rais 0 [(.v 0)]] [],
  .iff (.cmp .NotEq (.call i_lean [(.ix (.v 0) (.c (.int (0)))), (.ix (.v 0) (.c (.int (1))))]) (.v 0)) [.rais 0 [(.v 0)]] []]⟩
def ri_is_counted_out (i_check_counted_letter i_check_bound i_is_less i_odds_in : Nat) : Fn := ⟨3, 3, [
  .ex (.call i_check_counted_letter [(.v 0), (.v 2)]),
  .ex (.call i_check_bound [(.v 1)]),
  .ret (.not (.call i_is_less [(.call i_odds_in [(.v 0), (.v 2)]), (.v 1)]))]⟩
def ri_counted_out (i_check_counts i_check_bound i_lots_below i_is_less i_odds_in : Nat) : Fn := ⟨2, 3, [
  .ex (.call i_check_counts [(.v 0)]),
  .ex (.call i_check_bound [(.v 1)]),
  .ret (.blt .tuple (.lc [2] (.n 2) (.e (.call i_lots_below [(.blt .len (.ix (.v 0) (.c (.int (2)))))])) (some (.not (.call i_is_less [(.call i_odds_in [(.v 0), (.v 2)]), (.v 1)]))) (.v 2)))]⟩
def ri_fewest_false (i_check_counted_letter i_check_bound i_is_less i_odds_in : Nat) : Fn := ⟨3, 8, [
  .ex (.call i_check_counted_letter [(.v 0), (.v 2)]),
  .ex (.call i_check_bound [(.v 1)]),
  .fr (.n 3) (.r1 (.c (.int (201)))) [.asg (.n 4) (.lc [5, 6, 7] (.t [(.n 5), (.t [(.n 6), (.n 7)])]) (.en (.ix (.v 0) (.c (.int (2))))) none (.ife (.cmp .In (.v 5) (.v 2)) (.tup [(false, (.bin .Add (.v 6) (.v 3))), (false, (.v 7))]) (.tup [(false, (.v 6)), (false, (.v 7))]))), .iff (.not (.call i_is_less [(.call i_odds_in [(.tup [(false, (.bin .Add (.ix (.v 0) (.c (.int (0)))) (.v 3))), (false, (.ix (.v 0) (.c (.int (1))))), (false, (.blt .tuple (.v 4)))]), (.v 2)]), (.v 1)])) [.ret (.v 3)] []],
  .ret (.c .none)]⟩
def ri_odds_along (i_check_marks i_is_lot i_odds_in i_counted : Nat) : Fn := ⟨3, 4, [
  .ex (.call i_check_marks [(.v 0), (.v 1)]),
  .iff (.not (.call i_is_lot [(.v 2), (.v 0)])) [.rais 0 [(.v 2)]] [],
  .ret (.blt .tuple (.lc [3] (.n 3) (.r1 (.bin .Add (.blt .len (.v 1)) (.c (.int (1))))) none (.call i_odds_in [(.call i_counted [(.v 0), (.sl (.v 1) none (some (.v 3)))]), (.v 2)])))]⟩
def ri_bound_for (i_check_counts i_is_lot i_odds_in i_is_less : Nat) : Fn := ⟨2, 5, [
  .ex (.call i_check_counts [(.v 0)]),
  .iff (.or (.not (.blt .isT (.v 1))) (.or (.cmp .Eq (.v 1) (.tup [])) (.not (.blt .all (.lc [4] (.n 4) (.e (.v 1)) none (.call i_is_lot [(.v 4), (.blt .len (.ix (.v 0) (.c (.int (2)))))])))))) [.rais 0 [(.v 1)]] [],
  .asg (.n 2) (.call i_odds_in [(.v 0), (.ix (.v 1) (.c (.int (0))))]),
  .fr (.n 3) (.e (.sl (.v 1) (some (.c (.int (1)))) none)) [.asg (.n 2) (.ife (.call i_is_less [(.call i_odds_in [(.v 0), (.v 3)]), (.v 2)]) (.call i_odds_in [(.v 0), (.v 3)]) (.v 2))],
  .ret (.v 2)]⟩
def ri_parted_by_odds (i_counted i_is_less i_odds_in : Nat) : Fn := ⟨2, 7, [
  .asg (.n 2) (.call i_counted [(.v 0), (.v 1)]),
  .fr (.t [(.n 3), (.n 4)]) (.e (.v 1)) [.fr (.t [(.n 5), (.n 6)]) (.e (.v 1)) [.iff (.and (.v 4) (.and (.not (.v 6)) (.not (.call i_is_less [(.call i_odds_in [(.v 2), (.v 5)]), (.call i_odds_in [(.v 2), (.v 3)])])))) [.ret (.tup [(false, (.v 3)), (false, (.v 5))])] []]],
  .ret (.c .none)]⟩
def ri__law_lots : Fn := ⟨1, 4, [
  .asg (.n 1) (.lst [(false, (.tup []))]),
  .fr (.n 2) (.r1 (.v 0)) [.asg (.n 1) (.bin .Add (.v 1) (.lc [3] (.n 3) (.e (.v 1)) none (.bin .Add (.v 3) (.tup [(false, (.v 2))]))))],
  .ret (.blt .sortLn (.v 1))]⟩
def ri__law_counted : Fn := ⟨2, 8, [
  .asg (.t [(.n 2), (.n 3)]) (.tup [(false, (.lc [4, 5] (.t [(.n 4), (.n 5)]) (.e (.v 1)) (some (.v 5)) (.v 4))), (false, (.lc [4, 5] (.t [(.n 4), (.n 5)]) (.e (.v 1)) (some (.not (.v 5))) (.v 4)))]),
  .ret (.tup [(false, (.blt .len (.v 2))), (false, (.blt .len (.v 3))), (false, (.blt .tuple (.lc [6] (.n 6) (.r1 (.v 0)) none (.tup [(false, (.blt .len (.lc [7] (.n 7) (.e (.v 2)) (some (.cmp .In (.v 6) (.v 7))) (.c (.int (1)))))), (false, (.blt .len (.lc [7] (.n 7) (.e (.v 3)) (some (.cmp .In (.v 6) (.v 7))) (.c (.int (1))))))]))))])]⟩
def ri__law_odds (i__law_lean i__law_by : Nat) : Fn := ⟨2, 7, [
  .asg (.t [(.n 2), (.n 3), (.n 4)]) (.v 0),
  .asg (.n 5) (.call i__law_lean [(.bin .Add (.v 2) (.c (.int (1)))), (.bin .Add (.v 3) (.c (.int (1))))]),
  .fr (.n 6) (.e (.v 1)) [.asg (.n 5) (.call i__law_by [(.v 5), (.call i__law_by [(.call i__law_lean [(.bin .Add (.ix (.ix (.v 4) (.v 6)) (.c (.int (0)))) (.c (.int (1)))), (.bin .Add (.v 2) (.c (.int (2))))]), (.call i__law_lean [(.bin .Add (.v 3) (.c (.int (2)))), (.bin .Add (.ix (.ix (.v 4) (.v 6)) (.c (.int (1)))) (.c (.int (1))))])])])],
  .ret (.v 5)]⟩
def ri__law_refused_right (i_counted i_odds_along i_parted_by_odds i_is_counts i_odds_of i_with_mark i_joined_counts i_counted_out i_word_factors i_is_counted_out i_fewest_false i_bound_for : Nat) : Fn := ⟨3, 5, [
  .fr (.n 3) (.e (.tup [(false, (.c (.int (0)))), (false, (.c (.int (7)))), (false, (.c .none)), (false, (.c (.bool true)))])) [.iff (.not (.refu (.call i_counted [(.v 3), (.c .none)]) (.v 3))) [.ret (.c (.bool false))] [], .iff (.not (.refu (.call i_odds_along [(.v 3), (.c .none), (.c .none)]) (.v 3))) [.ret (.c (.bool false))] []],
  .fr (.n 3) (.e (.tup [(false, (.c .none)), (false, (.lst [])), (false, (.tup [(false, (.tup [(false, (.tup [(false, (.v 0))])), (false, (.c (.bool true)))]))])), (false, (.tup [(false, (.tup [(false, (.tup [])), (false, (.c (.int (1))))]))])), (false, (.tup [(false, (.tup [(false, (.tup []))]))])), (false, (.bin .Mult (.tup [(false, (.tup [(false, (.tup [])), (false, (.c (.bool true)))]))]) (.c (.int (61))))), (false, (.tup [(false, (.tup [(false, (.tup [(false, (.c (.int (1)))), (false, (.c (.int (0))))])), (false, (.c (.bool true)))]))]))])) [.iff (.not (.refu (.call i_counted [(.v 0), (.v 3)]) (.v 3))) [.ret (.c (.bool false))] [], .iff (.not (.refu (.call i_parted_by_odds [(.v 0), (.v 3)]) (.v 3))) [.ret (.c (.bool false))] [], .iff (.not (.refu (.call i_odds_along [(.v 0), (.v 3), (.c .none)]) (.v 3))) [.ret (.c (.bool false))] []],
  .fr (.n 3) (.e (.tup [(false, (.c .none)), (false, (.tup [])), (false, (.tup [(false, (.c (.int (1)))), (false, (.c (.int (1)))), (false, (.tup []))])), (false, (.tup [(false, (.c (.int (1)))), (false, (.c (.int (1)))), (false, (.tup [(false, (.tup [(false, (.c (.int (2)))), (false, (.c (.int (0))))]))]))])), (false, (.tup [(false, (.c (.int (1)))), (false, (.c (.int (1)))), (false, (.tup [(false, (.tup [(false, (.c (.int (0)))), (false, (.c (.int (2))))]))]))])), (false, (.tup [(false, (.c (.int (1001)))), (false, (.c (.int (0)))), (false, (.tup [(false, (.tup [(false, (.c (.int (0)))), (false, (.c (.int (0))))]))]))])), (false, (.tup [(false, (.neg (.c (.int (1))))), (false, (.c (.int (0)))), (false, (.tup [(false, (.tup [(false, (.c (.int (0)))), (false, (.c (.int (0))))]))]))])), (false, (.tup [(false, (.c (.int (1)))), (false, (.c (.int (1)))), (false, (.lst [(false, (.tup [(false, (.c (.int (0)))), (false, (.c (.int (0))))]))]))])), (false, (.tup [(false, (.c (.int (1)))), (false, (.c (.int (1)))), (false, (.bin .Mult (.tup [(false, (.tup [(false, (.c (.int (0)))), (false, (.c (.int (0))))]))]) (.c (.int (7)))))]))])) [.iff (.call i_is_counts [(.v 3)]) [.ret (.c (.bool false))] [], .iff (.not (.refu (.call i_odds_of [(.v 3), (.c .none)]) (.v 3))) [.ret (.c (.bool false))] [], .iff (.not (.refu (.call i_with_mark [(.v 3), (.c .none), (.c .none)]) (.v 3))) [.ret (.c (.bool false))] [], .iff (.not (.refu (.call i_joined_counts [(.v 2), (.v 3)]) (.v 3))) [.ret (.c (.bool false))] [], .iff (.not (.refu (.call i_counted_out [(.v 3), (.c .none)]) (.v 3))) [.ret (.c (.bool false))] [], .iff (.not (.refu (.call i_word_factors [(.v 3)]) (.v 3))) [.ret (.c (.bool false))] []],
  .fr (.n 3) (.e (.tup [(false, (.c .none)), (false, (.lst [(false, (.c (.int (0))))])), (false, (.tup [(false, (.v 0))])), (false, (.tup [(false, (.c (.int (0)))), (false, (.c (.int (0))))]))])) [.iff (.not (.refu (.call i_odds_of [(.v 2), (.v 3)]) (.v 3))) [.ret (.c (.bool false))] [], .iff (.not (.refu (.call i_is_counted_out [(.v 2), (.c .none), (.v 3)]) (.v 3))) [.ret (.c (.bool false))] [], .iff (.not (.refu (.call i_fewest_false [(.v 2), (.c .none), (.v 3)]) (.v 3))) [.ret (.c (.bool false))] [], .iff (.not (.refu (.call i_odds_along [(.v 0), (.v 1), (.v 3)]) (.v 3))) [.ret (.c (.bool false))] []],
  .fr (.n 3) (.e (.tup [(false, (.c .none)), (false, (.tup [(false, (.c (.int (0)))), (false, (.c (.int (1))))])), (false, (.tup [(false, (.c (.int (2)))), (false, (.c (.int (4))))])), (false, (.tup [(false, (.c (.int (1)))), (false, (.c (.int (1001))))])), (false, (.tup [(false, (.c (.int (1001)))), (false, (.c (.int (1))))])), (false, (.tup [(false, (.c (.int (1)))), (false, (.c (.int (0))))])), (false, (.tup [(false, (.neg (.c (.int (1))))), (false, (.c (.int (1))))]))])) [.iff (.not (.refu (.call i_counted_out [(.v 2), (.v 3)]) (.v 3))) [.ret (.c (.bool false))] [], .iff (.not (.refu (.call i_fewest_false [(.v 2), (.v 3), (.tup [])]) (.v 3))) [.ret (.c (.bool false))] []],
  .fr (.n 3) (.e (.tup [(false, (.c .none)), (false, (.tup [])), (false, (.lst [(false, (.tup []))])), (false, (.tup [(false, (.tup [(false, (.v 0))]))]))])) [.iff (.not (.refu (.call i_bound_for [(.v 2), (.v 3)]) (.v 3))) [.ret (.c (.bool false))] []],
  .asg (.n 4) (.tup [(false, (.c (.int (1000)))), (false, (.c (.int (0)))), (false, (.bin .Mult (.tup [(false, (.tup [(false, (.c (.int (0)))), (false, (.c (.int (0))))]))]) (.v 0)))]),
  .iff (.not (.refu (.call i_with_mark [(.v 4), (.tup []), (.c (.bool true))]) (.v 4))) [.ret (.c (.bool false))] [],
  .iff (.not (.refu (.call i_with_mark [(.v 2), (.tup []), (.c (.int (1)))]) (.c (.int (1))))) [.ret (.c (.bool false))] [],
  .ret (.refu (.call i_joined_counts [(.tup [(false, (.c (.int (1)))), (false, (.c (.int (0)))), (false, (.bin .Mult (.tup [(false, (.tup [(false, (.c (.int (0)))), (false, (.c (.int (0))))]))]) (.v 0)))]), (.v 4)]) (.v 4))]⟩
def ri_law (i__law_next i__law_lots i__law_pick i__law_counted i_counted i_is_counts i_word_factors i__law_by i__law_lean i_joined_counts i_with_mark i_odds_along i__law_odds i__law_less i_odds_of i_is_counted_out i_counted_out i_fewest_false i_bound_for i_parted_by_odds i__law_refused_right : Nat) : Fn := ⟨1, 30, [
  .asg (.n 1) (.new (.lst [(false, (.sl (.v 0) none (some (.c (.int (63)))))), (false, (.c (.int (0)))), (false, (.c (.int (0))))])),
  .asg (.n 2) (.bin .Add (.c (.int (1))) (.call i__law_next [(.v 1), (.c (.int (6)))])),
  .asg (.n 3) (.call i__law_lots [(.v 2)]),
  .asg (.n 5) (.blt .tuple (.lc [4] (.n 4) (.r1 (.call i__law_next [(.v 1), (.c (.int (12)))])) none (.tup [(false, (.call i__law_pick [(.v 1), (.v 3)])), (false, (.cmp .Eq (.call i__law_next [(.v 1), (.c (.int (2)))]) (.c (.int (0)))))]))),
  .asg (.n 6) (.call i__law_counted [(.v 2), (.v 5)]),
  .iff (.or (.cmp .NotEq (.call i_counted [(.v 2), (.v 5)]) (.v 6)) (.or (.not (.call i_is_counts [(.v 6)])) (.or (.cmp .NotEq (.call i_counted [(.v 2), (.rev (.v 5))]) (.v 6)) (.cmp .NotEq (.call i_word_factors [(.v 6)]) (.blt .tuple (.lc [7, 24] (.t [(.n 7), (.n 24)]) (.e (.ix (.v 6) (.c (.int (2))))) none (.call i__law_by [(.call i__law_lean [(.bin .Add (.v 7) (.c (.int (1)))), (.bin .Add (.ix (.v 6) (.c (.int (0)))) (.c (.int (2))))]), (.call i__law_lean [(.bin .Add (.ix (.v 6) (.c (.int (1)))) (.c (.int (2)))), (.bin .Add (.v 24) (.c (.int (1))))])]))))))) [.ret (.c (.bool false))] [],
  .asg (.n 8) (.call i__law_next [(.v 1), (.bin .Add (.blt .len (.v 5)) (.c (.int (1))))]),
  .iff (.cmp .NotEq (.call i_joined_counts [(.call i__law_counted [(.v 2), (.sl (.v 5) none (some (.v 8)))]), (.call i__law_counted [(.v 2), (.sl (.v 5) (some (.v 8)) none)])]) (.v 6)) [.ret (.c (.bool false))] [],
  .asg (.t [(.n 9), (.n 10)]) (.tup [(false, (.call i__law_pick [(.v 1), (.v 3)])), (false, (.call i__law_pick [(.v 1), (.lst [(false, (.tup [(false, (.c (.int (1)))), (false, (.c (.int (1))))])), (false, (.tup [(false, (.c (.int (2)))), (false, (.c (.int (1))))])), (false, (.tup [(false, (.c (.int (9)))), (false, (.c (.int (2))))])), (false, (.tup [(false, (.c (.int (1)))), (false, (.c (.int (3))))]))])]))]),
  .fr (.n 11) (.e (.tup [(false, (.c (.bool false))), (false, (.c (.bool true)))])) [.iff (.cmp .NotEq (.call i_with_mark [(.v 6), (.v 9), (.v 11)]) (.call i__law_counted [(.v 2), (.bin .Add (.v 5) (.tup [(false, (.tup [(false, (.v 9)), (false, (.v 11))]))]))])) [.ret (.c (.bool false))] []],
  .iff (.cmp .NotEq (.call i_odds_along [(.v 2), (.v 5), (.v 9)]) (.blt .tuple (.lc [25] (.n 25) (.r1 (.bin .Add (.blt .len (.v 5)) (.c (.int (1))))) none (.call i__law_odds [(.call i__law_counted [(.v 2), (.sl (.v 5) none (some (.v 25)))]), (.v 9)])))) [.ret (.c (.bool false))] [],
  .asg (.n 12) (.lc [7] (.n 7) (.e (.v 3)) (some (.not (.call i__law_less [(.call i__law_odds [(.v 6), (.v 7)]), (.v 10)]))) (.v 7)),
  .iff (.or (.blt .any (.lc [7] (.n 7) (.e (.v 3)) none (.or (.cmp .NotEq (.call i_odds_of [(.v 6), (.v 7)]) (.call i__law_odds [(.v 6), (.v 7)])) (.cmp .NotEq (.call i_is_counted_out [(.v 6), (.v 10), (.v 7)]) (.cmp .In (.v 7) (.v 12)))))) (.cmp .NotEq (.call i_counted_out [(.v 6), (.v 10)]) (.blt .tuple (.v 12)))) [.ret (.c (.bool false))] [],
  .asg (.n 13) (.call i_fewest_false [(.v 6), (.v 10), (.v 9)]),
  .asg (.n 14) (.ife (.or (.cmp .Is (.v 13) (.c .none)) (.cmp .Gt (.v 13) (.c (.int (4))))) (.c (.int (4))) (.v 13)),
  .asg (.n 15) (.lst [(false, (.v 6))]),
  .fr (.n 4) (.r1 (.bin .Add (.v 14) (.c (.int (1))))) [.asg (.n 16) (.blt .any (.lc [7] (.n 7) (.e (.v 15)) none (.not (.call i__law_less [(.call i__law_odds [(.v 7), (.v 9)]), (.v 10)])))), .iff (.cmp .NotEq (.v 16) (.and (.cmp .IsNot (.v 13) (.c .none)) (.cmp .GtE (.v 4) (.v 13)))) [.ret (.c (.bool false))] [], .iff (.cmp .Lt (.v 4) (.v 14)) [.asg (.n 17) (.lst []), .fr (.n 7) (.e (.v 15)) [.fr (.n 18) (.e (.v 3)) [.asg (.n 19) (.tup [(false, (.bin .Add (.ix (.v 7) (.c (.int (0)))) (.c (.int (1))))), (false, (.ix (.v 7) (.c (.int (1))))), (false, (.blt .tuple (.lc [26, 27, 28] (.t [(.n 26), (.t [(.n 27), (.n 28)])]) (.en (.ix (.v 7) (.c (.int (2))))) none (.tup [(false, (.bin .Add (.v 27) (.ife (.cmp .In (.v 26) (.v 18)) (.c (.int (1))) (.c (.int (0)))))), (false, (.v 28))]))))]), .asg (.n 17) (.bin .Add (.v 17) (.ife (.cmp .NotIn (.v 19) (.v 17)) (.lst [(false, (.v 19))]) (.lst [])))]], .asg (.n 15) (.ife (.cmp .Gt (.v 4) (.c (.int (0)))) (.sl (.v 17) none (some (.c (.int (40))))) (.v 17)), .asg (.n 15) (.bin .Add (.v 15) (.lst [(false, (.tup [(false, (.bin .Add (.bin .Add (.ix (.v 6) (.c (.int (0)))) (.v 4)) (.c (.int (1))))), (false, (.ix (.v 6) (.c (.int (1))))), (false, (.blt .tuple (.lc [26, 27, 28] (.t [(.n 26), (.t [(.n 27), (.n 28)])]) (.en (.ix (.v 6) (.c (.int (2))))) none (.tup [(false, (.bin .Add (.v 27) (.ife (.cmp .In (.v 26) (.v 9)) (.bin .Add (.v 4) (.c (.int (1)))) (.c (.int (0)))))), (false, (.v 28))]))))]))]))] []],
  .iff (.cmp .IsNot (.v 13) (.c .none)) [.asg (.n 20) (.blt .tuple (.lc [26, 27, 28] (.t [(.n 26), (.t [(.n 27), (.n 28)])]) (.en (.ix (.v 6) (.c (.int (2))))) none (.tup [(false, (.bin .Add (.v 27) (.ife (.cmp .In (.v 26) (.v 9)) (.v 13) (.c (.int (0)))))), (false, (.v 28))]))), .iff (.call i__law_less [(.call i__law_odds [(.tup [(false, (.bin .Add (.ix (.v 6) (.c (.int (0)))) (.v 13))), (false, (.ix (.v 6) (.c (.int (1))))), (false, (.v 20))]), (.v 9)]), (.v 10)]) [.ret (.c (.bool false))] []] [],
  .asg (.n 21) (.blt .tuple (.lc [4] (.n 4) (.r1 (.bin .Add (.c (.int (1))) (.call i__law_next [(.v 1), (.c (.int (3)))]))) none (.call i__law_pick [(.v 1), (.v 3)]))),
  .asg (.n 22) (.call i__law_odds [(.v 6), (.ix (.v 21) (.c (.int (0))))]),
  .fr (.n 7) (.e (.v 21)) [.asg (.n 22) (.ife (.call i__law_less [(.call i__law_odds [(.v 6), (.v 7)]), (.v 22)]) (.call i__law_odds [(.v 6), (.v 7)]) (.v 22))],
  .iff (.cmp .NotEq (.call i_bound_for [(.v 6), (.v 21)]) (.v 22)) [.ret (.c (.bool false))] [],
  .asg (.n 23) (.sumL (.lc [7, 11] (.t [(.n 7), (.n 11)]) (.e (.v 5)) none (.lc [24, 29] (.t [(.n 24), (.n 29)]) (.e (.v 5)) (some (.and (.v 11) (.and (.not (.v 29)) (.not (.call i__law_less [(.call i__law_odds [(.v 6), (.v 24)]), (.call i__law_odds [(.v 6), (.v 7)])]))))) (.tup [(false, (.v 7)), (false, (.v 24))]))) (.lst [])),
  .iff (.cmp .NotEq (.call i_parted_by_odds [(.v 2), (.v 5)]) (.ife (.cmp .NotEq (.v 23) (.lst [])) (.ix (.v 23) (.c (.int (0)))) (.c .none))) [.ret (.c (.bool false))] [],
  .ret (.call i__law_refused_right [(.v 2), (.v 5), (.v 6)])]⟩
def pg : List Fn := [ri_is_whole, ri_is_from 0, ri_is_many, ri_ascends, ri_is_lot 1 3, ri_lots_below, ri_divisor, ri_lean 6, ri_times 7, ri__law_less, ri_is_marks 2 4, ri_check_marks 1 10, ri_is_counts 2 1, ri_check_counts 12, ri_check_counted_letter 13 4, ri_counted 11, ri_with_mark 14, ri_joined_counts 13 12, ri_factor_of 7, ri_odds_in 7 8 18, ri_odds_of 14 19, ri_word_factors 13 18, ri_check_bound 2 1 7, ri_is_counted_out 14 22 9 19, ri_counted_out 13 22 5 9 19, ri_fewest_false 14 22 9 19, ri_odds_along 11 4 19 15, ri_bound_for 13 4 19 9, ri_parted_by_odds 15 9 19, ri__law_cell_at, ri__law_draw, ri__law_number 30, ri__law_next 29 31, ri__law_pick 32, ri__law_lean, ri_times 34, ri__law_less, ri__law_lots, ri__law_counted, ri__law_odds 34 35, ri__law_refused_right 15 26 28 12 20 16 17 24 21 23 25 27, ri_law 32 37 33 38 15 12 21 35 34 17 16 26 39 36 20 23 24 25 27 28 40]
end K02
end Sm

set_option Elab.async false
set_option linter.all false
set_option maxRecDepth 100000
/-! K02a: typed data of k02; letters. -/
namespace Sm
open PySem PySem.Spec
/-! lean fractions -/
theorem ln_scale {a b k : Int} (hk : 0 < k) : lnF (k * a) (k * b) = lnF a b := by
  have g : (Int.gcd (k * a) (k * b) : Int) = k * (Int.gcd a b : Int) := by
    rw [Int.gcd_mul_left]
    push_cast
    congr 1
    omega
  simp only [lnF, g]
  rw [Int.mul_ediv_mul_of_pos _ _ hk, Int.mul_ediv_mul_of_pos _ _ hk]
theorem tm_ln {a b c d : Int} (hb : 0 < b) (hd : 0 < d) : tmF (lnF a b) (lnF c d) = lnF (a * c) (b * d) := by
  have g1 := gcd_p (t := a) hb
  have g2 := gcd_p (t := c) hd
  have e1 := ln_mul1 (t := a) (b := b)
  have e2 := ln_mul2 (t := a) (b := b)
  have e3 := ln_mul1 (t := c) (b := d)
  have e4 := ln_mul2 (t := c) (b := d)
  unfold tmF
  generalize lnF a b = X at *
  generalize lnF c d = Y at *
  generalize (Int.gcd a b : Int) = G at *
  generalize (Int.gcd c d : Int) = H at *
  rw [← e1, ← e2, ← e3, ← e4]
  rw [show X.1 * G * (Y.1 * H) = (G * H) * (X.1 * Y.1) by ac_rfl, show X.2 * G * (Y.2 * H) = (G * H) * (X.2 * Y.2) by ac_rfl]
  rw [ln_scale (Int.mul_pos g1 g2)]
/-- early ends of a walk -/
theorem forL_find {α J : Type} {b : Lo → Sto → Rs Fl} {tg : Tg} {st : Sto} (e : α → D) (L : J → Lo) (f : α → Option D) : ∀ (xs : List α) (j : J), (∀ j a, a ∈ xs → ∃ lo', bindT tg (e a) (L j) = some lo' ∧ (∀ v, f a = some v → b lo' st = .ok (.rt v) st) ∧ (f a = none → ∃ j', b lo' st = .ok (.nx (L j')) st)) →
    (∀ v, xs.findSome? f = some v → forL b tg (xs.map e) (L j) st = .ok (.rt v) st) ∧ (xs.findSome? f = none → ∃ j', forL b tg (xs.map e) (L j) st = .ok (.nx (L j')) st)
  | [], j, _ => ⟨fun v h => by simp at h, fun _ => ⟨j, rfl⟩⟩
  | x :: xs, j, h => by
    obtain ⟨lo', h1, h2, h3⟩ := h j x (by simp)
    cases hf : f x with
    | some v =>
      refine ⟨fun w hw => ?_, fun hw => ?_⟩
      · simp only [List.findSome?_cons, hf, Option.some.injEq] at hw
        subst hw
        simp only [List.map_cons, forL, h1, h2 v hf]
      · simp [List.findSome?_cons, hf] at hw
    | none =>
      obtain ⟨j', h4⟩ := h3 hf
      obtain ⟨i1, i2⟩ := forL_find e L f xs j' fun j a ha => h j a (by simp [ha])
      refine ⟨fun w hw => ?_, fun hw => ?_⟩
      · simp only [List.findSome?_cons, hf] at hw
        simp only [List.map_cons, forL, h1, h4, i1 w hw]
      · simp only [List.findSome?_cons, hf] at hw
        obtain ⟨j2, h5⟩ := i2 hw
        exact ⟨j2, by simp only [List.map_cons, forL, h1, h4, h5]⟩
/-- a walk whose turns are known by what they keep -/
theorem forL_ex {σ α : Type} {b : Lo → Sto → Rs Fl} {tg : Tg} {st : Sto} (e : α → D) (L : σ → Lo) (P : Nat → σ → Prop) : ∀ (xs : List α) (n : Nat) (s : σ), P n s → (∀ i s a, xs[i]? = some a → P (n + i) s → ∃ lo' s', bindT tg (e a) (L s) = some lo' ∧ b lo' st = .ok (.nx (L s')) st ∧ P (n + i + 1) s') →
    ∃ s', forL b tg (xs.map e) (L s) st = .ok (.nx (L s')) st ∧ P (n + xs.length) s'
  | [], n, s, hp, _ => ⟨s, rfl, hp⟩
  | x :: xs, n, s, hp, h => by
    obtain ⟨lo', s1, h1, h2, h3⟩ := h 0 s x rfl hp
    obtain ⟨s2, h4, h5⟩ := forL_ex e L P xs (n + 1) s1 h3 (fun i s a ha hp => by
      have := h (i + 1) s a (by simpa using ha) (by rwa [show n + (i + 1) = n + 1 + i by omega])
      rwa [show n + (i + 1) + 1 = n + 1 + i + 1 by omega] at this)
    exact ⟨s2, by simp only [List.map_cons, forL, h1, h2, h4], by rw [List.length_cons, show n + (xs.length + 1) = n + 1 + xs.length by omega]; exact h5⟩
theorem cut_to {α : Type} {e : α → D} {xs : List α} {n : Nat} (h : n ≤ xs.length) : cutL (xs.map e) none (some (n : Int)) = (xs.take n).map e := by
  simp only [cutL, HT.sIx_none, HT.sIx_nat, List.length_map, List.drop_zero, ← List.map_take]
  rw [show min n xs.length - 0 = n by omega]
theorem cut_from {α : Type} {e : α → D} {xs : List α} {n : Nat} (h : n ≤ xs.length) : cutL (xs.map e) (some (n : Int)) none = (xs.drop n).map e := by
  simp only [cutL, HT.sIx_none, HT.sIx_nat, List.length_map, ← List.map_drop, ← List.map_take]
  rw [show min n xs.length = n by omega, List.take_of_length_le (by simp)]
open K11 (isTu isT_eq)
namespace K02
section
variable {k : Nat} {st rest : Sto}
/-! letters -/
def ascB (t : List Nat) : Bool := (t.zip t.tail).all fun p => decide (p.1 < p.2)
def lotB (n : Nat) (t : List Nat) : Bool := (t.all fun x => decide (x < n)) && ascB t
@[simp] theorem isT_lt {t : List Nat} : bltD .isT (ltD t) = some (.bool true) := Eq.trans rfl rfl
@[simp] theorem len_lt {t : List Nat} : bltD .len (ltD t) = some (.int t.length) := by simp [ltD]
theorem c_ascends {t : List Nat} (h : t.length ≤ 1000) : callF pg (k + 1) 3 [.d (ltD t)] st = .ok (.d (.bool (ascB t))) st := by
  have s1 : szOk (min t.length (t.length - 1)) = true := szOk_of (by omega)
  have c1 : slD (ltD t) (some 1) none = some (.tuple ((t.drop 1).map fun (n : Nat) => PyData.int (n : Int))) ∨ t = [] := by
    cases t with
    | nil => exact .inr rfl
    | cons a t =>
      refine .inl ?_
      have := cut_from (e := fun (n : Nat) => PyData.int (n : Int)) (xs := a :: t) (n := 1) (by simp)
      simp only [slD, ltD]
      exact congrArg (fun x => some (PyData.tuple x)) this
  have c2 : slD (ltD t) (some 1) none = some (.tuple ((t.drop 1).map fun (n : Nat) => PyData.int (n : Int))) := by
    rcases c1 with h | rfl
    · exact h
    · rfl
  rw [call_eq (show pg[3]? = some ri_ascends from rfl)]
  have s2 : szOk (t.length - 1) = true := szOk_of (by omega)
  rw [List.drop_one] at c2
  simp [ri_ascends, runF, SN, EN, c2, zipOf, s2]
  simp only [← List.map_tail, zip_typed]
  rw [lcL_mapT (g := fun (p : Nat × Nat) => .bool (decide (p.1 < p.2)))]
  · simp [ascB, Function.comp_def]
  · rintro ⟨a, b⟩ _
    exact ⟨_, rfl, by simp [wipeL]⟩
theorem c_is_lot {t : List Nat} {n : Nat} (h : t.length ≤ 1000) : callF pg (k + 3) 4 [.d (ltD t), .d (.int n)] st = .ok (.d (.bool (lotB n t))) st := by
  have s1 : szOk t.length = true := szOk_of (by omega)
  have e1 := fun st (x : Nat) => c_is_from (Pg := pg) (i := 1) (j := 0) (k := k) (st := st) rfl rfl (.int x) 0 (n - 1)
  have e2 := fun st => c_ascends (k := k + 1) (st := st) h
  rw [call_eq (show pg[4]? = some (ri_is_lot 1 3) from rfl)]
  simp [ri_is_lot, runF, SN, EN, s1]
  rw [lcL_mapT (g := fun x => .bool (decide (x < n)))]
  · cases f : t.all fun x => decide (x < n) with
    | true => simp [lotB, f, e2, Function.comp_def, List.all_map]
    | false => simp [lotB, f, Function.comp_def, List.all_map]
  · intro x _
    refine ⟨_, rfl, ?_⟩
    have : (decide (x < n)) = (decide ((0 : Int) ≤ x) && decide ((x : Int) ≤ n - 1)) := by
      rw [decide_eq_true (show (0 : Int) ≤ x by omega), Bool.true_and]
      exact decide_eq_decide.2 (by omega)
    rw [this]
    simp [wipeL, e1, isFr]
theorem c_is_lot_x {y : D} {n : Int} (h : isTu y = false) : callF pg (k + 3) 4 [.d y, .d (.int n)] st = .ok (.d (.bool false)) st := by
  rw [call_eq (show pg[4]? = some (ri_is_lot 1 3) from rfl)]
  simp [ri_is_lot, runF, SN, EN, isT_eq, h]
end
end K02
end Sm

set_option Elab.async false
set_option linter.all false
set_option maxRecDepth 100000
/-! K02b: marks and counts, checked. -/
namespace Sm
open PySem PySem.Spec
open K11 (isTu isT_eq isBl isB_eq)
namespace K02
section
variable {k : Nat} {st rest : Sto}
abbrev Mk := List Nat × Bool
def mkD (p : Mk) : D := .tuple [ltD p.1, .bool p.2]
def mksD (l : List Mk) : D := .tuple (l.map mkD)
structure Cn where
  a : Nat
  b : Nat
  rows : List (Nat × Nat)
def pD (r : Nat × Nat) : D := .tuple [.int r.1, .int r.2]
def cnD (c : Cn) : D := .tuple [.int c.a, .int c.b, .tuple (c.rows.map pD)]
structure GC (n : Nat) (c : Cn) : Prop where
  n1 : 1 ≤ n
  n6 : n ≤ 6
  len : c.rows.length = n
  a : c.a ≤ 1000
  b : c.b ≤ 1000
  r : ∀ r ∈ c.rows, r.1 ≤ c.a ∧ r.2 ≤ c.b
@[simp] theorem seq_mks {l : List Mk} : seqOf (mksD l) = some (l.map mkD) := Eq.trans rfl rfl
@[simp] theorem len_mks {l : List Mk} : bltD .len (mksD l) = some (.int l.length) := by simp [mksD]
@[simp] theorem isT_mks {l : List Mk} : bltD .isT (mksD l) = some (.bool true) := Eq.trans rfl rfl
@[simp] theorem ix_mk0 {p : Mk} : ixD (mkD p) (.int 0) = some (ltD p.1) := Eq.trans rfl rfl
@[simp] theorem ix_mk1 {p : Mk} : ixD (mkD p) (.int 1) = some (.bool p.2) := Eq.trans rfl rfl
@[simp] theorem ix_p0 {p : Nat × Nat} : ixD (pD p) (.int 0) = some (.int p.1) := Eq.trans rfl rfl
@[simp] theorem ix_p1 {p : Nat × Nat} : ixD (pD p) (.int 1) = some (.int p.2) := Eq.trans rfl rfl
@[simp] theorem ix_c0 {c : Cn} : ixD (cnD c) (.int 0) = some (.int c.a) := Eq.trans rfl rfl
@[simp] theorem ix_c1 {c : Cn} : ixD (cnD c) (.int 1) = some (.int c.b) := Eq.trans rfl rfl
@[simp] theorem ix_c2 {c : Cn} : ixD (cnD c) (.int 2) = some (.tuple (c.rows.map pD)) := Eq.trans rfl rfl
theorem many_of {x : D} {n : Nat} (h : isMn x n = true) : callF pg (k + 1) 2 [.d x, .d (.int n)] st = .ok (.d (.bool true)) st := by rw [← h]; exact c_is_many (Pg := pg) (i := 2) rfl x n
theorem many_2 {x y : D} : callF pg (k + 1) 2 [.d (.tuple [x, y]), .d (.int 2)] st = .ok (.d (.bool true)) st := many_of (n := 2) rfl
theorem from_nat {x a b : Nat} : callF pg (k + 2) 1 [.d (.int x), .d (.int a), .d (.int b)] st = .ok (.d (.bool (decide (a ≤ x) && decide (x ≤ b)))) st := by
  rw [c_is_from (Pg := pg) (i := 1) (j := 0) rfl rfl]
  have e1 : decide ((a : Int) ≤ x) = decide (a ≤ x) := decide_eq_decide.2 (by omega)
  have e2 : decide ((x : Int) ≤ b) = decide (x ≤ b) := decide_eq_decide.2 (by omega)
  simp only [isFr, e1, e2]
theorem c_is_marks {n : Nat} {l : List Mk} (hl : ∀ p ∈ l, p.1.length ≤ 1000) (hm : l.length ≤ 1000) : callF pg (k + 4) 10 [.d (.int n), .d (mksD l)] st = .ok (.d (.bool (decide (l.length ≤ 60) && l.all fun p => lotB n p.1))) st := by
  have s1 : szOk l.length = true := szOk_of (by omega)
  rw [call_eq (show pg[10]? = some (ri_is_marks 2 4) from rfl)]
  by_cases h60 : l.length ≤ 60
  · simp [ri_is_marks, runF, SN, EN, s1, show ¬ (60 : Int) < l.length by omega, h60]
    rw [lcL_mapT (g := fun p => .bool (lotB n p.1))]
    · simp [Function.comp_def, List.all_map]
    · intro p hp
      have e1 : ∀ st, callF pg (k + 3) 2 [.d (mkD p), .d (.int 2)] st = .ok (.d (.bool true)) st := fun st => many_2
      have e2 := fun st => c_is_lot (k := k) (st := st) (n := n) (hl p hp)
      refine ⟨_, rfl, ?_⟩
      cases f : lotB n p.1 <;> simp [wipeL, e1, e2, f, isBl]
  · simp [ri_is_marks, runF, SN, EN, show (60 : Int) < l.length by omega, h60]
theorem c_is_marks_x {n : Nat} {y : D} (h : isTu y = false) : callF pg (k + 4) 10 [.d (.int n), .d y] st = .ok (.d (.bool false)) st := by
  rw [call_eq (show pg[10]? = some (ri_is_marks 2 4) from rfl)]
  simp [ri_is_marks, runF, SN, EN, isT_eq, h]
theorem c_is_marks_w1 {n : Nat} : callF pg (k + 4) 10 [.d (.int n), .d (.tuple [.tuple [.tuple [], .int 1]])] st = .ok (.d (.bool false)) st := by
  have e1 : ∀ st, callF pg (k + 3) 2 [.d (.tuple [.tuple [], .int 1]), .d (.int 2)] st = .ok (.d (.bool true)) st := fun st => many_2
  have e2 : ∀ st, callF pg (k + 3) 4 [.d (.tuple []), .d (.int n)] st = .ok (.d (.bool true)) st := fun st => c_is_lot (k := k) (st := st) (n := n) (t := []) (by simp)
  have i0 : ∀ x y : D, ixD (.tuple [x, y]) (.int 0) = some x := fun _ _ => rfl
  have i1 : ∀ x y : D, ixD (.tuple [x, y]) (.int 1) = some y := fun _ _ => rfl
  rw [call_eq (show pg[10]? = some (ri_is_marks 2 4) from rfl)]
  simp [ri_is_marks, runF, SN, EN, lcL, bindT, wipeL, evC, e1, e2, i0, i1, isBl, boolsOf]
theorem c_is_marks_w2 {n : Nat} : callF pg (k + 4) 10 [.d (.int n), .d (.tuple [.tuple [.tuple []]])] st = .ok (.d (.bool false)) st := by
  have e1 : ∀ st, callF pg (k + 3) 2 [.d (.tuple [.tuple []]), .d (.int 2)] st = .ok (.d (.bool false)) st := fun st => c_is_many (Pg := pg) (i := 2) rfl (.tuple [.tuple []]) 2
  rw [call_eq (show pg[10]? = some (ri_is_marks 2 4) from rfl)]
  simp [ri_is_marks, runF, SN, EN, lcL, bindT, wipeL, evC, e1, boolsOf]
theorem c_check_marks {n : Nat} (h1 : 1 ≤ n) (h6 : n ≤ 6) {y : D} {b : Bool} (e : ∀ st, callF pg (k + 4) 10 [.d (.int n), .d y] st = .ok (.d (.bool b)) st) : callF pg (k + 5) 11 [.d (.int n), .d y] st = if b then .ok (.d .none) st else .ex 0 [y] st := by
  have e1 : ∀ st, callF pg (k + 4) 1 [.d (.int n), .d (.int 1), .d (.int 6)] st = .ok (.d (.bool true)) st := fun st => by
    have := from_nat (k := k + 2) (st := st) (x := n) (a := 1) (b := 6)
    rw [decide_eq_true h1, decide_eq_true h6] at this
    exact this
  rw [call_eq (show pg[11]? = some (ri_check_marks 1 10) from rfl)]
  cases b <;> simp [ri_check_marks, runF, SN, EN, e1, e]
theorem c_check_marks_n {x y : D} (h : isFr x 1 6 = false) : callF pg (k + 5) 11 [.d x, .d y] st = .ex 0 [x] st := by
  have e1 : ∀ st, callF pg (k + 4) 1 [.d x, .d (.int 1), .d (.int 6)] st = .ok (.d (.bool false)) st := fun st => by
    rw [c_is_from (Pg := pg) (i := 1) (j := 0) rfl rfl, h]
  rw [call_eq (show pg[11]? = some (ri_check_marks 1 10) from rfl)]
  simp [ri_check_marks, runF, SN, EN, e1]
theorem c_is_counts {n : Nat} {c : Cn} (g : GC n c) : callF pg (k + 3) 12 [.d (cnD c)] st = .ok (.d (.bool true)) st := by
  have h1 := g.n1
  have h6 := g.n6
  have hl := g.len
  have e0 : ∀ st, callF pg (k + 2) 2 [.d (cnD c), .d (.int 3)] st = .ok (.d (.bool true)) st := fun st => many_of (n := 3) rfl
  have e1 : ∀ st, callF pg (k + 2) 1 [.d (.int c.a), .d (.int 0), .d (.int 1000)] st = .ok (.d (.bool true)) st := fun st => by
    have := from_nat (k := k) (st := st) (x := c.a) (a := 0) (b := 1000)
    rw [decide_eq_true (Nat.zero_le _), decide_eq_true g.a] at this
    exact this
  have e2 : ∀ st, callF pg (k + 2) 1 [.d (.int c.b), .d (.int 0), .d (.int 1000)] st = .ok (.d (.bool true)) st := fun st => by
    have := from_nat (k := k) (st := st) (x := c.b) (a := 0) (b := 1000)
    rw [decide_eq_true (Nat.zero_le _), decide_eq_true g.b] at this
    exact this
  have s1 : szOk c.rows.length = true := szOk_of (by omega)
  rw [call_eq (show pg[12]? = some (ri_is_counts 2 1) from rfl)]
  simp [ri_is_counts, runF, SN, EN, e0, e1, e2, s1, show (1 : Int) ≤ c.rows.length by omega, show (c.rows.length : Int) ≤ 6 by omega]
  rw [lcL_mapT (g := fun p => .bool true)]
  · simp
  · intro r hr
    obtain ⟨r1, r2⟩ := g.r r hr
    have e3 : ∀ st, callF pg (k + 2) 2 [.d (pD r), .d (.int 2)] st = .ok (.d (.bool true)) st := fun st => many_2
    have e4 : ∀ st, callF pg (k + 2) 1 [.d (.int r.1), .d (.int 0), .d (.int c.a)] st = .ok (.d (.bool true)) st := fun st => by
      have := from_nat (k := k) (st := st) (x := r.1) (a := 0) (b := c.a)
      rw [decide_eq_true (Nat.zero_le _), decide_eq_true r1] at this
      exact this
    have e5 : ∀ st, callF pg (k + 2) 1 [.d (.int r.2), .d (.int 0), .d (.int c.b)] st = .ok (.d (.bool true)) st := fun st => by
      have := from_nat (k := k) (st := st) (x := r.2) (a := 0) (b := c.b)
      rw [decide_eq_true (Nat.zero_le _), decide_eq_true r2] at this
      exact this
    exact ⟨_, rfl, by simp [wipeL, e3, e4, e5]⟩
theorem c_check_counts {n : Nat} {c : Cn} (g : GC n c) : callF pg (k + 4) 13 [.d (cnD c)] st = .ok (.d .none) st := by
  have e := fun st => c_is_counts (k := k) (st := st) g
  rw [call_eq (show pg[13]? = some (ri_check_counts 12) from rfl)]
  simp [ri_check_counts, runF, SN, EN, e]
theorem c_check_counts_x {x : D} (e : ∀ st, callF pg (k + 3) 12 [.d x] st = .ok (.d (.bool false)) st) : callF pg (k + 4) 13 [.d x] st = .ex 0 [x] st := by
  rw [call_eq (show pg[13]? = some (ri_check_counts 12) from rfl)]
  simp [ri_check_counts, runF, SN, EN, e]
theorem c_check_letter {n : Nat} {c : Cn} (g : GC n c) {y : D} {b : Bool} (e : ∀ st, callF pg (k + 4) 4 [.d y, .d (.int n)] st = .ok (.d (.bool b)) st) : callF pg (k + 5) 14 [.d (cnD c), .d y] st = if b then .ok (.d .none) st else .ex 0 [y] st := by
  have e1 := fun st => c_check_counts (k := k) (st := st) g
  have hl := g.len
  rw [call_eq (show pg[14]? = some (ri_check_counted_letter 13 4) from rfl)]
  cases b <;> simp [ri_check_counted_letter, runF, SN, EN, e1, hl, e]
theorem c_check_letter_x {x y : D} (e : ∀ st, callF pg (k + 3) 12 [.d x] st = .ok (.d (.bool false)) st) : callF pg (k + 5) 14 [.d x, .d y] st = .ex 0 [x] st := by
  have e1 := fun st => c_check_counts_x (k := k) (st := st) e
  rw [call_eq (show pg[14]? = some (ri_check_counted_letter 13 4) from rfl)]
  simp [ri_check_counted_letter, runF, SN, EN, e1]
/-! counts that are refused -/
def bad3 : List D := [.none, .tuple [], .tuple [.int 1, .int 1, .tuple []], .tuple [.int 1, .int 1, .tuple [.tuple [.int 2, .int 0]]], .tuple [.int 1, .int 1, .tuple [.tuple [.int 0, .int 2]]], .tuple [.int 1001, .int 0, .tuple [.tuple [.int 0, .int 0]]], .tuple [.int (-1), .int 0, .tuple [.tuple [.int 0, .int 0]]], .tuple [.int 1, .int 1, .list [.tuple [.int 0, .int 0]]],
  .tuple [.int 1, .int 1, .tuple [.tuple [.int 0, .int 0], .tuple [.int 0, .int 0], .tuple [.int 0, .int 0], .tuple [.int 0, .int 0], .tuple [.int 0, .int 0], .tuple [.int 0, .int 0], .tuple [.int 0, .int 0]]]]
theorem bad3_counts : ∀ x ∈ bad3, ∀ k st, callF pg (k + 3) 12 [.d x] st = .ok (.d (.bool false)) st := by
  intro x hx k st
  have em := fun st x n => c_is_many (Pg := pg) (i := 2) (k := k + 1) (st := st) rfl x n
  have ef := fun st (x : D) (a b : Int) => c_is_from (Pg := pg) (i := 1) (j := 0) (k := k) (st := st) rfl rfl x a b
  have em2 := fun st x => em st x 2
  have em3 := fun st x => em st x 3
  simp only [show ((2 : Nat) : Int) = 2 from rfl, show ((3 : Nat) : Int) = 3 from rfl] at em2 em3
  have i0 : ∀ x y z : D, ixD (.tuple [x, y, z]) (.int 0) = some x := fun _ _ _ => rfl
  have i1 : ∀ x y z : D, ixD (.tuple [x, y, z]) (.int 1) = some y := fun _ _ _ => rfl
  have i2 : ∀ x y z : D, ixD (.tuple [x, y, z]) (.int 2) = some z := fun _ _ _ => rfl
  have j0 : ∀ x y : D, ixD (.tuple [x, y]) (.int 0) = some x := fun _ _ => rfl
  have j1 : ∀ x y : D, ixD (.tuple [x, y]) (.int 1) = some y := fun _ _ => rfl
  rw [call_eq (show pg[12]? = some (ri_is_counts 2 1) from rfl)]
  simp only [bad3, List.mem_cons, List.not_mem_nil, or_false] at hx
  rcases hx with rfl | rfl | rfl | rfl | rfl | rfl | rfl | rfl | rfl <;> simp [ri_is_counts, runF, SN, EN, lcL, bindT, wipeL, evC, boolsOf, em2, em3, ef, isMn, isFr, i0, i1, i2, j0, j1]
theorem bad3_repr : ∀ x ∈ bad3, reprOk x = true := by
  intro x hx
  simp only [bad3, List.mem_cons, List.not_mem_nil, or_false] at hx
  rcases hx with rfl | rfl | rfl | rfl | rfl | rfl | rfl | rfl | rfl <;> exact rpk (by decide)
end
end K02
end Sm

set_option Elab.async false
set_option linter.all false
set_option maxRecDepth 100000
/-! K02c: counts of marks. -/
namespace Sm
open PySem PySem.Spec
open K11 (isTu isT_eq isBl isB_eq)
namespace K02
section
variable {k : Nat} {st rest : Sto}
def badL (l : List Mk) : List (List Nat) := (l.filter fun p => p.2).map (·.1)
def goodL (l : List Mk) : List (List Nat) := (l.filter fun p => !p.2).map (·.1)
def cw (w : Nat) (ls : List (List Nat)) : Nat := (ls.filter fun t => decide (w ∈ t)).length
def ctF (n : Nat) (l : List Mk) : Cn := ⟨(badL l).length, (goodL l).length, (List.range n).map fun w => (cw w (badL l), cw w (goodL l))⟩
theorem cw_le {w : Nat} {ls : List (List Nat)} : cw w ls ≤ ls.length := List.length_filter_le _ _
theorem bad_le {l : List Mk} : (badL l).length ≤ l.length := by simp only [badL, List.length_map]; exact List.length_filter_le _ _
theorem good_le {l : List Mk} : (goodL l).length ≤ l.length := by simp only [goodL, List.length_map]; exact List.length_filter_le _ _
theorem ct_GC {n : Nat} {l : List Mk} (h1 : 1 ≤ n) (h6 : n ≤ 6) (hl : l.length ≤ 1000) : GC n (ctF n l) := by
  refine ⟨h1, h6, by simp [ctF], Nat.le_trans bad_le hl, Nat.le_trans good_le hl, ?_⟩
  intro r hr
  simp only [ctF, List.mem_map] at hr
  obtain ⟨w, _, rfl⟩ := hr
  exact ⟨cw_le, cw_le⟩
/-- marks that are right -/
structure GM (n : Nat) (l : List Mk) : Prop where
  n1 : 1 ≤ n
  n6 : n ≤ 6
  le : l.length ≤ 60
  ok : ∀ p ∈ l, lotB n p.1 = true ∧ p.1.length ≤ 6
theorem GM.marks {n : Nat} {l : List Mk} (g : GM n l) : callF pg (k + 5) 11 [.d (.int n), .d (mksD l)] st = .ok (.d .none) st := by
  have h : (decide (l.length ≤ 60) && l.all fun p => lotB n p.1) = true := by
    simp only [Bool.and_eq_true, decide_eq_true_eq, List.all_eq_true]
    exact ⟨g.le, fun p hp => (g.ok p hp).1⟩
  have e : ∀ st, callF pg (k + 4) 10 [.d (.int n), .d (mksD l)] st = .ok (.d (.bool true)) st := fun st => by
    rw [c_is_marks (fun p hp => by have := (g.ok p hp).2; omega) (by have := g.le; omega), h]
  exact c_check_marks g.n1 g.n6 e
theorem in_cntV {cf : CF} {m : Nat} {lo : Lo} {i j w : Nat} {ls : List (List Nat)} (hij : j ≠ i) (hi : i < lo.length) (hw : lo[j]? = some (some (.d (.int w)))) :
    lcL (ev cf (m + 2)) [i] (.n i) (some (.cmp .In (.v j) (.v i))) (.v i) lo (ls.map ltD) st = .ok ((ls.filter fun t => decide (w ∈ t)).map ltD) st := by
  refine lcL_filterT (e := ltD) (p := fun t => decide (w ∈ t)) (g := ltD) fun t _ => ⟨_, rfl, ?_, fun _ => ?_⟩
  · simp [wipeL, hi, List.getElem?_set, hij, Ne.symm hij, hw, cmp_in]
  · simp [wipeL, hi, List.getElem?_set, hij, Ne.symm hij, hw]
theorem in_cntC {cf : CF} {m : Nat} {lo : Lo} {i j w : Nat} {ls : List (List Nat)} {y : D} (hij : j ≠ i) (hi : i < lo.length) (hw : lo[j]? = some (some (.d (.int w)))) :
    lcL (ev cf (m + 2)) [i] (.n i) (some (.cmp .In (.v j) (.v i))) (.c y) lo (ls.map ltD) st = .ok ((ls.filter fun t => decide (w ∈ t)).map fun _ => y) st := by
  refine lcL_filterT (e := ltD) (p := fun t => decide (w ∈ t)) (g := fun _ => y) fun t _ => ⟨_, rfl, ?_, fun _ => ?_⟩
  · simp [wipeL, hi, List.getElem?_set, hij, Ne.symm hij, hw, cmp_in]
  · simp [wipeL]
theorem rows_of {n : Nat} {l : List Mk} : (ctF n l).rows.map pD = (List.range n).map fun (w : Nat) => PyData.tuple [.int (cw w (badL l)), .int (cw w (goodL l))] := by
  simp only [ctF, List.map_map]
  exact List.map_congr_left fun w _ => rfl
theorem c_counted {n : Nat} {l : List Mk} (g : GM n l) : callF pg (k + 6) 15 [.d (.int n), .d (mksD l)] st = .ok (.d (cnD (ctF n l))) st := by
  have e1 := fun st => g.marks (k := k) (st := st)
  have s1 : szOk l.length = true := szOk_of (by have := g.le; omega)
  have s2 : szOk n = true := szOk_of (by have := g.n6; omega)
  have s3 : szOk (badL l).length = true := szOk_of (by have := g.le; have := bad_le (l := l); omega)
  have s4 : szOk (goodL l).length = true := szOk_of (by have := g.le; have := good_le (l := l); omega)
  have hr : rngOk 0 (n : Int) = true := rngOk_n (by have := g.n6; omega)
  rw [call_eq (show pg[15]? = some (ri_counted 11) from rfl)]
  simp [ri_counted, runF, SN, EN, e1, s1]
  rw [lcL_filterT (e := mkD) (p := fun p => p.2) (g := fun p => ltD p.1)]
  rotate_left
  · rintro ⟨t, b⟩ _
    exact ⟨_, rfl, by simp [wipeL], fun _ => by simp [wipeL]⟩
  have hb : ((l.filter fun p => p.2).map fun p => ltD p.1) = (badL l).map ltD := by simp [badL]
  rw [hb]
  simp [s1]
  rw [lcL_filterT (e := mkD) (p := fun p => !p.2) (g := fun p => ltD p.1)]
  rotate_left
  · rintro ⟨t, b⟩ _
    exact ⟨_, rfl, by simp [wipeL], fun _ => by simp [wipeL]⟩
  have hg : ((l.filter fun p => !p.2).map fun p => ltD p.1) = (goodL l).map ltD := by simp [goodL]
  rw [hg]
  simp [hr, s2]
  rw [lcL_mapT (e := fun (w : Nat) => PyData.int w) (g := fun w => .tuple [.int (cw w (badL l)), .int (cw w (goodL l))])]
  rotate_left
  · intro w _
    refine ⟨_, rfl, ?_⟩
    simp [wipeL, s3]
    rw [in_cntV (w := w) (by decide) (by simp) (by simp)]
    simp [s4]
    rw [in_cntV (w := w) (by decide) (by simp) (by simp)]
    simp [cw]
  rw [← rows_of]
  simp [cnD, ctF]
theorem c__law_counted {n : Nat} {l : List Mk} (h6 : n ≤ 1000) (hl : l.length ≤ 1000) : callF pg (k + 1) 38 [.d (.int n), .d (mksD l)] st = .ok (.d (cnD (ctF n l))) st := by
  have s1 : szOk l.length = true := szOk_of (by omega)
  have s2 : szOk n = true := szOk_of (by omega)
  have s3 : szOk (badL l).length = true := szOk_of (by have := bad_le (l := l); omega)
  have s4 : szOk (goodL l).length = true := szOk_of (by have := good_le (l := l); omega)
  have hr : rngOk 0 (n : Int) = true := rngOk_n (by omega)
  rw [call_eq (show pg[38]? = some ri__law_counted from rfl)]
  simp [ri__law_counted, runF, SN, EN, s1]
  rw [lcL_filterT (e := mkD) (p := fun p => p.2) (g := fun p => ltD p.1)]
  rotate_left
  · rintro ⟨t, b⟩ _
    exact ⟨_, rfl, by simp [wipeL], fun _ => by simp [wipeL]⟩
  have hb : ((l.filter fun p => p.2).map fun p => ltD p.1) = (badL l).map ltD := by simp [badL]
  rw [hb]
  simp [s1]
  rw [lcL_filterT (e := mkD) (p := fun p => !p.2) (g := fun p => ltD p.1)]
  rotate_left
  · rintro ⟨t, b⟩ _
    exact ⟨_, rfl, by simp [wipeL], fun _ => by simp [wipeL]⟩
  have hg : ((l.filter fun p => !p.2).map fun p => ltD p.1) = (goodL l).map ltD := by simp [goodL]
  rw [hg]
  simp [bindT, bindTs, hr, s2]
  rw [lcL_mapT (e := fun (w : Nat) => PyData.int w) (g := fun w => .tuple [.int (cw w (badL l)), .int (cw w (goodL l))])]
  rotate_left
  · intro w _
    refine ⟨_, rfl, ?_⟩
    simp [wipeL, s3]
    rw [in_cntC (w := w) (by decide) (by simp) (by simp)]
    simp [s4]
    rw [in_cntC (w := w) (by decide) (by simp) (by simp)]
    simp [cw]
  rw [← rows_of]
  simp [cnD, ctF]
/-! counts of other rows -/
theorem badL_app {a b : List Mk} : badL (a ++ b) = badL a ++ badL b := by simp [badL]
theorem goodL_app {a b : List Mk} : goodL (a ++ b) = goodL a ++ goodL b := by simp [goodL]
theorem cw_app {w : Nat} {a b : List (List Nat)} : cw w (a ++ b) = cw w a + cw w b := by simp [cw]
theorem cw_rev {w : Nat} {a : List (List Nat)} : cw w a.reverse = cw w a := by simp [cw, List.filter_reverse]
theorem ct_rev {n : Nat} {l : List Mk} : ctF n l.reverse = ctF n l := by
  have h1 : badL l.reverse = (badL l).reverse := by simp [badL, List.filter_reverse]
  have h2 : goodL l.reverse = (goodL l).reverse := by simp [goodL, List.filter_reverse]
  simp [ctF, h1, h2, cw_rev]
end
end K02
end Sm

set_option Elab.async false
set_option linter.all false
set_option maxRecDepth 100000
/-! K02d: odds. -/
namespace Sm
open PySem PySem.Spec
open K11 (isTu isT_eq isBl isB_eq)
namespace K02
section
variable {k : Nat} {st rest : Sto}
def rw (c : Cn) (w : Nat) : Nat × Nat := c.rows.getD w (0, 0)
def fcF (c : Cn) (w : Nat) : Ra := lnF (((rw c w).1 + 1 : Int) * (c.b + 2)) (((rw c w).2 + 1 : Int) * (c.a + 2))
def odF (c : Cn) (t : List Nat) : Ra := t.foldl (fun f w => tmF f (fcF c w)) (lnF (c.a + 1) (c.b + 1))
/-- counts that are not great -/
structure SC (n : Nat) (c : Cn) : Prop where
  len : c.rows.length = n
  a : c.a ≤ 2000
  b : c.b ≤ 2000
  r : ∀ r ∈ c.rows, r.1 ≤ 4000 ∧ r.2 ≤ 4000
theorem GC.sc {n : Nat} {c : Cn} (g : GC n c) : SC n c := ⟨g.len, by have := g.a; omega, by have := g.b; omega, fun r hr => by have := g.r r hr; have := g.a; have := g.b; omega⟩
theorem SC.rw {n : Nat} {c : Cn} (g : SC n c) (w : Nat) : (rw c w).1 ≤ 4000 ∧ (rw c w).2 ≤ 4000 := by
  unfold K02.rw
  by_cases h : w < c.rows.length
  · rw [List.getD_eq_getElem?_getD, List.getElem?_eq_getElem h]; exact g.r _ (List.getElem_mem h)
  · simp [h]
theorem ix_rows {c : Cn} {w : Nat} (h : w < c.rows.length) : ixD (.tuple (c.rows.map pD)) (.int w) = some (pD (rw c w)) := by
  simp only [ixD, atI_nat, rw]; simp [h]
theorem sm_nat {x n : Nat} (h : x < 2 ^ n) : sm n (x : Int) := h
theorem fc_sm {n : Nat} {c : Cn} (g : SC n c) (w : Nat) : 0 ≤ ((rw c w).1 + 1 : Int) * (c.b + 2) ∧ 0 < ((rw c w).2 + 1 : Int) * (c.a + 2) ∧ sm 24 (((rw c w).1 + 1 : Int) * (c.b + 2)) ∧ sm 24 (((rw c w).2 + 1 : Int) * (c.a + 2)) := by
  obtain ⟨h1, h2⟩ := g.rw w
  have h3 := g.a
  have h4 := g.b
  refine ⟨Int.mul_nonneg (by omega) (by omega), Int.mul_pos (by omega) (by omega), ?_, ?_⟩
  · exact sm_mul (n := 12) (m := 12) (by unfold sm; omega) (by unfold sm; omega)
  · exact sm_mul (n := 12) (m := 12) (by unfold sm; omega) (by unfold sm; omega)
theorem fc_fok {n : Nat} {c : Cn} (g : SC n c) (w : Nat) : fok 24 (fcF c w) := by
  obtain ⟨h1, h2, h3, h4⟩ := fc_sm g w
  exact fok_ln h1 h2 h3 h4
theorem od_0 {n : Nat} {c : Cn} (g : SC n c) : fok 12 (lnF (c.a + 1) (c.b + 1)) := by
  have h3 := g.a
  have h4 := g.b
  exact fok_ln (by omega) (by omega) (by unfold sm; omega) (by unfold sm; omega)
theorem c_factor_of {n : Nat} {c : Cn} (g : SC n c) {w : Nat} (hw : w < n) : callF pg (k + 3) 18 [.d (cnD c), .d (.int w)] st = .ok (.d (frD (fcF c w))) st := by
  obtain ⟨h1, h2, h3, h4⟩ := fc_sm g w
  obtain ⟨r1, r2⟩ := g.rw w
  have h5 := g.a
  have h6 := g.b
  have e := fun st => c_lean (Pg := pg) (i := 7) (j := 6) (k := k) (st := st) rfl rfl _ _ h2 h3 h4 (by decide)
  have m1 : binD .Mult (.int ((rw c w).1 + 1)) (.int (c.b + 2)) = some (.int (((rw c w).1 + 1 : Int) * (c.b + 2))) := binD_mulr (by omega)
  have m2 : binD .Mult (.int ((rw c w).2 + 1)) (.int (c.a + 2)) = some (.int (((rw c w).2 + 1 : Int) * (c.a + 2))) := binD_mulr (by omega)
  rw [call_eq (show pg[18]? = some (ri_factor_of 7) from rfl)]
  simp [ri_factor_of, runF, SN, EN, ex_asgT, cnD, bindT, bindTs, ix_rows (c := c) (w := w) (by rw [g.len]; exact hw), m1, m2, e, fcF]
theorem od_loop {P : Nat → Ra → Prop} {n : Nat} {c : Cn} (g : SC n c) {b : Lo → Sto → Rs Fl} {tg : Nat} {L : Ra → Option RV → Lo} (hs : ∀ f o w, (L f o).set tg (some (.d (.int (w : Nat)))) = L f (some (.d (.int w)))) {t : List Nat} (ht : ∀ w ∈ t, w < n) (hl : t.length ≤ 100)
    (hb : ∀ m f (w : Nat), m ≤ 2412 → fok m f → w < n → b (L f (some (.d (.int w)))) st = .ok (.nx (L (tmF f (fcF c w)) (some (.d (.int w))))) st) : ∃ j, forL b (.n tg) (t.map fun (w : Nat) => PyData.int w) (L (lnF (c.a + 1) (c.b + 1)) none) st = .ok (.nx (L (odF c t) j)) st := by
  obtain ⟨j, e, _⟩ := forL_junk (b := b) (tg := .n tg) (fun (w : Nat) => PyData.int w) L (fun _ => st) (fun f w => tmF f (fcF c w)) (fun m f => fok (12 + m * 24) f) 100 t 0 (lnF (c.a + 1) (c.b + 1)) none (by simpa using od_0 g) (by omega) (by
    intro m f j w hm hf hw
    exact ⟨_, some (.d (.int w)), rfl, by rw [hs]; exact hb _ f w (by omega) hf (ht w hw), fok_mono (fok_tm hf (fc_fok g w)) (by omega)⟩)
  exact ⟨j, e⟩
theorem od_fok {n : Nat} {c : Cn} (g : SC n c) {t : List Nat} : fok (12 + t.length * 24) (odF c t) := by
  unfold odF
  have : ∀ (t : List Nat) (m : Nat) (f : Ra), fok m f → fok (m + t.length * 24) (t.foldl (fun f w => tmF f (fcF c w)) f) := by
    intro t
    induction t with
    | nil => intro m f h; simpa using h
    | cons w t ih =>
      intro m f h
      have := ih _ _ (fok_tm h (fc_fok g w))
      rw [List.foldl_cons]
      exact fok_mono this (by simp only [List.length_cons]; omega)
  exact this t 12 _ (od_0 g)
theorem c_odds_in {n : Nat} {c : Cn} (g : SC n c) {t : List Nat} (ht : ∀ w ∈ t, w < n) (hl : t.length ≤ 100) : callF pg (k + 4) 19 [.d (cnD c), .d (ltD t)] st = .ok (.d (frD (odF c t))) st := by
  have h3 := g.a
  have h4 := g.b
  have e1 := fun st => c_lean (Pg := pg) (i := 7) (j := 6) (k := k + 1) (st := st) rfl rfl (c.a + 1) (c.b + 1) (by omega) (n := 12) (by unfold sm; omega) (by unfold sm; omega) (by decide)
  obtain ⟨j, e⟩ := od_loop (P := fun _ _ => True) (st := st) g (b := exs (exN (callF pg (k + 3)) 60 39) [.asg (.n 2) (.call 8 [(.v 2), (.call 18 [(.v 0), (.v 3)])])]) (tg := 3) (L := fun f o => [some (.d (cnD c)), some (.d (ltD t)), some (.d (frD f)), o]) (fun f o w => rfl) ht hl (by
    intro m f w hm hf hw
    have e2 := fun st => c_factor_of (k := k) (st := st) g hw
    have e3 := fun st => c_times (Pg := pg) (i := 8) (i1 := 7) (i2 := 6) (k := k) (st := st) rfl rfl rfl hf (fc_fok g w) (by omega)
    simp [e2, e3])
  rw [call_eq (show pg[19]? = some (ri_odds_in 7 8 18) from rfl)]
  simp [ri_odds_in, runF, SN, EN, e1]
  rw [e]
  simp
theorem fc_law {c : Cn} {w : Nat} : tmF (lnF ((rw c w).1 + 1) (c.a + 2)) (lnF (c.b + 2) ((rw c w).2 + 1)) = fcF c w := by
  rw [tm_ln (by omega) (by omega), fcF, Int.mul_comm (c.a + 2 : Int)]
theorem c__law_odds {n : Nat} {c : Cn} (g : SC n c) {t : List Nat} (ht : ∀ w ∈ t, w < n) (hl : t.length ≤ 100) : callF pg (k + 3) 39 [.d (cnD c), .d (ltD t)] st = .ok (.d (frD (odF c t))) st := by
  have h3 := g.a
  have h4 := g.b
  have e1 := fun st => c__law_lean (Pg := pg) (i := 34) (k := k + 1) (st := st) rfl (c.a + 1) (c.b + 1) (by omega) (n := 12) (by unfold sm; omega) (by unfold sm; omega) (by decide)
  obtain ⟨j, e⟩ := od_loop (P := fun _ _ => True) (st := st) g (b := exs (exN (callF pg (k + 2)) 60 39) [.asg (.n 5) (.call 35 [(.v 5), (.call 35 [(.call 34 [(.bin .Add (.ix (.ix (.v 4) (.v 6)) (.c (.int (0)))) (.c (.int (1)))), (.bin .Add (.v 2) (.c (.int (2))))]), (.call 34 [(.bin .Add (.v 3) (.c (.int (2)))), (.bin .Add (.ix (.ix (.v 4) (.v 6)) (.c (.int (1)))) (.c (.int (1))))])])])]) (tg := 6) (L := fun f o => [some (.d (cnD c)), some (.d (ltD t)), some (.d (.int c.a)), some (.d (.int c.b)), some (.d (.tuple (c.rows.map pD))), some (.d (frD f)), o]) (fun f o w => rfl) ht hl (by
    intro m f w hm hf hw
    obtain ⟨r1, r2⟩ := g.rw w
    have e2 := fun st => c__law_lean (Pg := pg) (i := 34) (k := k + 1) (st := st) rfl ((rw c w).1 + 1) (c.a + 2) (by omega) (n := 12) (by unfold sm; omega) (by unfold sm; omega) (by decide)
    have e3 := fun st => c__law_lean (Pg := pg) (i := 34) (k := k + 1) (st := st) rfl (c.b + 2) ((rw c w).2 + 1) (by omega) (n := 12) (by unfold sm; omega) (by unfold sm; omega) (by decide)
    have f1 : fok 12 (lnF ((rw c w).1 + 1) (c.a + 2)) := fok_ln (by omega) (by omega) (by unfold sm; omega) (by unfold sm; omega)
    have f2 : fok 12 (lnF (c.b + 2) ((rw c w).2 + 1)) := fok_ln (by omega) (by omega) (by unfold sm; omega) (by unfold sm; omega)
    have e4 := fun st => c__law_by (Pg := pg) (i := 35) (i1 := 34) (k := k) (st := st) rfl rfl f1 f2 (by omega)
    simp only [fc_law] at e4
    have e5 := fun st => c__law_by (Pg := pg) (i := 35) (i1 := 34) (k := k) (st := st) rfl rfl hf (fc_fok g w) (by omega)
    simp [ix_rows (c := c) (w := w) (by rw [g.len]; exact hw), e2, e3, e4, e5])
  rw [call_eq (show pg[39]? = some (ri__law_odds 34 35) from rfl)]
  simp [ri__law_odds, runF, SN, EN, ex_asgT, cnD, bindT, bindTs, e1]
  simp only [cnD] at e
  rw [e]
  simp
theorem c_word_factors {n : Nat} {c : Cn} (g : GC n c) : callF pg (k + 5) 21 [.d (cnD c)] st = .ok (.d (.tuple ((List.range n).map fun w => frD (fcF c w)))) st := by
  have e1 := fun st => c_check_counts (k := k) (st := st) g
  have hl := g.len
  have hr : rngOk 0 (n : Int) = true := rngOk_n (by have := g.n6; omega)
  have s2 : szOk n = true := szOk_of (by have := g.n6; omega)
  rw [call_eq (show pg[21]? = some (ri_word_factors 13 18) from rfl)]
  simp [ri_word_factors, runF, SN, EN, e1, hl, hr, s2]
  rw [lcL_mapT (e := fun (w : Nat) => PyData.int w) (g := fun w => frD (fcF c w))]
  · simp
  · intro w hw
    have e2 := fun st => c_factor_of (k := k + 1) (st := st) g.sc (List.mem_range.1 hw)
    exact ⟨_, rfl, by simp [wipeL, e2]⟩
theorem c_word_factors_x {x : D} (e : ∀ st, callF pg (k + 3) 12 [.d x] st = .ok (.d (.bool false)) st) : callF pg (k + 5) 21 [.d x] st = .ex 0 [x] st := by
  have e1 := fun st => c_check_counts_x (k := k) (st := st) e
  rw [call_eq (show pg[21]? = some (ri_word_factors 13 18) from rfl)]
  simp [ri_word_factors, runF, SN, EN, e1]
theorem c_odds_of {n : Nat} {c : Cn} (g : GC n c) {t : List Nat} (ht : lotB n t = true) (hl : t.length ≤ 100) : callF pg (k + 6) 20 [.d (cnD c), .d (ltD t)] st = .ok (.d (frD (odF c t))) st := by
  have e0 : ∀ st, callF pg (k + 4) 4 [.d (ltD t), .d (.int n)] st = .ok (.d (.bool true)) st := fun st => by rw [c_is_lot (k := k + 1) (by omega), ht]
  have e1 := fun st => c_check_letter (k := k) (st := st) g e0
  have hw : ∀ w ∈ t, w < n := by
    simp only [lotB, Bool.and_eq_true, List.all_eq_true, decide_eq_true_eq] at ht
    exact ht.1
  have e2 := fun st => c_odds_in (k := k + 1) (st := st) g.sc hw hl
  rw [call_eq (show pg[20]? = some (ri_odds_of 14 19) from rfl)]
  simp [ri_odds_of, runF, SN, EN, e1, e2]
theorem c_odds_of_x {x y : D} (e : ∀ st, callF pg (k + 3) 12 [.d x] st = .ok (.d (.bool false)) st) : callF pg (k + 6) 20 [.d x, .d y] st = .ex 0 [x] st := by
  have e1 := fun st => c_check_letter_x (k := k) (st := st) (y := y) e
  rw [call_eq (show pg[20]? = some (ri_odds_of 14 19) from rfl)]
  simp [ri_odds_of, runF, SN, EN, e1]
theorem c_odds_of_l {n : Nat} {c : Cn} (g : GC n c) {y : D} (e : ∀ st, callF pg (k + 4) 4 [.d y, .d (.int n)] st = .ok (.d (.bool false)) st) : callF pg (k + 6) 20 [.d (cnD c), .d y] st = .ex 0 [y] st := by
  have e1 := fun st => c_check_letter (k := k) (st := st) g e
  rw [call_eq (show pg[20]? = some (ri_odds_of 14 19) from rfl)]
  simp [ri_odds_of, runF, SN, EN, e1]
end
end K02
end Sm

set_option Elab.async false
set_option linter.all false
set_option maxRecDepth 100000
/-! K02e: bounds, lots, what is counted out. -/
namespace Sm
open PySem PySem.Spec
open K11 (isTu isT_eq isBl isB_eq lotStep lotF lotP lotP_S lotP_F lotF_S lotStep_map sortLn_ok)
namespace K02
section
variable {k : Nat} {st rest : Sto}
/-! lots -/
theorem asc_cons {a b : Nat} {t : List Nat} : ascB (a :: b :: t) = (decide (a < b) && ascB (b :: t)) := by simp [ascB]
theorem asc_snoc : ∀ (t : List Nat) (m : Nat), ascB t = true → (∀ x ∈ t, x < m) → ascB (t ++ [m]) = true
  | [], m, _, _ => by simp [ascB]
  | [a], m, _, h => by simp [ascB, h a (by simp)]
  | a :: b :: t, m, ha, h => by
    rw [asc_cons, Bool.and_eq_true] at ha
    have := asc_snoc (b :: t) m ha.2 fun x hx => h x (by simp [List.mem_cons.1 hx])
    simp only [List.cons_append] at this ⊢
    rw [asc_cons, Bool.and_eq_true]
    exact ⟨ha.1, this⟩
theorem lot_ok : ∀ (n : Nat), ∀ t ∈ lotF n, lotB n t = true
  | 0, t, h => by
    have : t = [] := by simpa [lotF] using h
    subst this; rfl
  | n + 1, t, h => by
    rw [lotF_S, lotStep, List.mem_append, List.mem_map] at h
    have ih := lot_ok n
    rcases h with h | ⟨u, hu, rfl⟩
    · have := ih t h
      simp only [lotB, Bool.and_eq_true, List.all_eq_true, decide_eq_true_eq] at this ⊢
      exact ⟨fun x hx => by have := this.1 x hx; omega, this.2⟩
    · have := ih u hu
      simp only [lotB, Bool.and_eq_true, List.all_eq_true, decide_eq_true_eq] at this ⊢
      refine ⟨fun x hx => ?_, asc_snoc u n this.2 this.1⟩
      rcases List.mem_append.1 hx with hx | hx
      · have := this.1 x hx; omega
      · rw [List.mem_singleton.1 hx]; omega
def evL (n : Nat) : List (List Nat) := srL (lotF n)
theorem ev_ok {n : Nat} {t : List Nat} (h : t ∈ evL n) : lotB n t = true ∧ t.length ≤ n := by
  rw [evL, srL_mem] at h
  exact ⟨lot_ok n t h, (lotP_F n).2 t h⟩
theorem ev_len {n : Nat} (h : n ≤ 6) : (evL n).length ≤ 64 := by
  rw [evL, srL_len, (lotP_F n).1]
  have : 2 ^ n ≤ 2 ^ 6 := Nat.pow_le_pow_right (by decide) h
  omega
theorem ev_ne {n : Nat} : evL n ≠ [] := by
  intro e
  have := congrArg List.length e
  rw [evL, srL_len, (lotP_F n).1] at this
  have h : 0 < 2 ^ n := Nat.pow_pos (by decide)
  simp at this
theorem lots_run {cf : CF} {n : Nat} (h : n ≤ 6) {elt : E} (helt : elt = .tup [(true, (.v 3)), (false, (.v 2))] ∨ elt = .bin .Add (.v 3) (.tup [(false, (.v 2))])) : ∃ j, forL (exs (exN cf 60 39) [.asg (.n 1) (.bin .Add (.v 1) (.lc [3] (.n 3) (.e (.v 1)) none elt))]) (.n 2) ((List.range n).map fun (n : Nat) => PyData.int n) [some (.d (.int n)), some (.d (.list [PyData.tuple []])), none, none] st = .ok (.nx [some (.d (.int n)), some (.d (.list ((lotF n).map ltD))), j, none]) st := by
  have hp : ∀ m ≤ 6, 2 ^ m ≤ 2 ^ 6 := fun m hm => Nat.pow_le_pow_right (by decide) hm
  obtain ⟨j, e, _⟩ := forL_junk (b := exs (exN cf 60 39) [.asg (.n 1) (.bin .Add (.v 1) (.lc [3] (.n 3) (.e (.v 1)) none elt))]) (tg := .n 2)
    (fun (n : Nat) => PyData.int n) (fun (s : List (List Nat)) (j : Option RV) => [some (.d (.int n)), some (.d (.list (s.map ltD))), j, none]) (fun _ => st) lotStep lotP n (List.range n) 0 [[]] none ⟨rfl, by simp⟩ (by simp) (by
      intro i s j m hi hs hm
      have hs' := lotP_S (m := m) hs
      have h1 := hp i (by omega)
      have h2 := hs.1
      have s1 : szOk s.length = true := szOk_of (by omega)
      have s2 : szOk (s.length + s.length) = true := szOk_of (by omega)
      refine ⟨_, some (.d (.int m)), rfl, ?_, hs'⟩
      simp [s1]
      rw [lcL_mapT (e := ltD) (g := fun t => ltD (t ++ [m]))]
      · simp [binD, s2, lotStep_map]
      · intro t ht
        have s3 : szOk (t.length + 1) = true := szOk_of (by have := hs.2 t ht; omega)
        refine ⟨_, rfl, ?_⟩
        rcases helt with rfl | rfl
        · simp [wipeL, s3]
          simp [ltD]
        · simp [wipeL, ltD, binD, s3])
  have hl : (List.range n).foldl lotStep [[]] = lotF n := rfl
  rw [hl] at e
  simp only [List.map_cons, List.map_nil, show ltD [] = .tuple [] from rfl] at e
  exact ⟨j, e⟩
theorem srt_ok {n : Nat} (h : n ≤ 6) : (((lotF n).map ltD).all isTup && noLsts ((lotF n).map ltD) && sortable (((lotF n).map ltD).map keyLn) && szOk ((lotF n).map ltD).length) = true := sortLn_ok (lotF n) (by rw [(lotP_F n).1]; have : 2 ^ n ≤ 2 ^ 6 := Nat.pow_le_pow_right (by decide) h; omega)
theorem c_lots_below {n : Nat} (h : n ≤ 6) : callF pg (k + 1) 5 [.d (.int n)] st = .ok (.d (.list ((evL n).map ltD))) st := by
  have hr : rngOk 0 (n : Int) = true := rngOk_n (by omega)
  obtain ⟨j, e⟩ := lots_run (st := st) (cf := callF pg k) h (.inl rfl)
  rw [call_eq (show pg[5]? = some ri_lots_below from rfl)]
  simp [ri_lots_below, runF, SN, EN, hr]
  rw [e]
  simp [sortLnO_of (srt_ok h), sortLn_map, evL]
theorem c__law_lots {n : Nat} (h : n ≤ 6) : callF pg (k + 1) 37 [.d (.int n)] st = .ok (.d (.list ((evL n).map ltD))) st := by
  have hr : rngOk 0 (n : Int) = true := rngOk_n (by omega)
  obtain ⟨j, e⟩ := lots_run (st := st) (cf := callF pg k) h (.inr rfl)
  rw [call_eq (show pg[37]? = some ri__law_lots from rfl)]
  simp [ri__law_lots, runF, SN, EN, hr]
  rw [e]
  simp [sortLnO_of (srt_ok h), sortLn_map, evL]
/-! bounds -/
structure GB (b : Ra) : Prop where
  a1 : 1 ≤ b.1
  a2 : b.1 ≤ 1000
  b1 : 1 ≤ b.2
  b2 : b.2 ≤ 1000
  ln : lnF b.1 b.2 = b
theorem GB.fok {b : Ra} (g : GB b) : fok 10 b := by
  have h1 := g.a1
  have h2 := g.a2
  have h3 := g.b1
  have h4 := g.b2
  exact ⟨by omega, by omega, by unfold sm; omega, by unfold sm; omega⟩
theorem fr_inj {p q : Ra} : PyData.eqv (frD p) (frD q) = decide (p = q) := by
  simp only [frD, PyData.eqv, PyData.eqvAll, eqv_int, Bool.and_true]
  by_cases h1 : p.1 = q.1 <;> by_cases h2 : p.2 = q.2 <;> simp [h1, h2, Prod.ext_iff]
theorem cmp_frN {p q : Ra} : cmpD .NotEq (frD p) (frD q) = some (!decide (p = q)) := by
  have h : eqOk (frD p) (frD q) = true := by simp [eqOk, frD, PyData.plain, PyData.plainAll, PyData.depth, PyData.depthAll]
  simp only [cmpD, h, if_true, fr_inj]
def chkB (b : Ra) : Bool := decide (1 ≤ b.1) && decide (b.1 ≤ 1000) && (decide (1 ≤ b.2) && decide (b.2 ≤ 1000)) && decide (lnF b.1 b.2 = b)
theorem GB.chk {b : Ra} (g : GB b) : chkB b = true := by simp [chkB, g.a1, g.a2, g.b1, g.b2, g.ln]
theorem c_check_bound {b : Ra} : callF pg (k + 3) 22 [.d (frD b)] st = if chkB b then .ok (.d .none) st else .ex 0 [frD b] st := by
  have e1 : ∀ st, callF pg (k + 2) 2 [.d (frD b), .d (.int 2)] st = .ok (.d (.bool true)) st := fun st => many_2
  have e2 := fun st => c_is_from (Pg := pg) (i := 1) (j := 0) (k := k) (st := st) rfl rfl (.int b.1) 1 1000
  have e3 := fun st => c_is_from (Pg := pg) (i := 1) (j := 0) (k := k) (st := st) rfl rfl (.int b.2) 1 1000
  simp only [isFr] at e2 e3
  rw [call_eq (show pg[22]? = some (ri_check_bound 2 1 7) from rfl)]
  cases f1 : decide (1 ≤ b.1) && decide (b.1 ≤ 1000) with
  | false =>
    rw [f1] at e2
    simp [ri_check_bound, runF, SN, EN, e1, e2, chkB, f1]
  | true =>
    rw [f1] at e2
    cases f2 : decide (1 ≤ b.2) && decide (b.2 ≤ 1000) with
    | false =>
      rw [f2] at e3
      simp [ri_check_bound, runF, SN, EN, e1, e2, e3, chkB, f1, f2]
    | true =>
      rw [f2] at e3
      have g1 := f1
      have g2 := f2
      simp only [Bool.and_eq_true, decide_eq_true_eq] at g1 g2
      have e4 := fun st => c_lean (Pg := pg) (i := 7) (j := 6) (k := k) (st := st) rfl rfl b.1 b.2 (by omega) (n := 10) (by unfold sm; omega) (by unfold sm; omega) (by decide)
      simp [ri_check_bound, runF, SN, EN, e1, e2, e3, e4, cmp_frN]
      by_cases f3 : lnF b.1 b.2 = b
      · simp [chkB, f1, f2, f3]
      · simp [chkB, f1, f2, f3]
theorem c_check_bound_n : callF pg (k + 3) 22 [.d .none] st = .ex 0 [.none] st := by
  have e1 : ∀ st, callF pg (k + 2) 2 [.d .none, .d (.int 2)] st = .ok (.d (.bool false)) st := fun st => c_is_many (Pg := pg) (i := 2) rfl .none 2
  rw [call_eq (show pg[22]? = some (ri_check_bound 2 1 7) from rfl)]
  simp [ri_check_bound, runF, SN, EN, e1]
def lsF (p q : Ra) : Bool := decide (p.1 * q.2 < q.1 * p.2)
theorem c_is_less {n m : Nat} {p q : Ra} (hp : fok n p) (hq : fok m q) (l : n + m < 7000) : callF pg (k + 1) 9 [.d (frD p), .d (frD q)] st = .ok (.d (.bool (lsF p q))) st := c__law_less (Pg := pg) (i := 9) rfl hp hq l
theorem c_law_less {n m : Nat} {p q : Ra} (hp : fok n p) (hq : fok m q) (l : n + m < 7000) : callF pg (k + 1) 36 [.d (frD p), .d (frD q)] st = .ok (.d (.bool (lsF p q))) st := c__law_less (Pg := pg) (i := 36) rfl hp hq l
theorem lot_lt {n : Nat} {t : List Nat} (ht : lotB n t = true) : ∀ w ∈ t, w < n := by
  simp only [lotB, Bool.and_eq_true, List.all_eq_true, decide_eq_true_eq] at ht
  exact ht.1
theorem c_is_counted_out {n : Nat} {c : Cn} (g : GC n c) {b : Ra} (gb : GB b) {t : List Nat} (ht : lotB n t = true) (hl : t.length ≤ 100) : callF pg (k + 6) 23 [.d (cnD c), .d (frD b), .d (ltD t)] st = .ok (.d (.bool (!lsF (odF c t) b))) st := by
  have e0 : ∀ st, callF pg (k + 4) 4 [.d (ltD t), .d (.int n)] st = .ok (.d (.bool true)) st := fun st => by rw [c_is_lot (k := k + 1) (by omega), ht]
  have e1 := fun st => c_check_letter (k := k) (st := st) g e0
  have e2 := fun st => c_check_bound (k := k + 2) (st := st) (b := b)
  simp only [gb.chk, if_true] at e2
  have e3 := fun st => c_odds_in (k := k + 1) (st := st) g.sc (lot_lt ht) hl
  have e4 := fun st => c_is_less (k := k + 4) (st := st) (od_fok g.sc (t := t)) gb.fok (by omega)
  rw [call_eq (show pg[23]? = some (ri_is_counted_out 14 22 9 19) from rfl)]
  simp [ri_is_counted_out, runF, SN, EN, e1, e2, e3, e4]
theorem c_is_counted_out_l {n : Nat} {c : Cn} (g : GC n c) {x y : D} (e : ∀ st, callF pg (k + 4) 4 [.d y, .d (.int n)] st = .ok (.d (.bool false)) st) : callF pg (k + 6) 23 [.d (cnD c), .d x, .d y] st = .ex 0 [y] st := by
  have e1 := fun st => c_check_letter (k := k) (st := st) g e
  rw [call_eq (show pg[23]? = some (ri_is_counted_out 14 22 9 19) from rfl)]
  simp [ri_is_counted_out, runF, SN, EN, e1]
def outL (n : Nat) (c : Cn) (b : Ra) : List (List Nat) := (evL n).filter fun t => !lsF (odF c t) b
theorem c_counted_out {n : Nat} {c : Cn} (g : GC n c) {b : Ra} (gb : GB b) : callF pg (k + 5) 24 [.d (cnD c), .d (frD b)] st = .ok (.d (.tuple ((outL n c b).map ltD))) st := by
  have hl := g.len
  have h6 := g.n6
  have e1 := fun st => c_check_counts (k := k) (st := st) g
  have e2 := fun st => c_check_bound (k := k + 1) (st := st) (b := b)
  simp only [gb.chk, if_true] at e2
  have e3 := fun st => c_lots_below (k := k + 3) (st := st) h6
  have s1 : szOk (evL n).length = true := szOk_of (by have := ev_len h6; omega)
  rw [call_eq (show pg[24]? = some (ri_counted_out 13 22 5 9 19) from rfl)]
  simp [ri_counted_out, runF, SN, EN, e1, e2, hl, e3, s1]
  rw [lcL_filterT (e := ltD) (p := fun t => !lsF (odF c t) b) (g := ltD)]
  · simp [outL]
  · intro t ht
    obtain ⟨o1, o2⟩ := ev_ok ht
    have e4 := fun st => c_odds_in (k := k) (st := st) g.sc (lot_lt o1) (by omega)
    have e5 := fun st => c_is_less (k := k + 3) (st := st) (od_fok g.sc (t := t)) gb.fok (by omega)
    exact ⟨_, rfl, by simp [wipeL, e4, e5], fun _ => by simp [wipeL]⟩
theorem c_counted_out_x {x y : D} (e : ∀ st, callF pg (k + 3) 12 [.d x] st = .ok (.d (.bool false)) st) : callF pg (k + 5) 24 [.d x, .d y] st = .ex 0 [x] st := by
  have e1 := fun st => c_check_counts_x (k := k) (st := st) e
  rw [call_eq (show pg[24]? = some (ri_counted_out 13 22 5 9 19) from rfl)]
  simp [ri_counted_out, runF, SN, EN, e1]
theorem c_counted_out_b {n : Nat} {c : Cn} (g : GC n c) {y : D} (e : ∀ st, callF pg (k + 4) 22 [.d y] st = .ex 0 [y] st) : callF pg (k + 5) 24 [.d (cnD c), .d y] st = .ex 0 [y] st := by
  have e1 := fun st => c_check_counts (k := k) (st := st) g
  rw [call_eq (show pg[24]? = some (ri_counted_out 13 22 5 9 19) from rfl)]
  simp [ri_counted_out, runF, SN, EN, e1, e]
end
end K02
end Sm

set_option Elab.async false
set_option linter.all false
set_option maxRecDepth 100000
/-! K02f: marks added, counts joined. -/
namespace Sm
open PySem PySem.Spec
open K11 (isTu isT_eq isBl isB_eq)
theorem zipIdx_range {α : Type} (f : Nat → α) (n : Nat) : ((List.range n).map f).zipIdx = (List.range n).map fun i => (f i, i) := by
  apply List.ext_getElem
  · simp
  · intro i h1 h2
    simp
theorem fs_find {α β : Type} (p : α → Bool) (g : α → β) : ∀ l : List α, (l.findSome? fun a => if p a then some (g a) else none) = (l.find? p).map g
  | [] => rfl
  | a :: l => by
    rw [List.findSome?_cons, List.find?_cons, fs_find p g l]
    cases p a <;> rfl
theorem maxO_2 {st : Sto} {a b : Int} : maxO (some [.int a, .int b]) st = .ok (.d (.int (max a b))) st := by
  have ok : minOk [.int a, .int b] = true := K_minOk2
  rw [maxO_of (by simp) ok]
  have := PySem.W.maxD_ints a [b]
  simp only [List.map_cons, List.map_nil, List.foldl_cons, List.foldl_nil] at this
  simp only [mxD, this]
where K_minOk2 {a b : Int} : minOk [.int a, .int b] = true := minOk_ints [a, b]
namespace K02
section
variable {k : Nat} {st rest : Sto}
def rowsAdd (rows : List (Nat × Nat)) (t : List Nat) (x y : Nat) : List (Nat × Nat) := rows.zipIdx.map fun p => if p.2 ∈ t then (p.1.1 + x, p.1.2 + y) else p.1
theorem ra_len {rows : List (Nat × Nat)} {t : List Nat} {x y : Nat} : (rowsAdd rows t x y).length = rows.length := by simp [rowsAdd]
/-- the rows made anew, run -/
theorem rows_run {cf : CF} {m : Nat} {lo : Lo} {i j l : Nat} {rows : List (Nat × Nat)} {t : List Nat} {x y : Nat} {u v : E} (hu : ∀ p q : D, True) (h : ∀ (r : Nat × Nat) (w : Nat), evP (ev cf m) (.ife (.cmp .In (.v i) u) v (.tup [(false, (.v j)), (false, (.v l))])) (((((wipeL [i, j, l] lo).set i (some (.d (.int w)))).set j (some (.d (.int r.1)))).set l (some (.d (.int r.2))))) st = .ok (pD (if w ∈ t then (r.1 + x, r.2 + y) else r)) st) :
    lcL (ev cf m) [i, j, l] (.t [(.n i), (.t [(.n j), (.n l)])]) none (.ife (.cmp .In (.v i) u) v (.tup [(false, (.v j)), (false, (.v l))])) lo (rows.zipIdx.map fun p => PyData.tuple [.int p.2, pD p.1]) st = .ok ((rowsAdd rows t x y).map pD) st := by
  rw [lcL_mapT (g := fun (p : (Nat × Nat) × Nat) => pD (if p.2 ∈ t then (p.1.1 + x, p.1.2 + y) else p.1))]
  · simp [rowsAdd, Function.comp_def]
  · rintro ⟨r, w⟩ _
    exact ⟨_, rfl, h r w⟩
def wmF (c : Cn) (t : List Nat) (b : Bool) : Cn := if b then ⟨c.a + 1, c.b, rowsAdd c.rows t 1 0⟩ else ⟨c.a, c.b + 1, rowsAdd c.rows t 0 1⟩
theorem c_with_mark {n : Nat} {c : Cn} (g : GC n c) {t : List Nat} (ht : lotB n t = true) (hl : t.length ≤ 100) (h1 : c.a < 1000) (h2 : c.b < 1000) (b : Bool) : callF pg (k + 6) 16 [.d (cnD c), .d (ltD t), .d (.bool b)] st = .ok (.d (cnD (wmF c t b))) st := by
  have e0 : ∀ st, callF pg (k + 4) 4 [.d (ltD t), .d (.int n)] st = .ok (.d (.bool true)) st := fun st => by rw [c_is_lot (k := k + 1) (by omega), ht]
  have e1 := fun st => c_check_letter (k := k) (st := st) g e0
  have hr := g.len
  have h6 := g.n6
  have s1 : szOk c.rows.length = true := szOk_of (by omega)
  rw [call_eq (show pg[16]? = some (ri_with_mark 14) from rfl)]
  cases b with
  | true =>
    simp [ri_with_mark, runF, SN, EN, e1, isBl, show ¬ (c.a : Int) = 1000 by omega, ex_asgT, bindT, bindTs, s1]
    rw [rows_run (t := t) (x := 1) (y := 0) (fun _ _ => trivial) (by
      intro r w
      by_cases hw : w ∈ t <;> simp [wipeL, cmp_in, hw, pD])]
    simp [wmF]
    simp [cnD]
  | false =>
    simp [ri_with_mark, runF, SN, EN, e1, isBl, show ¬ (c.b : Int) = 1000 by omega, ex_asgT, bindT, bindTs, s1]
    rw [rows_run (t := t) (x := 0) (y := 1) (fun _ _ => trivial) (by
      intro r w
      by_cases hw : w ∈ t <;> simp [wipeL, cmp_in, hw, pD])]
    simp [wmF]
    simp [cnD]
theorem ct_snoc {n : Nat} {l : List Mk} {t : List Nat} {b : Bool} : ctF n (l ++ [(t, b)]) = wmF (ctF n l) t b := by
  have one : ∀ w, cw w [t] = if w ∈ t then 1 else 0 := fun w => by by_cases h : w ∈ t <;> simp [cw, h]
  cases b with
  | true =>
    have h1 : badL (l ++ [(t, true)]) = badL l ++ [t] := by simp [badL]
    have h2 : goodL (l ++ [(t, true)]) = goodL l := by simp [goodL]
    simp only [ctF, wmF, h1, h2, if_true, rowsAdd, zipIdx_range, List.map_map, List.length_append, List.length_singleton, Cn.mk.injEq, true_and]
    refine List.map_congr_left fun w _ => ?_
    simp only [Function.comp_apply, cw_app, one]
    split <;> simp
  | false =>
    have h1 : badL (l ++ [(t, false)]) = badL l := by simp [badL]
    have h2 : goodL (l ++ [(t, false)]) = goodL l ++ [t] := by simp [goodL]
    simp only [ctF, wmF, h1, h2, Bool.false_eq_true, if_false, rowsAdd, zipIdx_range, List.map_map, List.length_append, List.length_singleton, Cn.mk.injEq, true_and]
    refine List.map_congr_left fun w _ => ?_
    simp only [Function.comp_apply, cw_app, one]
    split <;> simp
theorem c_with_mark_x {x y z : D} (e : ∀ st, callF pg (k + 3) 12 [.d x] st = .ok (.d (.bool false)) st) : callF pg (k + 6) 16 [.d x, .d y, .d z] st = .ex 0 [x] st := by
  have e1 := fun st => c_check_letter_x (k := k) (st := st) (y := y) e
  rw [call_eq (show pg[16]? = some (ri_with_mark 14) from rfl)]
  simp [ri_with_mark, runF, SN, EN, e1]
theorem c_with_mark_b {n : Nat} {c : Cn} (g : GC n c) {z : D} (h : isBl z = false) : callF pg (k + 6) 16 [.d (cnD c), .d (.tuple []), .d z] st = .ex 0 [z] st := by
  have e0 : ∀ st, callF pg (k + 4) 4 [.d (.tuple []), .d (.int n)] st = .ok (.d (.bool true)) st := fun st => c_is_lot (k := k + 1) (st := st) (n := n) (t := []) (by simp)
  have e1 := fun st => c_check_letter (k := k) (st := st) g e0
  rw [call_eq (show pg[16]? = some (ri_with_mark 14) from rfl)]
  simp [ri_with_mark, runF, SN, EN, e1, h]
theorem c_with_mark_f {n : Nat} {c : Cn} (g : GC n c) (h : c.a = 1000) : callF pg (k + 6) 16 [.d (cnD c), .d (.tuple []), .d (.bool true)] st = .ex 0 [cnD c] st := by
  have e0 : ∀ st, callF pg (k + 4) 4 [.d (.tuple []), .d (.int n)] st = .ok (.d (.bool true)) st := fun st => c_is_lot (k := k + 1) (st := st) (n := n) (t := []) (by simp)
  have e1 := fun st => c_check_letter (k := k) (st := st) g e0
  rw [call_eq (show pg[16]? = some (ri_with_mark 14) from rfl)]
  simp [ri_with_mark, runF, SN, EN, e1, isBl, h]
/-! joined -/
def jnF (c d : Cn) : Cn := ⟨c.a + d.a, c.b + d.b, (c.rows.zip d.rows).map fun p => (p.1.1 + p.2.1, p.1.2 + p.2.2)⟩
theorem c_joined {n : Nat} {c d : Cn} (g : GC n c) (h : GC n d) : callF pg (k + 5) 17 [.d (cnD c), .d (cnD d)] st = if max (c.a + d.a) (c.b + d.b) ≤ 1000 then .ok (.d (cnD (jnF c d))) st else .ex 0 [cnD d] st := by
  have e1 := fun st => c_check_counts (k := k) (st := st) g
  have e2 := fun st => c_is_counts (k := k + 1) (st := st) h
  have hl := g.len
  have hl2 := h.len
  have h6 := g.n6
  have s1 : szOk (min c.rows.length d.rows.length) = true := szOk_of (by omega)
  rw [call_eq (show pg[17]? = some (ri_joined_counts 13 12) from rfl)]
  by_cases hm : max (c.a + d.a) (c.b + d.b) ≤ 1000
  · rw [if_pos hm]
    rw [hl, hl2] at s1
    simp [ri_joined_counts, runF, SN, EN, e1, e2, hl, hl2, maxO_2, show ¬ (1000 : Int) < max (c.a + d.a : Int) (c.b + d.b) by omega, zipOf, szOk_of (show n ≤ 1000000 by omega)]
    rw [lcL_mapT (g := fun (p : (Nat × Nat) × (Nat × Nat)) => pD (p.1.1 + p.2.1, p.1.2 + p.2.2))]
    · simp
      simp [cnD, jnF]
    · rintro ⟨u, v⟩ _
      exact ⟨_, rfl, by simp [wipeL]; simp [pD]⟩
  · rw [if_neg hm]
    simp [ri_joined_counts, runF, SN, EN, e1, e2, hl, hl2, maxO_2, show (1000 : Int) < max (c.a + d.a : Int) (c.b + d.b) by omega]
theorem c_joined_x {n : Nat} {c : Cn} (g : GC n c) {y : D} (e : ∀ st, callF pg (k + 4) 12 [.d y] st = .ok (.d (.bool false)) st) : callF pg (k + 5) 17 [.d (cnD c), .d y] st = .ex 0 [y] st := by
  have e1 := fun st => c_check_counts (k := k) (st := st) g
  rw [call_eq (show pg[17]? = some (ri_joined_counts 13 12) from rfl)]
  simp [ri_joined_counts, runF, SN, EN, e1, e]
theorem zip_range {α β : Type} (f : Nat → α) (g : Nat → β) (n : Nat) : ((List.range n).map f).zip ((List.range n).map g) = (List.range n).map fun i => (f i, g i) := by
  rw [List.zip_map']
theorem ct_join {n : Nat} {l m : List Mk} : jnF (ctF n l) (ctF n m) = ctF n (l ++ m) := by
  simp only [jnF, ctF, badL_app, goodL_app, List.length_append, zip_range, List.map_map, cw_app, Cn.mk.injEq, true_and]
  exact List.map_congr_left fun w _ => rfl
/-! odds along marks -/
theorem GM.take {n : Nat} {l : List Mk} (g : GM n l) (i : Nat) : GM n (l.take i) := ⟨g.n1, g.n6, by have := g.le; simp; omega, fun p hp => g.ok p (List.mem_of_mem_take hp)⟩
theorem c_odds_along {n : Nat} {l : List Mk} (g : GM n l) {t : List Nat} (ht : lotB n t = true) (hl : t.length ≤ 100) : callF pg (k + 7) 26 [.d (.int n), .d (mksD l), .d (ltD t)] st = .ok (.d (.tuple ((List.range (l.length + 1)).map fun i => frD (odF (ctF n (l.take i)) t)))) st := by
  have e0 : ∀ st, callF pg (k + 6) 4 [.d (ltD t), .d (.int n)] st = .ok (.d (.bool true)) st := fun st => by rw [c_is_lot (k := k + 3) (by omega), ht]
  have e1 := fun st => g.marks (k := k + 1) (st := st)
  have hle := g.le
  have hr : rngOk 0 ((l.length : Int) + 1) = true := rngOk_n (n := l.length + 1) (by omega)
  have hra : rangeN 0 ((l.length : Int) + 1) = (List.range (l.length + 1)).map fun (k : Nat) => PyData.int (k : Int) := rangeN_0 (n := l.length + 1)
  have s1 : szOk (l.length + 1) = true := szOk_of (by omega)
  rw [call_eq (show pg[26]? = some (ri_odds_along 11 4 19 15) from rfl)]
  simp [ri_odds_along, runF, SN, EN, e0, e1, hr, hra, s1]
  rw [lcL_mapT (e := fun (i : Nat) => PyData.int i) (g := fun i => frD (odF (ctF n (l.take i)) t))]
  · simp
  · intro i hi
    have hi := List.mem_range.1 hi
    have e2 := fun st => c_counted (k := k) (st := st) (g.take i)
    have hsl : slD (mksD l) none (some (i : Int)) = some (mksD (l.take i)) := by
      simp only [slD, mksD, cut_to (e := mkD) (xs := l) (n := i) (by omega)]
    have gt := g.take i
    have e3 := fun st => c_odds_in (k := k + 2) (st := st) (ct_GC (l := l.take i) gt.n1 gt.n6 (by have := gt.le; omega)).sc (lot_lt ht) hl
    exact ⟨_, rfl, by simp [wipeL, hsl, e2, e3]⟩
theorem c_odds_along_n {x y z : D} (h : isFr x 1 6 = false) : callF pg (k + 7) 26 [.d x, .d y, .d z] st = .ex 0 [x] st := by
  have e1 := fun st => c_check_marks_n (k := k + 1) (st := st) (y := y) h
  rw [call_eq (show pg[26]? = some (ri_odds_along 11 4 19 15) from rfl)]
  simp [ri_odds_along, runF, SN, EN, e1]
theorem c_odds_along_m {n : Nat} (h1 : 1 ≤ n) (h6 : n ≤ 6) {y z : D} (e : ∀ st, callF pg (k + 5) 10 [.d (.int n), .d y] st = .ok (.d (.bool false)) st) : callF pg (k + 7) 26 [.d (.int n), .d y, .d z] st = .ex 0 [y] st := by
  have e1 := fun st => c_check_marks (k := k + 1) (st := st) h1 h6 e
  rw [call_eq (show pg[26]? = some (ri_odds_along 11 4 19 15) from rfl)]
  simp [ri_odds_along, runF, SN, EN, e1]
theorem c_odds_along_l {n : Nat} {l : List Mk} (g : GM n l) {y : D} (e : ∀ st, callF pg (k + 6) 4 [.d y, .d (.int n)] st = .ok (.d (.bool false)) st) : callF pg (k + 7) 26 [.d (.int n), .d (mksD l), .d y] st = .ex 0 [y] st := by
  have e1 := fun st => g.marks (k := k + 1) (st := st)
  rw [call_eq (show pg[26]? = some (ri_odds_along 11 4 19 15) from rfl)]
  simp [ri_odds_along, runF, SN, EN, e1, e]
theorem c_counted_n {x y : D} (h : isFr x 1 6 = false) : callF pg (k + 6) 15 [.d x, .d y] st = .ex 0 [x] st := by
  have e1 := fun st => c_check_marks_n (k := k) (st := st) (y := y) h
  rw [call_eq (show pg[15]? = some (ri_counted 11) from rfl)]
  simp [ri_counted, runF, SN, EN, e1]
theorem c_counted_m {n : Nat} (h1 : 1 ≤ n) (h6 : n ≤ 6) {y : D} (e : ∀ st, callF pg (k + 4) 10 [.d (.int n), .d y] st = .ok (.d (.bool false)) st) : callF pg (k + 6) 15 [.d (.int n), .d y] st = .ex 0 [y] st := by
  have e1 := fun st => c_check_marks (k := k) (st := st) h1 h6 e
  rw [call_eq (show pg[15]? = some (ri_counted 11) from rfl)]
  simp [ri_counted, runF, SN, EN, e1]
theorem c_parted_m {n : Nat} (h1 : 1 ≤ n) (h6 : n ≤ 6) {y : D} (e : ∀ st, callF pg (k + 4) 10 [.d (.int n), .d y] st = .ok (.d (.bool false)) st) : callF pg (k + 7) 28 [.d (.int n), .d y] st = .ex 0 [y] st := by
  have e1 := fun st => c_counted_m (k := k) (st := st) h1 h6 e
  rw [call_eq (show pg[28]? = some (ri_parted_by_odds 15 9 19) from rfl)]
  simp [ri_parted_by_odds, runF, SN, EN, e1]
end
end K02
end Sm

set_option Elab.async false
set_option linter.all false
set_option maxRecDepth 100000
/-! K02g: fewest false marks, bounds for letters, what odds part. -/
namespace Sm
open PySem PySem.Spec
open K11 (isTu isT_eq isBl isB_eq)
namespace K02
section
variable {k : Nat} {st rest : Sto}
def grd (c : Cn) (t : List Nat) (m : Nat) : Cn := ⟨c.a + m, c.b, rowsAdd c.rows t m 0⟩
theorem ra_mem {rows : List (Nat × Nat)} {t : List Nat} {x y : Nat} {r : Nat × Nat} (h : r ∈ rowsAdd rows t x y) : ∃ q ∈ rows, r.1 ≤ q.1 + x ∧ r.2 ≤ q.2 + y := by
  simp only [rowsAdd, List.mem_map] at h
  obtain ⟨⟨q, i⟩, hp, rfl⟩ := h
  have hq : q ∈ rows := by
    have := List.mem_zipIdx hp
    rw [this.2.2]
    exact List.getElem_mem _
  refine ⟨q, hq, ?_⟩
  simp only
  split <;> simp
theorem grd_SC {n : Nat} {c : Cn} (g : GC n c) {t : List Nat} {m : Nat} (hm : m ≤ 1000) : SC n (grd c t m) := by
  have h1 := g.a
  have h2 := g.b
  refine ⟨by simp [grd, ra_len, g.len], by simp [grd]; omega, by simp [grd]; omega, ?_⟩
  intro r hr
  obtain ⟨q, hq, a, b⟩ := ra_mem hr
  have := g.r q hq
  omega
def ffP (c : Cn) (b : Ra) (t : List Nat) (m : Nat) : Bool := !lsF (odF (grd c t m) t) b
def ffO (c : Cn) (b : Ra) (t : List Nat) : Option Nat := (List.range 201).find? (ffP c b t)
def ffD : Option Nat → D
  | some m => .int m
  | none => .none
theorem c_fewest {n : Nat} {c : Cn} (g : GC n c) {b : Ra} (gb : GB b) {t : List Nat} (ht : lotB n t = true) (hl : t.length ≤ 100) : callF pg (k + 6) 25 [.d (cnD c), .d (frD b), .d (ltD t)] st = .ok (.d (ffD (ffO c b t))) st := by
  have e0 : ∀ st, callF pg (k + 4) 4 [.d (ltD t), .d (.int n)] st = .ok (.d (.bool true)) st := fun st => by rw [c_is_lot (k := k + 1) (by omega), ht]
  have e1 := fun st => c_check_letter (k := k) (st := st) g e0
  have e2 := fun st => c_check_bound (k := k + 2) (st := st) (b := b)
  simp only [gb.chk, if_true] at e1 e2
  have hr := g.len
  have h6 := g.n6
  have s1 : szOk c.rows.length = true := szOk_of (by omega)
  have r201 : rngOk 0 201 = true := by decide
  have x201 : rangeN 0 201 = (List.range 201).map fun (m : Nat) => PyData.int (m : Int) := rangeN_0 (n := 201)
  obtain ⟨f1, f2⟩ := forL_find (st := st) (b := exs (exN (callF pg (k + 5)) 60 39) [.asg (.n 4) (.lc [5, 6, 7] (.t [(.n 5), (.t [(.n 6), (.n 7)])]) (.en (.ix (.v 0) (.c (.int (2))))) none (.ife (.cmp .In (.v 5) (.v 2)) (.tup [(false, (.bin .Add (.v 6) (.v 3))), (false, (.v 7))]) (.tup [(false, (.v 6)), (false, (.v 7))]))), .iff (.not (.call 9 [(.call 19 [(.tup [(false, (.bin .Add (.ix (.v 0) (.c (.int (0)))) (.v 3))), (false, (.ix (.v 0) (.c (.int (1))))), (false, (.blt .tuple (.v 4)))]), (.v 2)]), (.v 1)])) [.ret (.v 3)] []]) (tg := .n 3)
    (fun (m : Nat) => PyData.int m) (fun (j : Option RV × Option RV) => [some (.d (cnD c)), some (.d (frD b)), some (.d (ltD t)), j.1, j.2, none, none, none]) (fun m => if ffP c b t m then some (PyData.int m) else none) (List.range 201) (none, none) (by
      intro j m hm
      have hm := List.mem_range.1 hm
      have sc := grd_SC g (t := t) (m := m) (by omega)
      have e3 := fun st => c_odds_in (k := k + 1) (st := st) sc (lot_lt ht) hl
      have e4 := fun st => c_is_less (k := k + 4) (st := st) (od_fok sc (t := t)) gb.fok (by omega)
      have hg : cnD (grd c t m) = .tuple [.int (c.a + m : Int), .int c.b, .tuple ((rowsAdd c.rows t m 0).map pD)] := by simp [cnD, grd]
      rw [hg] at e3
      have key : exs (exN (callF pg (k + 5)) 60 39) [.asg (.n 4) (.lc [5, 6, 7] (.t [(.n 5), (.t [(.n 6), (.n 7)])]) (.en (.ix (.v 0) (.c (.int (2))))) none (.ife (.cmp .In (.v 5) (.v 2)) (.tup [(false, (.bin .Add (.v 6) (.v 3))), (false, (.v 7))]) (.tup [(false, (.v 6)), (false, (.v 7))]))), .iff (.not (.call 9 [(.call 19 [(.tup [(false, (.bin .Add (.ix (.v 0) (.c (.int (0)))) (.v 3))), (false, (.ix (.v 0) (.c (.int (1))))), (false, (.blt .tuple (.v 4)))]), (.v 2)]), (.v 1)])) [.ret (.v 3)] []]
          [some (.d (cnD c)), some (.d (frD b)), some (.d (ltD t)), some (.d (.int m)), j.2, none, none, none] st = if ffP c b t m then .ok (.rt (.int m)) st else .ok (.nx [some (.d (cnD c)), some (.d (frD b)), some (.d (ltD t)), some (.d (.int m)), some (.d (.list ((rowsAdd c.rows t m 0).map pD))), none, none, none]) st := by
        simp [s1]
        rw [rows_run (t := t) (x := m) (y := 0) (fun _ _ => trivial) (by
          intro r w
          by_cases hw : w ∈ t
          · simp [wipeL, cmp_in, hw]
            simp [pD]
          · simp [wipeL, cmp_in, hw]
            simp [pD])]
        simp [e3, e4]
        cases f : ffP c b t m
        · have : lsF (odF (grd c t m) t) b = true := by simpa [ffP] using f
          simp [this]
        · have : lsF (odF (grd c t m) t) b = false := by simpa [ffP] using f
          simp [this]
      refine ⟨_, rfl, ?_, ?_⟩
      · intro v hv
        cases f : ffP c b t m with
        | false => simp [f] at hv
        | true =>
          simp [f] at hv
          subst hv
          exact key.trans (by simp [f])
      · intro hv
        cases f : ffP c b t m with
        | true => simp [f] at hv
        | false => exact ⟨(some (.d (.int m)), some (.d (.list ((rowsAdd c.rows t m 0).map pD)))), key.trans (by simp [f])⟩)
  rw [fs_find] at f1 f2
  rw [call_eq (show pg[25]? = some (ri_fewest_false 14 22 9 19) from rfl)]
  cases hf : ffO c b t with
  | some m =>
    have := f1 (.int m) (by rw [ffO] at hf; rw [hf]; rfl)
    simp [ri_fewest_false, runF, SN, EN, e1, e2, r201, x201]
    rw [this]
    simp [ffD]
  | none =>
    obtain ⟨j, this⟩ := f2 (by rw [ffO] at hf; rw [hf]; rfl)
    simp [ri_fewest_false, runF, SN, EN, e1, e2, r201, x201]
    rw [this]
    simp [ffD]
theorem c_fewest_l {n : Nat} {c : Cn} (g : GC n c) {x y : D} (e : ∀ st, callF pg (k + 4) 4 [.d y, .d (.int n)] st = .ok (.d (.bool false)) st) : callF pg (k + 6) 25 [.d (cnD c), .d x, .d y] st = .ex 0 [y] st := by
  have e1 := fun st => c_check_letter (k := k) (st := st) g e
  rw [call_eq (show pg[25]? = some (ri_fewest_false 14 22 9 19) from rfl)]
  simp [ri_fewest_false, runF, SN, EN, e1]
theorem c_fewest_b {n : Nat} {c : Cn} (g : GC n c) {y : D} (e : ∀ st, callF pg (k + 5) 22 [.d y] st = .ex 0 [y] st) : callF pg (k + 6) 25 [.d (cnD c), .d y, .d (.tuple [])] st = .ex 0 [y] st := by
  have e0 : ∀ st, callF pg (k + 4) 4 [.d (.tuple []), .d (.int n)] st = .ok (.d (.bool true)) st := fun st => c_is_lot (k := k + 1) (st := st) (n := n) (t := []) (by simp)
  have e1 := fun st => c_check_letter (k := k) (st := st) g e0
  rw [call_eq (show pg[25]? = some (ri_fewest_false 14 22 9 19) from rfl)]
  simp [ri_fewest_false, runF, SN, EN, e1, e]
/-! the least odds -/
def ltsD (ls : List (List Nat)) : D := .tuple (ls.map ltD)
def bfStep (c : Cn) (f : Ra) (t : List Nat) : Ra := if lsF (odF c t) f then odF c t else f
theorem cmp_lts {ls : List (List Nat)} (h : ls ≠ []) : cmpD .Eq (ltsD ls) (.tuple []) = some false := by
  have h1 : eqOk (ltsD ls) (.tuple []) = true := by
    have := plainAll_map (e := ltD) (as := ls) (fun t _ => plain_lt t)
    simp [eqOk, ltsD, PyData.plain, PyData.plainAll, this, PyData.depth, PyData.depthAll]
  simp only [cmpD, h1, if_true]
  cases ls with
  | nil => exact absurd rfl h
  | cons b t => simp [ltsD, PyData.eqv, PyData.eqvAll]
theorem c_bound_for {n : Nat} {c : Cn} (g : GC n c) {t : List Nat} {ts : List (List Nat)} (h : ∀ u ∈ t :: ts, lotB n u = true ∧ u.length ≤ 100) (hm : (t :: ts).length ≤ 1000) : callF pg (k + 5) 27 [.d (cnD c), .d (ltsD (t :: ts))] st = .ok (.d (frD (ts.foldl (bfStep c) (odF c t)))) st := by
  have e1 := fun st => c_check_counts (k := k) (st := st) g
  have hl := g.len
  have s1 : szOk (ts.length + 1) = true := szOk_of (by simp at hm; omega)
  have hq : seqOf (ltsD (t :: ts)) = some ((t :: ts).map ltD) := rfl
  have hT : bltD .isT (ltsD (t :: ts)) = some (.bool true) := rfl
  have hi : ixD (ltsD (t :: ts)) (.int 0) = some (ltD t) := by simp only [ixD, ltsD, List.map_cons]; exact atI_nat 0
  have hsl : slD (ltsD (t :: ts)) (some 1) none = some (.tuple (ts.map ltD)) := by
    have := cut_from (e := ltD) (xs := t :: ts) (n := 1) (by simp)
    simp only [slD, ltsD]
    exact congrArg (fun x => some (PyData.tuple x)) this
  have ob : ∀ u ∈ t :: ts, ∀ st, callF pg (k + 4) 19 [.d (cnD c), .d (ltD u)] st = .ok (.d (frD (odF c u))) st := fun u hu st => c_odds_in (k := k) (st := st) g.sc (lot_lt (h u hu).1) (h u hu).2
  have fk : ∀ u ∈ t :: ts, fok 2412 (odF c u) := fun u hu => fok_mono (od_fok g.sc) (by have := (h u hu).2; omega)
  obtain ⟨j, e, _⟩ := forL_junk (b := exs (exN (callF pg (k + 4)) 60 39) [.asg (.n 2) (.ife (.call 9 [(.call 19 [(.v 0), (.v 3)]), (.v 2)]) (.call 19 [(.v 0), (.v 3)]) (.v 2))]) (tg := .n 3) ltD
    (fun (f : Ra) (j : Option RV) => [some (.d (cnD c)), some (.d (ltsD (t :: ts))), some (.d (frD f)), j, none]) (fun _ => st) (bfStep c) (fun _ f => fok 2412 f) ts.length ts 0 (odF c t) none (fk t (by simp)) (by omega) (by
      intro m f j u hm hf hu
      have hu' : u ∈ t :: ts := List.mem_cons_of_mem _ hu
      have e3 := ob u hu'
      have e4 := fun st => c_is_less (k := k + 3) (st := st) (fk u hu') hf (by omega)
      refine ⟨_, some (.d (ltD u)), rfl, ?_, ?_⟩
      · cases q : lsF (odF c u) f <;> simp [e3, e4, q, bfStep]
      · unfold bfStep
        split
        · exact fk u hu'
        · exact hf)
  rw [call_eq (show pg[27]? = some (ri_bound_for 13 4 19 9) from rfl)]
  simp [ri_bound_for, runF, SN, EN, e1, hT, cmp_lts (ls := t :: ts) (by simp), hq, s1]
  rw [← List.map_cons, lcL_mapT (e := ltD) (g := fun _ => .bool true)]
  · have hbo : boolsOf (PyData.bool true :: ts.map fun _ => PyData.bool true) = some ((t :: ts).map fun _ => true) := boolsOf_map (fun _ => true) (t :: ts)
    simp [hbo, hi, ob t (by simp), hsl]
    rw [e]
    simp
  · intro u hu
    have e0 : ∀ st, callF pg (k + 4) 4 [.d (ltD u), .d (.int n)] st = .ok (.d (.bool true)) st := fun st => by rw [c_is_lot (k := k + 1) (by have := (h u hu).2; omega), (h u hu).1]
    exact ⟨_, rfl, by simp [wipeL, hl, e0]⟩
theorem c_bound_for_x {n : Nat} {c : Cn} (g : GC n c) {y : D} (h : isTu y = false ∨ y = .tuple [] ∨ y = .tuple [.tuple [.int n]]) : callF pg (k + 5) 27 [.d (cnD c), .d y] st = .ex 0 [y] st := by
  have e1 := fun st => c_check_counts (k := k) (st := st) g
  have hl := g.len
  rw [call_eq (show pg[27]? = some (ri_bound_for 13 4 19 9) from rfl)]
  rcases h with h | rfl | rfl
  · simp [ri_bound_for, runF, SN, EN, e1, isT_eq, h]
  · have c1 : cmpD .Eq (.tuple []) (.tuple []) = some true := rfl
    simp [ri_bound_for, runF, SN, EN, e1, c1]
  · have c1 := cmp_lts (ls := [[n]]) (by simp)
    have e2 : ∀ st, callF pg (k + 4) 4 [.d (.tuple [.int n]), .d (.int n)] st = .ok (.d (.bool false)) st := fun st => by
      have := c_is_lot (k := k + 1) (st := st) (n := n) (t := [n]) (by simp)
      simpa [ltD, lotB] using this
    have c2 : cmpD .Eq (.tuple [.tuple [.int n]]) (.tuple []) = some false := c1
    simp [ri_bound_for, runF, SN, EN, e1, c2, lcL, bindT, wipeL, evC, hl, e2, boolsOf]
/-! what odds part -/
def ptQ (c : Cn) (p q : Mk) : Bool := p.2 && (!q.2 && !lsF (odF c q.1) (odF c p.1))
def ptF (c : Cn) (l : List Mk) : Option D := l.findSome? fun p => l.findSome? fun q => if ptQ c p q then some (PyData.tuple [ltD p.1, ltD q.1]) else none
theorem c_parted {n : Nat} {l : List Mk} (g : GM n l) : callF pg (k + 7) 28 [.d (.int n), .d (mksD l)] st = .ok (.d ((ptF (ctF n l) l).getD .none)) st := by
  have e1 := fun st => c_counted (k := k) (st := st) g
  have gc := ct_GC (l := l) g.n1 g.n6 (by have := g.le; omega)
  have od : ∀ p ∈ l, ∀ st, callF pg (k + 6) 19 [.d (cnD (ctF n l)), .d (ltD p.1)] st = .ok (.d (frD (odF (ctF n l) p.1))) st := fun p hp st => c_odds_in (k := k + 2) (st := st) gc.sc (lot_lt (g.ok p hp).1) (by have := (g.ok p hp).2; omega)
  have fk : ∀ p ∈ l, fok 2412 (odF (ctF n l) p.1) := fun p hp => fok_mono (od_fok gc.sc) (by have := (g.ok p hp).2; omega)
  generalize ctF n l = c at *
  obtain ⟨f1, f2⟩ := forL_find (st := st) (b := exs (exN (callF pg (k + 6)) 60 39) [.fr (.t [(.n 5), (.n 6)]) (.e (.v 1)) [.iff (.and (.v 4) (.and (.not (.v 6)) (.not (.call 9 [(.call 19 [(.v 2), (.v 5)]), (.call 19 [(.v 2), (.v 3)])])))) [.ret (.tup [(false, (.v 3)), (false, (.v 5))])] []]]) (tg := .t [(.n 3), (.n 4)])
    mkD (fun (j : Option RV × Option RV × Option RV × Option RV) => [some (.d (.int n)), some (.d (mksD l)), some (.d (cnD c)), j.1, j.2.1, j.2.2.1, j.2.2.2]) (fun p => l.findSome? fun q => if ptQ c p q then some (PyData.tuple [ltD p.1, ltD q.1]) else none) l (none, none, none, none) (by
      intro j p hp
      obtain ⟨h1, h2⟩ := forL_find (st := st) (b := exs (exN (callF pg (k + 6)) 60 38) [.iff (.and (.v 4) (.and (.not (.v 6)) (.not (.call 9 [(.call 19 [(.v 2), (.v 5)]), (.call 19 [(.v 2), (.v 3)])])))) [.ret (.tup [(false, (.v 3)), (false, (.v 5))])] []]) (tg := .t [(.n 5), (.n 6)])
        mkD (fun (j : Option RV × Option RV) => [some (.d (.int n)), some (.d (mksD l)), some (.d (cnD c)), some (.d (ltD p.1)), some (.d (.bool p.2)), j.1, j.2]) (fun q => if ptQ c p q then some (PyData.tuple [ltD p.1, ltD q.1]) else none) l (j.2.2.1, j.2.2.2) (by
          intro j q hq
          have e4 := fun st => c_is_less (k := k + 5) (st := st) (fk q hq) (fk p hp) (by omega)
          have key : exs (exN (callF pg (k + 6)) 60 38) [.iff (.and (.v 4) (.and (.not (.v 6)) (.not (.call 9 [(.call 19 [(.v 2), (.v 5)]), (.call 19 [(.v 2), (.v 3)])])))) [.ret (.tup [(false, (.v 3)), (false, (.v 5))])] []]
              [some (.d (.int n)), some (.d (mksD l)), some (.d (cnD c)), some (.d (ltD p.1)), some (.d (.bool p.2)), some (.d (ltD q.1)), some (.d (.bool q.2))] st = if ptQ c p q then .ok (.rt (.tuple [ltD p.1, ltD q.1])) st else .ok (.nx [some (.d (.int n)), some (.d (mksD l)), some (.d (cnD c)), some (.d (ltD p.1)), some (.d (.bool p.2)), some (.d (ltD q.1)), some (.d (.bool q.2))]) st := by
            cases hp2 : p.2 with
            | false => simp [ptQ, hp2]
            | true =>
              cases hq2 : q.2 with
              | true => simp [ptQ, hp2, hq2]
              | false =>
                cases hls : lsF (odF c q.1) (odF c p.1) <;> simp [ptQ, hp2, hq2, od p hp, od q hq, e4, hls]
          refine ⟨_, rfl, ?_, ?_⟩
          · intro v hv
            cases f : ptQ c p q with
            | false => simp [f] at hv
            | true =>
              simp [f] at hv
              subst hv
              exact key.trans (by simp [f])
          · intro hv
            cases f : ptQ c p q with
            | true => simp [f] at hv
            | false => exact ⟨(some (.d (ltD q.1)), some (.d (.bool q.2))), key.trans (by simp [f])⟩)
      refine ⟨_, rfl, ?_, ?_⟩
      · intro v hv
        have := h1 v hv
        simp
        rw [this]
        simp
      · intro hv
        obtain ⟨j', this⟩ := h2 hv
        refine ⟨(some (.d (ltD p.1)), some (.d (.bool p.2)), j'.1, j'.2), ?_⟩
        simp
        rw [this]
        simp)
  rw [call_eq (show pg[28]? = some (ri_parted_by_odds 15 9 19) from rfl)]
  cases hf : ptF c l with
  | some v =>
    have := f1 v hf
    simp [ri_parted_by_odds, runF, SN, EN, e1]
    rw [this]
    simp
  | none =>
    obtain ⟨j, this⟩ := f2 hf
    simp [ri_parted_by_odds, runF, SN, EN, e1]
    rw [this]
    simp
end
end K02
end Sm

set_option Elab.async false
set_option linter.all false
set_option maxRecDepth 100000
/-! K02h: what is refused. -/
namespace Sm
open PySem PySem.Spec
open K11 (isTu isT_eq isBl isB_eq)
namespace K02
section
variable {k : Nat} {st rest : Sto}
def rb1 : List S := [.iff (.not (.refu (.call 15 [(.v 3), (.c .none)]) (.v 3))) [.ret (.c (.bool false))] [], .iff (.not (.refu (.call 26 [(.v 3), (.c .none), (.c .none)]) (.v 3))) [.ret (.c (.bool false))] []]
def rb2 : List S := [.iff (.not (.refu (.call 15 [(.v 0), (.v 3)]) (.v 3))) [.ret (.c (.bool false))] [], .iff (.not (.refu (.call 28 [(.v 0), (.v 3)]) (.v 3))) [.ret (.c (.bool false))] [], .iff (.not (.refu (.call 26 [(.v 0), (.v 3), (.c .none)]) (.v 3))) [.ret (.c (.bool false))] []]
def rb3 : List S := [.iff (.call 12 [(.v 3)]) [.ret (.c (.bool false))] [], .iff (.not (.refu (.call 20 [(.v 3), (.c .none)]) (.v 3))) [.ret (.c (.bool false))] [], .iff (.not (.refu (.call 16 [(.v 3), (.c .none), (.c .none)]) (.v 3))) [.ret (.c (.bool false))] [], .iff (.not (.refu (.call 17 [(.v 2), (.v 3)]) (.v 3))) [.ret (.c (.bool false))] [], .iff (.not (.refu (.call 24 [(.v 3), (.c .none)]) (.v 3))) [.ret (.c (.bool false))] [], .iff (.not (.refu (.call 21 [(.v 3)]) (.v 3))) [.ret (.c (.bool false))] []]
def rb4 : List S := [.iff (.not (.refu (.call 20 [(.v 2), (.v 3)]) (.v 3))) [.ret (.c (.bool false))] [], .iff (.not (.refu (.call 23 [(.v 2), (.c .none), (.v 3)]) (.v 3))) [.ret (.c (.bool false))] [], .iff (.not (.refu (.call 25 [(.v 2), (.c .none), (.v 3)]) (.v 3))) [.ret (.c (.bool false))] [], .iff (.not (.refu (.call 26 [(.v 0), (.v 1), (.v 3)]) (.v 3))) [.ret (.c (.bool false))] []]
def rb5 : List S := [.iff (.not (.refu (.call 24 [(.v 2), (.v 3)]) (.v 3))) [.ret (.c (.bool false))] [], .iff (.not (.refu (.call 25 [(.v 2), (.v 3), (.tup [])]) (.v 3))) [.ret (.c (.bool false))] []]
def rb6 : List S := [.iff (.not (.refu (.call 27 [(.v 2), (.v 3)]) (.v 3))) [.ret (.c (.bool false))] []]
theorem rf1 {xs : List D} (hq : ∀ x ∈ xs, isFr x 1 6 = false ∧ reprOk x = true) {a b c o : Option RV} (j : Option RV) : ∃ j', forL (exs (exN (callF pg (k + 9)) 60 39) rb1) (.n 3) xs [a, b, c, j, o] st = .ok (.nx [a, b, c, j', o]) st := by
  refine forL_all (fun j => [a, b, c, j, o]) (fun x => isFr x 1 6 = false ∧ reprOk x = true) xs j hq ?_
  intro j x ⟨hx, hr⟩
  have h2 := fun st => c_counted_n (k := k + 3) (st := st) (y := .none) hx
  have h3 := fun st => c_odds_along_n (k := k + 2) (st := st) (y := .none) (z := .none) hx
  exact ⟨_, rfl, some (.d x), by simp [rb1, h2, h3, hr]⟩
theorem rf2 {n : Nat} (h1 : 1 ≤ n) (h6 : n ≤ 6) {xs : List D} (hq : ∀ x ∈ xs, (∀ k st, callF pg (k + 4) 10 [.d (.int n), .d x] st = .ok (.d (.bool false)) st) ∧ reprOk x = true) {b c o : Option RV} (j : Option RV) : ∃ j', forL (exs (exN (callF pg (k + 9)) 60 39) rb2) (.n 3) xs [some (.d (.int n)), b, c, j, o] st = .ok (.nx [some (.d (.int n)), b, c, j', o]) st := by
  refine forL_all (fun j => [some (.d (.int n)), b, c, j, o]) (fun x => (∀ k st, callF pg (k + 4) 10 [.d (.int n), .d x] st = .ok (.d (.bool false)) st) ∧ reprOk x = true) xs j hq ?_
  intro j x ⟨hx, hr⟩
  have h2 := fun st => c_counted_m (k := k + 3) (st := st) h1 h6 fun st => hx (k + 3) st
  have h3 := fun st => c_parted_m (k := k + 2) (st := st) h1 h6 fun st => hx (k + 2) st
  have h4 := fun st => c_odds_along_m (k := k + 2) (st := st) (z := .none) h1 h6 fun st => hx (k + 3) st
  exact ⟨_, rfl, some (.d x), by simp [rb2, h2, h3, h4, hr]⟩
theorem rf3 {n : Nat} {c : Cn} (g : GC n c) {a b o : Option RV} (j : Option RV) : ∃ j', forL (exs (exN (callF pg (k + 9)) 60 39) rb3) (.n 3) bad3 [a, b, some (.d (cnD c)), j, o] st = .ok (.nx [a, b, some (.d (cnD c)), j', o]) st := by
  refine forL_all (fun j => [a, b, some (.d (cnD c)), j, o]) (fun x => x ∈ bad3) bad3 j (fun x hx => hx) ?_
  intro j x hx
  have h1 := bad3_counts x hx
  have hr := bad3_repr x hx
  have h0 := fun st => h1 (k + 6) st
  have h2 := fun st => c_odds_of_x (k := k + 3) (st := st) (y := .none) fun st => h1 (k + 3) st
  have h3 := fun st => c_with_mark_x (k := k + 3) (st := st) (y := .none) (z := .none) fun st => h1 (k + 3) st
  have h4 := fun st => c_joined_x (k := k + 4) (st := st) g fun st => h1 (k + 5) st
  have h5 := fun st => c_counted_out_x (k := k + 4) (st := st) (y := .none) fun st => h1 (k + 4) st
  have h6 := fun st => c_word_factors_x (k := k + 4) (st := st) fun st => h1 (k + 4) st
  exact ⟨_, rfl, some (.d x), by simp [rb3, h0, h2, h3, h4, h5, h6, hr]⟩
theorem rf4 {n : Nat} {c : Cn} (g : GC n c) {l : List Mk} (gm : GM n l) {xs : List D} (hq : ∀ x ∈ xs, (∀ k st, callF pg (k + 3) 4 [.d x, .d (.int n)] st = .ok (.d (.bool false)) st) ∧ reprOk x = true) {o : Option RV} (j : Option RV) : ∃ j', forL (exs (exN (callF pg (k + 9)) 60 39) rb4) (.n 3) xs [some (.d (.int n)), some (.d (mksD l)), some (.d (cnD c)), j, o] st = .ok (.nx [some (.d (.int n)), some (.d (mksD l)), some (.d (cnD c)), j', o]) st := by
  refine forL_all (fun j => [some (.d (.int n)), some (.d (mksD l)), some (.d (cnD c)), j, o]) (fun x => (∀ k st, callF pg (k + 3) 4 [.d x, .d (.int n)] st = .ok (.d (.bool false)) st) ∧ reprOk x = true) xs j hq ?_
  intro j x ⟨hx, hr⟩
  have h2 := fun st => c_odds_of_l (k := k + 3) (st := st) g fun st => hx (k + 4) st
  have h3 := fun st => c_is_counted_out_l (k := k + 3) (st := st) (x := .none) g fun st => hx (k + 4) st
  have h4 := fun st => c_fewest_l (k := k + 3) (st := st) (x := .none) g fun st => hx (k + 4) st
  have h5 := fun st => c_odds_along_l (k := k + 2) (st := st) gm fun st => hx (k + 5) st
  exact ⟨_, rfl, some (.d x), by simp [rb4, h2, h3, h4, h5, hr]⟩
theorem rf5 {n : Nat} {c : Cn} (g : GC n c) {xs : List D} (hq : ∀ x ∈ xs, (∀ k st, callF pg (k + 3) 22 [.d x] st = .ex 0 [x] st) ∧ reprOk x = true) {a b o : Option RV} (j : Option RV) : ∃ j', forL (exs (exN (callF pg (k + 9)) 60 39) rb5) (.n 3) xs [a, b, some (.d (cnD c)), j, o] st = .ok (.nx [a, b, some (.d (cnD c)), j', o]) st := by
  refine forL_all (fun j => [a, b, some (.d (cnD c)), j, o]) (fun x => (∀ k st, callF pg (k + 3) 22 [.d x] st = .ex 0 [x] st) ∧ reprOk x = true) xs j hq ?_
  intro j x ⟨hx, hr⟩
  have h2 := fun st => c_counted_out_b (k := k + 4) (st := st) g fun st => hx (k + 5) st
  have h3 := fun st => c_fewest_b (k := k + 3) (st := st) g fun st => hx (k + 5) st
  exact ⟨_, rfl, some (.d x), by simp [rb5, h2, h3, hr]⟩
theorem rf6 {n : Nat} {c : Cn} (g : GC n c) {xs : List D} (hq : ∀ x ∈ xs, (isTu x = false ∨ x = .tuple [] ∨ x = .tuple [.tuple [.int n]]) ∧ reprOk x = true) {a b o : Option RV} (j : Option RV) : ∃ j', forL (exs (exN (callF pg (k + 9)) 60 39) rb6) (.n 3) xs [a, b, some (.d (cnD c)), j, o] st = .ok (.nx [a, b, some (.d (cnD c)), j', o]) st := by
  refine forL_all (fun j => [a, b, some (.d (cnD c)), j, o]) (fun x => (isTu x = false ∨ x = .tuple [] ∨ x = .tuple [.tuple [.int n]]) ∧ reprOk x = true) xs j hq ?_
  intro j x ⟨hx, hr⟩
  have h2 := fun st => c_bound_for_x (k := k + 4) (st := st) g hx
  exact ⟨_, rfl, some (.d x), by simp [rb6, h2, hr]⟩
theorem GC.rep {n : Nat} (h1 : 1 ≤ n) (h6 : n ≤ 6) (a b : Nat) (ha : a ≤ 1000) (hb : b ≤ 1000) : GC n ⟨a, b, List.replicate n (0, 0)⟩ := ⟨h1, h6, by simp, ha, hb, fun r hr => by rw [(List.mem_replicate.1 hr).2]; exact ⟨Nat.zero_le _, Nat.zero_le _⟩⟩
theorem cn_rep {n a b : Nat} : cnD ⟨a, b, List.replicate n (0, 0)⟩ = .tuple [.int a, .int b, .tuple (List.replicate n (.tuple [.int 0, .int 0]))] := by simp [cnD, pD]
theorem small (n : Nat) (h1 : 1 ≤ n) (h6 : n ≤ 6) : n = 1 ∨ n = 2 ∨ n = 3 ∨ n = 4 ∨ n = 5 ∨ n = 6 := by omega
theorem c__law_refused_right {n : Nat} {l : List Mk} (gm : GM n l) {c : Cn} (g : GC n c) : callF pg (k + 10) 40 [.d (.int n), .d (mksD l), .d (cnD c)] st = .ok (.d (.bool true)) st := by
  have h1 := gm.n1
  have h6 := gm.n6
  have rN : reprOk .none = true := rpk (by decide)
  rw [call_eq (show pg[40]? = some (ri__law_refused_right 15 26 28 12 20 16 17 24 21 23 25 27) from rfl)]
  obtain ⟨j1, e1⟩ := rf1 (k := k) (st := st) (a := some (.d (.int n))) (b := some (.d (mksD l))) (c := some (.d (cnD c))) (o := none) (xs := [.int 0, .int 7, .none, .bool true]) (by
    intro x hx
    simp only [List.mem_cons, List.not_mem_nil, or_false] at hx
    rcases hx with rfl | rfl | rfl | rfl <;> exact ⟨by decide, rpk (by decide)⟩) none
  obtain ⟨j2, e2⟩ := rf2 (k := k) (st := st) h1 h6 (b := some (.d (mksD l))) (c := some (.d (cnD c))) (o := none) (xs := [.none, .list [], mksD [([n], true)], .tuple [.tuple [.tuple [], .int 1]], .tuple [.tuple [.tuple []]], mksD (List.replicate 61 ([], true)), mksD [([1, 0], true)]]) (by
    intro x hx
    simp only [List.mem_cons, List.not_mem_nil, or_false] at hx
    rcases hx with rfl | rfl | rfl | rfl | rfl | rfl | rfl
    · exact ⟨fun k st => c_is_marks_x rfl, rN⟩
    · exact ⟨fun k st => c_is_marks_x rfl, rpk (by decide)⟩
    · refine ⟨fun k st => ?_, ?_⟩
      · rw [c_is_marks (by simp) (by simp)]; simp [lotB]
      · rcases small n h1 h6 with rfl | rfl | rfl | rfl | rfl | rfl <;> exact rpk (by decide)
    · exact ⟨fun k st => c_is_marks_w1, rpk (by decide)⟩
    · exact ⟨fun k st => c_is_marks_w2, rpk (by decide)⟩
    · refine ⟨fun k st => ?_, rpk (by decide)⟩
      rw [c_is_marks (fun p hp => by rw [(List.mem_replicate.1 hp).2]; simp) (by simp)]
      simp
    · refine ⟨fun k st => ?_, rpk (by decide)⟩
      rw [c_is_marks (by simp) (by simp)]; simp [lotB, ascB]) j1
  obtain ⟨j3, e3⟩ := rf3 (k := k) (st := st) g (a := some (.d (.int n))) (b := some (.d (mksD l))) (o := none) j2
  obtain ⟨j4, e4⟩ := rf4 (k := k) (st := st) g gm (o := none) (xs := [.none, .list [.int 0], ltD [n], ltD [0, 0]]) (by
    intro x hx
    simp only [List.mem_cons, List.not_mem_nil, or_false] at hx
    rcases hx with rfl | rfl | rfl | rfl
    · exact ⟨fun k st => c_is_lot_x rfl, rN⟩
    · exact ⟨fun k st => c_is_lot_x rfl, rpk (by decide)⟩
    · refine ⟨fun k st => ?_, ?_⟩
      · rw [c_is_lot (by simp)]; simp [lotB]
      · rcases small n h1 h6 with rfl | rfl | rfl | rfl | rfl | rfl <;> exact rpk (by decide)
    · refine ⟨fun k st => ?_, rpk (by decide)⟩
      rw [c_is_lot (by simp)]; simp [lotB, ascB]) j3
  obtain ⟨j5, e5⟩ := rf5 (k := k) (st := st) g (a := some (.d (.int n))) (b := some (.d (mksD l))) (o := none) (xs := [.none, frD (0, 1), frD (2, 4), frD (1, 1001), frD (1001, 1), frD (1, 0), frD (-1, 1)]) (by
    intro x hx
    simp only [List.mem_cons, List.not_mem_nil, or_false] at hx
    have hb : ∀ b : Ra, chkB b = false → ∀ k st, callF pg (k + 3) 22 [.d (frD b)] st = .ex 0 [frD b] st := fun b hb k st => by rw [c_check_bound, hb]; rfl
    rcases hx with rfl | rfl | rfl | rfl | rfl | rfl | rfl
    · exact ⟨fun k st => c_check_bound_n, rN⟩
    all_goals exact ⟨hb _ (by decide), rpk (by decide)⟩) j4
  obtain ⟨j6, e6⟩ := rf6 (k := k) (st := st) g (a := some (.d (.int n))) (b := some (.d (mksD l))) (o := none) (xs := [.none, .tuple [], .list [.tuple []], .tuple [.tuple [.int n]]]) (by
    intro x hx
    simp only [List.mem_cons, List.not_mem_nil, or_false] at hx
    rcases hx with rfl | rfl | rfl | rfl
    · exact ⟨.inl rfl, rN⟩
    · exact ⟨.inr (.inl rfl), rpk (by decide)⟩
    · exact ⟨.inl rfl, rpk (by decide)⟩
    · refine ⟨.inr (.inr rfl), ?_⟩
      rcases small n h1 h6 with rfl | rfl | rfl | rfl | rfl | rfl <;> exact rpk (by decide)) j5
  have r61 : binD .Mult (.tuple [.tuple [.tuple [], .bool true]]) (.int 61) = some (mksD (List.replicate 61 ([], true))) := by
    have := repD_tup (x := .tuple [.tuple [], .bool true]) (n := 61) (by decide) (by decide)
    rw [show ((61 : Nat) : Int) = 61 from rfl] at this
    rw [this]
    simp [mksD, mkD, ltD]
  have r7 : binD .Mult (.tuple [.tuple [.int 0, .int 0]]) (.int 7) = some (.tuple [.tuple [.int 0, .int 0], .tuple [.int 0, .int 0], .tuple [.int 0, .int 0], .tuple [.int 0, .int 0], .tuple [.int 0, .int 0], .tuple [.int 0, .int 0], .tuple [.int 0, .int 0]]) := Eq.trans rfl rfl
  have g0 := GC.rep h1 h6 1000 0 (by decide) (by decide)
  have g1 := GC.rep h1 h6 1 0 (by decide) (by decide)
  have w1 := fun st => c_with_mark_f (k := k + 3) (st := st) g0 rfl
  have w2 := fun st => c_with_mark_b (k := k + 3) (st := st) g (z := .int 1) rfl
  have w3 : ∀ st, callF pg (k + 9) 17 [.d (cnD ⟨1, 0, List.replicate n (0, 0)⟩), .d (cnD ⟨1000, 0, List.replicate n (0, 0)⟩)] st = .ex 0 [cnD ⟨1000, 0, List.replicate n (0, 0)⟩] st := fun st => (c_joined (k := k + 4) (st := st) g1 g0).trans (if_neg (by show ¬ (max (1 + 1000) (0 + 0) ≤ 1000); decide))
  have rf : reprOk (cnD ⟨1000, 0, List.replicate n (0, 0)⟩) = true := by
    rcases small n h1 h6 with rfl | rfl | rfl | rfl | rfl | rfl <;> exact rpk (by decide)
  simp only [cn_rep] at w1 w3 rf
  have r1 : reprOk (.int 1) = true := rpk (by decide)
  have rn := repD_tup (x := .tuple [.int 0, .int 0]) h1 (show n ≤ 1000 by omega)
  have q1 : mksD [([n], true)] = .tuple [.tuple [.tuple [.int n], .bool true]] := by simp [mksD, mkD, ltD]
  have q2 : mksD [([1, 0], true)] = .tuple [.tuple [.tuple [.int 1, .int 0], .bool true]] := by simp [mksD, mkD, ltD]
  have q3 : ltD [n] = .tuple [.int n] := by simp [ltD]
  have q4 : ltD [0, 0] = .tuple [.int 0, .int 0] := by simp [ltD]
  simp only [q1, q2, rb2] at e2
  simp only [rb1] at e1
  simp only [rb3, bad3] at e3
  simp only [rb4, q3, q4] at e4
  simp only [rb5, frD] at e5
  simp only [rb6] at e6
  have n1 : ((1000 : Nat) : Int) = 1000 := rfl
  have n0 : ((0 : Nat) : Int) = 0 := rfl
  have n2 : ((1 : Nat) : Int) = 1 := rfl
  simp only [n1, n0, n2] at w1 w3 rf
  generalize mksD (List.replicate 61 ([], true)) = z61 at r61 e2
  simp [ri__law_refused_right, runF, SN, EN]
  rw [e1]
  simp [r61]
  rw [e2]
  simp [r7]
  rw [e3]
  simp
  rw [e4]
  simp
  rw [e5]
  simp
  rw [e6]
  simp [rn, w1, w2, w3, rf, r1]
end
end K02
end Sm

set_option Elab.async false
set_option linter.all false
set_option maxRecDepth 100000
/-! K02i: the plain law: what false marks can reach. -/
namespace Sm
open PySem PySem.Spec
namespace K02
def pN (c : Cn) : List Nat → Nat
  | [] => 1
  | w :: t => (((rw c w).1 + 1) * (c.b + 2)) * pN c t
def pE (c : Cn) : List Nat → Nat
  | [] => 1
  | w :: t => (((rw c w).2 + 1) * (c.a + 2)) * pE c t
theorem pE_pos (c : Cn) : ∀ t, 0 < pE c t
  | [] => Nat.one_pos
  | w :: t => Nat.mul_pos (Nat.mul_pos (by omega) (by omega)) (pE_pos c t)
theorem fold_val (c : Cn) : ∀ (t : List Nat) (x y : Int), 0 < y → t.foldl (fun f w => tmF f (fcF c w)) (lnF x y) = lnF (x * (pN c t : Int)) (y * (pE c t : Int))
  | [], x, y, _ => by simp [pN, pE]
  | w :: t, x, y, hy => by
    rw [List.foldl_cons]
    have h2 : (0 : Int) < ((rw c w).2 + 1) * (c.a + 2) := Int.mul_pos (by omega) (by omega)
    have e : tmF (lnF x y) (fcF c w) = lnF (x * (((rw c w).1 + 1 : Int) * (c.b + 2))) (y * (((rw c w).2 + 1 : Int) * (c.a + 2))) := tm_ln hy h2
    rw [e, fold_val c t _ _ (Int.mul_pos hy h2)]
    congr 1
    · simp only [pN]; push_cast; ac_rfl
    · simp only [pE]; push_cast; ac_rfl
def oN (c : Cn) (t : List Nat) : Nat := (c.a + 1) * pN c t
def oE (c : Cn) (t : List Nat) : Nat := (c.b + 1) * pE c t
theorem oE_pos (c : Cn) (t : List Nat) : 0 < oE c t := Nat.mul_pos (by omega) (pE_pos c t)
theorem od_val (c : Cn) (t : List Nat) : odF c t = lnF (oN c t : Int) (oE c t : Int) := by
  rw [odF, fold_val c t _ _ (by omega)]
  simp only [oN, oE]
  push_cast
  rfl
theorem ls_val {x y : Int} (hy : 0 < y) (b : Ra) : lsF (lnF x y) b = decide (x * b.2 < b.1 * y) := by
  have g := gcd_p (t := x) hy
  have e1 := ln_mul1 (t := x) (b := y)
  have e2 := ln_mul2 (t := x) (b := y)
  unfold lsF
  generalize lnF x y = X at *
  generalize (Int.gcd x y : Int) = G at *
  refine decide_eq_decide.2 ?_
  rw [← Int.mul_lt_mul_right g, show X.1 * b.2 * G = (X.1 * G) * b.2 by ac_rfl, show b.1 * X.2 * G = b.1 * (X.2 * G) by ac_rfl, e1, e2]
theorem ls_od (c : Cn) (t : List Nat) (b : Ra) : lsF (odF c t) b = decide ((oN c t : Int) * b.2 < b.1 * (oE c t : Int)) := by
  rw [od_val, ls_val (by have := oE_pos c t; omega)]
/-- what m false marks can do -/
structure Iv (c : Cn) (m : Nat) (s : Cn) : Prop where
  a : s.a = c.a + m
  b : s.b = c.b
  len : s.rows.length = c.rows.length
  r : ∀ w, (rw s w).1 ≤ (rw c w).1 + m ∧ (rw s w).2 = (rw c w).2
theorem rw_add {rows : List (Nat × Nat)} {a b : Nat} {t : List Nat} {x y w : Nat} (hw : w < rows.length) : rw ⟨a, b, rowsAdd rows t x y⟩ w = if w ∈ t then ((rows.getD w (0, 0)).1 + x, (rows.getD w (0, 0)).2 + y) else rows.getD w (0, 0) := by
  have : w < (rowsAdd rows t x y).length := by rw [ra_len]; exact hw
  simp only [rw, List.getD_eq_getElem?_getD, List.getElem?_eq_getElem this, List.getElem?_eq_getElem hw, Option.getD_some]
  simp [rowsAdd]
theorem rw_out {c : Cn} {w : Nat} (h : c.rows.length ≤ w) : rw c w = (0, 0) := by simp [rw, h]
theorem grd_rw {c : Cn} {t : List Nat} {m w : Nat} (hw : w < c.rows.length) (h : w ∈ t) : rw (grd c t m) w = ((rw c w).1 + m, (rw c w).2) := by
  rw [grd, rw_add hw, if_pos h]; rfl
theorem Iv.grd (c : Cn) (t : List Nat) (m : Nat) : Iv c m (grd c t m) := by
  refine ⟨rfl, rfl, ra_len, fun w => ?_⟩
  by_cases hw : w < c.rows.length
  · rw [K02.grd, rw_add hw]
    split
    · exact ⟨Nat.le_refl _, rfl⟩
    · exact ⟨Nat.le_add_right _ _, rfl⟩
  · rw [rw_out (c := K02.grd c t m) (by rw [K02.grd, ra_len]; omega), rw_out (c := c) (by omega)]
    simp
theorem le_val {c s : Cn} {m : Nat} {t : List Nat} (h : Iv c m s) (ht : ∀ w ∈ t, w < c.rows.length) : oN s t ≤ oN (grd c t m) t ∧ oE s t = oE (grd c t m) t := by
  have key : ∀ u : List Nat, (∀ w ∈ u, w ∈ t) → pN s u ≤ pN (grd c t m) u ∧ pE s u = pE (grd c t m) u := by
    intro u
    induction u with
    | nil => intro _; exact ⟨Nat.le_refl _, rfl⟩
    | cons w u ih =>
      intro hu
      obtain ⟨i1, i2⟩ := ih fun x hx => hu x (by simp [hx])
      have hw := hu w (by simp)
      have g := grd_rw (c := c) (t := t) (m := m) (ht w hw) hw
      obtain ⟨r1, r2⟩ := h.r w
      have ha : (grd c t m).a = s.a := h.a.symm
      have hb : (grd c t m).b = s.b := h.b.symm
      constructor
      · simp only [pN, g, hb]
        exact Nat.mul_le_mul (Nat.mul_le_mul (by omega) (Nat.le_refl _)) i1
      · simp only [pE, g, ha, i2, r2]
  obtain ⟨k1, k2⟩ := key t fun w hw => hw
  have ha : (grd c t m).a = s.a := h.a.symm
  have hb : (grd c t m).b = s.b := h.b.symm
  exact ⟨by simp only [oN, ha]; exact Nat.mul_le_mul_left _ k1, by simp only [oE, hb, k2]⟩
theorem le_ls {c s : Cn} {m : Nat} {t : List Nat} (h : Iv c m s) (ht : ∀ w ∈ t, w < c.rows.length) {b : Ra} (hb : 0 < b.2) (hl : lsF (odF (grd c t m) t) b = true) : lsF (odF s t) b = true := by
  obtain ⟨h1, h2⟩ := le_val h ht
  rw [ls_od, decide_eq_true_eq] at hl ⊢
  rw [h2]
  have : (oN s t : Int) * b.2 ≤ (oN (grd c t m) t : Int) * b.2 := Int.mul_le_mul_of_nonneg_right (by omega) (by omega)
  omega
theorem step_val {n : Nat} {c : Cn} (g : GC n c) {t : List Nat} (ht : ∀ w ∈ t, w < n) (m : Nat) : oN (grd c t m) t * oE (grd c t (m + 1)) t ≤ oN (grd c t (m + 1)) t * oE (grd c t m) t := by
  have key : ∀ u : List Nat, (∀ w ∈ u, w ∈ t) → pN (grd c t m) u * pE (grd c t (m + 1)) u ≤ pN (grd c t (m + 1)) u * pE (grd c t m) u := by
    intro u
    induction u with
    | nil => intro _; exact Nat.le_refl _
    | cons w u ih =>
      intro hu
      have i1 := ih fun x hx => hu x (by simp [hx])
      have hw := hu w (by simp)
      have hwl : w < c.rows.length := by rw [g.len]; exact ht w hw
      have g1 := grd_rw (c := c) (t := t) (m := m) hwl hw
      have g2 := grd_rw (c := c) (t := t) (m := m + 1) hwl hw
      have ha : (rw c w).1 ≤ c.a := by
        have hm : rw c w ∈ c.rows := by
          simp only [rw, List.getD_eq_getElem?_getD, List.getElem?_eq_getElem hwl, Option.getD_some]
          exact List.getElem_mem hwl
        exact (g.r _ hm).1
      have e1 : (grd c t m).a = c.a + m := rfl
      have e2 : (grd c t (m + 1)).a = c.a + (m + 1) := rfl
      have e3 : (grd c t m).b = c.b := rfl
      have e4 : (grd c t (m + 1)).b = c.b := rfl
      simp only [pN, pE, g1, g2, e1, e2, e3, e4]
      generalize pN (grd c t m) u = X at *
      generalize pE (grd c t (m + 1)) u = Y' at *
      generalize pN (grd c t (m + 1)) u = X' at *
      generalize pE (grd c t m) u = Y at *
      generalize (rw c w).1 = a at *
      generalize (rw c w).2 = d at *
      have f : (a + m + 1) * (c.a + (m + 1) + 2) ≤ (a + (m + 1) + 1) * (c.a + m + 2) := by
        have e5 : c.a + (m + 1) + 2 = (c.a + m + 2) + 1 := by omega
        have e6 : a + (m + 1) + 1 = (a + m + 1) + 1 := by omega
        have key : ∀ x y : Nat, x ≤ y → x * (y + 1) ≤ (x + 1) * y := fun x y h => by rw [Nat.mul_succ, Nat.succ_mul]; omega
        rw [e5, e6]
        exact key _ _ (by omega)
      calc (a + m + 1) * (c.b + 2) * X * ((d + 1) * (c.a + (m + 1) + 2) * Y') = ((a + m + 1) * (c.a + (m + 1) + 2)) * ((c.b + 2) * (d + 1)) * (X * Y') := by ac_rfl
        _ ≤ ((a + (m + 1) + 1) * (c.a + m + 2)) * ((c.b + 2) * (d + 1)) * (X' * Y) := Nat.mul_le_mul (Nat.mul_le_mul_right _ f) i1
        _ = (a + (m + 1) + 1) * (c.b + 2) * X' * ((d + 1) * (c.a + m + 2) * Y) := by ac_rfl
  have k := key t fun w hw => hw
  have e1 : (grd c t m).a = c.a + m := rfl
  have e2 : (grd c t (m + 1)).a = c.a + (m + 1) := rfl
  have e3 : (grd c t m).b = c.b := rfl
  have e4 : (grd c t (m + 1)).b = c.b := rfl
  simp only [oN, oE, e1, e2, e3, e4]
  calc (c.a + m + 1) * pN (grd c t m) t * ((c.b + 1) * pE (grd c t (m + 1)) t) = (c.a + m + 1) * ((c.b + 1) * (pN (grd c t m) t * pE (grd c t (m + 1)) t)) := by ac_rfl
    _ ≤ (c.a + (m + 1) + 1) * ((c.b + 1) * (pN (grd c t (m + 1)) t * pE (grd c t m) t)) := Nat.mul_le_mul (by omega) (Nat.mul_le_mul_left _ k)
    _ = (c.a + (m + 1) + 1) * pN (grd c t (m + 1)) t * ((c.b + 1) * pE (grd c t m) t) := by ac_rfl
theorem ff_step {n : Nat} {c : Cn} (g : GC n c) {t : List Nat} (ht : ∀ w ∈ t, w < n) {b : Ra} (hb : 0 < b.2) {m : Nat} (h : ffP c b t m = true) : ffP c b t (m + 1) = true := by
  simp only [ffP, ls_od, Bool.not_eq_true', decide_eq_false_iff_not, Int.not_lt] at h ⊢
  have s := step_val g ht m
  have p1 := oE_pos (grd c t m) t
  generalize oN (grd c t m) t = N at *
  generalize oE (grd c t m) t = E at *
  generalize oN (grd c t (m + 1)) t = N' at *
  generalize oE (grd c t (m + 1)) t = E' at *
  refine Int.le_of_mul_le_mul_right ?_ (show (0 : Int) < E by omega)
  have s' : (N : Int) * E' ≤ N' * E := by exact_mod_cast s
  calc b.1 * (E' : Int) * E = (b.1 * E) * E' := by ac_rfl
    _ ≤ (N * b.2) * E' := Int.mul_le_mul_of_nonneg_right h (by omega)
    _ = (N * E') * b.2 := by ac_rfl
    _ ≤ (N' * E) * b.2 := Int.mul_le_mul_of_nonneg_right s' (by omega)
    _ = N' * b.2 * E := by ac_rfl
theorem ff_mono {n : Nat} {c : Cn} (g : GC n c) {t : List Nat} (ht : ∀ w ∈ t, w < n) {b : Ra} (hb : 0 < b.2) {k m : Nat} (h : ffP c b t k = true) (l : k ≤ m) : ffP c b t m = true := by
  induction m with
  | zero => rw [show k = 0 by omega] at h; exact h
  | succ m ih =>
    by_cases e : k = m + 1
    · rw [← e]; exact h
    · exact ff_step g ht hb (ih (by omega))
def toldB (o : Option Nat) (m : Nat) : Bool := match o with
  | some k => decide (k ≤ m)
  | none => false
theorem told_is {n : Nat} {c : Cn} (g : GC n c) {t : List Nat} (ht : ∀ w ∈ t, w < n) {b : Ra} (hb : 0 < b.2) {m : Nat} (hm : m < 201) : toldB (ffO c b t) m = ffP c b t m := by
  cases h : ffO c b t with
  | none =>
    rw [ffO, List.find?_eq_none] at h
    have := h m (List.mem_range.2 hm)
    simp only [toldB]
    cases q : ffP c b t m with
    | false => rfl
    | true => exact absurd q this
  | some k =>
    rw [ffO] at h
    have hk := List.find?_some h
    simp only [toldB]
    by_cases l : k ≤ m
    · rw [ff_mono g ht hb hk l]; simp [l]
    · rw [List.find?_eq_some_iff_getElem] at h
      obtain ⟨_, i, hi, e, hj⟩ := h
      simp only [List.length_range] at hi
      rw [List.getElem_range] at e
      have := hj m (by omega)
      simp only [List.getElem_range] at this
      cases q : ffP c b t m with
      | false => simp [l]
      | true => simp [q] at this
end K02
end Sm

set_option Elab.async false
set_option linter.all false
set_option maxRecDepth 100000
/-! K02j: the draws; one turn of the layers. -/
namespace Sm
open PySem PySem.Spec
open K11 (dw)
namespace K02
section
variable {k : Nat} {st rest : Sto}
theorem nx (ns : List Int) (c : Nat) (b : Int) (hb : 0 < b) : ∃ r : Int, 0 ≤ r ∧ r < b ∧ callF pg (k + 10) 32 [.r 0, .d (.int b)] (dw ns c) = .ok (.d (.int r)) (dw ns (c + 1)) :=
  c_law_next (k := k + 7) (i1 := 29) (i2 := 31) (i3 := 30) rfl rfl rfl rfl ns c b hb
theorem pk (ns : List Int) (c : Nat) {α : Type} (e : α → D) (xs : List α) (hx : xs ≠ []) : ∃ x ∈ xs, callF pg (k + 10) 33 [.r 0, .d (.list (xs.map e))] (dw ns c) = .ok (.d (e x)) (dw ns (c + 1)) := by
  obtain ⟨y, hy, h⟩ := c_law_pick (Pg := pg) (i := 33) (j := 32) (i1 := 29) (i2 := 31) (i3 := 30) (k := k + 6) (rest := []) rfl rfl rfl rfl rfl ns c (xs.map e) (by
    cases xs with
    | nil => exact absurd rfl hx
    | cons _ _ => simp)
  obtain ⟨x, hx', rfl⟩ := List.mem_map.1 hy
  exact ⟨x, hx', h⟩
theorem draw_marks (ns : List Int) (n : Nat) : ∀ (N c : Nat), ∃ (l : List Mk) (c' : Nat), l.length = N ∧ (∀ p ∈ l, p.1 ∈ evL n) ∧ ∀ (m : Nat) (lo : Lo) (xs : List D), xs.length = N → lo[1]? = some (some (.r 0)) → lo[3]? = some (some (.d (.list ((evL n).map ltD)))) → 4 < lo.length →
    lcL (ev (callF pg (k + 10)) (m + 6)) [4] (.n 4) none (.tup [(false, (.call 33 [(.v 1), (.v 3)])), (false, (.cmp .Eq (.call 32 [(.v 1), (.c (.int (2)))]) (.c (.int (0)))))]) lo xs (dw ns c) = .ok (l.map mkD) (dw ns c')
  | 0, c => ⟨[], c, rfl, by simp, fun m lo xs hx _ _ _ => by rw [List.length_eq_zero_iff.1 hx]; rfl⟩
  | N + 1, c => by
    obtain ⟨t, ht, e0⟩ := pk (k := k) ns c ltD (evL n) ev_ne
    obtain ⟨r, r0, r2, e⟩ := nx (k := k) ns (c + 1) 2 (by decide)
    obtain ⟨l, c', hb, hl, e'⟩ := draw_marks ns n N (c + 2)
    refine ⟨(t, decide (r = 0)) :: l, c', by simp [hb], by simpa [ht] using hl, ?_⟩
    intro m lo xs hx h1 h3 h4
    cases xs with
    | nil => simp at hx
    | cons x xs =>
      have := e' m lo xs (by simpa using hx) h1 h3 h4
      simp [lcL, bindT, wipeL, evC, h1, h3, List.getElem?_set, h4, e0, e, this, mkD]
theorem draw_lets (ns : List Int) (n : Nat) : ∀ (N c : Nat), ∃ (l : List (List Nat)) (c' : Nat), l.length = N ∧ (∀ p ∈ l, p ∈ evL n) ∧ ∀ (m : Nat) (lo : Lo) (xs : List D), xs.length = N → lo[1]? = some (some (.r 0)) → lo[3]? = some (some (.d (.list ((evL n).map ltD)))) → 4 < lo.length →
    lcL (ev (callF pg (k + 10)) (m + 6)) [4] (.n 4) none (.call 33 [(.v 1), (.v 3)]) lo xs (dw ns c) = .ok (l.map ltD) (dw ns c')
  | 0, c => ⟨[], c, rfl, by simp, fun m lo xs hx _ _ _ => by rw [List.length_eq_zero_iff.1 hx]; rfl⟩
  | N + 1, c => by
    obtain ⟨t, ht, e0⟩ := pk (k := k) ns c ltD (evL n) ev_ne
    obtain ⟨l, c', hb, hl, e'⟩ := draw_lets ns n N (c + 1)
    refine ⟨t :: l, c', by simp [hb], by simpa [ht] using hl, ?_⟩
    intro m lo xs hx h1 h3 h4
    cases xs with
    | nil => simp at hx
    | cons x xs =>
      have := e' m lo xs (by simpa using hx) h1 h3 h4
      simp [lcL, bindT, wipeL, evC, h1, h3, List.getElem?_set, h4, e0, this]
/-! data that are compared -/
theorem plain_cn (c : Cn) : (cnD c).plain = true := by
  have h := plainAll_map (e := pD) (as := c.rows) (fun _ _ => by simp [pD, PyData.plain, PyData.plainAll])
  simp [cnD, PyData.plain, PyData.plainAll, h]
theorem depth_cn (c : Cn) : (cnD c).depth ≤ 5 := by
  have h := depthAll_map (e := pD) (as := c.rows) (d := 1) (fun _ _ => by simp [pD, PyData.depth, PyData.depthAll])
  simp only [cnD, PyData.depth, PyData.depthAll]; omega
theorem ne_cn (c : Cn) : cmpD .NotEq (cnD c) (cnD c) = some false := cmp_ne_refl (plain_cn c) (by have := depth_cn c; omega)
theorem ne_frs {α : Type} (g : α → Ra) (l : List α) : cmpD .NotEq (.tuple (l.map fun a => frD (g a))) (.tuple (l.map fun a => frD (g a))) = some false := by
  have h1 := plainAll_map (e := fun a => frD (g a)) (as := l) (fun _ _ => by simp [frD, PyData.plain, PyData.plainAll])
  have h2 := depthAll_map (e := fun a => frD (g a)) (as := l) (d := 1) (fun _ _ => by simp [frD, PyData.depth, PyData.depthAll])
  exact cmp_ne_refl (by simpa [PyData.plain] using h1) (by simp only [PyData.depth]; omega)
theorem ne_lts (l : List (List Nat)) : cmpD .NotEq (.tuple (l.map ltD)) (.tuple (l.map ltD)) = some false := by
  have h1 := plainAll_map (e := ltD) (as := l) (fun t _ => plain_lt t)
  have h2 := depthAll_map (e := ltD) (as := l) (d := 1) (fun t _ => depth_lt t)
  exact cmp_ne_refl (by simpa [PyData.plain] using h1) (by simp only [PyData.depth]; omega)
theorem notin_cn (c : Cn) (l : List Cn) : ∃ q, cmpD .NotIn (cnD c) (.list (l.map cnD)) = some q := by
  have h1 := plainAll_map (e := cnD) (as := l) (fun t _ => plain_cn t)
  have h2 : inOk (cnD c) (l.map cnD) = true := by
    have := depth_cn c
    simp only [inOk, plain_cn, h1, Bool.true_and, Bool.or_eq_true, decide_eq_true_eq]
    omega
  exact ⟨_, by simp only [cmpD, h2, if_true]; rfl⟩
/-! rows made anew, the law's way -/
theorem rows_run2 {cf : CF} {m : Nat} {lo : Lo} {rows : List (Nat × Nat)} {t : List Nat} {x i j l : Nat} {u v : E} (h : ∀ (r : Nat × Nat) (w : Nat), evP (ev cf m) (.tup [(false, (.bin .Add (.v j) (.ife (.cmp .In (.v i) u) v (.c (.int (0)))))), (false, (.v l))]) ((((wipeL [i, j, l] lo).set i (some (.d (.int w)))).set j (some (.d (.int r.1)))).set l (some (.d (.int r.2)))) st = .ok (pD (if w ∈ t then (r.1 + x, r.2) else r)) st) :
    lcL (ev cf m) [i, j, l] (.t [(.n i), (.t [(.n j), (.n l)])]) none (.tup [(false, (.bin .Add (.v j) (.ife (.cmp .In (.v i) u) v (.c (.int (0)))))), (false, (.v l))]) lo (rows.zipIdx.map fun p => PyData.tuple [.int p.2, pD p.1]) st = .ok ((rowsAdd rows t x 0).map pD) st := by
  rw [lcL_mapT (g := fun (p : (Nat × Nat) × Nat) => pD (if p.2 ∈ t then (p.1.1 + x, p.1.2) else p.1))]
  · simp [rowsAdd, Function.comp_def]
  · rintro ⟨r, w⟩ _
    exact ⟨_, rfl, h r w⟩
theorem Iv.add {c s : Cn} {m : Nat} (h : Iv c m s) (late : List Nat) : Iv c (m + 1) ⟨s.a + 1, s.b, rowsAdd s.rows late 1 0⟩ := by
  refine ⟨by simp only [h.a]; omega, h.b, by simp only [ra_len, h.len], fun w => ?_⟩
  by_cases hw : w < s.rows.length
  · rw [rw_add hw]
    obtain ⟨r1, r2⟩ := h.r w
    have e : s.rows.getD w (0, 0) = rw s w := rfl
    rw [e]
    split
    · exact ⟨by simp only; omega, by simpa using r2⟩
    · exact ⟨by omega, r2⟩
  · have hl := h.len
    rw [rw_out (c := ⟨s.a + 1, s.b, rowsAdd s.rows late 1 0⟩) (by simp only [ra_len]; omega), rw_out (c := c) (by omega)]
    simp
theorem Iv.sc {n : Nat} {c s : Cn} (g : GC n c) {m : Nat} (h : Iv c m s) (hm : m ≤ 1000) : SC n s := by
  have h1 := g.a
  have h2 := g.b
  refine ⟨by rw [h.len, g.len], by rw [h.a]; omega, by rw [h.b]; omega, ?_⟩
  intro r hr
  obtain ⟨w, hw, rfl⟩ := List.getElem_of_mem hr
  obtain ⟨r1, r2⟩ := h.r w
  have e : rw s w = s.rows[w] := by simp [rw, hw]
  have hwc : w < c.rows.length := by rw [← h.len]; exact hw
  have e2 : rw c w = c.rows[w] := by simp [rw, hwc]
  have := g.r _ (List.getElem_mem hwc)
  rw [e, e2] at r1 r2
  omega
end
end K02
end Sm

set_option Elab.async false
set_option linter.all false
set_option maxRecDepth 100000
/-! K02k: the layers. -/
namespace Sm
open PySem PySem.Spec
open K11 (dw)
namespace K02
section
variable {k : Nat} {st rest : Sto}
/-- inner walks -/
def lb2 : List S := [.asg (.n 19) (.tup [(false, (.bin .Add (.ix (.v 7) (.c (.int (0)))) (.c (.int (1))))), (false, (.ix (.v 7) (.c (.int (1))))), (false, (.blt .tuple (.lc [26, 27, 28] (.t [(.n 26), (.t [(.n 27), (.n 28)])]) (.en (.ix (.v 7) (.c (.int (2))))) none (.tup [(false, (.bin .Add (.v 27) (.ife (.cmp .In (.v 26) (.v 18)) (.c (.int (1))) (.c (.int (0)))))), (false, (.v 28))]))))]), .asg (.n 17) (.bin .Add (.v 17) (.ife (.cmp .NotIn (.v 19) (.v 17)) (.lst [(false, (.v 19))]) (.lst [])))]
def lb1 : List S := [.fr (.n 18) (.e (.v 3)) lb2]
def lb : List S := [.asg (.n 16) (.blt .any (.lc [7] (.n 7) (.e (.v 15)) none (.not (.call 36 [(.call 39 [(.v 7), (.v 9)]), (.v 10)])))), .iff (.cmp .NotEq (.v 16) (.and (.cmp .IsNot (.v 13) (.c .none)) (.cmp .GtE (.v 4) (.v 13)))) [.ret (.c (.bool false))] [], .iff (.cmp .Lt (.v 4) (.v 14)) [.asg (.n 17) (.lst []), .fr (.n 7) (.e (.v 15)) lb1, .asg (.n 15) (.ife (.cmp .Gt (.v 4) (.c (.int (0)))) (.sl (.v 17) none (some (.c (.int (40))))) (.v 17)), .asg (.n 15) (.bin .Add (.v 15) (.lst [(false, (.tup [(false, (.bin .Add (.bin .Add (.ix (.v 6) (.c (.int (0)))) (.v 4)) (.c (.int (1))))), (false, (.ix (.v 6) (.c (.int (1))))), (false, (.blt .tuple (.lc [26, 27, 28] (.t [(.n 26), (.t [(.n 27), (.n 28)])]) (.en (.ix (.v 6) (.c (.int (2))))) none (.tup [(false, (.bin .Add (.v 27) (.ife (.cmp .In (.v 26) (.v 9)) (.bin .Add (.v 4) (.c (.int (1)))) (.c (.int (0)))))), (false, (.v 28))]))))]))]))] []]
/-- the frame of the law at the layers -/
structure Fx where
  v0 : Option RV
  v8 : Option RV
  v11 : Option RV
  v12 : Option RV
  v5 : Option RV
structure Jk where
  v4 : Option RV
  v7 : Option RV
  v16 : Option RV
  v17 : Option RV
  v18 : Option RV
  v19 : Option RV
def fr (x : Fx) (n : Nat) (c : Cn) (t : List Nat) (b : Ra) (v13 : D) (most : Nat) (j : Jk) (layer : List Cn) : Lo :=
  [x.v0, some (.r 0), some (.d (.int n)), some (.d (.list ((evL n).map ltD))), j.v4, x.v5, some (.d (cnD c)), j.v7, x.v8, some (.d (ltD t)), some (.d (frD b)), x.v11, x.v12, some (.d v13), some (.d (.int most)), some (.d (.list (layer.map cnD))), j.v16, j.v17, j.v18, j.v19, none, none, none, none, none, none, none, none, none, none]
theorem in2 {cf : CF} {x : Fx} {n : Nat} {c : Cn} {t : List Nat} {b : Ra} {v13 : D} {most : Nat} {j : Jk} {layer : List Cn} {s : Cn} {late : List Nat} {more : List Cn} (hs : s.rows.length ≤ 1000) (hm : more.length ≤ 100000) :
    ∃ more' v19, (more' = more ∨ more' = more ++ [⟨s.a + 1, s.b, rowsAdd s.rows late 1 0⟩]) ∧ exs (exN cf 60 36) lb2 (fr x n c t b v13 most { j with v7 := some (.d (cnD s)), v17 := some (.d (.list (more.map cnD))), v18 := some (.d (ltD late)) } layer) st = .ok (.nx (fr x n c t b v13 most { j with v7 := some (.d (cnD s)), v17 := some (.d (.list (more'.map cnD))), v18 := some (.d (ltD late)), v19 := v19 } layer)) st := by
  have s1 : szOk s.rows.length = true := szOk_of (by omega)
  have hc : PyData.tuple [.int (s.a + 1 : Int), .int s.b, .tuple ((rowsAdd s.rows late 1 0).map pD)] = cnD ⟨s.a + 1, s.b, rowsAdd s.rows late 1 0⟩ := by simp [cnD]
  obtain ⟨q, hq⟩ := notin_cn ⟨s.a + 1, s.b, rowsAdd s.rows late 1 0⟩ more
  have s2 : szOk (more.length + 1) = true := szOk_of (by omega)
  have s3 : szOk more.length = true := szOk_of (by omega)
  have key : ∀ w19, exs (exN cf 60 36) lb2 (fr x n c t b v13 most { j with v7 := some (.d (cnD s)), v17 := some (.d (.list (more.map cnD))), v18 := some (.d (ltD late)), v19 := w19 } layer) st = .ok (.nx (fr x n c t b v13 most { j with v7 := some (.d (cnD s)), v17 := some (.d (.list ((if q then more ++ [⟨s.a + 1, s.b, rowsAdd s.rows late 1 0⟩] else more).map cnD))), v18 := some (.d (ltD late)), v19 := some (.d (cnD ⟨s.a + 1, s.b, rowsAdd s.rows late 1 0⟩)) } layer)) st := by
    intro w19
    simp [lb2, fr, s1]
    rw [rows_run2 (t := late) (x := 1) (by
      intro r w
      by_cases hw : w ∈ late
      · simp [wipeL, cmp_in, hw]
        simp [pD]
      · simp [wipeL, cmp_in, hw]
        simp [pD])]
    simp [hc, hq]
    cases q
    · simp [binD, s3]
    · simp [binD, s2]
  refine ⟨_, _, ?_, key j.v19⟩
  cases q
  · exact .inl rfl
  · exact .inr rfl
def gd (c : Cn) (m : Nat) (l : List Cn) : Prop := ∀ s ∈ l, Iv c m s
theorem in1 {cf : CF} {x : Fx} {n : Nat} {c : Cn} (g : GC n c) {t : List Nat} {b : Ra} {v13 : D} {most : Nat} {j : Jk} {layer : List Cn} {s : Cn} {m : Nat} (hs : Iv c m s) {more : List Cn} (hm : gd c (m + 1) more) (hl : more.length ≤ 50000) :
    ∃ more' v18 v19, gd c (m + 1) more' ∧ more'.length ≤ more.length + 64 ∧ exs (exN cf 60 37) lb1 (fr x n c t b v13 most { j with v7 := some (.d (cnD s)), v17 := some (.d (.list (more.map cnD))) } layer) st = .ok (.nx (fr x n c t b v13 most { j with v7 := some (.d (cnD s)), v17 := some (.d (.list (more'.map cnD))), v18 := v18, v19 := v19 } layer)) st := by
  have h6 := ev_len g.n6
  have hr : s.rows.length ≤ 1000 := by rw [hs.len, g.len]; have := g.n6; omega
  obtain ⟨⟨more', v18, v19⟩, e, p1, p2⟩ := forL_ex (st := st) (b := exs (exN cf 60 36) lb2) (tg := .n 18) ltD
    (fun (σ : List Cn × Option RV × Option RV) => fr x n c t b v13 most { j with v7 := some (.d (cnD s)), v17 := some (.d (.list (σ.1.map cnD))), v18 := σ.2.1, v19 := σ.2.2 } layer) (fun i σ => gd c (m + 1) σ.1 ∧ σ.1.length ≤ more.length + i) (evL n) 0 (more, j.v18, j.v19) ⟨hm, by simp⟩ (by
      rintro i ⟨mo, v18, v19⟩ late hi ⟨q1, q2⟩
      have hi64 : i < 64 := by
        have := (List.getElem?_eq_some_iff.1 hi).1
        omega
      obtain ⟨mo', v19', hh, e⟩ := in2 (st := st) (cf := cf) (x := x) (n := n) (c := c) (t := t) (b := b) (v13 := v13) (most := most) (j := { j with v19 := v19 }) (layer := layer) (s := s) (late := late) (more := mo) hr (by simp only at q2; omega)
      refine ⟨_, (mo', some (.d (ltD late)), v19'), rfl, e, ?_, ?_⟩
      · rcases hh with rfl | rfl
        · exact q1
        · intro u hu
          rcases List.mem_append.1 hu with hu | hu
          · exact q1 u hu
          · rw [List.mem_singleton.1 hu]; exact hs.add late
      · rcases hh with rfl | rfl
        · simp only at q2 ⊢; omega
        · simp only [List.length_append, List.length_singleton] at q2 ⊢; omega)
  refine ⟨more', v18, v19, p1, by simp only at p2; omega, ?_⟩
  simp only [lb1]
  simp [fr]
  simp only [fr] at e
  rw [e]
  simp
theorem in0 {cf : CF} {x : Fx} {n : Nat} {c : Cn} (g : GC n c) {t : List Nat} {b : Ra} {v13 : D} {most : Nat} {j : Jk} {layer : List Cn} {m : Nat} (hy : gd c m layer) (hl : layer.length ≤ 200) :
    ∃ more' v7 v18 v19, gd c (m + 1) more' ∧ more'.length ≤ layer.length * 64 ∧ forL (exs (exN cf 60 37) lb1) (.n 7) (layer.map cnD) (fr x n c t b v13 most { j with v17 := some (.d (.list [])) } layer) st = .ok (.nx (fr x n c t b v13 most { j with v7 := v7, v17 := some (.d (.list (more'.map cnD))), v18 := v18, v19 := v19 } layer)) st := by
  obtain ⟨⟨more', v7, v18, v19⟩, e, p1, p2⟩ := forL_ex (st := st) (b := exs (exN cf 60 37) lb1) (tg := .n 7) cnD
    (fun (σ : List Cn × Option RV × Option RV × Option RV) => fr x n c t b v13 most { j with v7 := σ.2.1, v17 := some (.d (.list (σ.1.map cnD))), v18 := σ.2.2.1, v19 := σ.2.2.2 } layer) (fun i σ => gd c (m + 1) σ.1 ∧ σ.1.length ≤ i * 64) layer 0 ([], j.v7, j.v18, j.v19) ⟨by intro u hu; simp at hu, by simp⟩ (by
      rintro i ⟨mo, v7, v18, v19⟩ s hi ⟨q1, q2⟩
      have hi2 := (List.getElem?_eq_some_iff.1 hi).1
      have hs := hy s (List.mem_of_getElem? hi)
      simp only at q2
      obtain ⟨mo', v18', v19', h1, h2, e⟩ := in1 (st := st) (cf := cf) (x := x) g (t := t) (b := b) (v13 := v13) (most := most) (j := { j with v18 := v18, v19 := v19 }) (layer := layer) hs (more := mo) q1 (by omega)
      refine ⟨_, (mo', some (.d (cnD s)), v18', v19'), rfl, e, h1, ?_⟩
      simp only; omega)
  exact ⟨more', v7, v18, v19, p1, by simpa using p2, e⟩
end
end K02
end Sm

set_option Elab.async false
set_option linter.all false
set_option maxRecDepth 100000
/-! K02l: one turn of the layers. -/
namespace Sm
open PySem PySem.Spec
open K11 (dw)
theorem cut_to' {α : Type} {e : α → D} {xs : List α} {n : Nat} : cutL (xs.map e) none (some (n : Int)) = (xs.take n).map e := by
  by_cases h : n ≤ xs.length
  · exact cut_to h
  · simp only [cutL, HT.sIx_none, HT.sIx_nat, List.length_map, List.drop_zero, ← List.map_take]
    rw [show min n xs.length - 0 = xs.length by omega, List.take_length, List.take_of_length_le (by omega)]
namespace K02
section
variable {k : Nat} {st rest : Sto}
theorem any_done {n : Nat} {c : Cn} (g : GC n c) {b : Ra} (gb : GB b) {t : List Nat} (ht : lotB n t = true) {i : Nat} {layer : List Cn} (hy : gd c i layer) (hm : grd c t i ∈ layer) : (layer.any fun s => !lsF (odF s t) b) = ffP c b t i := by
  have hlt : ∀ w ∈ t, w < c.rows.length := by rw [g.len]; exact lot_lt ht
  have hb := gb.b1
  cases q : ffP c b t i with
  | true =>
    rw [List.any_eq_true]
    exact ⟨_, hm, q⟩
  | false =>
    rw [List.any_eq_false]
    intro s hs
    have q' : lsF (odF (grd c t i) t) b = true := by simpa [ffP] using q
    simp [le_ls (hy s hs) hlt (by omega) q']
def lbA : S := .asg (.n 16) (.blt .any (.lc [7] (.n 7) (.e (.v 15)) none (.not (.call 36 [(.call 39 [(.v 7), (.v 9)]), (.v 10)]))))
def lbB : S := .iff (.cmp .NotEq (.v 16) (.and (.cmp .IsNot (.v 13) (.c .none)) (.cmp .GtE (.v 4) (.v 13)))) [.ret (.c (.bool false))] []
def lbC : S := .iff (.cmp .Lt (.v 4) (.v 14)) [.asg (.n 17) (.lst []), .fr (.n 7) (.e (.v 15)) lb1, .asg (.n 15) (.ife (.cmp .Gt (.v 4) (.c (.int (0)))) (.sl (.v 17) none (some (.c (.int (40))))) (.v 17)), .asg (.n 15) (.bin .Add (.v 15) (.lst [(false, (.tup [(false, (.bin .Add (.bin .Add (.ix (.v 6) (.c (.int (0)))) (.v 4)) (.c (.int (1))))), (false, (.ix (.v 6) (.c (.int (1))))), (false, (.blt .tuple (.lc [26, 27, 28] (.t [(.n 26), (.t [(.n 27), (.n 28)])]) (.en (.ix (.v 6) (.c (.int (2))))) none (.tup [(false, (.bin .Add (.v 27) (.ife (.cmp .In (.v 26) (.v 9)) (.bin .Add (.v 4) (.c (.int (1)))) (.c (.int (0)))))), (false, (.v 28))]))))]))]))] []
theorem lb_eq : lb = [lbA, lbB, lbC] := rfl
theorem turn {x : Fx} {n : Nat} {c : Cn} (g : GC n c) {t : List Nat} (ht : lotB n t = true) (hl6 : t.length ≤ 6) {b : Ra} (gb : GB b) {most i : Nat} (hm4 : most ≤ 4) (hi : i ≤ most) {j : Jk} {layer : List Cn} (hy : gd c i layer) (hg : grd c t i ∈ layer) (hll : layer.length ≤ 100) (h0 : i = 0 → layer.length ≤ 1) :
    ∃ j' layer', (i < most → gd c (i + 1) layer' ∧ grd c t (i + 1) ∈ layer' ∧ layer'.length ≤ 100) ∧ exs (exN (callF pg (k + 10)) 60 39) lb (fr x n c t b (ffD (ffO c b t)) most { j with v4 := some (.d (.int i)) } layer) st = .ok (.nx (fr x n c t b (ffD (ffO c b t)) most j' layer')) st := by
  have hb := gb.b1
  have s1 : szOk layer.length = true := szOk_of (by omega)
  have ob : ∀ s ∈ layer, ∀ st, callF pg (k + 10) 39 [.d (cnD s), .d (ltD t)] st = .ok (.d (frD (odF s t))) st := fun s hs st => c__law_odds (k := k + 7) (st := st) ((hy s hs).sc g (by omega)) (lot_lt ht) (by omega)
  have lo : ∀ s ∈ layer, ∀ st, callF pg (k + 10) 36 [.d (frD (odF s t)), .d (frD b)] st = .ok (.d (.bool (lsF (odF s t) b))) st := fun s hs st => c_law_less (k := k + 9) (st := st) (od_fok ((hy s hs).sc g (by omega)) (t := t)) gb.fok (by omega)
  have hdone := any_done g gb ht hy hg
  have htold := told_is g (lot_lt ht) (b := b) (by omega) (m := i) (by omega)
  have part1 : lcL (ev (callF pg (k + 10)) 58) [7] (.n 7) none (.not (.call 36 [(.call 39 [(.v 7), (.v 9)]), (.v 10)])) (fr x n c t b (ffD (ffO c b t)) most { j with v4 := some (.d (.int i)) } layer) (layer.map cnD) st = .ok (layer.map fun s => .bool (!lsF (odF s t) b)) st := by
    rw [lcL_mapT (g := fun s => .bool (!lsF (odF s t) b))]
    intro s hs
    exact ⟨_, rfl, by simp [wipeL, fr, ob s hs, lo s hs]⟩
  simp only [fr] at part1
  have a1 : exN (callF pg (k + 10)) 60 39 lbA (fr x n c t b (ffD (ffO c b t)) most { j with v4 := some (.d (.int i)) } layer) st = .ok (.nx (fr x n c t b (ffD (ffO c b t)) most { j with v4 := some (.d (.int i)), v16 := some (.d (.bool (ffP c b t i))) } layer)) st := by
    simp [lbA, fr, s1]
    rw [part1]
    simp [hdone]
  have a2 : exN (callF pg (k + 10)) 60 39 lbB (fr x n c t b (ffD (ffO c b t)) most { j with v4 := some (.d (.int i)), v16 := some (.d (.bool (ffP c b t i))) } layer) st = .ok (.nx (fr x n c t b (ffD (ffO c b t)) most { j with v4 := some (.d (.int i)), v16 := some (.d (.bool (ffP c b t i))) } layer)) st := by
    rw [← htold]
    cases ho : ffO c b t with
    | none =>
      have c1 : cmpD .IsNot .none .none = some false := rfl
      simp [lbB, fr, ffD, c1, toldB]
    | some m =>
      have c1 : cmpD .IsNot (.int (m : Int)) .none = some true := rfl
      simp [lbB, fr, ffD, c1, toldB]
  rw [lb_eq]
  by_cases hlt : i < most
  · obtain ⟨more, v7, v18, v19, m1, m2, e2⟩ := in0 (st := st) (cf := callF pg (k + 10)) (x := x) g (t := t) (b := b) (v13 := ffD (ffO c b t)) (most := most) (j := { j with v4 := some (.d (.int i)), v16 := some (.d (.bool (ffP c b t i))) }) hy (by omega)
    have hlen : (if i > 0 then more.take 40 else more).length ≤ 64 := by
      by_cases h : i > 0
      · rw [if_pos h]; simp; omega
      · rw [if_neg h]
        have := h0 (by omega)
        have : layer.length * 64 ≤ 1 * 64 := Nat.mul_le_mul_right _ this
        omega
    refine ⟨{ j with v4 := some (.d (.int i)), v16 := some (.d (.bool (ffP c b t i))), v7 := v7, v17 := some (.d (.list (more.map cnD))), v18 := v18, v19 := v19 }, (if i > 0 then more.take 40 else more) ++ [grd c t (i + 1)], fun _ => ?_, ?_⟩
    · refine ⟨?_, by simp, ?_⟩
      · intro u hu
        rcases List.mem_append.1 hu with hu | hu
        · by_cases h : i > 0
          · rw [if_pos h] at hu; exact m1 u (List.mem_of_mem_take hu)
          · rw [if_neg h] at hu; exact m1 u hu
        · rw [List.mem_singleton.1 hu]; exact Iv.grd c t (i + 1)
      · rw [List.length_append, List.length_singleton]; omega
    · have hr := g.len
      have h6 := g.n6
      have s2 : szOk c.rows.length = true := szOk_of (by omega)
      have s3 : szOk ((if i > 0 then more.take 40 else more).length + 1) = true := szOk_of (by omega)
      have hcut : slD (.list (more.map cnD)) none (some 40) = some (.list ((more.take 40).map cnD)) := by
        have := cut_to' (e := cnD) (xs := more) (n := 40)
        simp only [slD]
        exact congrArg (fun x => some (PyData.list x)) this
      have hgc : PyData.tuple [.int ((c.a : Int) + i + 1), .int c.b, .tuple ((rowsAdd c.rows t (i + 1) 0).map pD)] = cnD (grd c t (i + 1)) := by
        simp [cnD, grd]; omega
      have a3 : exN (callF pg (k + 10)) 60 39 lbC (fr x n c t b (ffD (ffO c b t)) most { j with v4 := some (.d (.int i)), v16 := some (.d (.bool (ffP c b t i))) } layer) st = .ok (.nx (fr x n c t b (ffD (ffO c b t)) most { j with v4 := some (.d (.int i)), v16 := some (.d (.bool (ffP c b t i))), v7 := v7, v17 := some (.d (.list (more.map cnD))), v18 := v18, v19 := v19 } ((if i > 0 then more.take 40 else more) ++ [grd c t (i + 1)]))) st := by
        simp only [fr] at e2
        simp [lbC, fr, show (i : Int) < most by omega]
        rw [e2]
        by_cases hpos : i > 0
        · rw [if_pos hpos] at s3 ⊢
          simp [show 0 < i from hpos, hcut, s2]
          rw [rows_run2 (t := t) (x := i + 1) (by
            intro r w
            by_cases hw : w ∈ t
            · simp [wipeL, cmp_in, hw]
              simp [pD]
            · simp [wipeL, cmp_in, hw]
              simp [pD])]
          simp only [List.length_take] at s3
          simp [hgc, binD, s3]
        · rw [if_neg hpos] at s3 ⊢
          simp [show ¬ 0 < i from hpos, s2]
          rw [rows_run2 (t := t) (x := i + 1) (by
            intro r w
            by_cases hw : w ∈ t
            · simp [wipeL, cmp_in, hw]
              simp [pD]
            · simp [wipeL, cmp_in, hw]
              simp [pD])]
          simp [hgc, binD, s3]
      simp only [exsC, exsN, a1, a2, a3, seq_nx]
  · have a3 : exN (callF pg (k + 10)) 60 39 lbC (fr x n c t b (ffD (ffO c b t)) most { j with v4 := some (.d (.int i)), v16 := some (.d (.bool (ffP c b t i))) } layer) st = .ok (.nx (fr x n c t b (ffD (ffO c b t)) most { j with v4 := some (.d (.int i)), v16 := some (.d (.bool (ffP c b t i))) } layer)) st := by
      simp [lbC, fr, show ¬ (i : Int) < most by omega]
    exact ⟨{ j with v4 := some (.d (.int i)), v16 := some (.d (.bool (ffP c b t i))) }, layer, fun h => absurd h hlt, by simp only [exsC, exsN, a1, a2, a3, seq_nx]⟩
theorem layers {x : Fx} {n : Nat} {c : Cn} (g : GC n c) {t : List Nat} (ht : lotB n t = true) (hl6 : t.length ≤ 6) {b : Ra} (gb : GB b) {most : Nat} (hm4 : most ≤ 4) {j : Jk} :
    ∃ j' layer', forL (exs (exN (callF pg (k + 10)) 60 39) lb) (.n 4) ((List.range (most + 1)).map fun (i : Nat) => PyData.int i) (fr x n c t b (ffD (ffO c b t)) most j [c]) st = .ok (.nx (fr x n c t b (ffD (ffO c b t)) most j' layer')) st := by
  have g0 : grd c t 0 = c := by
    have : rowsAdd c.rows t 0 0 = c.rows := by
      simp only [rowsAdd, Nat.add_zero, ite_self]
      apply List.ext_getElem
      · simp
      · intro i h1 h2; simp
    simp [grd, this]
  have h0 : Iv c 0 c := ⟨rfl, rfl, rfl, fun w => ⟨Nat.le_refl _, rfl⟩⟩
  obtain ⟨⟨j', layer'⟩, e, _⟩ := forL_ex (st := st) (b := exs (exN (callF pg (k + 10)) 60 39) lb) (tg := .n 4) (fun (i : Nat) => PyData.int i)
    (fun (σ : Jk × List Cn) => fr x n c t b (ffD (ffO c b t)) most σ.1 σ.2) (fun i σ => i ≤ most → gd c i σ.2 ∧ grd c t i ∈ σ.2 ∧ σ.2.length ≤ 100 ∧ (i = 0 → σ.2.length ≤ 1)) (List.range (most + 1)) 0 (j, [c]) (fun _ => ⟨fun s hs => by rw [List.mem_singleton.1 hs]; exact h0, by rw [g0]; simp, by simp, by simp⟩) (by
      rintro i ⟨j, layer⟩ a ha hp
      obtain ⟨hi, rfl⟩ := List.getElem?_eq_some_iff.1 ha
      simp only [List.length_range] at hi
      simp only [List.getElem_range, Nat.zero_add] at hp ⊢
      obtain ⟨p1, p2, p3, p4⟩ := hp (by omega)
      obtain ⟨j', layer', q, e⟩ := turn (k := k) (st := st) (x := x) g ht hl6 gb hm4 (i := i) (by omega) (j := j) p1 p2 p3 p4
      exact ⟨_, (j', layer'), rfl, e, fun h => ⟨(q (by omega)).1, (q (by omega)).2.1, (q (by omega)).2.2, fun h0 => by omega⟩⟩)
  exact ⟨j', layer', e⟩
end
end K02
end Sm

set_option Elab.async false
set_option linter.all false
set_option maxRecDepth 100000
/-! K02m: the end of the law. -/
namespace Sm
open PySem PySem.Spec
open K11 (dw)
namespace K02
section
variable {k : Nat} {st rest : Sto}
def tailS : List S := [
  .asg (.n 21) (.blt .tuple (.lc [4] (.n 4) (.r1 (.bin .Add (.c (.int (1))) (.call 32 [(.v 1), (.c (.int (3)))]))) none (.call 33 [(.v 1), (.v 3)]))),
  .asg (.n 22) (.call 39 [(.v 6), (.ix (.v 21) (.c (.int (0))))]),
  .fr (.n 7) (.e (.v 21)) [.asg (.n 22) (.ife (.call 36 [(.call 39 [(.v 6), (.v 7)]), (.v 22)]) (.call 39 [(.v 6), (.v 7)]) (.v 22))],
  .iff (.cmp .NotEq (.call 27 [(.v 6), (.v 21)]) (.v 22)) [.ret (.c (.bool false))] [],
  .asg (.n 23) (.sumL (.lc [7, 11] (.t [(.n 7), (.n 11)]) (.e (.v 5)) none (.lc [24, 29] (.t [(.n 24), (.n 29)]) (.e (.v 5)) (some (.and (.v 11) (.and (.not (.v 29)) (.not (.call 36 [(.call 39 [(.v 6), (.v 24)]), (.call 39 [(.v 6), (.v 7)])]))))) (.tup [(false, (.v 7)), (false, (.v 24))]))) (.lst [])),
  .iff (.cmp .NotEq (.call 28 [(.v 2), (.v 5)]) (.ife (.cmp .NotEq (.v 23) (.lst [])) (.ix (.v 23) (.c (.int (0)))) (.c .none))) [.ret (.c (.bool false))] [],
  .ret (.call 40 [(.v 2), (.v 5), (.v 6)])]
def ptV (p q : Mk) : D := .tuple [ltD p.1, ltD q.1]
def wrL (c : Cn) (l : List Mk) : List D := l.flatMap fun p => (l.filter (ptQ c p)).map (ptV p)
theorem wr_head (c : Cn) (l : List Mk) : (wrL c l).head? = ptF c l := by
  rw [wrL, List.head?_flatMap, ptF]
  congr 1
  funext p
  rw [List.head?_map, List.head?_filter, fs_find]
  rfl
theorem plain_pt (p q : Mk) : (ptV p q).plain = true ∧ (ptV p q).depth ≤ 3 := by
  have h1 := depth_lt p.1
  have h2 := depth_lt q.1
  refine ⟨by simp [ptV, PyData.plain, PyData.plainAll, plain_lt], ?_⟩
  simp only [ptV, PyData.depth, PyData.depthAll]; omega
theorem wr_len (c : Cn) (l : List Mk) (h : l.length ≤ 60) : (wrL c l).length ≤ 3600 := by
  have : ∀ m : List Mk, (m.flatMap fun p => (l.filter (ptQ c p)).map (ptV p)).length ≤ m.length * 60 := by
    intro m
    induction m with
    | nil => simp
    | cons a m ih =>
      rw [List.flatMap_cons, List.length_append, List.length_map, List.length_cons, Nat.succ_mul]
      have := List.length_filter_le (ptQ c a) l
      omega
  have h2 := this l
  have : l.length * 60 ≤ 60 * 60 := Nat.mul_le_mul_right _ h
  unfold wrL; omega
theorem tail {n : Nat} {l : List Mk} (gm : GM n l) {c : Cn} (hc : c = ctF n l) {ns : List Int} {c0 : Nat} {v0 v4 v7 v8 v9 v10 v11 v12 v13 v14 v15 v16 v17 v18 v19 v20 : Option RV} :
    ∃ c1, exs (exN (callF pg (k + 10)) 60 40) tailS [v0, some (.r 0), some (.d (.int n)), some (.d (.list ((evL n).map ltD))), v4, some (.d (mksD l)), some (.d (cnD c)), v7, v8, v9, v10, v11, v12, v13, v14, v15, v16, v17, v18, v19, v20, none, none, none, none, none, none, none, none, none] (dw ns c0) = .ok (.rt (.bool true)) (dw ns c1) := by
  have h1 := gm.n1
  have h6 := gm.n6
  have hle := gm.le
  have gc : GC n c := by rw [hc]; exact ct_GC h1 h6 (by omega)
  obtain ⟨r, r0, r3, e1⟩ := nx (k := k) ns c0 3 (by decide)
  obtain ⟨N, hN, hN1, hN3⟩ : ∃ N : Nat, (1 : Int) + r = N ∧ 1 ≤ N ∧ N ≤ 3 := ⟨(1 + r).toNat, by omega, by omega, by omega⟩
  obtain ⟨ts, c1, hts, hte, e2⟩ := draw_lets (k := k) ns n N (c0 + 1)
  obtain ⟨t, ts, rfl⟩ : ∃ t u, ts = t :: u := by
    cases ts with
    | nil => simp at hts; omega
    | cons t u => exact ⟨t, u, rfl⟩
  have ok : ∀ u ∈ t :: ts, lotB n u = true ∧ u.length ≤ 100 := fun u hu => ⟨(ev_ok (hte u hu)).1, by have := (ev_ok (hte u hu)).2; omega⟩
  have hr : rngOk 0 (N : Int) = true := rngOk_n (by omega)
  have s1 : szOk N = true := szOk_of (by omega)
  have s2 : szOk l.length = true := szOk_of (by omega)
  have hlt : PyData.tuple ((t :: ts).map ltD) = ltsD (t :: ts) := rfl
  have hi : ixD (ltsD (t :: ts)) (.int 0) = some (ltD t) := by simp only [ixD, ltsD, List.map_cons]; exact atI_nat 0
  have hq : seqOf (ltsD (t :: ts)) = some ((t :: ts).map ltD) := rfl
  have ob : ∀ u, lotB n u = true → u.length ≤ 100 → ∀ st, callF pg (k + 10) 39 [.d (cnD c), .d (ltD u)] st = .ok (.d (frD (odF c u))) st := fun u h1 h2 st => c__law_odds (k := k + 7) (st := st) gc.sc (lot_lt h1) h2
  have fk : ∀ u : List Nat, u.length ≤ 100 → fok 2412 (odF c u) := fun u h => fok_mono (od_fok gc.sc) (by omega)
  have e3 := ob t (ok t (by simp)).1 (ok t (by simp)).2
  have e4 := fun st => c_bound_for (k := k + 5) (st := st) gc ok (by rw [hts]; omega)
  have hbf : (t :: ts).foldl (bfStep c) (odF c t) = ts.foldl (bfStep c) (odF c t) := by
    have : bfStep c (odF c t) t = odF c t := by unfold bfStep; split <;> rfl
    rw [List.foldl_cons, this]
  have n1 : cmpD .NotEq (frD (ts.foldl (bfStep c) (odF c t))) (frD (ts.foldl (bfStep c) (odF c t))) = some false := by rw [cmp_frN]; simp
  obtain ⟨j, f1, _⟩ := forL_junk (b := exs (exN (callF pg (k + 10)) 60 39) [.asg (.n 22) (.ife (.call 36 [(.call 39 [(.v 6), (.v 7)]), (.v 22)]) (.call 39 [(.v 6), (.v 7)]) (.v 22))]) (tg := .n 7) ltD
    (fun (f : Ra) (j : Option RV) => [v0, some (.r 0), some (.d (.int n)), some (.d (.list ((evL n).map ltD))), v4, some (.d (mksD l)), some (.d (cnD c)), j, v8, v9, v10, v11, v12, v13, v14, v15, v16, v17, v18, v19, v20, some (.d (ltsD (t :: ts))), some (.d (frD f)), none, none, none, none, none, none, none]) (fun _ => dw ns c1) (bfStep c) (fun _ f => fok 2412 f) (t :: ts).length (t :: ts) 0 (odF c t) v7 (fk t (ok t (by simp)).2) (by omega) (by
      intro m f j u hm hf hu
      have o1 := ob u (ok u hu).1 (ok u hu).2
      have o2 := fun st => c_law_less (k := k + 9) (st := st) (fk u (ok u hu).2) hf (by omega)
      refine ⟨_, some (.d (ltD u)), rfl, ?_, ?_⟩
      · cases q : lsF (odF c u) f <;> simp [o1, o2, q, bfStep]
      · unfold bfStep
        split
        · exact fk u (ok u hu).2
        · exact hf)
  rw [hbf] at f1
  have e5 := fun st => c_parted (k := k + 3) (st := st) gm
  rw [← hc] at e5
  have e6 := fun st => c__law_refused_right (k := k) (st := st) gm gc
  have s3 : szOk (wrL c l).length = true := szOk_of (by have := wr_len c l hle; omega)
  have plw : PyData.plainAll (wrL c l) = true := by
    have : ∀ x ∈ wrL c l, x.plain = true := by
      intro x hx
      rw [wrL, List.mem_flatMap] at hx
      obtain ⟨p, _, hx⟩ := hx
      obtain ⟨q, _, rfl⟩ := List.mem_map.1 hx
      exact (plain_pt p q).1
    have h := plainAll_map (e := fun x : D => x) (as := wrL c l) this
    simpa using h
  have cmpE : cmpD .NotEq (.list (wrL c l)) (.list []) = some (!(wrL c l).isEmpty) := by
    have h : eqOk (.list (wrL c l)) (.list []) = true := by simp [eqOk, PyData.plain, plw, PyData.plainAll, PyData.depth, PyData.depthAll]
    simp only [cmpD, h, if_true]
    cases wrL c l with
    | nil => simp [PyData.eqv, PyData.eqvAll]
    | cons a b => simp [PyData.eqv, PyData.eqvAll]
  have hpt := wr_head c l
  refine ⟨c1, ?_⟩
  simp [tailS, e1, hN, hr, s1, e2]
  rw [← List.map_cons, hlt]
  simp [hi, e3, hq]
  rw [← List.map_cons, f1]
  simp [e4, n1, s2]
  rw [lcL_mapT (e := mkD) (g := fun p => .list ((l.filter (ptQ c p)).map (ptV p)))]
  rotate_left
  · intro p hp
    refine ⟨_, rfl, ?_⟩
    simp [wipeL, s2]
    rw [lcL_filterT (e := mkD) (p := ptQ c p) (g := ptV p)]
    · simp
    · intro q hq
      have o1 := ob q.1 (gm.ok q hq).1 (by have := (gm.ok q hq).2; omega)
      have o2 := ob p.1 (gm.ok p hp).1 (by have := (gm.ok p hp).2; omega)
      have o3 := fun st => c_law_less (k := k + 9) (st := st) (fk q.1 (by have := (gm.ok q hq).2; omega)) (fk p.1 (by have := (gm.ok p hp).2; omega)) (by omega)
      refine ⟨_, rfl, ?_, fun _ => by simp [wipeL, ptV]⟩
      cases hp2 : p.2 with
      | false => simp [wipeL, ptQ, hp2]
      | true =>
        cases hq2 : q.2 with
        | true => simp [wipeL, ptQ, hp2, hq2]
        | false => cases hls : lsF (odF c q.1) (odF c p.1) <;> simp [wipeL, ptQ, hp2, hq2, o1, o2, o3, hls]
  have hsum : sumLD (.list (l.map fun p => .list ((l.filter (ptQ c p)).map (ptV p)))) (.list []) = some (.list (wrL c l)) := by
    have hf : (l.map fun p => (l.filter (ptQ c p)).map (ptV p)).flatten = wrL c l := by rw [wrL, List.flatMap_def]
    simp only [sumLD, K11.lstsOf_map, hf, List.length_nil, Nat.zero_add, s3, if_true, List.nil_append]
  simp [hsum, e5, cmpE]
  have hif : (if wrL c l = [] then Rs.ok (RV.d PyData.none) (dw ns c1) else (Rs.of (ixD (PyData.list (wrL c l)) (PyData.int 0)) (dw ns c1)).bind ret) = .ok (.d ((ptF c l).getD .none)) (dw ns c1) := by
    rw [← hpt]
    cases hw : wrL c l with
    | nil => simp
    | cons a b =>
      have i0 : ixD (.list (a :: b)) (.int 0) = some a := by simp only [ixD]; exact atI_nat 0
      simp [i0]
  have n2 : cmpD .NotEq ((ptF c l).getD .none) ((ptF c l).getD .none) = some false := by
    rw [← hpt]
    cases hw : wrL c l with
    | nil => rfl
    | cons a b =>
      have ha : a ∈ wrL c l := by rw [hw]; simp
      rw [wrL, List.mem_flatMap] at ha
      obtain ⟨p, _, hx⟩ := ha
      obtain ⟨q, _, rfl⟩ := List.mem_map.1 hx
      exact cmp_ne_refl (plain_pt p q).1 (by have := (plain_pt p q).2; simp only [List.head?_cons, Option.getD_some]; omega)
  rw [hif]
  simp [n2, e6]
end
end K02
end Sm

set_option Elab.async false
set_option linter.all false
set_option maxRecDepth 100000
/-! K02n: the middle of the law: false marks tried. -/
namespace Sm
open PySem PySem.Spec
open K11 (dw)
namespace K02
section
variable {k : Nat} {st rest : Sto}
def s13 : S := .asg (.n 13) (.call 25 [(.v 6), (.v 10), (.v 9)])
def s14 : S := .asg (.n 14) (.ife (.or (.cmp .Is (.v 13) (.c .none)) (.cmp .Gt (.v 13) (.c (.int (4))))) (.c (.int (4))) (.v 13))
def s15 : S := .asg (.n 15) (.lst [(false, (.v 6))])
def s16 : S := .fr (.n 4) (.r1 (.bin .Add (.v 14) (.c (.int (1))))) lb
def s17 : S := .iff (.cmp .IsNot (.v 13) (.c .none)) [.asg (.n 20) (.blt .tuple (.lc [26, 27, 28] (.t [(.n 26), (.t [(.n 27), (.n 28)])]) (.en (.ix (.v 6) (.c (.int (2))))) none (.tup [(false, (.bin .Add (.v 27) (.ife (.cmp .In (.v 26) (.v 9)) (.v 13) (.c (.int (0)))))), (false, (.v 28))]))), .iff (.call 36 [(.call 39 [(.tup [(false, (.bin .Add (.ix (.v 6) (.c (.int (0)))) (.v 13))), (false, (.ix (.v 6) (.c (.int (1))))), (false, (.v 20))]), (.v 9)]), (.v 10)]) [.ret (.c (.bool false))] []] []
def mostOf : Option Nat → Nat
  | none => 4
  | some m => if 4 < m then 4 else m
theorem most_le (o : Option Nat) : mostOf o ≤ 4 := by
  cases o with
  | none => exact Nat.le_refl _
  | some m => simp only [mostOf]; split <;> omega
theorem mid {n : Nat} {c : Cn} (g : GC n c) {t : List Nat} (ht : lotB n t = true) (hl6 : t.length ≤ 6) {b : Ra} (gb : GB b) {v0 v5 v8 v11 v12 : Option RV} :
    ∃ v4 v7 v13 v14 v15 v16 v17 v18 v19 v20, exs (exN (callF pg (k + 10)) 60 40) [s13, s14, s15, s16, s17] [v0, some (.r 0), some (.d (.int n)), some (.d (.list ((evL n).map ltD))), none, v5, some (.d (cnD c)), none, v8, some (.d (ltD t)), some (.d (frD b)), v11, v12, none, none, none, none, none, none, none, none, none, none, none, none, none, none, none, none, none] st
      = .ok (.nx [v0, some (.r 0), some (.d (.int n)), some (.d (.list ((evL n).map ltD))), v4, v5, some (.d (cnD c)), v7, v8, some (.d (ltD t)), some (.d (frD b)), v11, v12, v13, v14, v15, v16, v17, v18, v19, v20, none, none, none, none, none, none, none, none, none]) st := by
  have hr := g.len
  have h6 := g.n6
  have e1 := fun st => c_fewest (k := k + 4) (st := st) g gb ht (by omega)
  have hm4 := most_le (ffO c b t)
  have a13 : exN (callF pg (k + 10)) 60 40 s13 [v0, some (.r 0), some (.d (.int n)), some (.d (.list ((evL n).map ltD))), none, v5, some (.d (cnD c)), none, v8, some (.d (ltD t)), some (.d (frD b)), v11, v12, none, none, none, none, none, none, none, none, none, none, none, none, none, none, none, none, none] st = .ok (.nx [v0, some (.r 0), some (.d (.int n)), some (.d (.list ((evL n).map ltD))), none, v5, some (.d (cnD c)), none, v8, some (.d (ltD t)), some (.d (frD b)), v11, v12, some (.d (ffD (ffO c b t))), none, none, none, none, none, none, none, none, none, none, none, none, none, none, none, none]) st := by
    simp [s13, e1]
  have a14 : exN (callF pg (k + 10)) 60 40 s14 [v0, some (.r 0), some (.d (.int n)), some (.d (.list ((evL n).map ltD))), none, v5, some (.d (cnD c)), none, v8, some (.d (ltD t)), some (.d (frD b)), v11, v12, some (.d (ffD (ffO c b t))), none, none, none, none, none, none, none, none, none, none, none, none, none, none, none, none] st = .ok (.nx [v0, some (.r 0), some (.d (.int n)), some (.d (.list ((evL n).map ltD))), none, v5, some (.d (cnD c)), none, v8, some (.d (ltD t)), some (.d (frD b)), v11, v12, some (.d (ffD (ffO c b t))), some (.d (.int (mostOf (ffO c b t)))), none, none, none, none, none, none, none, none, none, none, none, none, none, none, none]) st := by
    cases ffO c b t with
    | none =>
      have c1 : cmpD .Is .none .none = some true := rfl
      simp [s14, ffD, c1, mostOf]
    | some m =>
      have c1 : cmpD .Is (.int (m : Int)) .none = some false := rfl
      by_cases h : 4 < m
      · simp [s14, ffD, c1, mostOf, h, show (4 : Int) < m by omega]
      · simp [s14, ffD, c1, mostOf, h, show ¬ (4 : Int) < m by omega]
  have a15 : exN (callF pg (k + 10)) 60 40 s15 [v0, some (.r 0), some (.d (.int n)), some (.d (.list ((evL n).map ltD))), none, v5, some (.d (cnD c)), none, v8, some (.d (ltD t)), some (.d (frD b)), v11, v12, some (.d (ffD (ffO c b t))), some (.d (.int (mostOf (ffO c b t)))), none, none, none, none, none, none, none, none, none, none, none, none, none, none, none] st = .ok (.nx (fr ⟨v0, v8, v11, v12, v5⟩ n c t b (ffD (ffO c b t)) (mostOf (ffO c b t)) ⟨none, none, none, none, none, none⟩ [c])) st := by
    simp [s15, fr]
  obtain ⟨j, layer, e2⟩ := layers (k := k) (st := st) (x := ⟨v0, v8, v11, v12, v5⟩) g ht hl6 gb hm4 (j := ⟨none, none, none, none, none, none⟩)
  have a16 : exN (callF pg (k + 10)) 60 40 s16 (fr ⟨v0, v8, v11, v12, v5⟩ n c t b (ffD (ffO c b t)) (mostOf (ffO c b t)) ⟨none, none, none, none, none, none⟩ [c]) st = .ok (.nx (fr ⟨v0, v8, v11, v12, v5⟩ n c t b (ffD (ffO c b t)) (mostOf (ffO c b t)) j layer)) st := by
    generalize mostOf (ffO c b t) = M at *
    have hr : rngOk 0 ((M : Int) + 1) = true := rngOk_n (n := M + 1) (by omega)
    have hra : rangeN 0 ((M : Int) + 1) = (List.range (M + 1)).map fun (k : Nat) => PyData.int (k : Int) := rangeN_0 (n := M + 1)
    have q : (fr ⟨v0, v8, v11, v12, v5⟩ n c t b (ffD (ffO c b t)) M ⟨none, none, none, none, none, none⟩ [c])[14]? = some (some (.d (.int M))) := rfl
    simp only [s16, ex_fr, it_r1, evP_, ev_bin, ev_v, q, ev_c, bind_ok, binD_add, of_some, ret_, r1O_int, hr, hra, if_true, e2]
  have a17 : ∃ v20, exN (callF pg (k + 10)) 60 40 s17 (fr ⟨v0, v8, v11, v12, v5⟩ n c t b (ffD (ffO c b t)) (mostOf (ffO c b t)) j layer) st = .ok (.nx [v0, some (.r 0), some (.d (.int n)), some (.d (.list ((evL n).map ltD))), j.v4, v5, some (.d (cnD c)), j.v7, v8, some (.d (ltD t)), some (.d (frD b)), v11, v12, some (.d (ffD (ffO c b t))), some (.d (.int (mostOf (ffO c b t)))), some (.d (.list (layer.map cnD))), j.v16, j.v17, j.v18, j.v19, v20, none, none, none, none, none, none, none, none, none]) st := by
    cases ho : ffO c b t with
    | none =>
      have c1 : cmpD .IsNot .none .none = some false := rfl
      exact ⟨none, by simp [s17, fr, ffD, c1]⟩
    | some m =>
      have c1 : cmpD .IsNot (.int (m : Int)) .none = some true := rfl
      have hk : ffP c b t m = true := by rw [ffO] at ho; exact List.find?_some ho
      have hm : m < 201 := by rw [ffO] at ho; exact List.mem_range.1 (List.mem_of_find?_eq_some ho)
      have hls : lsF (odF (grd c t m) t) b = false := by simpa [ffP] using hk
      have sc := grd_SC g (t := t) (m := m) (by omega)
      have e3 := fun st => c__law_odds (k := k + 7) (st := st) sc (lot_lt ht) (by omega)
      have e4 := fun st => c_law_less (k := k + 9) (st := st) (od_fok sc (t := t)) gb.fok (by omega)
      have hg : cnD (grd c t m) = .tuple [.int (c.a + m : Int), .int c.b, .tuple ((rowsAdd c.rows t m 0).map pD)] := by simp [cnD, grd]
      rw [hg] at e3
      have s2 : szOk c.rows.length = true := szOk_of (by omega)
      refine ⟨some (.d (.tuple ((rowsAdd c.rows t m 0).map pD))), ?_⟩
      simp [s17, fr, ffD, c1, s2]
      rw [rows_run2 (t := t) (x := m) (by
        intro r w
        by_cases hw : w ∈ t
        · simp [wipeL, cmp_in, hw]
          simp [pD]
        · simp [wipeL, cmp_in, hw]
          simp [pD])]
      simp [e3, e4, hls]
  obtain ⟨v20, a17⟩ := a17
  exact ⟨j.v4, j.v7, some (.d (ffD (ffO c b t))), some (.d (.int (mostOf (ffO c b t)))), some (.d (.list (layer.map cnD))), j.v16, j.v17, j.v18, j.v19, v20, by simp only [exsC, exsN, a13, a14, a15, a16, a17, seq_nx]⟩
end
end K02
end Sm

set_option Elab.async false
set_option linter.all false
set_option maxRecDepth 100000
/-! K02o: the start of the law. -/
namespace Sm
open PySem PySem.Spec
open K11 (dw)
@[simp] theorem ev_rev {cf : CF} {m : Nat} {a : E} {lo : Lo} {st : Sto} : ev cf (m + 1) (.rev a) lo st = (evP (ev cf m) a lo st).bind fun x st => (Rs.of (revD x) st).bind ret := Eq.trans rfl rfl
namespace K02
section
variable {k : Nat} {st rest : Sto}
def frontS : List S := [
  .asg (.n 1) (.new (.lst [(false, (.sl (.v 0) none (some (.c (.int (63)))))), (false, (.c (.int (0)))), (false, (.c (.int (0))))])),
  .asg (.n 2) (.bin .Add (.c (.int (1))) (.call 32 [(.v 1), (.c (.int (6)))])),
  .asg (.n 3) (.call 37 [(.v 2)]),
  .asg (.n 5) (.blt .tuple (.lc [4] (.n 4) (.r1 (.call 32 [(.v 1), (.c (.int (12)))])) none (.tup [(false, (.call 33 [(.v 1), (.v 3)])), (false, (.cmp .Eq (.call 32 [(.v 1), (.c (.int (2)))]) (.c (.int (0)))))]))),
  .asg (.n 6) (.call 38 [(.v 2), (.v 5)]),
  .iff (.or (.cmp .NotEq (.call 15 [(.v 2), (.v 5)]) (.v 6)) (.or (.not (.call 12 [(.v 6)])) (.or (.cmp .NotEq (.call 15 [(.v 2), (.rev (.v 5))]) (.v 6)) (.cmp .NotEq (.call 21 [(.v 6)]) (.blt .tuple (.lc [7, 24] (.t [(.n 7), (.n 24)]) (.e (.ix (.v 6) (.c (.int (2))))) none (.call 35 [(.call 34 [(.bin .Add (.v 7) (.c (.int (1)))), (.bin .Add (.ix (.v 6) (.c (.int (0)))) (.c (.int (2))))]), (.call 34 [(.bin .Add (.ix (.v 6) (.c (.int (1)))) (.c (.int (2)))), (.bin .Add (.v 24) (.c (.int (1))))])]))))))) [.ret (.c (.bool false))] [],
  .asg (.n 8) (.call 32 [(.v 1), (.bin .Add (.blt .len (.v 5)) (.c (.int (1))))]),
  .iff (.cmp .NotEq (.call 17 [(.call 38 [(.v 2), (.sl (.v 5) none (some (.v 8)))]), (.call 38 [(.v 2), (.sl (.v 5) (some (.v 8)) none)])]) (.v 6)) [.ret (.c (.bool false))] [],
  .asg (.t [(.n 9), (.n 10)]) (.tup [(false, (.call 33 [(.v 1), (.v 3)])), (false, (.call 33 [(.v 1), (.lst [(false, (.tup [(false, (.c (.int (1)))), (false, (.c (.int (1))))])), (false, (.tup [(false, (.c (.int (2)))), (false, (.c (.int (1))))])), (false, (.tup [(false, (.c (.int (9)))), (false, (.c (.int (2))))])), (false, (.tup [(false, (.c (.int (1)))), (false, (.c (.int (3))))]))])]))]),
  .fr (.n 11) (.e (.tup [(false, (.c (.bool false))), (false, (.c (.bool true)))])) [.iff (.cmp .NotEq (.call 16 [(.v 6), (.v 9), (.v 11)]) (.call 38 [(.v 2), (.bin .Add (.v 5) (.tup [(false, (.tup [(false, (.v 9)), (false, (.v 11))]))]))])) [.ret (.c (.bool false))] []],
  .iff (.cmp .NotEq (.call 26 [(.v 2), (.v 5), (.v 9)]) (.blt .tuple (.lc [25] (.n 25) (.r1 (.bin .Add (.blt .len (.v 5)) (.c (.int (1))))) none (.call 39 [(.call 38 [(.v 2), (.sl (.v 5) none (some (.v 25)))]), (.v 9)])))) [.ret (.c (.bool false))] [],
  .asg (.n 12) (.lc [7] (.n 7) (.e (.v 3)) (some (.not (.call 36 [(.call 39 [(.v 6), (.v 7)]), (.v 10)]))) (.v 7)),
  .iff (.or (.blt .any (.lc [7] (.n 7) (.e (.v 3)) none (.or (.cmp .NotEq (.call 20 [(.v 6), (.v 7)]) (.call 39 [(.v 6), (.v 7)])) (.cmp .NotEq (.call 23 [(.v 6), (.v 10), (.v 7)]) (.cmp .In (.v 7) (.v 12)))))) (.cmp .NotEq (.call 24 [(.v 6), (.v 10)]) (.blt .tuple (.v 12)))) [.ret (.c (.bool false))] []]
theorem cmp_in_lts {t : List Nat} {ls : List (List Nat)} : cmpD .In (ltD t) (.list (ls.map ltD)) = some (decide (t ∈ ls)) := by
  have h1 := plainAll_map (e := ltD) (as := ls) (fun t _ => plain_lt t)
  have h2 : inOk (ltD t) (ls.map ltD) = true := by
    have := depth_lt t
    simp only [inOk, plain_lt, h1, Bool.true_and, Bool.or_eq_true, decide_eq_true_eq]
    omega
  simp only [cmpD, h2, if_true, List.any_map]
  congr 1
  clear h1 h2
  induction ls with
  | nil => simp
  | cons u ls ih =>
    simp only [List.any_cons, Function.comp_apply, eqv_lt, List.mem_cons]
    have := ih
    simp only [Function.comp_def, eqv_lt] at this
    simp only [Function.comp_def, eqv_lt, this]
    by_cases h : u = t
    · simp [h]
    · simp [h, Ne.symm h]
theorem rows_fc {n : Nat} {c : Cn} (h : c.rows.length = n) : (c.rows.map fun r => frD (tmF (lnF (r.1 + 1) (c.a + 2)) (lnF (c.b + 2) (r.2 + 1)))) = (List.range n).map fun w => frD (fcF c w) := by
  apply List.ext_getElem
  · simp [h]
  · intro i h1 h2
    simp only [List.length_map] at h1
    simp only [List.getElem_map, List.getElem_range]
    have : rw c i = c.rows[i] := by simp [rw, h1]
    rw [← fc_law, this]
theorem add_mks {l : List Mk} {t : List Nat} {x : Bool} (h : l.length ≤ 1000) : binD .Add (mksD l) (.tuple [.tuple [ltD t, .bool x]]) = some (mksD (l ++ [(t, x)])) := by
  have s1 : szOk (l.length + 1) = true := szOk_of (by omega)
  simp [mksD, mkD, binD, s1]
theorem exs_app {f : Ex} : ∀ (a b : List S) (lo : Lo) (st : Sto), exs f (a ++ b) lo st = seqS (exs f a lo st) (exs f b)
  | [], b, lo, st => by simp
  | s :: a, b, lo, st => by
    rw [List.cons_append, exsC, exsC]
    cases h : f s lo st with
    | ok x st' =>
      cases x with
      | nx lo' => rw [seq_nx, seq_nx]; exact exs_app a b lo' st'
      | _ => rfl
    | _ => rfl
theorem front (ns : List Int) : ∃ (n : Nat) (l : List Mk) (ns' : List Int) (c0 : Nat) (t : List Nat) (b : Ra) (v8 v11 v12 : Option RV), GM n l ∧ lotB n t = true ∧ t.length ≤ 6 ∧ GB b ∧
    exs (exN (callF pg (k + 10)) 60 40) frontS [some (.d (.list (ns.map .int))), none, none, none, none, none, none, none, none, none, none, none, none, none, none, none, none, none, none, none, none, none, none, none, none, none, none, none, none, none] [] =
      .ok (.nx [some (.d (.list (ns.map .int))), some (.r 0), some (.d (.int n)), some (.d (.list ((evL n).map ltD))), none, some (.d (mksD l)), some (.d (cnD (ctF n l))), none, v8, some (.d (ltD t)), some (.d (frD b)), v11, v12, none, none, none, none, none, none, none, none, none, none, none, none, none, none, none, none, none]) (dw ns' c0) := by
  obtain ⟨ns', hcut⟩ := cut_map ns none (some 63)
  have d00 : MO.lst [.list (ns'.map .int), .int 0, .int 0] = drw ns' 0 := rfl
  obtain ⟨r, r0, r6, e1⟩ := nx (k := k) ns' 0 6 (by decide)
  obtain ⟨n, hn, n1, n6⟩ : ∃ n : Nat, (1 : Int) + r = n ∧ 1 ≤ n ∧ n ≤ 6 := ⟨(1 + r).toNat, by omega, by omega, by omega⟩
  have e2 := fun st => c__law_lots (k := k + 9) (st := st) n6
  obtain ⟨r2, r20, r212, e3⟩ := nx (k := k) ns' 1 12 (by decide)
  obtain ⟨N, rfl⟩ : ∃ N : Nat, r2 = N := ⟨r2.toNat, by omega⟩
  obtain ⟨l, c1, hl, hle, e4⟩ := draw_marks (k := k) ns' n N 2
  have gm : GM n l := ⟨n1, n6, by omega, fun p hp => ⟨(ev_ok (hle p hp)).1, by have := (ev_ok (hle p hp)).2; omega⟩⟩
  have gr : GM n l.reverse := ⟨n1, n6, by simp; omega, fun p hp => gm.ok p (by simpa using hp)⟩
  have gc : GC n (ctF n l) := ct_GC n1 n6 (by omega)
  have hr0 : rngOk 0 (N : Int) = true := rngOk_n (by omega)
  have s1 : szOk N = true := szOk_of (by omega)
  have e5 : ∀ st (m : List Mk), m.length ≤ 1000 → callF pg (k + 10) 38 [.d (.int n), .d (mksD m)] st = .ok (.d (cnD (ctF n m))) st := fun st m hm => c__law_counted (k := k + 9) (st := st) (by omega) hm
  have e6 := fun st => c_counted (k := k + 4) (st := st) gm
  have e7 := fun st => c_counted (k := k + 4) (st := st) gr
  rw [ct_rev] at e7
  have e8 := fun st => c_is_counts (k := k + 7) (st := st) gc
  have e9 := fun st => c_word_factors (k := k + 5) (st := st) gc
  have hrv : revD (mksD l) = some (mksD l.reverse) := by simp [mksD, revD]
  have n1' := ne_cn (ctF n l)
  have n2' := ne_frs (fcF (ctF n l)) (List.range n)
  have hm : PyData.tuple (l.map mkD) = mksD l := rfl
  obtain ⟨h, h0, hl1, e10⟩ := nx (k := k) ns' c1 (N + 1) (by omega)
  obtain ⟨h, rfl⟩ : ∃ m : Nat, h = m := ⟨h.toNat, by omega⟩
  have hs1 : slD (mksD l) none (some (h : Int)) = some (mksD (l.take h)) := by simp only [slD, mksD, cut_to (e := mkD) (xs := l) (n := h) (by omega)]
  have hs2 : slD (mksD l) (some (h : Int)) none = some (mksD (l.drop h)) := by simp only [slD, mksD, cut_from (e := mkD) (xs := l) (n := h) (by omega)]
  have g1 : GC n (ctF n (l.take h)) := ct_GC n1 n6 (by simp; omega)
  have g2 : GC n (ctF n (l.drop h)) := ct_GC n1 n6 (by simp; omega)
  have e11 : ∀ st, callF pg (k + 10) 17 [.d (cnD (ctF n (l.take h))), .d (cnD (ctF n (l.drop h)))] st = .ok (.d (cnD (ctF n l))) st := fun st => by
    rw [c_joined (k := k + 5) (st := st) g1 g2, ct_join, List.take_append_drop, if_pos]
    have a1 := bad_le (l := l.take h)
    have a2 := bad_le (l := l.drop h)
    have a3 := good_le (l := l.take h)
    have a4 := good_le (l := l.drop h)
    simp only [List.length_take, List.length_drop] at a1 a2 a3 a4
    simp only [ctF]; omega
  obtain ⟨t, ht, e12⟩ := pk (k := k) ns' (c1 + 1) ltD (evL n) ev_ne
  obtain ⟨b, hb, e13⟩ := pk (k := k) ns' (c1 + 1 + 1) frD [(1, 1), (2, 1), (9, 2), (1, 3)] (by simp)
  obtain ⟨to, tl⟩ := ev_ok ht
  have gb : GB b := by
    simp only [List.mem_cons, List.not_mem_nil, or_false] at hb
    rcases hb with rfl | rfl | rfl | rfl <;> exact ⟨by decide, by decide, by decide, by decide, by decide⟩
  have hfb : frD b = .tuple [.int b.1, .int b.2] := rfl
  simp only [List.map_cons, List.map_nil, show frD (1, 1) = .tuple [.int 1, .int 1] from rfl, show frD (2, 1) = .tuple [.int 2, .int 1] from rfl, show frD (9, 2) = .tuple [.int 9, .int 2] from rfl, show frD (1, 3) = .tuple [.int 1, .int 3] from rfl] at e13
  have e14 : ∀ st x, callF pg (k + 10) 16 [.d (cnD (ctF n l)), .d (ltD t), .d (.bool x)] st = .ok (.d (cnD (wmF (ctF n l) t x))) st := fun st x => by
    have a1 := bad_le (l := l)
    have a3 := good_le (l := l)
    exact c_with_mark (k := k + 4) (st := st) gc to (by omega) (by simp only [ctF]; omega) (by simp only [ctF]; omega) x
  have n3' : ∀ x, cmpD .NotEq (cnD (wmF (ctF n l) t x)) (cnD (wmF (ctF n l) t x)) = some false := fun x => ne_cn _
  have ad : ∀ x, binD .Add (mksD l) (.tuple [.tuple [ltD t, .bool x]]) = some (mksD (l ++ [(t, x)])) := fun x => add_mks (by omega)
  have e15 : ∀ st x, callF pg (k + 10) 38 [.d (.int n), .d (mksD (l ++ [(t, x)]))] st = .ok (.d (cnD (wmF (ctF n l) t x))) st := fun st x => by rw [← ct_snoc]; exact e5 st _ (by simp; omega)
  have e16 := fun st => c_odds_along (k := k + 3) (st := st) gm to (by omega)
  have n4' := ne_frs (fun i => odF (ctF n (l.take i)) t) (List.range (l.length + 1))
  have hrN : rngOk 0 ((N : Int) + 1) = true := rngOk_n (n := N + 1) (by omega)
  have hraN : rangeN 0 ((N : Int) + 1) = (List.range (N + 1)).map fun (k : Nat) => PyData.int (k : Int) := rangeN_0 (n := N + 1)
  have s2 : szOk (N + 1) = true := szOk_of (by omega)
  have s3 : szOk (evL n).length = true := szOk_of (by have := ev_len n6; omega)
  refine ⟨n, l, ns', c1 + 1 + 1 + 1, t, b, some (.d (.int h)), some (.d (.bool true)), some (.d (.list ((outL n (ctF n l) b).map ltD))), gm, to, by omega, gb, ?_⟩
  simp [frontS, slD, hcut, d00, e1, hn, e2, e3, hr0, s1, e4]
  simp only [hm]
  simp [e5 _ l (by omega), e6, n1', e8, hrv, e7]
  have s4 : szOk (ctF n l).rows.length = true := szOk_of (by rw [gc.len]; omega)
  simp [e9, s4]
  rw [lcL_mapT (e := pD) (g := fun r => frD (tmF (lnF (r.1 + 1) ((ctF n l).a + 2)) (lnF ((ctF n l).b + 2) (r.2 + 1))))]
  rotate_left
  · intro r hr
    have q1 := gc.a
    have q2 := gc.b
    obtain ⟨q3, q4⟩ := gc.r r hr
    have o1 := fun st => c__law_lean (Pg := pg) (i := 34) (k := k + 9) (st := st) rfl (r.1 + 1) ((ctF n l).a + 2) (by omega) (n := 12) (by unfold sm; omega) (by unfold sm; omega) (by decide)
    have o2 := fun st => c__law_lean (Pg := pg) (i := 34) (k := k + 9) (st := st) rfl ((ctF n l).b + 2) (r.2 + 1) (by omega) (n := 12) (by unfold sm; omega) (by unfold sm; omega) (by decide)
    have f1 : fok 12 (lnF (r.1 + 1) ((ctF n l).a + 2)) := fok_ln (by omega) (by omega) (by unfold sm; omega) (by unfold sm; omega)
    have f2 : fok 12 (lnF ((ctF n l).b + 2) (r.2 + 1)) := fok_ln (by omega) (by omega) (by unfold sm; omega) (by unfold sm; omega)
    have o3 := fun st => c__law_by (Pg := pg) (i := 35) (i1 := 34) (k := k + 8) (st := st) rfl rfl f1 f2 (by omega)
    exact ⟨_, rfl, by simp [wipeL, o1, o2, o3]⟩
  rw [rows_fc gc.len]
  simp [n2', hl, e10, hs1, hs2, e5 _ (l.take h) (by simp; omega), e5 _ (l.drop h) (by simp; omega), e11, n1', e12, e13, bindT, bindTs]
  simp [forL, bindT, e14, ad, e15, n3']
  rw [hl] at n4'
  simp only [hl] at e16
  simp [e16, hl, hrN, hraN, s2]
  rw [lcL_mapT (e := fun (i : Nat) => PyData.int i) (g := fun i => frD (odF (ctF n (l.take i)) t))]
  rotate_left
  · intro i hi
    have hi := List.mem_range.1 hi
    have hsl : slD (mksD l) none (some (i : Int)) = some (mksD (l.take i)) := by simp only [slD, mksD, cut_to (e := mkD) (xs := l) (n := i) (by omega)]
    have gi := ct_GC (n := n) (l := l.take i) n1 n6 (by simp; omega)
    have o1 := fun st => c__law_odds (k := k + 7) (st := st) gi.sc (lot_lt to) (by omega)
    exact ⟨_, rfl, by simp [wipeL, hsl, e5 _ (l.take i) (by simp; omega), o1]⟩
  simp [n4', s3]
  have ob : ∀ u ∈ evL n, ∀ st, callF pg (k + 10) 39 [.d (cnD (ctF n l)), .d (ltD u)] st = .ok (.d (frD (odF (ctF n l) u))) st := fun u hu st => c__law_odds (k := k + 7) (st := st) gc.sc (lot_lt (ev_ok hu).1) (by have := (ev_ok hu).2; omega)
  have lo : ∀ u ∈ evL n, ∀ st, callF pg (k + 10) 36 [.d (frD (odF (ctF n l) u)), .d (frD b)] st = .ok (.d (.bool (lsF (odF (ctF n l) u) b))) st := fun u hu st => c_law_less (k := k + 9) (st := st) (od_fok gc.sc (t := u)) gb.fok (by have := (ev_ok hu).2; omega)
  rw [lcL_filterT (e := ltD) (p := fun u => !lsF (odF (ctF n l) u) b) (g := ltD)]
  rotate_left
  · intro u hu
    exact ⟨_, rfl, by simp [wipeL, ob u hu, lo u hu], fun _ => by simp [wipeL]⟩
  rw [show ((evL n).filter fun u => !lsF (odF (ctF n l) u) b) = outL n (ctF n l) b from rfl]
  simp [s3]
  rw [lcL_mapT (e := ltD) (g := fun _ => .bool false)]
  rotate_left
  · intro u hu
    obtain ⟨uo, ul⟩ := ev_ok hu
    have o1 := fun st => c_odds_of (k := k + 4) (st := st) gc uo (by omega)
    have o2 := fun st => c_is_counted_out (k := k + 4) (st := st) gc gb uo (by omega)
    have o3 : cmpD .NotEq (frD (odF (ctF n l) u)) (frD (odF (ctF n l) u)) = some false := by rw [cmp_frN]; simp
    have o4 : (decide (u ∈ outL n (ctF n l) b)) = !lsF (odF (ctF n l) u) b := by
      have : u ∈ outL n (ctF n l) b ↔ (!lsF (odF (ctF n l) u) b) = true := by
        rw [outL, List.mem_filter]
        exact ⟨fun h => h.2, fun h => ⟨hu, h⟩⟩
      cases q : !lsF (odF (ctF n l) u) b with
      | true => exact decide_eq_true (this.2 q)
      | false => exact decide_eq_false fun h => by rw [this.1 h] at q; cases q
    have o5 := cmp_in_lts (t := u) (ls := outL n (ctF n l) b)
    rw [o4] at o5
    refine ⟨_, rfl, ?_⟩
    cases q : lsF (odF (ctF n l) u) b <;> rw [q] at o5 o2 <;> simp [wipeL, o1, ob u hu, o3, o2, o5]
  have e17 := fun st => c_counted_out (k := k + 5) (st := st) gc gb
  have n5' := ne_lts (outL n (ctF n l) b)
  simp [e17, n5']
end
end K02
end Sm

set_option Elab.async false
set_option linter.all false
set_option maxRecDepth 100000
/-! K02r: the law, run. -/
namespace Sm
open PySem PySem.Spec
open K11 (dw)
namespace K02
section
variable {k : Nat} {st rest : Sto}
theorem law_body : (ri_law 32 37 33 38 15 12 21 35 34 17 16 26 39 36 20 23 24 25 27 28 40).body = frontS ++ ([s13, s14, s15, s16, s17] ++ tailS) := rfl
theorem c_law (ns : List Int) : callF pg (k + 11) 41 [.d (.list (ns.map .int))] [] = .ok (.d (.bool true)) [] := by
  obtain ⟨n, l, ns', c0, t, b, v8, v11, v12, gm, to, tl, gb, e1⟩ := front (k := k) ns
  have gc : GC n (ctF n l) := ct_GC gm.n1 gm.n6 (by have := gm.le; omega)
  obtain ⟨v4, v7, v13, v14, v15, v16, v17, v18, v19, v20, e2⟩ := mid (k := k) (st := dw ns' c0) gc to tl gb (v0 := some (.d (.list (ns.map .int)))) (v5 := some (.d (mksD l))) (v8 := v8) (v11 := v11) (v12 := v12)
  obtain ⟨c1, e3⟩ := tail (k := k) gm (c := ctF n l) rfl (ns := ns') (c0 := c0) (v0 := some (.d (.list (ns.map .int)))) (v4 := v4) (v7 := v7) (v8 := v8) (v9 := some (.d (ltD t))) (v10 := some (.d (frD b))) (v11 := v11) (v12 := v12) (v13 := v13) (v14 := v14) (v15 := v15) (v16 := v16) (v17 := v17) (v18 := v18) (v19 := v19) (v20 := v20)
  rw [call_eq (show pg[41]? = some (ri_law 32 37 33 38 15 12 21 35 34 17 16 26 39 36 20 23 24 25 27 28 40) from rfl)]
  unfold runF
  rw [law_body, SN, EN, exs_app]
  have e0 : ([RV.d (.list (ns.map .int))].map some ++ List.replicate ((ri_law 32 37 33 38 15 12 21 35 34 17 16 26 39 36 20 23 24 25 27 28 40).ns - (ri_law 32 37 33 38 15 12 21 35 34 17 16 26 39 36 20 23 24 25 27 28 40).np) none : Lo) = [some (.d (.list (ns.map .int))), none, none, none, none, none, none, none, none, none, none, none, none, none, none, none, none, none, none, none, none, none, none, none, none, none, none, none, none, none] := rfl
  rw [e0, e1, seq_nx, exs_app, e2, seq_nx, e3]
  rfl
end
end K02
end Sm

set_option Elab.async false
set_option linter.all false
set_option maxRecDepth 100000
set_option maxHeartbeats 0
noncomputable section
namespace Law
open PySem PySem.Spec PyProof.Rows L2 Sm
abbrev P0 : Program := PySem.Challenge.pw_siftmarks_k02_whole_counting
abbrev B0 : List Stmt := P0.main.body
abbrev R0 : PySem.W.OpenRow := PySem.W.OpenLaw.row PySem.Challenge.rw_siftmarks_k02_whole_counting
def sk0 : List Str := []
def file0 : Str := "/claim/cut.py"
def iL : Nat := 51
def iF : Nat := 41
def nameOf : Stmt → List Str
  | .FunctionDef n _ _ _ _ _ _ _ _ _ => [n]
  | .ClassDef n _ _ _ _ _ _ _ _ _ _ => [n]
  | .Assign [.Name x _] _ _ => [x]
  | _ => []
def loose0 : List Str := uniq [] ((B0.flatMap nameOf).filter fun x => x != ("law" : Str))
theorem stB : StatB P0 sk0 file0 := ⟨by kernel_rfl, by kernel_rfl, by kernel_rfl, by kernel_rfl, by kernel_rfl, by kernel_rfl, by kernel_rfl, by kernel_rfl, by kernel_rfl⟩
theorem run (w : World) : HandSHeadRun.RunEq R0 (PySem.W.view R0.prog [iL]) (hookS 4 sk0 file0 B0 (iniOf (clsD B0))) (obS 4 sk0 file0 B0) 2000 loose0 w := by
  intro os
  kernel_rfl
theorem hlaw : (glOf sk0 P0.main.body).lookup ("law" : Str) = some (.fn iF 1) := by kernel_rfl
theorem pg_eq : pgOf sk0 B0 = Sm.K02.pg := by kernel_rfl
theorem hev : ∀ ns : List Int, ns.length ≤ 63 → (∀ z ∈ ns, Builtin.Int.intBits z ≤ 1048576) → ∃ st', callF (pgOf sk0 B0) 40 iF [.d (.list (ns.map PyData.int))] [] = .ok (.d (.bool true)) st' := by
  intro ns _ _
  rw [pg_eq]
  exact ⟨_, Sm.K02.c_law (k := 29) ns⟩
end Law
open PySem PySem.W PySem.Calls PyProof.Rows
theorem PySem.Challenge.cw_siftmarks_k02_whole_counting_holds : PySem.Challenge.rw_siftmarks_k02_whole_counting.Holds := by
  w_on; o_law
  refine HandSHeadRun.head_any (r := OpenLaw.row PySem.Challenge.rw_siftmarks_k02_whole_counting) (q := view (OpenLaw.row PySem.Challenge.rw_siftmarks_k02_whole_counting).prog [Law.iL]) (H := Sm.hookS 4 Law.sk0 Law.file0 Law.B0 (Sm.iniOf (Sm.clsD Law.B0))) (ob := Sm.obS 4 Law.sk0 Law.file0 Law.B0) (M := 2000) (loose := Law.loose0) (d := HandSHeadRun.topDef (OpenLaw.row PySem.Challenge.rw_siftmarks_k02_whole_counting).prog Law.iL) (kwd := []) Sm.obS_eq
    (by kernel_rfl) (fun s => by kernel_rfl) Law.run (by kernel_rfl) (by kernel_rfl) (by kernel_rfl) (by rfl) (by first | assumption | decide +kernel) (by decide +kernel) ⟨rfl, rfl, rfl, rfl, rfl, by decide +kernel⟩ ?hw ?hc
  case hw => w_witness2
  case hc =>
    refine Sm.walk_sm (l := PySem.Challenge.rw_siftmarks_k02_whole_counting) (n := 63) (k := 40) (gl := Sm.glOf Law.sk0 Law.B0) (Pg := Sm.pgOf Law.sk0 Law.B0) (iLaw := Law.iF) rfl (by decide) (by kernel_rfl) ⟨rfl, by decide, by decide⟩ ?F Law.hev
    intro w mg fa h Y G hmg0
    obtain ⟨K, KX, c, hini⟩ := Y
    have hmg : mg ("law" : PySem.Str) = some (.ref fa) := by
      have e : (HandSHeadRun.topDef (OpenLaw.row PySem.Challenge.rw_siftmarks_k02_whole_counting).prog Law.iL).name = ("law" : PySem.Str) := by kernel_rfl
      rw [← e]
      exact hmg0
    exact ⟨K, KX, Sm.lawG_of KX G c hini Law.stB hmg Law.hlaw⟩

