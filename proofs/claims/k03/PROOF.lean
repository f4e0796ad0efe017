import PyProof.Rows.All
import Wide.All
import OpenK.AllK
import Wide.FinOn
import HandS.Conv
import HandS.Defaults
import HandS.Exc
import HandS.ExcIs
import HandS.ExcOwn
import HandS.ForMost
import HandS.Head0
import HandS.Head1
import HandS.Head2
import HandS.HeadEnd
import HandS.HeadHook1
import HandS.HeadHook2
import HandS.IsInst
import HandS.Star
import HandS.Style
import HandS.TupAny
import HandS.TupMul
import HandS.Walk
import HandS.Wide
import HandS.WordsExc
import KE.DataEq
import KE.DataFind
import KE.GoesEnum
import KE.KStateDown
import PyProof.ReprRoads
import PyProof.StrOps2
import PyProof.WalkInts
import PySem.Challenge.RW_nearmeets_k03_refused_rules
set_option Elab.async false
set_option maxRecDepth 100000
set_option linter.all false
/-! The evaluator: own small syntax with slots, by-value data. -/
namespace Nm
open PySem L2

abbrev D := PyData

/-- a slot's content: own = the top list (or dict) is held by this slot alone -/
structure Sv where
  own : Bool
  d : D
abbrev En := List (Option Sv)

/-- a result: a value (own: a new list or dict that nobody else holds), or the thing that slot i holds -/
inductive Res where
  | v (own : Bool) (d : D)
  | p (i : Nat)

inductive R (α : Type) where
  | ok (a : α)
  | ex (x : D)
  | no
@[inline] def R.bind {α β : Type} (x : R α) (f : α → R β) : R β := match x with
  | .ok a => f a
  | .ex e => .ex e
  | .no => .no
instance : Monad R where
  pure := R.ok
  bind := R.bind
@[simp] theorem bind_ok {α β : Type} (a : α) (f : α → R β) : ((R.ok a : R α) >>= f) = f a := rfl
@[simp] theorem bind_ex {α β : Type} (x : D) (f : α → R β) : ((R.ex x : R α) >>= f) = R.ex x := rfl
@[simp] theorem bind_no {α β : Type} (f : α → R β) : ((R.no : R α) >>= f) = R.no := rfl
@[simp] theorem pure_ok {α : Type} (a : α) : (pure a : R α) = R.ok a := rfl
def R.ofO {α : Type} : Option α → R α
  | some a => .ok a
  | none => .no
@[simp] theorem ofO_some {α : Type} (a : α) : R.ofO (some a) = R.ok a := rfl
@[simp] theorem ofO_none {α : Type} : R.ofO (none : Option α) = R.no := rfl
/-- nothing is raised here, else stuck -/
def R.quiet {α : Type} : R α → R α
  | .ok a => .ok a
  | _ => .no
@[simp] theorem quiet_ok {α : Type} (a : α) : R.quiet (R.ok a) = R.ok a := rfl
@[simp] theorem quiet_ex {α : Type} (x : D) : R.quiet (R.ex x : R α) = R.no := rfl
@[simp] theorem quiet_no {α : Type} : R.quiet (R.no : R α) = R.no := rfl

inductive BOp where | add | sub | mul | fdiv | mod | pow | shl | band
  deriving DecidableEq
inductive COp where | eq | ne | lt | le | gt | ge | isin | notin | is_ | isnot
  deriving DecidableEq
inductive Ty where | int | bool | str | tuple | list | seq | exc (c : Nat)
  deriving DecidableEq
inductive Bi where | abs | all | any | int | len | list | max | min | max2 | min2 | repr | str | sum | tuple | sorted | minlen
  deriving DecidableEq
inductive Mt where | count | index | join | split | get
  deriving DecidableEq
inductive Tg where
  | nm (i : Nat)
  | tp (ts : List Tg)
mutual
inductive Ex where
  | cst (d : D)
  | var (i : Nat)
  | bin (o : BOp) (a b : Ex)
  | neg (a : Ex)
  | not_ (a : Ex)
  | and_ (a b : Ex)
  | or_ (a b : Ex)
  | cmp (o : COp) (a b : Ex)
  | chn (o o' : COp) (a b c : Ex)
  | ite (c a b : Ex)
  | tup (es : Exs)
  | lst (es : Exs)
  | tupS (es : Exs) (r : Ex)
  | lstS (es : Exs) (r : Ex)
  | dct
  | comp (e : Ex) (tg : Tg) (it : Wk) (cs : Exs) (own : List Nat)
  | comp2 (e : Ex) (tg : Tg) (it : Wk) (tg1 : Tg) (it1 : Wk) (cs : Exs) (own own1 : List Nat)
  | dcmp (k v : Ex) (tg : Tg) (it : Wk) (cs : Exs) (own : List Nat)
  | call (f : Nat) (es : Exs)
  | callk (f : Nat) (es : Exs) (ks : List Nat) (ws : Exs)
  | bi (b : Bi) (es : Exs)
  | mk (l : Bool) (it : Wk)
  | ix (a i : Ex)
  | sl (a : Ex) (lo hi : ExO)
  | rev (a : Ex)
  | isi (a : Ex) (t : Ty)
  | mth (m : Mt) (o : Ex) (es : Exs)
  | fld (o : Ex) (n : Nat)
inductive Exs where
  | nil
  | cons (e : Ex) (es : Exs)
inductive ExO where
  | none
  | some (e : Ex)
inductive Wk where
  | seq (e : Ex)
  | rng (es : Exs)
  | enum (e : Ex) (k : Nat)
  | zip (es : Exs)
  | zipS (e : Ex)
  | items (e : Ex)
  | values (e : Ex)
end
inductive Sm where
  | asg (t : Tg) (e : Ex)
  | par (i j : Nat) (a b : Ex)
  | setix (x : Nat) (i e : Ex)
  | aug (x : Nat) (o : BOp) (e : Ex)
  | app (x : Nat) (e : Ex)
  | ins (x : Nat) (i e : Ex)
  | rmv (x : Nat) (e : Ex)
  | pop (x : Nat)
  | drop (e : Ex)
  | ife (c : Ex) (a b : List Sm)
  | for_ (t : Tg) (it : Wk) (b : List Sm)
  | whl (c : Ex) (b : List Sm)
  | ret (e : Option Ex)
  | rse (c : Nat) (es : Exs)
  | try_ (b : List Sm) (x y : Nat) (c : Nat)
  | pass

/-! ### data -/
/-- the script, told by a form of its own -/
def scrD (ns : List Int) : D := .dict [(.dict [], .none), (.dict [], .list (ns.map PyData.int))]
def intsO : List D → Option (List Int)
  | [] => some []
  | .int i :: r => (intsO r).map (i :: ·)
  | _ => none
def scr? : D → Option (List Int)
  | .dict [(.dict [], .none), (.dict [], .list xs)] => intsO xs
  | _ => none
theorem intsO_map : ∀ ns : List Int, intsO (ns.map PyData.int) = some ns
  | [] => rfl
  | n :: r => by rw [List.map_cons, intsO, intsO_map r]; rfl
theorem scr_scrD (ns : List Int) : scr? (scrD ns) = some ns := intsO_map ns
theorem intsO_some : ∀ {xs : List D} {ns : List Int}, intsO xs = some ns → xs = ns.map PyData.int
  | [], ns, h => by cases h; rfl
  | .int i :: r, ns, h => by
    rw [intsO] at h
    cases q : intsO r with
    | none => rw [q] at h; cases h
    | some ms => rw [q] at h; cases h; rw [List.map_cons, intsO_some q]
  | .none :: _, _, h | .bool _ :: _, _, h | .str _ :: _, _, h | .list _ :: _, _, h | .tuple _ :: _, _, h | .dict _ :: _, _, h => by cases h
theorem scr_some {d : D} {ns : List Int} (h : scr? d = some ns) : d = scrD ns := by
  unfold scr? at h
  split at h
  · rw [intsO_some h]; rfl
  · cases h
mutual
def imm : D → Bool
  | .none | .bool _ | .int _ | .str _ => true
  | .tuple xs => imms xs
  | .list _ | .dict _ => false
def imms : List D → Bool
  | [] => true
  | x :: xs => imm x && imms xs
end
/-- what a fresh result may hold so that it holds nothing of the arguments -/
def immTop : D → Bool
  | .list xs => imms xs
  | d => imm d

/-- no dict (nor an exception, told as one) at the top -/
def notD : D → Bool
  | .dict _ => false
  | _ => true
def bigN : Nat := 2 ^ 2000

def eqOk (d e : D) : Bool := notD d && notD e && decide (min d.depth e.depth ≤ 64)
def mem (x : D) (xs : List D) : Bool := xs.any fun y => PyData.eqv y x

/-- a text, repeated -/
def strRep (x : Str) (n : Int) : Str := if n < 1 then Str.empty else if (n == 1 || x.length == 0) = true then x else ⟨(List.replicate n.toNat x.cps).foldl (· ++ ·) #[]⟩
def binop : BOp → D → D → R Res
  | .add, .int i, .int j => .ok (.v false (.int (i + j)))
  | .add, .str x, .str y => if x.length + y.length ≤ sizeLine then .ok (.v false (.str (x ++ y))) else .no
  | .add, .list xs, .list ys => if xs.length + ys.length ≤ sizeLine then .ok (.v true (.list (xs ++ ys))) else .no
  | .add, .tuple xs, .tuple ys => if xs.length + ys.length ≤ sizeLine then .ok (.v false (.tuple (xs ++ ys))) else .no
  | .sub, .int i, .int j => .ok (.v false (.int (i - j)))
  | .mul, .int i, .int j => if i.natAbs < bigN ∧ j.natAbs < bigN then .ok (.v false (.int (i * j))) else .no
  | .mul, .list xs, .int k => if -(2 ^ 62) ≤ k ∧ k < 2 ^ 62 ∧ xs.length * k.toNat ≤ sizeLine then .ok (.v true (.list (List.replicate k.toNat xs).flatten)) else .no
  | .mul, .tuple xs, .int k => if -1000 ≤ k ∧ k ≤ 1000 ∧ xs.length ≤ 1000 then .ok (.v false (.tuple (List.replicate k.toNat xs).flatten)) else .no
  | .mul, .str x, .int k => if -1000 ≤ k ∧ k ≤ 1000 ∧ x.length ≤ 1000 ∧ (strRep x k).length ≤ sizeLine then .ok (.v false (.str (strRep x k))) else .no
  | .fdiv, .int i, .int j => if 0 < j ∧ j.natAbs < bigN then .ok (.v false (.int (i / j))) else .no
  | .mod, .int i, .int j => if 0 < j then .ok (.v false (.int (i % j))) else .no
  | .pow, .int i, .int j => if 0 ≤ j ∧ j ≤ 1000000 ∧ i.natAbs < 2 ^ 64 then .ok (.v false (.int (i ^ j.toNat))) else .no
  | .shl, .int i, .int j => if 0 ≤ j ∧ j ≤ 1000000 ∧ i.natAbs < 2 ^ 64 then .ok (.v false (.int (i * 2 ^ j.toNat))) else .no
  | .band, .int i, .int j => .ok (.v false (.int (Builtin.bitAnd i j)))
  | _, _, _ => .no

def isNone : D → Bool
  | .none => true
  | _ => false
def isSame : D → D → R Bool
  | d, .none => .ok (isNone d)
  | .bool c, .bool b => .ok (c == b)
  | _, _ => .no

def items? : D → Option (List D)
  | .list xs => some xs
  | .tuple xs => some xs
  | _ => none

def cmpop : COp → D → D → R Bool
  | .eq, d, e => if eqOk d e then .ok (PyData.eqv d e) else .no
  | .ne, d, e => if eqOk d e then .ok (!PyData.eqv d e) else .no
  | .lt, .int i, .int j => .ok (decide (i < j))
  | .le, .int i, .int j => .ok (decide (i ≤ j))
  | .gt, .int i, .int j => .ok (decide (j < i))
  | .ge, .int i, .int j => .ok (decide (j ≤ i))
  | .isin, d, .list xs => if eqOk d (.list xs) then .ok (mem d xs) else .no
  | .isin, d, .tuple xs => if eqOk d (.tuple xs) then .ok (mem d xs) else .no
  | .notin, d, .list xs => if eqOk d (.list xs) then .ok (!mem d xs) else .no
  | .notin, d, .tuple xs => if eqOk d (.tuple xs) then .ok (!mem d xs) else .no
  | .is_, d, e => isSame d e
  | .isnot, d, e => do return !(← isSame d e)
  | _, _, _ => .no

/-- an exception of the package, as data -/
def exc? : D → Option Nat
  | .dict [(.dict [], .int c), (.dict [], .tuple _)] => some c.toNat
  | _ => none
/-- those whose things hold no names of their own -/
def plainX (k : Nat) : Bool := k != 9 && k != 14
def plainV (v : D) : Bool := match exc? v with
  | some k => plainX k
  | none => false
/-- isinstance(.., an exception's class): 0 the package's own, 100 ValueError -/
def excTy (k : Nat) : D → R Bool
  | .none => .ok false
  | d => match exc? d with
    | some j => .ok (k == 0 || k == 100 || k == j)
    | none => .no
def isTy : Ty → D → R Bool
  | .int, .int _ => .ok true
  | .int, .bool _ => .ok true
  | .bool, .bool _ => .ok true
  | .str, .str _ => .ok true
  | .tuple, .tuple _ => .ok true
  | .list, .list _ => .ok true
  | .seq, .list _ => .ok true
  | .seq, .tuple _ => .ok true
  | .exc k, d => excTy k d
  | _, .dict _ => .no
  | _, _ => .ok false

def boolsOf : List D → R (List Bool)
  | [] => .ok []
  | .bool b :: r => do let bs ← boolsOf r; return b :: bs
  | _ => .no
def intsOf : List D → R (List Int)
  | [] => .ok []
  | .int i :: r => do let is ← intsOf r; return i :: is
  | _ => .no

def maxI : Int → List Int → Int
  | m, [] => m
  | m, x :: xs => maxI (if x > m then x else m) xs
def minI : Int → List Int → Int
  | m, [] => m
  | m, x :: xs => minI (if x < m then x else m) xs

def reprOk (d : D) : Bool := notD d && d.showable && decide (d.depth ≤ 64) && decide (d.shown.length ≤ sizeLine)

def biop : Bi → List D → R Res
  | .abs, [.int i] => .ok (.v false (.int (if i < 0 then -i else i)))
  | .all, [.list xs] => do let bs ← boolsOf xs; return .v false (.bool (bs.all id))
  | .all, [.tuple xs] => do let bs ← boolsOf xs; return .v false (.bool (bs.all id))
  | .any, [.list xs] => do let bs ← boolsOf xs; return .v false (.bool (bs.any id))
  | .int, [.int i] => .ok (.v false (.int i))
  | .int, [.bool b] => .ok (.v false (.int (if b then 1 else 0)))
  | .len, [.list xs] => .ok (.v false (.int xs.length))
  | .len, [.tuple xs] => .ok (.v false (.int xs.length))
  | .len, [.str x] => .ok (.v false (.int x.length))
  | .len, [.dict kvs] => match scr? (.dict kvs) with | some ns => .ok (.v false (.int ns.length)) | none => .no
  | .list, [.list xs] => .ok (.v true (.list xs))
  | .list, [.tuple xs] => .ok (.v true (.list xs))
  | .tuple, [.list xs] => .ok (.v false (.tuple xs))
  | .tuple, [.tuple xs] => .ok (.v false (.tuple xs))
  | .max, [.list xs] => do
      match ← intsOf xs with
      | [] => .no
      | m :: r => return .v false (.int (maxI m r))
  | .max, [.tuple xs] => do
      match ← intsOf xs with
      | [] => .no
      | m :: r => return .v false (.int (maxI m r))
  | .min, [.list xs] => do
      match ← intsOf xs with
      | [] => .no
      | m :: r => return .v false (.int (minI m r))
  | .max2, [.int i, .int j] => .ok (.v false (.int (if j > i then j else i)))
  | .min2, [.int i, .int j] => .ok (.v false (.int (if j < i then j else i)))
  | .sum, [.list xs] => do let is ← intsOf xs; return .v false (.int is.sum)
  | .repr, [d] => if reprOk d then .ok (.v false (.str d.shown)) else .no
  | .str, [.int i] => if i.natAbs.log2 < 1920 then .ok (.v false (.str (toString i))) else .no
  | _, _ => .no

def getix : D → D → R Res
  | .list xs, .int i => match atI xs i with | some d => .ok (.v false d) | none => .no
  | .tuple xs, .int i => match atI xs i with | some d => .ok (.v false d) | none => .no
  | .dict kvs, .int i => match scr? (.dict kvs) with | some ns => (match atI ns i with | some n => .ok (.v false (.int n)) | none => .no) | none => .no
  | .str x, .int i => match atI x.cps.toList i with | some c => .ok (.v false (.str ⟨#[c]⟩)) | none => .no
  | _, _ => .no

def cutD (xs : List D) (lo hi : Option Int) : List D := (xs.drop (HT.sIx xs.length 0 lo)).take (HT.sIx xs.length xs.length hi - HT.sIx xs.length 0 lo)
def getsl : D → Option Int → Option Int → R Res
  | .list xs, lo, hi => .ok (.v true (.list (cutD xs lo hi)))
  | .tuple xs, lo, hi => .ok (.v false (.tuple (cutD xs lo hi)))
  | _, _, _ => .no

/-- backwards -/
def revD : D → R Res
  | .list xs => .ok (.v true (.list xs.reverse))
  | _ => .no
/-- the one thing that an exception holds -/
def fldD : D → R Res
  | .dict [(.dict [], .int _), (.dict [], .tuple [d])] => .ok (.v false d)
  | _ => .no
/-- what a method is of -/
def mthT : Mt → D → Bool
  | .count, .list _ => true
  | .index, .list _ => true
  | _, _ => false
/-- methods that change nothing -/
def mthD : Mt → D → List D → R Res
  | .count, .list xs, [d] => if eqOk d (.list xs) then .ok (.v false (.int (xs.countP fun y => PyData.eqv y d))) else .no
  | .index, .list xs, [d] => if eqOk d (.list xs) then (match xs.findIdx? fun y => PyData.eqv y d with | some j => .ok (.v false (.int j)) | none => .no) else .no
  | _, _, _ => .no
def rangeL (lo hi : Int) : List D := (List.range (hi - lo).toNat).map fun (k : Nat) => PyData.int (lo + (k : Int))
def small62 (i : Int) : Bool := decide (-(2 ^ 62) ≤ i) && decide (i < 2 ^ 62)
def rng : List D → R (List D)
  | [.int j] => if small62 j && decide (j ≤ 16777216) then .ok (rangeL 0 j) else .no
  | [.int i, .int j] => if small62 i && small62 j && decide (j - i ≤ 16777216) then .ok (rangeL i j) else .no
  | _ => .no

def enumL : Int → List D → List D
  | _, [] => []
  | k, x :: xs => .tuple [.int k, x] :: enumL (k + 1) xs
def zip2 : List D → List D → List D
  | x :: xs, y :: ys => .tuple [x, y] :: zip2 xs ys
  | _, _ => []
def zip3 : List D → List D → List D → List D
  | x :: xs, y :: ys, z :: zs => .tuple [x, y, z] :: zip3 xs ys zs
  | _, _, _ => []
def zips : List D → R (List D)
  | [a, b] => match items? a, items? b with | some xs, some ys => .ok (zip2 xs ys) | _, _ => .no
  | [a, b, c] => match items? a, items? b, items? c with | some xs, some ys, some zs => .ok (zip3 xs ys zs) | _, _, _ => .no
  | _ => .no

/-! ### slots -/
def fetch (e : En) : Res → R D
  | .v _ d => .ok d
  | .p i => match e[i]? with | some (some s) => .ok s.d | _ => .no
def settle (e : En) : Res → R (D × En)
  | .v _ d => .ok (d, e)
  | .p i => match e[i]? with | some (some s) => .ok (s.d, e.set i (some ⟨false, s.d⟩)) | _ => .no
def fetchs (e : En) : List Res → R (List D)
  | [] => .ok []
  | r :: rs => do let d ← fetch e r; let ds ← fetchs e rs; return d :: ds
/-- .. to stand within another thing: no dict -/
def embed (e : En) (r : Res) : R (D × En) := do
  let (d, e) ← settle e r
  if notD d then return (d, e) else .no
def embeds (e : En) : List Res → R (List D × En)
  | [] => .ok ([], e)
  | r :: rs => do let (d, e) ← embed e r; let (ds, e) ← embeds e rs; return (d :: ds, e)
mutual
def bindT : Tg → D → En → R En
  | .nm i, d, e => if i < e.length then .ok (e.set i (some ⟨false, d⟩)) else .no
  | .tp ts, .tuple ds, e => if ds.length = ts.length then bindTs ts ds e else .no
  | .tp _, _, _ => .no
def bindTs : List Tg → List D → En → R En
  | [], _, e => .ok e
  | t :: ts, d :: ds, e => do let e ← bindT t d e; bindTs ts ds e
  | _ :: _, [], _ => .no
end
def wipeE (e : En) : List Nat → En
  | [] => e
  | v :: vs => (wipeE e vs).set v none
/-- the slots of own as they were (where they owned nothing), all else as it is now -/
def unown : Option Sv → Option Sv
  | some ⟨false, d⟩ => some ⟨false, d⟩
  | _ => none
def back (e0 : En) (e : En) : List Nat → En
  | [] => e
  | v :: vs => (back e0 e vs).set v (unown (e0.getD v none))

/-- a function: how many parameters, how many slots, which parameters it may change, its body -/
structure Fd where
  np : Nat
  ns : Nat
  io : List Nat
  body : List Sm

/-- how an argument goes in: a value; an in-out parameter takes what the slot holds -/
def argIn (e : En) (io : Bool) : Res → R Sv
  | .v o d => if io then (if o then .ok ⟨true, d⟩ else .no) else .ok ⟨false, d⟩
  | .p i => match e[i]? with
    | some (some s) => if io then (if s.own then .ok ⟨true, s.d⟩ else .no) else .ok ⟨false, s.d⟩
    | _ => .no
def argsIn (e : En) (io : List Nat) : Nat → List Res → R (List Sv)
  | _, [] => .ok []
  | j, r :: rs => do
    let s ← argIn e (io.contains j) r
    let ss ← argsIn e io (j + 1) rs
    return s :: ss
/-- the slots that go in-out, the slots that are lent -/
def inouts (io : List Nat) : Nat → List Res → List Nat
  | _, [] => []
  | j, .v _ _ :: rs => inouts io (j + 1) rs
  | j, .p i :: rs => if io.contains j then i :: inouts io (j + 1) rs else inouts io (j + 1) rs
def lents (io : List Nat) : Nat → List Res → List Nat
  | _, [] => []
  | j, .v _ _ :: rs => lents io (j + 1) rs
  | j, .p i :: rs => if io.contains j then lents io (j + 1) rs else i :: lents io (j + 1) rs
/-- which parameter slot i went to, in-out -/
def ioAt (io : List Nat) : Nat → List Res → Nat → Option Nat
  | _, [], _ => none
  | j, .v _ _ :: rs, i => ioAt io (j + 1) rs i
  | j, .p k :: rs, i => if io.contains j && k == i then some j else ioAt io (j + 1) rs i
def updE (g : Nat → Option Sv → Option Sv) : Nat → En → En
  | _, [] => []
  | i, s :: r => g i s :: updE g (i + 1) r
/-- a slot behind a call -/
def aft (io : List Nat) (rs : List Res) (ls : List Nat) (fz : Bool) (outs : List (Option Sv)) (i : Nat) (s : Option Sv) : Option Sv :=
  match ioAt io 0 rs i with
  | some j => outs.getD j none
  | none => if fz && ls.contains i then s.map fun s => ⟨false, s.d⟩ else s

structure Out where
  own : Bool
  d : D
  outs : List (Option Sv)

/-- a result that holds nothing of what was lent -/
def keepOk (o : Out) : Bool := if o.own then immTop o.d else imm o.d
/-- what stands at the in-out parameters holds nothing of what was lent -/
def keepSv : Option Sv → Bool
  | some ⟨true, d⟩ => immTop d
  | some ⟨false, d⟩ => imm d
  | none => true
def outsOk (outs : List (Option Sv)) : Bool := outs.all keepSv
/-- what calls do: function number, arguments -/
abbrev Cl := Nat → List Sv → R Out

section
variable (ft : Nat → Fd) (cl : Cl)

def callR (f : Nat) (rs : List Res) (e : En) : R (Res × En) := do
  let io := (ft f).io
  let ins := inouts io 0 rs
  let ls := lents io 0 rs
  if ins.Nodup && ins.all fun i => !ls.contains i then
    let ss ← argsIn e io 0 rs
    match cl f ss with
    | .ok o =>
      let fz := !(ls.isEmpty || (keepOk o && (ins.isEmpty || outsOk o.outs)))
      if ins.isEmpty && !fz then return (.v o.own o.d, e) else return (.v o.own o.d, updE (aft io rs ls fz o.outs) 0 e)
    | .ex x => if ins.isEmpty then .ex x else .no
    | .no => .no
  else .no

def asB : D → R Bool
  | .bool b => .ok b
  | _ => .no

/-- the answer of a test -/
def asTest (m : R (Res × En)) : R (Bool × En) := do
  let (r, e) ← m
  let d ← fetch e r
  let b ← asB d
  return (b, e)
/-- the turns of a comprehension -/
def loopC (el : En → R (Res × En)) (ts : En → R (Bool × En)) (tg : Tg) (own : List Nat) : List D → En → R (List D × En)
  | [], e => .ok ([], e)
  | x :: xs, e => do
    let e1 ← bindT tg x (wipeE e own)
    let (b, e2) ← ts e1
    if b then
      let (r, e3) ← el e2
      let (d, e4) ← embed e3 r
      let (ds, e5) ← loopC el ts tg own xs e4
      return (d :: ds, e5)
    else loopC el ts tg own xs e2

/-- the turns of a comprehension with two sources; n: how many items there are already -/
def loopC2 (el : En → R (Res × En)) (ts : En → R (Bool × En)) (it1 : En → R (List D × En)) (tg : Tg) (own : List Nat) (tg1 : Tg) (own1 : List Nat) : Nat → List D → En → R (List D × En)
  | _, [], e => .ok ([], e)
  | n, x :: xs, e => do
    let e1 ← bindT tg x (wipeE e own)
    let (ys, e2) ← it1 e1
    if n + ys.length ≤ sizeLine then
      let (ds, e3) ← loopC el ts tg1 own1 ys e2
      let (es, e4) ← loopC2 el ts it1 tg own tg1 own1 (n + ds.length) xs e3
      return (ds ++ es, e4)
    else .no

/-- the slots that are walked as they are -/
def walkedE : Ex → List Nat
  | .var i => [i]
  | _ => []
def walked : Wk → List Nat
  | .seq x => walkedE x
  | .enum x _ => walkedE x
  | _ => []
def ownO : Option (Option Sv) → Bool
  | some (some s) => s.own
  | _ => false
def okT : Option Sv → Option Sv → Bool
  | some ⟨true, _⟩, some ⟨_, .list xs⟩ => imms xs
  | some ⟨true, _⟩, _ => false
  | _, _ => true
def thaw1 : Option Sv → Option Sv → Option Sv
  | some ⟨false, d⟩, _ => some ⟨false, d⟩
  | some ⟨true, _⟩, s => s.map fun s => ⟨true, s.d⟩
  | none, _ => none
/-- e: the slots ahead; what was a slot's own is its own again -/
def thawE (e eF : En) : En := List.zipWith thaw1 e eF
/-- a walk over a slot's own list that leaves nothing of it behind -/
def thawW (it : Wk) (e : En) (ys : List D) (eF : En) : En := if ((walked it).any (fun i => ownO e[i]?) && imms ys && (List.zipWith okT e eF).all id) = true then thawE e eF else eF
mutual
def evE : Ex → En → R (Res × En)
  | .cst d, e => .ok (.v false d, e)
  | .var i, e => match e[i]? with
    | some (some ⟨false, d⟩) => .ok (.v false d, e)
    | some (some ⟨true, _⟩) => .ok (.p i, e)
    | _ => .no
  | .bin o a b, e => do
    let (ra, e) ← evE a e
    let (rb, e) ← evE b e
    let da ← fetch e ra
    let db ← fetch e rb
    let r ← binop o da db
    return (r, e)
  | .neg a, e => do
    let (ra, e) ← evE a e
    match ← fetch e ra with
    | .int i => return (.v false (.int (-i)), e)
    | _ => .no
  | .not_ a, e => do
    let (b, e) ← asTest (evE a e)
    return (.v false (.bool (!b)), e)
  | .and_ a b, e => do
    let (x, e) ← asTest (evE a e)
    if x then evE b e else return (.v false (.bool false), e)
  | .or_ a b, e => do
    let (x, e) ← asTest (evE a e)
    if x then return (.v false (.bool true), e) else evE b e
  | .cmp o a b, e => do
    let (ra, e) ← evE a e
    let (rb, e) ← evE b e
    let da ← fetch e ra
    let db ← fetch e rb
    let r ← cmpop o da db
    return (.v false (.bool r), e)
  | .chn o o' a b c, e => do
    let (ra, e) ← evE a e
    let (rb, e) ← evE b e
    let da ← fetch e ra
    let db ← fetch e rb
    if ← cmpop o da db then
      let (rc, e) ← evE c e
      let db ← fetch e rb
      let dc ← fetch e rc
      let r ← cmpop o' db dc
      return (.v false (.bool r), e)
    else return (.v false (.bool false), e)
  | .ite c a b, e => do
    let (x, e) ← asTest (evE c e)
    if x then evE a e else evE b e
  | .tup es, e => do
    let (rs, e) ← evEs es e
    let (ds, e) ← embeds e rs
    return (.v false (.tuple ds), e)
  | .lst es, e => do
    let (rs, e) ← evEs es e
    let (ds, e) ← embeds e rs
    return (.v true (.list ds), e)
  | .tupS es r, e => do
    let (rs, e) ← evEs es e
    let (rr, e) ← evE r e
    let d ← fetch e rr
    let xs ← R.ofO (items? d)
    let (ds, e) ← embeds e rs
    if ds.length + xs.length ≤ sizeLine then return (.v false (.tuple (ds ++ xs)), e) else .no
  | .lstS es r, e => do
    let (rs, e) ← evEs es e
    let (rr, e) ← evE r e
    let d ← fetch e rr
    let xs ← R.ofO (items? d)
    let (ds, e) ← embeds e rs
    if ds.length + xs.length ≤ sizeLine then return (.v true (.list (ds ++ xs)), e) else .no
  | .dct, e => .ok (.v true (.dict []), e)
  | .comp el tg it cs own, e => do
    let (xs, e0) ← evI it e
    let (ys, e1) ← loopC (fun e => (evE el e).quiet) (fun e => (evT cs e).quiet) tg own xs e0
    return (.v true (.list ys), thawW it e ys (back e0 e1 own))
  | .comp2 el tg it tg1 it1 cs own own1, e => do
    let (xs, e0) ← evI it e
    let (ys, e1) ← loopC2 (fun e => (evE el e).quiet) (fun e => (evT cs e).quiet) (fun e => (evI it1 e).quiet) tg own tg1 own1 0 xs e0
    return (.v true (.list ys), back e0 e1 own)
  | .dcmp k v tg it cs own, e => .no
  | .call f es, e => do
    let (rs, e) ← evEs es e
    callR ft cl f rs e
  | .callk f es ks ws, e => .no
  | .bi b es, e => do
    let (rs, e) ← evEs es e
    let ds ← fetchs e rs
    let r ← biop b ds
    return (r, e)
  | .mk l it, e => do
    let (xs, e) ← evI it e
    return (if l then .v true (.list xs) else .v false (.tuple xs), e)
  | .ix a i, e => do
    let (ra, e) ← evE a e
    let (ri, e) ← evE i e
    let da ← fetch e ra
    let di ← fetch e ri
    let r ← getix da di
    return (r, e)
  | .sl a lo hi, e => do
    let (ra, e) ← evE a e
    let (lo, e) ← evO lo e
    let (hi, e) ← evO hi e
    let da ← fetch e ra
    let r ← getsl da lo hi
    return (r, e)
  | .rev a, e => do
    let (ra, e) ← evE a e
    let da ← fetch e ra
    let r ← revD da
    return (r, e)
  | .isi a t, e => do
    let (ra, e) ← evE a e
    let b ← isTy t (← fetch e ra)
    return (.v false (.bool b), e)
  | .mth m o es, e => do
    let (ro, e) ← evE o e
    let d0 ← fetch e ro
    if mthT m d0 then
      let (rs, e) ← evEs es e
      let d ← fetch e ro
      let ds ← fetchs e rs
      let r ← mthD m d ds
      return (r, e)
    else .no
  | .fld o n, e => do
    let (ro, e) ← evE o e
    let d ← fetch e ro
    let r ← fldD d
    return (r, e)
termination_by structural x => x
def evEs : Exs → En → R (List Res × En)
  | .nil, e => .ok ([], e)
  | .cons x xs, e => do
    let (r, e) ← evE x e
    let (rs, e) ← evEs xs e
    return (r :: rs, e)
def evO : ExO → En → R (Option Int × En)
  | .none, e => .ok (none, e)
  | .some x, e => do
    let (r, e) ← evE x e
    match ← fetch e r with
    | .int i => return (some i, e)
    | _ => .no
def evI : Wk → En → R (List D × En)
  | .seq x, e => do
    let (r, e) ← evE x e
    let (d, e) ← settle e r
    match items? d with
    | some xs => return (xs, e)
    | none => .no
  | .rng es, e => do
    let (rs, e) ← evEs es e
    let ds ← fetchs e rs
    let xs ← rng ds
    return (xs, e)
  | .enum x k, e => do
    let (r, e) ← evE x e
    let (d, e) ← settle e r
    match items? d with
    | some xs => return (enumL k xs, e)
    | none => .no
  | .zip es, e => do
    let (rs, e) ← evEs es e
    let (ds, e) ← embeds e rs
    let xs ← zips ds
    return (xs, e)
  | .zipS x, e => .no
  | .items x, e => .no
  | .values x, e => .no
def evT : Exs → En → R (Bool × En)
  | .nil, e => .ok (true, e)
  | .cons c cs, e => do
    let (b, e) ← asTest (evE c e)
    if b then evT cs e else return (false, e)
end
end

/-! ### statements -/
inductive Fl where
  | nx
  | rt (own : Bool) (d : D)

def excD (c : Nat) (fs : List D) : D := .dict [(.dict [], .int c), (.dict [], .tuple fs)]

/-- a result, to stand in a slot -/
def stow (e : En) : Res → R (Sv × En)
  | .v o d => .ok (⟨o, d⟩, e)
  | .p j => do
    let (d, e) ← settle e (.p j)
    return (⟨false, d⟩, e)
/-- a list that a slot owns -/
def lst? : Option Sv → R (List D)
  | some ⟨true, .list xs⟩ => .ok xs
  | _ => .no
def int? : Option Sv → R Int
  | some ⟨false, .int i⟩ => .ok i
  | _ => .no
def asI : D → R Int
  | .int i => .ok i
  | _ => .no
def asL : D → R (List D)
  | .list xs => .ok xs
  | _ => .no
/-- slot i gets a result -/
def setR (pin : List Nat) (i : Nat) (r : Res) (e : En) : R En := do
  let (s, e) ← stow e r
  if i < e.length ∧ i ∉ pin then .ok (e.set i (some s)) else .no
mutual
def tgOk (pin : List Nat) : Tg → Bool
  | .nm i => !pin.contains i
  | .tp ts => tgsOk pin ts
def tgsOk (pin : List Nat) : List Tg → Bool
  | [] => true
  | t :: ts => tgOk pin t && tgsOk pin ts
end
def loopF (body : En → R (Fl × En)) (tg : Tg) : List D → En → R (Fl × En)
  | [], e => .ok (.nx, e)
  | x :: xs, e => do
    let e ← bindT tg x e
    let (f, e) ← body e
    match f with
    | .nx => loopF body tg xs e
    | .rt o d => return (.rt o d, e)
def loopW (c : En → R (Bool × En)) (body : En → R (Fl × En)) : Nat → En → R (Fl × En)
  | 0, _ => .no
  | n + 1, e => do
    let (b, e) ← c e
    if b then
      let (f, e) ← body e
      match f with
      | .nx => loopW c body n e
      | .rt o d => return (.rt o d, e)
    else return (.nx, e)
/-- behind what was raised: what slots owned is forgotten -/
def calmE (e : En) : En := e.map unown
def wfuel : Nat := 1000000000

section
variable (ft : Nat → Fd) (cl : Cl) (pin : List Nat)
mutual
def evS : Sm → En → R (Fl × En)
  | .asg (.nm i) x, e => do
    let (r, e) ← evE ft cl x e
    let e ← setR pin i r e
    return (.nx, e)
  | .asg (.tp ts) x, e => do
    let (r, e) ← evE ft cl x e
    let (d, e) ← settle e r
    if tgsOk pin ts then
      let e ← bindT (.tp ts) d e
      return (.nx, e)
    else .no
  | .par i j a b, e => do
    let (ra, e) ← evE ft cl a e
    let (rb, e) ← evE ft cl b e
    let (sa, e) ← stow e ra
    let (sb, e) ← stow e rb
    if i < e.length ∧ j < e.length ∧ i ≠ j ∧ i ∉ pin ∧ j ∉ pin then return (.nx, (e.set i (some sa)).set j (some sb)) else .no
  | .setix x i v, e => do
    let (r, e) ← evE ft cl v e
    let _ ← lst? (e.getD x none)
    let (ri, e) ← evE ft cl i e
    let (d, e) ← embed e r
    let di ← fetch e ri
    let k ← asI di
    let xs ← lst? (e.getD x none)
    let j ← R.ofO (ixN xs.length k)
    return (.nx, e.set x (some ⟨true, .list (xs.set j d)⟩))
  | .aug x .add v, e => match lst? (e.getD x none) with
    | .ok _ => do
      let (r, e) ← evE ft cl v e
      let d ← fetch e r
      let ys ← asL d
      let xs ← lst? (e.getD x none)
      if xs.length + ys.length ≤ sizeLine then return (.nx, e.set x (some ⟨true, .list (xs ++ ys)⟩)) else .no
    | _ => do
      let i ← int? (e.getD x none)
      let (r, e) ← evE ft cl v e
      let d ← fetch e r
      let j ← asI d
      if x < e.length ∧ x ∉ pin then return (.nx, e.set x (some ⟨false, .int (i + j)⟩)) else .no
  | .aug _ _ _, _ => .no
  | .app x v, e => do
    let _ ← lst? (e.getD x none)
    let (r, e) ← evE ft cl v e
    let (d, e) ← embed e r
    let xs ← lst? (e.getD x none)
    if xs.length < sizeLine then return (.nx, e.set x (some ⟨true, .list (xs ++ [d])⟩)) else .no
  | .ins x i v, e => .no
  | .rmv x v, e => .no
  | .pop x, e => .no
  | .drop x, e => do
    let (_, e) ← evE ft cl x e
    return (.nx, e)
  | .ife c a b, e => do
    let (t, e) ← asTest (evE ft cl c e)
    if t then evSs a e else evSs b e
  | .for_ t it b, e => do
    let (xs, e) ← evI ft cl it e
    if tgOk pin t then loopF (fun e => evSs b e) t xs e else .no
  | .whl c b, e => loopW (fun e => asTest (evE ft cl c e)) (fun e => evSs b e) wfuel e
  | .ret none, e => .ok (.rt false .none, e)
  | .ret (some x), e => do
    let (r, e) ← evE ft cl x e
    match r with
    | .v o d => return (.rt o d, e)
    | .p i =>
      if pin.contains i then
        let (d, e) ← settle e (.p i)
        return (.rt false d, e)
      else
        let s ← R.ofO (e.getD i none)
        return (.rt s.own s.d, e.set i none)
  | .rse c es, e => do
    let (rs, e) ← evEs ft cl es e
    let (ds, e) ← embeds e rs
    .ex (excD c ds)
  | .try_ b x y c, e => match evSs b e with
    | .ok p => .ok p
    | .ex v => if c = 0 ∧ plainV v = true ∧ x < e.length ∧ y < e.length ∧ x ≠ y ∧ x ∉ pin ∧ y ∉ pin then .ok (.nx, ((calmE e).set y (some ⟨false, v⟩)).set x none) else .no
    | .no => .no
  | .pass, e => .ok (.nx, e)
termination_by structural x => x
def evSs : List Sm → En → R (Fl × En)
  | [], e => .ok (.nx, e)
  | s :: r, e => do
    let (f, e) ← evS s e
    match f with
    | .nx => evSs r e
    | .rt o d => return (.rt o d, e)
end
end

/-- a call's start -/
def enter (fd : Fd) (ss : List Sv) : En := ss.map some ++ List.replicate (fd.ns - fd.np) none
/-- what stands at the in-out parameters -/
def outsOf (fd : Fd) (e : En) : List (Option Sv) := (List.range fd.np).map fun j => if fd.io.contains j then e.getD j none else none
def runF (ft : Nat → Fd) (cl : Cl) (fd : Fd) (ss : List Sv) : R Out :=
  if ss.length = fd.np then do
    let (f, e) ← evSs ft cl fd.io fd.body (enter fd ss)
    match f with
    | .nx => return ⟨false, .none, outsOf fd e⟩
    | .rt o d => return ⟨o, d, outsOf fd e⟩
  else .no
/-- calls, n deep -/
def callN (ft : Nat → Fd) : Nat → Cl
  | 0 => fun _ _ => .no
  | n + 1 => fun f ss => runF ft (callN ft n) (ft f) ss
end Nm
set_option Elab.async false
set_option maxRecDepth 100000
set_option linter.all false
/-! try: .. except C as e: y = e. The thing that was caught stays, to be looked at later. -/
namespace Nm
open PySem PySem.Spec PyProof.Rows L2

/-- a caught thing, as it lies -/
def ExP (cls : Value) (dd : Option Addr) (a : Addr) (h : Heap) : Prop := ∃ o, h.get? a = some o ∧ Zc cls dd o ∧ ∃ vs, o.data = .fields vs
def ExH (cls : Value) (dd : Option Addr) (a : Addr) : HO := .ext (ExP cls dd a)
section
variable {X : Cx} {P : Program} {w : World} {pins : List (Addr × Obj)} {σ : L2.St} {H : Hp} {s : Shared} {h : Heap} {a : Addr} {cls : Value} {dd : Option Addr}
theorem exH_ok (x : ExP cls dd a h) : ObjOk P w H h a (ExH cls dd a) :=
  ⟨x, ⟨_, x.choose_spec.1⟩, fun _ _ ⟨o, e, q⟩ k => ⟨o, k o e, q⟩⟩
/-- it is taken into the told heap -/
theorem inv_keepX (I : Inv X pins σ H s) (na : H a = none) (x : ExP cls dd a s.heap) (nb : a ∉ X.ex → X.s_0.heap.get? a = none) (nL : a ≠ X.env.locals) (np : ∀ p ∈ X.pn ++ pins, p.1 ≠ a) :
    Inv X pins σ (upd H a (ExH cls dd a)) s := by
  have ne : ∀ {b : Addr} {o : HO}, H b = some o → b ≠ a := fun {b o} e z => by rw [z, na] at e; cases e
  have up : ∀ {b : Addr} {o : HO}, H b = some o → upd H a (ExH cls dd a) b = some o := fun {b o} e => (upd_ne (ne e)).trans e
  obtain ⟨oa, ea, _, vs, ed⟩ := id x
  refine { ok := I.ok, os := I.os, bare := I.bare, base := ?_, loc := I.loc, cell := I.cell, free := (upd_ne (Ne.symm nL)).trans I.free, freeC := fun y c e => ?_, pin := fun p hp => ?_, hok := fun b o e => ?_, len := I.len }
  · refine ⟨I.base.keep, I.base.slot, fun b o e n z => ?_, I.base.there, fun b xs e => up (I.base.tups b xs e), fun b o u e => up (I.base.frzs b o u e), fun b ps e => ?_⟩
    · have : b ≠ a := fun q => by
        subst q
        rw [nb z] at e; cases e
      exact (upd_ne this).trans (I.base.free b o e n z)
    · obtain ⟨more, q⟩ := I.base.tbls b ps e
      exact ⟨more, up q⟩
  · have : c ≠ a := fun q => by
      subst q
      obtain ⟨v, z⟩ := I.cell y c e
      obtain ⟨oc, e1, e2⟩ := z
      rw [ea] at e1
      cases e1
      rw [ed] at e2
      cases e2
    exact (upd_ne this).trans (I.freeC y c e)
  · obtain ⟨e1, e2, e3⟩ := I.pin p hp
    exact ⟨e1, (upd_ne (np p hp)).trans e2, e3⟩
  · by_cases hb : b = a
    · subst hb
      rw [upd_same] at e
      cases e
      exact exH_ok x
    · have e0 : H b = some o := (upd_ne hb).symm.trans e
      exact (I.hok b o e0).stay (fun _ _ _ q => q) (fun c q => up q) fun c xs q => up q
end
/-- what the clause wishes of what the body raises: slot i is the clause's name -/
def wK (K : PySem.W.Frag) (c : Value) (i : Nat) (ts : Addr → TS) (D : Ends) : WX := fun cls dd σ H =>
  PySem.W.exmOne K cls c = some true ∧ ∀ a, H a = none → ts a { nx := fun σ' H' => D.nx (σ'.set i none) (upd H' a (ExH cls dd a)), rt := fun _ _ => False } (σ.set i (some (.ref a))) H
section
variable {X : Cx} {x n : Str} {c : Value} {i : Nat} {bd sq : List Stmt} {b0 : Stmt} {q1 q2 q3 : Pos} {tb : WX → TS} {ts : Addr → TS} {Wo : WX}
theorem ps_tryK (hst : X.stack = X.env :: X.outer) (hfr : X.env.frame = some X.env.locals) (nd : X.N.Nodup) (hi : X.N[i]? = some n) (hk : X.env.kindOf n = some .local) (hc : Names X x c)
    (hbd : ∀ (W : WX) (pn : List (Addr × Obj)) (xe : Value → Shared → Prop), Takes (X.tr pn xe) W → PassesOwn (model X.prog X.w) X.A X.env xe → PSs (X.tr pn xe) bd (tb W))
    (hsq : ∀ (a : Addr) (o : Obj) (pn : List (Addr × Obj)), (∃ vs, o.data = .fields vs) → PSs (X.suite a ((a, o) :: pn)) (b0 :: sq) (ts a)) :
    PS X (.Try bd [.ExceptHandler (some (.Name x q1)) (some n) (b0 :: sq) q2] [] [] q3) (fun D σ H => tb (wK X.K c i ts D) D σ H) := by
  constructor
  intro pins s σ H D I hw
  have OK := I.ok
  have lc : Loc X.env.scope n := .inl hk
  have J0 := I.toTry (fun e s₁ => wpAny (model X.prog X.w) X.A (noteFrame e X.env) (fun _ s₂ =>
    wpAny (model X.prog X.w) X.A (setFlight e none) (fun _ s₃ => wpAny (model X.prog X.w) X.A
      (handleBy e X.env [.ExceptHandler (some (.Name x q1)) (some n) (b0 :: sq) q2]) (SP X pins D) X.xe s₃) X.xe s₂) X.xe s₁)
  refine wpAny_Try_except (wpAny_mono ((hbd (wK X.K c i ts D) (X.pn ++ pins) _ (fun u s' up => ?_) PassesOwn.looking).run [] s σ H D J0 hw) (fun f s1 hs1 => ?_) fun e s1 he => he)
  · -- what the body raises
    obtain ⟨a, B, s0, pins', σ1, H1, cls, dd, rfl, JT, gnd, upT, skyT, na, hos, hag, hex, hgo⟩ := up
    have J := JT.ofTry OK
    have sky1 : Sky B (X.env :: X.outer) a (Zc cls dd) X.env.locals s'.heap := by
      rw [← hst]; exact skyT
    show wpAny (model X.prog X.w) X.A (noteFrame (.ref a) X.env) _ _ _
    refine Sky.land Zc.steady (by rw [OK.frames, hst]) hfr sky1 fun hA fA uA => ?_
    have JA : Inv X pins σ1 H1 { s' with heap := hA } := J.landed gnd fA.1 (upT.trans uA) hos hag
    obtain ⟨oA, wA, eA, zA, dA⟩ := fA.there
    have nfr : a ∉ frs (X.env :: X.outer) := fun hm => by
      obtain ⟨_, o', e', no⟩ := fA.2.2.1.mem hm
      have : oA = o' := Option.some.inj (eA.symm.trans e')
      subst this
      exact no _ dA
    have nL : a ≠ X.env.locals := fun z => nfr (List.mem_filterMap.mpr ⟨_, List.mem_cons_self, by rw [hfr, ← z]⟩)
    have nF : a ∉ X.fs := fun hm => nfr (by
      obtain ⟨e, he, q⟩ := List.mem_filterMap.mp hm
      exact List.mem_filterMap.mpr ⟨e, .tail _ he, q⟩)
    have noB : ∀ {b : Addr} {o : Obj}, s0.heap.get? b = some o → b = a → False := fun {b o} e z => by
      subst z
      have := gnd b o e (by rw [hst]; exact nfr)
      rw [fA.2.1] at this
      cases this
    have nb : a ∉ X.ex → X.s_0.heap.get? a = none := fun hx => by
      cases q : X.s_0.heap.get? a with
      | none => rfl
      | some o =>
        obtain ⟨o', e⟩ := J.base.there a o q hx
        exact (noB e rfl).elim
    have np : ∀ p ∈ X.pn ++ pins, p.1 ≠ a := fun p hp z => noB (J.pin p hp).1 z
    have SA := JA.suite eA dA na nL nF
    refine wpAny_handleBy_cons (codeAny_handlers_test ?_) (fun q => nomatch q)
    have ty : PySem.W.Looks (model X.prog X.w) hA (typeOf (.ref a)) cls := fun A0 Q0 E0 t0 k0 r0 =>
      wpAny_typeOf_ref (k0 _ _ eA) (by rw [zA.1]; exact r0)
    have mt := PySem.W.exm_one (M := model X.prog X.w) JA.kIn ty hex
    have rd : ∀ {Q : Value → Shared → Prop} {E : Value → Shared → Prop}, Q c { s' with heap := hA } →
        wpAny (model X.prog X.w) (X.A.mark (some (.ref a))) (eval (.Name x q1) X.env) Q E { s' with heap := hA } := by
      intro Q E q
      obtain ⟨g1, g2, g3⟩ := hc
      rcases g3 with g3 | ⟨g3, g4, g5⟩
      · exact ld_glob (X := X.suite a ((a, oA) :: (X.pn ++ pins))) SA g1 g3 q g2
      · exact ld_blt (X := X.suite a ((a, oA) :: (X.pn ++ pins))) SA g1 g3 g4 q g5 g2
    refine rd (mt.here (codeAny_handlers_suite_as (HandSPX.lands_againZ fA fun hB fB uB => ?_)))
    have JB : Inv X pins σ1 H1 { s' with heap := hB } := J.landed gnd fB.1 ((upT.trans uA).trans uB) hos hag
    obtain ⟨oB, wB, eB, zB, dB⟩ := fB.there
    refine store_ok (X := X.suite a ((a, oB) :: (X.pn ++ pins))) (v := .ref a) (JB.suite eB dB na nL nF) nd hi lc rfl (fun sC SC => ?_) (.inr hk)
    refine wpAny_mono ((hsq a oB (X.pn ++ pins) ⟨_, dB⟩).run [] sC _ H1 _ SC (hgo a na)) (fun f sD hsD => ?_) fun _ _ z => z.elim
    cases f with
    | next =>
      obtain ⟨σ6, H6, S6, q6⟩ := hsD
      obtain ⟨e6, n6, _⟩ := S6.pin (a, oB) (by simp)
      have J6 := inv_keepX (S6.unsuite OK) n6 ⟨oB, e6, zB, _, dB⟩ nb nL np
      exact gone_ok J6 nd hi hk fun s7 J7 => ⟨_, _, J7, q6⟩
    | brk =>
      obtain ⟨_, _, _, z⟩ := hsD
      exact z.elim
    | cont =>
      obtain ⟨_, _, _, z⟩ := hsD
      exact z.elim
    | ret u =>
      obtain ⟨_, _, _, _, _, z⟩ := hsD
      exact z.elim
  · cases f with
    | next =>
      obtain ⟨σ1, H1, J1, q⟩ := hs1
      exact wpAny_execs_nil ⟨σ1, H1, J1.ofTry OK, q⟩
    | brk =>
      obtain ⟨σ1, H1, J1, q⟩ := hs1
      exact ⟨σ1, H1, J1.ofTry OK, q⟩
    | cont =>
      obtain ⟨σ1, H1, J1, q⟩ := hs1
      exact ⟨σ1, H1, J1.ofTry OK, q⟩
    | ret u =>
      obtain ⟨v, σ1, H1, J1, r, q⟩ := hs1
      exact ⟨v, σ1, H1, J1.ofTry OK, r, q⟩
end
end Nm
set_option Elab.async false
set_option maxRecDepth 100000
set_option linter.all false
/-! The program's exceptions: their classes by number; what the classes tell. -/
namespace Nm
open PySem L2 PyProof.Rows

def excNm : Nat → Str
  | 0 => "MeetsError" | 1 => "NoRule" | 2 => "NoPoint" | 3 => "NoDistance" | 4 => "NoWay" | 5 => "NoSize" | 6 => "NoReach" | 7 => "NoShifts" | 8 => "Unlike" | 9 => "Missed" | 10 => "NoRules" | 11 => "NoTold" | 12 => "NoPoints" | 13 => "NoName" | 14 => "NoText" | _ => ""
/-- the class of number k -/
def excCl (K : PySem.W.Frag) (k : Nat) : Addr := He.ga K (excNm k)
def Known (K : PySem.W.Frag) (k : Nat) : Bool := decide (k < 15) && He.Fa.ok K (.glo (excNm k))
def noneT : Value := .type "NoneType"
def clsB (K : PySem.W.Frag) (D : Addr) : Bool :=
  He.eqO (PySem.W.findIn K (.ref D) "__getattribute__") (some (some (.builtin "BaseException.__getattribute__"))) && He.eqO (PySem.W.findIn K (.ref D) "__getattr__") (some none) && decide (PySem.W.subIn K (.ref D) (.type "BaseException") = some true)
    && PySem.W.hasDictIn K D && He.eqO (PySem.W.findIn K (.ref D) "__class__") (some (some (.builtin "object.__class__"))) && He.eqO (PySem.W.specialIn K (.builtin "object.__class__") "__get__") (some (some (.builtin "getset_descriptor.__get__")))
    && decide (PySem.W.takesIn K (.builtin "object.__class__") = some true) && decide (PySem.W.mroIn K D (.type "object") = some true)
theorem clsB_ok {K : PySem.W.Frag} {D : Addr} (h : clsB K D = true) : ExcC K D := by
  unfold clsB at h
  simp only [Bool.and_eq_true, decide_eq_true_eq] at h
  obtain ⟨⟨⟨⟨⟨⟨⟨h1, h2⟩, h3⟩, h4⟩, h5⟩, h6⟩, h7⟩, h8⟩ := h
  exact ⟨He.eqO_ok h1, He.eqO_ok h2, h3, h4, He.eqO_ok h5, He.eqO_ok h6, h7, h8⟩
def excB1 (K : PySem.W.Frag) (k : Nat) : Bool :=
  clsB K (excCl K k) && decide (PySem.W.kitOne K (.ref (excCl K k)) (.type "ValueError") = some true) && decide (PySem.W.kitOne K noneT (.ref (excCl K k)) = some false)
    && (List.range 15).all fun j => !Known K j || (decide (PySem.W.kitOne K (.ref (excCl K k)) (.ref (excCl K j)) = some (j == 0 || j == k)) && (decide (j ≠ 0) || decide (PySem.W.exmOne K (.ref (excCl K k)) (.ref (excCl K j)) = some true)))
/-- all that is asked of the classes -/
def excB (K : PySem.W.Frag) : Bool := (List.range 15).all fun k => !Known K k || excB1 K k
structure ExF (K : PySem.W.Frag) (k : Nat) : Prop where
  cls : ExcC K (excCl K k)
  value : PySem.W.kitOne K (.ref (excCl K k)) (.type "ValueError") = some true
  none_ : PySem.W.kitOne K noneT (.ref (excCl K k)) = some false
  kit : ∀ j, Known K j = true → PySem.W.kitOne K (.ref (excCl K k)) (.ref (excCl K j)) = some (j == 0 || j == k)
  exm : Known K 0 = true → PySem.W.exmOne K (.ref (excCl K k)) (.ref (excCl K 0)) = some true
theorem known_lt {K : PySem.W.Frag} {k : Nat} (h : Known K k = true) : k < 15 := by
  unfold Known at h
  simp only [Bool.and_eq_true, decide_eq_true_eq] at h
  exact h.1
theorem excB_ok {K : PySem.W.Frag} (h : excB K = true) {k : Nat} (hk : Known K k = true) : ExF K k := by
  unfold excB at h
  have h := List.all_eq_true.mp h k (List.mem_range.mpr (known_lt hk))
  rw [hk] at h
  have h : excB1 K k = true := by simpa using h
  unfold excB1 at h
  simp only [Bool.and_eq_true, decide_eq_true_eq] at h
  obtain ⟨⟨⟨h1, h2⟩, h3⟩, h4⟩ := h
  have g : ∀ j, Known K j = true → PySem.W.kitOne K (.ref (excCl K k)) (.ref (excCl K j)) = some (j == 0 || j == k) ∧ (j = 0 → PySem.W.exmOne K (.ref (excCl K k)) (.ref (excCl K j)) = some true) := fun j hj => by
    have q := List.all_eq_true.mp h4 j (List.mem_range.mpr (known_lt hj))
    rw [hj] at q
    simp only [Bool.not_true, Bool.false_or, Bool.and_eq_true, Bool.or_eq_true, decide_eq_true_eq] at q
    exact ⟨q.1, fun e => q.2.resolve_left fun z => z e⟩
  exact ⟨clsB_ok h1, h2, h3, fun j hj => (g j hj).1, fun h0 => (g 0 h0).2 rfl⟩
theorem exc_excD {k : Nat} {fs : List D} : exc? (excD k fs) = some k := rfl
/-- isinstance(.., a class), of None and of a caught thing -/
def rIsX (K : PySem.W.Frag) : List V → Hp → VK → Prop := fun xs H Q => ∃ (x c : V) (u : Value) (b : Bool), xs = [x, c] ∧ ClsV c u ∧
  ((x = .non ∧ PySem.W.kitOne K noneT u = some b) ∨ ∃ a D, x = .ref a ∧ H a = some (ExH (.ref D) none a) ∧ ExcC K D ∧ PySem.W.kitOne K (.ref D) u = some b) ∧ Q (.bl b) H
theorem call_isX {X : Cx} : CallR X (.builtin "isinstance") (rIsX X.K) := by
  intro pins s σ H xs us Q I r h
  obtain ⟨x, c, u, b, rfl, k, h, q⟩ := h
  rcases h with ⟨rfl, e⟩ | ⟨a, D, rfl, hH, C, e⟩
  · exact call_isi pins s σ H _ us Q I r ⟨.non, c, noneT, u, b, rfl, k, .base .non, e, q⟩
  · obtain ⟨u1, u2, rfl, r1, r2⟩ := r.two
    cases (show u1 = Value.ref a from r1)
    have e2 := k.eq r2
    subst e2
    obtain ⟨⟨oe, h1, h2, vs, h3⟩, _⟩ := (show ObjOk X.prog X.w H s.heap a (ExH (.ref D) none a) from I.hok a _ hH)
    have J : PySem.W.InstAt s.heap a oe D none := by
      obtain ⟨oc, od, oda, osl⟩ := oe
      obtain ⟨g1, g2⟩ := h2
      dsimp only at g1 g2 h3
      subst g1 g2 h3
      exact ⟨h1, rfl, rfl, trivial⟩
    exact PySem.W.kia_one (PySem.W.handS_kitx_exc C.hg C.hk C.hs C.hd C.ha C.hn C.ht C.hm) I.kIn J e (fun z => nomatch z) fun tk => ⟨.bl b, H, I.tok tk, rfl, q⟩
end Nm
set_option Elab.async false
set_option maxRecDepth 100000
set_option linter.all false
namespace Nm
open PySem L2

/-- who may write a thing: nobody (sh), it is new and nobody's yet (tmp), slot i's, others' -/
inductive Col where | sh | tmp | sl (i : Nat) | out
  deriving DecidableEq
abbrev Clr := Addr → Col

/-- a sequence of the written part -/
def WrL (K : PySem.W.Frag) (a : Addr) (xs : List V) : Prop := SqL K (fun _ => none) a xs
def WrT (K : PySem.W.Frag) (a : Addr) (xs : List V) : Prop := SqT K (fun _ => none) a xs
theorem rd_none {a : Addr} {u : HO} (h : Rd (fun _ => none) a u) : False := by
  rcases h with h | ⟨_, h⟩ <;> cases h
theorem WrL.at {K : PySem.W.Frag} {H : Hp} {a : Addr} {xs : List V} (h : WrL K a xs) : SqL K H a xs := by
  rcases h with h | h
  · exact (rd_none h).elim
  · exact .inr h
theorem WrT.at {K : PySem.W.Frag} {H : Hp} {a : Addr} {xs : List V} (h : WrT K a xs) : SqT K H a xs := by
  rcases h with h | h
  · exact (rd_none h).elim
  · exact .inr h
theorem sqL_two {K : PySem.W.Frag} {H : Hp} {a : Addr} {xs : List V} (h : SqL K H a xs) : Rd H a (.lst xs) ∨ WrL K a xs := by
  rcases h with h | h
  · exact .inl h
  · exact .inr (.inr h)
theorem sqT_two {K : PySem.W.Frag} {H : Hp} {a : Addr} {xs : List V} (h : SqT K H a xs) : Rd H a (.tup xs) ∨ WrT K a xs := by
  rcases h with h | h
  · exact .inl h
  · exact .inr (.inr h)

mutual
/-- v stands for d; the lists within are at addresses that A allows -/
inductive RelD (K : PySem.W.Frag) (H : Hp) (A : Addr → Prop) : V → D → Prop
  | none : RelD K H A .non .none
  | bool (b : Bool) : RelD K H A (.bl b) (.bool b)
  | int (i : Int) : RelD K H A (.int i) (.int i)
  | str (x : Str) : x.length ≤ sizeLine → RelD K H A (.str x) (.str x)
  | list {a : Addr} {xs : List V} {ds : List D} : A a → H a = some (.lst xs) → ds.length ≤ sizeLine → RelDs K H A xs ds → RelD K H A (.ref a) (.list ds)
  | tup {a : Addr} {xs : List V} {ds : List D} : SqT K H a xs → ds.length ≤ sizeLine → RelDs K H A xs ds → RelD K H A (.ref a) (.tuple ds)
inductive RelDs (K : PySem.W.Frag) (H : Hp) (A : Addr → Prop) : List V → List D → Prop
  | nil : RelDs K H A [] []
  | cons {v : V} {vs : List V} {d : D} {ds : List D} : RelD K H A v d → RelDs K H A vs ds → RelDs K H A (v :: vs) (d :: ds)
end

/-- what is kept: the things that A allows, and all that is never written -/
def Kp (A : Addr → Prop) (H H' : Hp) : Prop := ∀ a o, H a = some o → (A a ∨ ¬ Mut (some o)) → H' a = some o
theorem rd_kp {A : Addr → Prop} {H H' : Hp} {a : Addr} {u : HO} (k : Kp A H H') (h : Rd H a u) (hA : A a ∨ ¬ Mut (some u)) : Rd H' a u := by
  rcases h with h | ⟨o, h⟩
  · exact .inl (k a _ h hA)
  · exact .inr ⟨o, k a _ h (.inr fun z => z)⟩
theorem sqT_kp {K : PySem.W.Frag} {A : Addr → Prop} {H H' : Hp} {a : Addr} {xs : List V} (k : Kp A H H') (h : SqT K H a xs) : SqT K H' a xs := by
  rcases sqT_two h with h | h
  · exact .inl (rd_kp k h (.inr fun z => z))
  · exact h.at
section
variable {K : PySem.W.Frag} {H H' : Hp} {A A' : Addr → Prop}
mutual
theorem RelD.tr (k : Kp A H H') (g : ∀ a, H a ≠ none → A a → A' a) : ∀ {v : V} {d : D}, RelD K H A v d → RelD K H' A' v d
  | _, _, .none => .none
  | _, _, .bool b => .bool b
  | _, _, .int i => .int i
  | _, _, .str x h => .str x h
  | _, _, .list hA hr hz hs => .list (g _ (by rw [hr]; simp) hA) (k _ _ hr (.inl hA)) hz (RelDs.tr k g hs)
  | _, _, .tup ht hz hs => .tup (sqT_kp k ht) hz (RelDs.tr k g hs)
theorem RelDs.tr (k : Kp A H H') (g : ∀ a, H a ≠ none → A a → A' a) : ∀ {vs : List V} {ds : List D}, RelDs K H A vs ds → RelDs K H' A' vs ds
  | _, _, .nil => .nil
  | _, _, .cons h hs => .cons (RelD.tr k g h) (RelDs.tr k g hs)
end
theorem RelD.mono (g : ∀ a, A a → A' a) {v : V} {d : D} (h : RelD K H A v d) : RelD K H A' v d := h.tr (fun _ _ e _ => e) fun a _ => g a
theorem RelDs.mono (g : ∀ a, A a → A' a) {v : List V} {d : List D} (h : RelDs K H A v d) : RelDs K H A' v d := h.tr (fun _ _ e _ => e) fun a _ => g a
theorem RelDs.length : ∀ {vs : List V} {ds : List D}, RelDs K H A vs ds → vs.length = ds.length
  | _, _, .nil => rfl
  | _, _, .cons _ hs => congrArg (· + 1) hs.length
theorem RelDs.get : ∀ {vs : List V} {ds : List D} {i : Nat} {d : D}, RelDs K H A vs ds → ds[i]? = some d → ∃ v, vs[i]? = some v ∧ RelD K H A v d
  | _, _, _, _, .nil, h => by simp at h
  | _, _, 0, _, .cons h _, e => by simp at e; subst e; exact ⟨_, rfl, h⟩
  | _, _, i + 1, _, .cons _ hs, e => by simpa using hs.get (i := i) (by simpa using e)
theorem RelDs.append : ∀ {vs ws : List V} {ds es : List D}, RelDs K H A vs ds → RelDs K H A ws es → RelDs K H A (vs ++ ws) (ds ++ es)
  | _, _, _, _, .nil, h => h
  | _, _, _, _, .cons h hs, h' => .cons h (hs.append h')
theorem RelDs.take : ∀ {vs : List V} {ds : List D} (n : Nat), RelDs K H A vs ds → RelDs K H A (vs.take n) (ds.take n)
  | _, _, 0, _ => .nil
  | _, _, _ + 1, .nil => .nil
  | _, _, n + 1, .cons h hs => .cons h (hs.take n)
theorem RelDs.drop : ∀ {vs : List V} {ds : List D} (n : Nat), RelDs K H A vs ds → RelDs K H A (vs.drop n) (ds.drop n)
  | _, _, 0, h => h
  | _, _, _ + 1, .nil => .nil
  | _, _, n + 1, .cons _ hs => hs.drop n
theorem RelDs.set {v : V} {d : D} (r : RelD K H A v d) : ∀ {vs : List V} {ds : List D} (n : Nat), RelDs K H A vs ds → RelDs K H A (vs.set n v) (ds.set n d)
  | _, _, _, .nil => .nil
  | _, _, 0, .cons _ hs => .cons r hs
  | _, _, n + 1, .cons h hs => .cons h (hs.set r n)
theorem RelDs.rep : ∀ (n : Nat) {vs : List V} {ds : List D}, RelDs K H A vs ds → RelDs K H A (List.replicate n vs).flatten (List.replicate n ds).flatten
  | 0, _, _, _ => .nil
  | n + 1, _, _, h => by
    rw [List.replicate_succ, List.replicate_succ, List.flatten_cons, List.flatten_cons]
    exact h.append (h.rep n)
theorem RelDs.rev : ∀ {vs : List V} {ds : List D}, RelDs K H A vs ds → RelDs K H A vs.reverse ds.reverse
  | _, _, .nil => .nil
  | _, _, .cons h hs => by rw [List.reverse_cons, List.reverse_cons]; exact hs.rev.append (.cons h .nil)
mutual
theorem RelD.dp : ∀ {v : V} {d : D}, RelD K H A v d → Dp K H v d
  | _, _, .none => .non
  | _, _, .bool b => .bl b
  | _, _, .int i => .int i
  | _, _, .str x _ => .str x
  | _, _, .list _ hr _ hs => .lst (SqL.of hr) (RelDs.dp hs)
  | _, _, .tup ht _ hs => .tup ht (RelDs.dp hs)
theorem RelDs.dp : ∀ {vs : List V} {ds : List D}, RelDs K H A vs ds → DpAll K H vs ds
  | _, _, .nil => .nil
  | _, _, .cons h hs => .cons (RelD.dp h) (RelDs.dp hs)
end
mutual
theorem RelD.noDict : ∀ {v : V} {d : D}, RelD K H A v d → d.hasDict = false
  | _, _, .none => rfl
  | _, _, .bool _ => rfl
  | _, _, .int _ => rfl
  | _, _, .str _ _ => rfl
  | _, _, .list _ _ _ hs => RelDs.noDict hs
  | _, _, .tup _ _ hs => RelDs.noDict hs
theorem RelDs.noDict : ∀ {vs : List V} {ds : List D}, RelDs K H A vs ds → PyData.hasDictAll ds = false
  | _, _, .nil => rfl
  | _, _, .cons h hs => by simp [PyData.hasDictAll, RelD.noDict h, RelDs.noDict hs]
end
end

def RoL (K : PySem.W.Frag) (H : Hp) (a : Addr) (xs : List V) : Prop := WrL K a xs ∨ ∃ o, H a = some (.frz o (.lst xs))
theorem RoL.sq {K : PySem.W.Frag} {H : Hp} {a : Addr} {xs : List V} (h : RoL K H a xs) : SqL K H a xs := by
  rcases h with h | h
  · exact h.at
  · exact .inl (.inr h)
def Spc (K : PySem.W.Frag) (H : Hp) (A : Addr → Prop) (v : V) : D → Prop
  | .dict kvs => (∃ ns a, PyData.dict kvs = scrD ns ∧ v = .ref a ∧ ns.length ≤ sizeLine ∧ RoL K H a (ns.map V.int)) ∨
    ∃ k fs a, PyData.dict kvs = excD k fs ∧ v = .ref a ∧ Known K k = true ∧ A a ∧ H a = some (ExH (.ref (excCl K k)) none a)
  | _ => False
/-- a value of any kind -/
def RelA (K : PySem.W.Frag) (H : Hp) (A : Addr → Prop) (v : V) (d : D) : Prop := RelD K H A v d ∨ Spc K H A v d
section
variable {K : PySem.W.Frag} {H H' : Hp} {A A' : Addr → Prop} {v : V} {d : D}
theorem Spc.notD (h : Spc K H A v d) : notD d = false := by cases d <;> first | rfl | exact h.elim
theorem Spc.tr (k : Kp A H H') (g : ∀ a, H a ≠ none → A a → A' a) (h : Spc K H A v d) : Spc K H' A' v d := by
  cases d with
  | dict kvs =>
    rcases h with ⟨ns, a, e, ev, hz, hr⟩ | ⟨j, fs, a, e, ev, hk, hA, hr⟩
    · refine .inl ⟨ns, a, e, ev, hz, ?_⟩
      rcases hr with hr | ⟨o, hr⟩
      · exact .inl hr
      · exact .inr ⟨o, k _ _ hr (.inr fun z => z)⟩
    · exact .inr ⟨j, fs, a, e, ev, hk, g _ (by rw [hr]; simp) hA, k _ _ hr (.inl hA)⟩
  | _ => exact h.elim
theorem RelA.tr (k : Kp A H H') (g : ∀ a, H a ≠ none → A a → A' a) (h : RelA K H A v d) : RelA K H' A' v d := by
  rcases h with h | h
  · exact .inl (h.tr k g)
  · exact .inr (h.tr k g)
theorem RelA.mono (g : ∀ a, A a → A' a) (h : RelA K H A v d) : RelA K H A' v d := h.tr (fun _ _ e _ => e) fun a _ => g a
theorem RelA.pl (h : RelA K H A v d) (n : Nm.notD d = true) : RelD K H A v d := by
  rcases h with h | h
  · exact h
  · rw [h.notD] at n; cases n
theorem RelD.notD (h : RelD K H A v d) : Nm.notD d = true := by cases h <;> rfl
end

/-- the top list of an owned thing -/
def Top (K : PySem.W.Frag) (H : Hp) (A : Addr → Prop) (a : Addr) : D → Prop
  | .list ds => ∃ xs, H a = some (.lst xs) ∧ ds.length ≤ sizeLine ∧ RelDs K H A xs ds
  | _ => False
abbrev isSh (c : Clr) : Addr → Prop := fun a => c a = .sh
/-- a value: shared -/
abbrev RelS (K : PySem.W.Frag) (H : Hp) (c : Clr) (v : V) (d : D) : Prop := RelA K H (isSh c) v d
def SlR (K : PySem.W.Frag) (H : Hp) (c : Clr) (i : Nat) (v : V) : Sv → Prop
  | ⟨false, d⟩ => RelS K H c v d
  | ⟨true, d⟩ => ∃ a, v = .ref a ∧ c a = .sl i ∧ Top K H (isSh c) a d
structure StR (K : PySem.W.Frag) (H : Hp) (c : Clr) (e : En) (σ : St) : Prop where
  len : e.length = σ.length
  at_ : ∀ i s, e[i]? = some (some s) → ∃ v, σ[i]? = some (some v) ∧ SlR K H c i v s
/-- a result; H0: the heap ahead of it -/
def RR (K : PySem.W.Frag) (H0 H : Hp) (c : Clr) (σ : St) (v : V) : Res → Prop
  | .v false d => RelS K H c v d
  | .v true d => ∃ a, v = .ref a ∧ c a = .tmp ∧ H0 a = none ∧ Top K H (isSh c) a d
  | .p i => σ[i]? = some (some v)
structure Fm (c : Clr) (H : Hp) (c' : Clr) (H' : Hp) : Prop where
  keep : ∀ a o, H a = some o → (∀ i, c a ≠ .sl i) → H' a = some o
  keepI : ∀ a o, H a = some o → ¬ Mut (some o) → H' a = some o
  there : ∀ a, H a ≠ none → H' a ≠ none
  col : ∀ a, H a ≠ none → c' a = c a ∨ (∃ i, c a = .sl i ∧ c' a = .sh)
theorem Fm.refl {c : Clr} {H : Hp} : Fm c H c H := ⟨fun _ _ h _ => h, fun _ _ h _ => h, fun _ h => h, fun _ _ => .inl rfl⟩
theorem Fm.trans {c c1 c2 : Clr} {H H1 H2 : Hp} (f : Fm c H c1 H1) (g : Fm c1 H1 c2 H2) : Fm c H c2 H2 where
  keep := fun a o h n => by
    refine g.keep a o (f.keep a o h n) fun i e => ?_
    rcases f.col a (by rw [h]; simp) with q | ⟨j, q, _⟩
    · exact n i (q ▸ e)
    · exact n j q
  keepI := fun a o h n => g.keepI a o (f.keepI a o h n) n
  there := fun a h => g.there a (f.there a h)
  col := fun a h => by
    rcases f.col a h with q | ⟨j, q, q'⟩
    · rcases g.col a (f.there a h) with z | ⟨i, z, z'⟩
      · exact .inl (z.trans q)
      · exact .inr ⟨i, q ▸ z, z'⟩
    · rcases g.col a (f.there a h) with z | ⟨i, z, z'⟩
      · exact .inr ⟨j, q, z.trans q'⟩
      · rw [q'] at z; cases z
theorem Fm.free {c c' : Clr} {H H' : Hp} (f : Fm c H c' H') {a : Addr} (h : H' a = none) : H a = none := by
  cases e : H a with
  | none => rfl
  | some o => exact absurd h (f.there a (by rw [e]; simp))
theorem Fm.kp {c c' : Clr} {H H' : Hp} (f : Fm c H c' H') : Kp (isSh c) H H' := fun a o h n => by
  rcases n with n | n
  · exact f.keep a o h fun i e => by rw [show c a = .sh from n] at e; cases e
  · exact f.keepI a o h n
theorem Fm.sh {c c' : Clr} {H H' : Hp} (f : Fm c H c' H') {a : Addr} (h : H a ≠ Option.none) (e : c a = .sh) : c' a = .sh := by
  rcases f.col a h with q | ⟨i, q, q'⟩
  · exact q.trans e
  · exact q'
section
variable {K : PySem.W.Frag} {H H' : Hp} {c c' : Clr} {v : V} {d : D} {vs : List V} {ds : List D} {e : En} {σ : St}
theorem RelA.fm (f : Fm c H c' H') (h : RelS K H c v d) : RelS K H' c' v d := h.tr f.kp fun a n e => f.sh n e
theorem RelDs.fm (f : Fm c H c' H') (h : RelDs K H (isSh c) vs ds) : RelDs K H' (isSh c') vs ds := h.tr f.kp fun a n e => f.sh n e
/-- an owned thing whose address is not touched -/
theorem Top.fm (f : Fm c H c' H') {a : Addr} (k : ∀ o, H a = some o → H' a = some o) (h : Top K H (isSh c) a d) : Top K H' (isSh c') a d := by
  cases d with
  | list ds => obtain ⟨xs, h1, hz, h2⟩ := h; exact ⟨xs, k _ h1, hz, h2.fm f⟩
  | _ => exact h
theorem Top.some {A : Addr → Prop} {a : Addr} (h : Top K H A a d) : ∃ o, H a = some o := by
  cases d with
  | list ds => obtain ⟨xs, h1, _⟩ := h; exact ⟨_, h1⟩
  | _ => exact h.elim
theorem RR.fm {H0 : Hp} {r : Res} (f : Fm c H c' H') (h : RR K H0 H c σ v r) : RR K H0 H' c' σ v r := by
  match r, h with
  | .v false d, h => exact RelA.fm f h
  | .v true d, ⟨a, e1, e2, e3, h⟩ =>
    obtain ⟨o, ho⟩ := h.some
    refine ⟨a, e1, ?_, e3, h.fm f fun o ho => f.keep a o ho fun i z => by rw [e2] at z; cases z⟩
    rcases f.col a (by rw [ho]; simp) with q | ⟨i, q, _⟩
    · exact q.trans e2
    · rw [e2] at q; cases q
  | .p i, h => exact h
/-- nothing of the slots' own is touched -/
def Quiet (c : Clr) (H : Hp) (c' : Clr) (H' : Hp) : Prop := ∀ a i, H a ≠ none → c a = .sl i → c' a = .sl i ∧ H' a = H a
theorem StR.fm (f : Fm c H c' H') (q : Quiet c H c' H') (s : StR K H c e σ) : StR K H' c' e σ := ⟨s.len, fun i x hx => by
  obtain ⟨v, hv, h⟩ := s.at_ i x hx
  refine ⟨v, hv, ?_⟩
  match x, h with
  | ⟨false, d⟩, h => exact RelA.fm f h
  | ⟨true, d⟩, ⟨a, e1, e2, h⟩ =>
    obtain ⟨o, ho⟩ := h.some
    obtain ⟨q1, q2⟩ := q a i (by rw [ho]; simp) e2
    exact ⟨a, e1, q1, h.fm f fun o ho => q2.trans ho⟩⟩
/-- read what a result stands for -/
theorem StR.fetch {H0 : Hp} {r : Res} (s : StR K H c e σ) (h : RR K H0 H c σ v r) (hf : fetch e r = .ok d) : RelA K H (fun _ => True) v d := by
  match r, h with
  | .v false d', h => cases hf; exact h.mono fun _ _ => trivial
  | .v true d', ⟨a, e1, e2, _, h⟩ =>
    cases hf
    subst e1
    cases d with
    | list ds => obtain ⟨xs, h1, hz, h2⟩ := h; exact .inl (.list trivial h1 hz (h2.mono fun _ _ => trivial))
    | _ => exact h.elim
  | .p i, h =>
    have h : σ[i]? = some (some v) := h
    have hf : (match e[i]? with | some (some s) => R.ok s.d | _ => R.no) = R.ok d := hf
    cases hs : e[i]? with
    | none => rw [hs] at hf; cases hf
    | some o =>
      cases o with
      | none => rw [hs] at hf; cases hf
      | some s' =>
        rw [hs] at hf
        injection hf with hf
        subst hf
        obtain ⟨w, hw, h'⟩ := s.at_ i s' hs
        rw [h] at hw; cases hw
        match s', h' with
        | ⟨false, d⟩, h' => exact h'.mono fun _ _ => trivial
        | ⟨true, d⟩, ⟨a, e1, e2, h'⟩ =>
          subst e1
          cases d with
          | list ds => obtain ⟨xs, h1, hz, h2⟩ := h'; exact .inl (.list trivial h1 hz (h2.mono fun _ _ => trivial))
          | _ => exact h'.elim
end
end Nm
set_option Elab.async false
set_option maxRecDepth 100000
set_option linter.all false
/-! What ties our syntax to the text: a check that the kernel runs for each def. -/
namespace Nm
open PySem L2

/-- where one stands: the slots' names, the scope, which captured names are made here -/
structure Info where
  N : List Str
  sc : Scope
  fn : Str → Bool
/-- the module: functions, constants, built-in names, exceptions -/
structure Gi where
  fns : List (Str × Nat)
  csts : List (Str × D)
  blt : List Str
  excs : List (Str × Nat)
  fields : List (Nat × Str)

def Info.vis (I : Info) (x : Str) : Bool := I.sc.names.lookup x == some .local || I.sc.names.lookup x == some .cell || I.sc.names.lookup x == some .free
def Info.glb (I : Info) (x : Str) : Bool := I.sc.names.lookup x == some .globalImplicit
def Info.sto (I : Info) (x : Str) : Bool := I.sc.names.lookup x == some .local || (I.sc.names.lookup x == some .cell && I.fn x)
def Info.slot (I : Info) (i : Nat) (x : Str) : Bool := decide (I.N[i]? = some x) && I.vis x && !(x == ("__debug__" : Str)) && !(x == ("__classdict__" : Str))
def Info.tslot (I : Info) (i : Nat) (x : Str) : Bool := decide (I.N[i]? = some x) && I.sto x
/-- a plain value, as it lies in the module -/
def cv : D → Option V
  | .int i => some (.int i)
  | .str x => if x.length ≤ 100000 then some (.str x) else none
  | _ => none
def cvEq : D → D → Bool
  | .int i, .int j => decide (i = j)
  | .str x, .str y => decide (x = y)
  | _, _ => false
def Gi.isC (G : Gi) (x : Str) (d : D) : Bool := G.csts.any fun p => decide (p.1 = x) && cvEq p.2 d && (cv d).isSome
/-- a built-in's name -/
def Gi.bn (G : Gi) (I : Info) (x y : Str) : Bool := decide (x = y) && I.glb y && G.blt.contains y && !(y == ("__debug__" : Str)) && !(y == ("__name__" : Str))

def cstIs : D → Const → Bool
  | .none, .none => true
  | .bool b, .bool c => b == c
  | .int i, .int j => i == j
  | .str x, .str y => decide (x = y) && decide (x.length ≤ 100000)
  | _, _ => false
def bopIs : BOp → Operator → Bool
  | .add, .Add => true
  | .sub, .Sub => true
  | .mul, .Mult => true
  | .fdiv, .FloorDiv => true
  | .mod, .Mod => true
  | .pow, .Pow => true
  | .shl, .LShift => true
  | .band, .BitAnd => true
  | _, _ => false
def copIs : COp → CmpOp → Bool
  | .eq, .Eq => true
  | .ne, .NotEq => true
  | .lt, .Lt => true
  | .le, .LtE => true
  | .gt, .Gt => true
  | .ge, .GtE => true
  | .isin, .In => true
  | .notin, .NotIn => true
  | .is_, .Is => true
  | .isnot, .IsNot => true
  | _, _ => false
def tyIs (G : Gi) (I : Info) : Ty → Expr → Bool
  | .int, .Name x _ => G.bn I x "int"
  | .bool, .Name x _ => G.bn I x "bool"
  | .str, .Name x _ => G.bn I x "str"
  | .tuple, .Name x _ => G.bn I x "tuple"
  | .list, .Name x _ => G.bn I x "list"
  | .seq, .Tuple [.Name x _, .Name y _] _ _ => G.bn I x "list" && G.bn I y "tuple"
  | .exc k, .Name x _ => (decide (k = 100) && G.bn I x "ValueError") || (decide (k ≠ 100) && G.excs.contains (x, k) && I.glb x && !(x == ("__debug__" : Str)))
  | _, _ => false
def biName : Bi → Str
  | .abs => "abs" | .all => "all" | .any => "any" | .int => "int" | .len => "len" | .list => "list" | .max => "max" | .min => "min" | .max2 => "max" | .min2 => "min"
  | .repr => "repr" | .str => "str" | .sum => "sum" | .tuple => "tuple" | .sorted => "sorted" | .minlen => "min"
def biArity : Bi → Nat
  | .max2 | .min2 => 2
  | _ => 1
/-- no star stands there -/
def plainArg : Expr → Bool
  | .Starred _ _ => false
  | _ => true
/-- no slice, no set display: what a rule asks of a subscript, of what is walked -/
def notSlice : Expr → Bool
  | .Slice _ _ _ _ => false
  | _ => true
def notSet : Expr → Bool
  | .Set _ _ _ => false
  | _ => true
mutual
def chkT (I : Info) : Tg → Expr → Bool
  | .nm i, .Name x _ => I.tslot i x
  | .tp ts, .Tuple es _ _ => chkTs I ts es && es.all plainArg && decide (ts.length ≤ 100)
  | _, _ => false
def chkTs (I : Info) : List Tg → List Expr → Bool
  | [], [] => true
  | t :: ts, e :: es => chkT I t e && chkTs I ts es
  | _, _ => false
end
def ownP (N : List Str) (own : List Nat) : List (Str × Nat) := own.map fun i => (N.getD i "", i)
def blkI (I : Info) (scope : Scope) : Info := ⟨I.N, relS scope I.sc, fun x => scope.names.lookup x == some .cell⟩

def seqName (l : Bool) : Str := if l = true then "list" else "tuple"
mutual
def tgNames : Tg → List Nat
  | .nm i => [i]
  | .tp ts => tgsNames ts
def tgsNames : List Tg → List Nat
  | [] => []
  | t :: ts => tgNames t ++ tgsNames ts
end
def chkG2 (f : Expr → Expr → Expr → Expr → List Expr → Bool) : List Comprehension → Bool
  | [⟨et, ei, [], 0⟩, ⟨et1, ei1, ec, 0⟩] => f et ei et1 ei1 ec
  | _ => false
theorem chkG2_of {f : Expr → Expr → Expr → Expr → List Expr → Bool} {gs : List Comprehension} (h : chkG2 f gs = true) : ∃ et ei et1 ei1 ec, gs = [⟨et, ei, [], 0⟩, ⟨et1, ei1, ec, 0⟩] ∧ f et ei et1 ei1 ec = true := by
  unfold chkG2 at h
  split at h
  · exact ⟨_, _, _, _, _, rfl, h⟩
  · cases h
def chkRg1 (f : Str → Expr → Bool) : Expr → Bool
  | .Call (.Name x _) [ea] [] _ => f x ea
  | _ => false
theorem chkRg1_of {f : Str → Expr → Bool} {e : Expr} (h : chkRg1 f e = true) : ∃ x p ea pos, e = .Call (.Name x p) [ea] [] pos ∧ f x ea = true := by
  unfold chkRg1 at h
  split at h
  · exact ⟨_, _, _, _, rfl, h⟩
  · cases h
def chkRg2 (f : Str → Expr → Expr → Bool) : Expr → Bool
  | .Call (.Name x _) [ea, eb] [] _ => f x ea eb
  | _ => false
theorem chkRg2_of {f : Str → Expr → Expr → Bool} {e : Expr} (h : chkRg2 f e = true) : ∃ x p ea eb pos, e = .Call (.Name x p) [ea, eb] [] pos ∧ f x ea eb = true := by
  unfold chkRg2 at h
  split at h
  · exact ⟨_, _, _, _, _, rfl, h⟩
  · cases h
/-- o.m(x) -/
def mthE? (f : Expr → Str → Expr → Bool) : Expr → Bool
  | .Call (.Attribute (.Name n p) m pa) [ex] [] pc => f (.Name n p) m ex && plainArg ex && pa.endLine == pc.line
  | _ => false
theorem mthE_of {f : Expr → Str → Expr → Bool} {e : Expr} (h : mthE? f e = true) : ∃ n p m pa ex pc, e = .Call (.Attribute (.Name n p) m pa) [ex] [] pc ∧ f (.Name n p) m ex = true ∧ plainArg ex = true ∧ (pa.endLine == pc.line) = true := by
  unfold mthE? at h
  split at h
  · simp only [Bool.and_eq_true] at h
    exact ⟨_, _, _, _, _, _, rfl, h.1.1, h.1.2, h.2⟩
  · cases h
/-- backwards: [::-1] -/
def revE? (f : Expr → Bool) : Expr → Bool
  | .Subscript ea (.Slice none none (some (.UnaryOp .USub (.Constant (.int 1) _ _) _)) _) _ => f ea
  | _ => false
theorem revE_of {f : Expr → Bool} {e : Expr} (h : revE? f e = true) : ∃ ea k p1 p2 p3 p4, e = .Subscript ea (.Slice none none (some (.UnaryOp .USub (.Constant (.int 1) k p1) p2)) p3) p4 ∧ f ea = true := by
  unfold revE? at h
  split at h
  · exact ⟨_, _, _, _, _, _, rfl, h⟩
  · cases h
section
variable (G : Gi)
mutual
def chkE : Ex → Info → Expr → Bool
  | .cst d, I, .Constant c _ _ => cstIs d c
  | .cst d, I, .Name x _ => G.isC x d && I.glb x && !(x == ("__debug__" : Str))
  | .var i, I, .Name x _ => I.slot i x
  | .bin o a b, I, .BinOp ea op eb _ => bopIs o op && chkE a I ea && chkE b I eb
  | .neg a, I, .UnaryOp .USub ea _ => chkE a I ea
  | .not_ a, I, .UnaryOp .Not ea _ => chkE a I ea
  | .and_ a b, I, .BoolOp .And (ea :: eb :: r) pos => chkE a I ea && (match r with | [] => chkE b I eb | _ :: _ => chkE b I (.BoolOp .And (eb :: r) pos))
  | .or_ a b, I, .BoolOp .Or (ea :: eb :: r) pos => chkE a I ea && (match r with | [] => chkE b I eb | _ :: _ => chkE b I (.BoolOp .Or (eb :: r) pos))
  | .cmp o a b, I, .Compare ea [op] [eb] _ => copIs o op && chkE a I ea && chkE b I eb && notSet eb
  | .chn o o' a b c, I, .Compare ea [op, op'] [eb, ec] _ => copIs o op && copIs o' op' && chkE a I ea && chkE b I eb && chkE c I ec && notSet eb && notSet ec
  | .ite c a b, I, .IfExp ec ea eb _ => chkE c I ec && chkE a I ea && chkE b I eb
  | .tup es, I, .Tuple l _ _ => chkEs es I l && decide (l.length ≤ 1000)
  | .lst es, I, .List l _ => chkEs es I l && decide (l.length ≤ 1000)
  | .tupS es r, I, .Tuple l _ _ => chkEsS es (fun e => chkE r I e) I l && decide (l.length ≤ 1000)
  | .lstS es r, I, .List l _ => chkEsS es (fun e => chkE r I e) I l && decide (l.length ≤ 1000)
  | .rev a, I, e => revE? (fun ea => chkE a I ea) e
  | .mth m a (.cons x .nil), I, e => mthE? (fun eo nm ex => (m == .count && nm == ("count" : Str) || m == .index && nm == ("index" : Str)) && chkE a I eo && chkE x I ex) e
  | .comp el tg it cs own, I, .ListComp ee [⟨et, ei, ec, k⟩] scope _ =>
    let J := blkI I scope
    blkC I.N I.sc scope (ownP I.N own) && notSet ei && chkI it tg I et ei && chkT J tg et && chkE el J ee && chkEs cs J ec && decide (ec.length ≤ 1) && (tgNames tg).all own.contains && own.all (fun i => decide (i < I.N.length)) && decide (k = 0)
  | .comp2 el tg it tg1 it1 cs own own1, I, .ListComp ee gs scope _ =>
    chkG2 (fun et ei et1 ei1 ec => blkC I.N I.sc scope (ownP I.N own) && notSet ei && notSet ei1 && chkI it tg I et ei && chkT (blkI I scope) tg et && chkT (blkI I scope) tg1 et1 && chkI it1 tg1 (blkI I scope) et1 ei1 && chkE el (blkI I scope) ee && chkEs cs (blkI I scope) ec && decide (ec.length ≤ 1) && (tgNames tg).all own.contains && (tgNames tg1).all own1.contains && own1.all own.contains && own.all (fun i => decide (i < I.N.length))) gs
  | .mk l (.rng (.cons a .nil)), I, .Call (.Name y _) [e] [] _ => G.bn I y (seqName l) && chkRg1 (fun x ea => G.bn I x "range" && plainArg ea && chkE a I ea) e
  | .mk l (.rng (.cons a (.cons b .nil))), I, .Call (.Name y _) [e] [] _ => G.bn I y (seqName l) && chkRg2 (fun x ea eb => G.bn I x "range" && plainArg ea && plainArg eb && chkE a I ea && chkE b I eb) e
  | .call f es, I, .Call (.Name x _) l [] _ => G.fns.contains (x, f) && I.glb x && !(x == ("__debug__" : Str)) && chkEs es I l
  | .bi b es, I, .Call (.Name x _) l [] _ => G.bn I x (biName b) && chkEs es I l && decide (l.length = biArity b)
  | .ix a i, I, .Subscript ea ei _ => chkE a I ea && chkE i I ei && notSlice ei
  | .sl a lo hi, I, .Subscript ea (.Slice elo ehi none _) _ => chkE a I ea && chkO lo I elo && chkO hi I ehi
  | .isi a t, I, .Call (.Name x _) [ea, et] [] _ => G.bn I x "isinstance" && chkE a I ea && tyIs G I t et && plainArg ea
  | _, _, _ => false
termination_by structural x => x
def chkEs : Exs → Info → List Expr → Bool
  | .nil, I, [] => true
  | .cons x xs, I, e :: es => chkE x I e && plainArg e && chkEs xs I es
  | _, _, _ => false
def chkEsS : Exs → (Expr → Bool) → Info → List Expr → Bool
  | .nil, f, I, [.Starred e _] => f e
  | .cons x xs, f, I, e :: es => chkE x I e && plainArg e && chkEsS xs f I es
  | _, _, _, _ => false
def chkO : ExO → Info → Option Expr → Bool
  | .none, I, none => true
  | .some x, I, some e => chkE x I e
  | _, _, _ => false
def chkI : Wk → Tg → Info → Expr → Expr → Bool
  | .seq x, _, I, _, e => chkE x I e
  | .rng es, _, I, _, .Call (.Name x _) l [] _ => G.bn I x "range" && chkEs es I l && decide (l.length ≤ 2)
  | .enum x k, _, I, .Tuple _ _ _, .Call (.Name y _) [a] [] _ => G.bn I y "enumerate" && chkE x I a && decide (k = 0) && plainArg a
  | .zip es, _, I, .Tuple _ _ _, .Call (.Name y _) l [] _ => G.bn I y "zip" && chkEs es I l && (decide (l.length = 2) || decide (l.length = 3))
  | _, _, _, _, _ => false
end
end
end Nm
set_option Elab.async false
set_option maxRecDepth 100000
set_option linter.all false
namespace Nm
open PySem L2

theorem _root_.L2.PE.wk {X : Cx} {e : Expr} {t t' : TE} (h : PE X e t) (w : ∀ σ H Q, t' σ H Q → t σ H Q) : PE X e t' := ⟨fun pins s σ H Q I q => h.run pins s σ H Q I (w σ H Q q)⟩
theorem _root_.L2.PT.wk {X : Cx} {e : Expr} {t t' : TT} (h : PT X e t) (w : ∀ σ H Q, t' σ H Q → t σ H Q) : PT X e t' := ⟨fun pins s σ H Q I q => h.run pins s σ H Q I (w σ H Q q)⟩
theorem _root_.L2.PA.wk {X : Cx} {e : List Expr} {t t' : TA} (h : PA X e t) (w : ∀ σ H Q, t' σ H Q → t σ H Q) : PA X e t' := ⟨fun pos pins s σ H Q I q => h.run pos pins s σ H Q I (w σ H Q q)⟩
theorem _root_.L2.PO.wk {X : Cx} {e : Option Expr} {t t' : TO} (h : PO X e t) (w : ∀ σ H Q, t' σ H Q → t σ H Q) : PO X e t' := ⟨fun pins s σ H Q I q => h.run pins s σ H Q I (w σ H Q q)⟩
theorem _root_.L2.PI.wk {X : Cx} {tg e : Expr} {t t' : TI} (h : PI X tg e t) (w : ∀ σ H Q, t' σ H Q → t σ H Q) : PI X tg e t' := ⟨fun pins s σ H Q I q => h.run pins s σ H Q I (w σ H Q q)⟩
theorem _root_.L2.PTs.wk {X : Cx} {e : List Expr} {t t' : TT} (h : PTs X e t) (w : ∀ σ H Q, t' σ H Q → t σ H Q) : PTs X e t' := ⟨fun pins s σ H Q I q => h.run pins s σ H Q I (w σ H Q q)⟩
theorem _root_.L2.PG.wk {X : Cx} {e : Expr} {t t' : TG} (h : PG X e t) (w : ∀ v σ H Q, t' v σ H Q → t v σ H Q) : PG X e t' := ⟨fun pins s σ H v u Q I r q => h.run pins s σ H v u Q I r (w v σ H Q q)⟩
theorem _root_.L2.PS.wk {X : Cx} {e : Stmt} {t t' : TS} (h : PS X e t) (w : ∀ D σ H, t' D σ H → t D σ H) : PS X e t' := ⟨fun pins s σ H D I q => h.run pins s σ H D I (w D σ H q)⟩
theorem _root_.L2.PSs.wk {X : Cx} {e : List Stmt} {t t' : TS} (h : PSs X e t) (w : ∀ D σ H, t' D σ H → t D σ H) : PSs X e t' := ⟨fun pins s σ H D I q => h.run pins s σ H D I (w D σ H q)⟩

/-- a def's promise where no repr is going on around -/
structure FnG (P : Program) (w : World) (K : PySem.W.Frag) (mg : Str → Option Value) (base : Heap) (k : Nat) (f : Addr) (fd : FuncData) (ps : List Str) (sp : Sp) : Prop where
  len : ∀ vs H Q E, sp vs H Q E → vs.length = ps.length
  run : ∀ (A : Around) (outer : List Env) (s : Shared) (H : Hp) (args : Args) (us : List Value) (vs : List V) (Q : VK) (E : XK),
    Room k A → A.guards = some [] → Env0 P w K mg base A outer s H → BindsTo s fd args (ps.zip us) → Vals vs us → sp vs H Q E →
    codeAny (model P w) A (.call (.ref f) args) (CR (L2.CX P w) outer P w H s Q E) s

section
variable {X : Cx} {k : Nat} {f : Addr} {fd : FuncData} {ps : List Str} {sp : Sp} {W : WX} {x : Str} {p pos : Pos} {e : Expr} {es : List Expr} {t : TA}
theorem run_fnG {pins : List (Addr × Obj)} {σ : St} {H : Hp} {s : Shared} {Q : VK} {us : List Value} {vs : List V} (F : FnG X.prog X.w X.K X.mg X.base k f fd ps sp) (hr : Room k X.A) (hg : X.A.guards = some [])
    (hb : Binds X.K fd ps []) (tk : Takes X W) (I : Inv X pins σ H s) (r : Vals vs us) (h : sp vs H Q fun cls d H' => W cls d σ H') :
    wpAny (model X.prog X.w) X.A (call (.ref f) us) (EP X pins σ Q) X.xe s := by
  have hl : (us ++ []).length = ps.length := by rw [List.append_nil, ← r.length]; exact F.len _ _ _ _ h
  have hb' := hb s us I.kIn hl
  rw [List.append_nil] at hb'
  refine wpAny_call (codeAny_mono (F.run X.A X.stack s H _ us vs Q _ hr hg I.env0 hb' r h) ?_)
  intro o s' ho
  match o, ho with
  | .error u, ho => exact tk _ _ (XE.of_call I (fun _ _ _ z => z) ho)
  | .ok (.ret u), ho => exact I.after ho
  | .ok .next, ho => exact ho.elim
  | .ok .brk, ho => exact ho.elim
  | .ok .cont, ho => exact ho.elim
/-- f(..), what is raised wished for at the caller's slots -/
def tCallG (sp : Sp) (W : WX) (t : TA) : TE := fun σ H Q => t σ H fun vs H1 => sp vs H1 Q fun cls d H' => W cls d σ H'
theorem pe_callG (F : FnG X.prog X.w X.K X.mg X.base k f fd ps sp) (hr : Room k X.A) (hgd : X.A.guards = some []) (hg : Gl X x) (hm : X.mg x = some (.ref f)) (hk : PySem.W.keepIn X.K (.ref f) = true)
    (hb : Binds X.K fd ps []) (tk : Takes X W) (ha : PA X (e :: es) t) (hdb : (x == ("__debug__" : Str)) = false)
    (he : starEach (e :: es) X.env = (false, eval e X.env) :: starEach es X.env) (hpl : (backTo pos (starEach es X.env)).any (·.1) = false) : PE X (.Call (.Name x p) (e :: es) [] pos) (tCallG sp W t) :=
  ⟨fun pins s σ H Q I h => wpAny_Call_Name_kw (ld_glob I hg hm (PySem.W.callWith_K (h₀ := X.base) I.ok.mod.kin hk
    (thn (ha.run pos pins s σ H _ I h) fun us s1 ⟨vs, H1, I1, r, q⟩ => ⟨I1.kIn, run_fnG F hr hgd hb tk I1 r q⟩) he hpl) hdb)⟩
theorem pe_callG0 (F : FnG X.prog X.w X.K X.mg X.base k f fd ps sp) (hr : Room k X.A) (hgd : X.A.guards = some []) (hg : Gl X x) (hm : X.mg x = some (.ref f)) (hk : PySem.W.keepIn X.K (.ref f) = true)
    (hb : Binds X.K fd ps []) (tk : Takes X W) (hdb : (x == ("__debug__" : Str)) = false) : PE X (.Call (.Name x p) [] [] pos) (tCallG sp W tNil) :=
  ⟨fun pins s σ H Q I h => wpAny_Call_Name_kw (ld_glob I hg hm (PySem.W.callWith_K0 I.kIn hk (run_fnG (us := []) F hr hgd hb tk I .nil h)) hdb)⟩
end
end Nm
set_option Elab.async false
set_option maxRecDepth 100000
set_option linter.all false
/-! Settling results: colours shift, slots freeze. -/
namespace Nm
open PySem L2
variable {K : PySem.W.Frag} {H H0 H' : Hp} {c c0 c' : Clr} {v : V} {d : D} {vs : List V} {ds : List D} {e e' : En} {σ : L2.St}

/-- colours only shift to sh -/
def Shf (c c' : Clr) : Prop := ∀ a, c' a = c a ∨ ((c a = .tmp ∨ ∃ i, c a = .sl i) ∧ c' a = .sh)
theorem Shf.refl : Shf c c := fun _ => .inl rfl
theorem Shf.trans {c1 c2 : Clr} (f : Shf c c1) (g : Shf c1 c2) : Shf c c2 := fun a => by
  rcases f a with q | ⟨q, q'⟩
  · rcases g a with z | ⟨z, z'⟩
    · exact .inl (z.trans q)
    · exact .inr ⟨q ▸ z, z'⟩
  · rcases g a with z | ⟨z, z'⟩
    · exact .inr ⟨q, z.trans q'⟩
    · exact .inr ⟨q, z'⟩
theorem Shf.sh (f : Shf c c') {a : Addr} (h : c a = .sh) : c' a = .sh := by
  rcases f a with q | ⟨_, q⟩
  · exact q.trans h
  · exact q
theorem Shf.rel (f : Shf c c') (h : RelS K H c v d) : RelS K H c' v d := h.mono fun _ e => f.sh e
theorem Shf.rels (f : Shf c c') (h : RelDs K H (isSh c) vs ds) : RelDs K H (isSh c') vs ds := h.mono fun _ e => f.sh e
theorem Shf.top (f : Shf c c') {a : Addr} (h : Top K H (isSh c) a d) : Top K H (isSh c') a d := by
  cases d with
  | list ds => obtain ⟨xs, h1, hz, h2⟩ := h; exact ⟨xs, h1, hz, f.rels h2⟩
  | _ => exact h
/-- an owned thing, given away -/
theorem Top.give {a : Addr} (h : Top K H (isSh c) a d) (e : c a = .sh) : RelS K H c (.ref a) d := by
  cases d with
  | list ds => obtain ⟨xs, h1, hz, h2⟩ := h; exact .inl (.list e h1 hz h2)
  | _ => exact h.elim
/-- a result that waits to be settled (owned ones may be given away already) -/
def RW (K : PySem.W.Frag) (H0 H : Hp) (c : Clr) (σ : L2.St) (v : V) : Res → Prop
  | .v false d => RelS K H c v d
  | .v true d => ∃ a, v = .ref a ∧ (c a = .tmp ∨ c a = .sh) ∧ H0 a = none ∧ Top K H (isSh c) a d
  | .p i => σ[i]? = some (some v)
theorem RR.rw_ {r : Res} (h : RR K H0 H c σ v r) : RW K H0 H c σ v r := by
  match r, h with
  | .v false d, h => exact h
  | .v true d, ⟨a, e1, e2, e3, h⟩ => exact ⟨a, e1, .inl e2, e3, h⟩
  | .p i, h => exact h
theorem RW.shf (f : Shf c c') {r : Res} (h : RW K H0 H c σ v r) : RW K H0 H c' σ v r := by
  match r, h with
  | .v false d, h => exact f.rel h
  | .v true d, ⟨a, e1, e2, e3, h⟩ =>
    refine ⟨a, e1, ?_, e3, f.top h⟩
    rcases f a with q | ⟨_, q⟩
    · rw [q]; exact e2
    · exact .inr q
  | .p i, h => exact h
abbrev cset (c : Clr) (p : Addr) (k : Col) : Clr := fun a => if a = p then k else c a
theorem cset_at {p : Addr} {k : Col} : cset c p k p = k := if_pos rfl
theorem cset_ne {p a : Addr} {k : Col} (h : a ≠ p) : cset c p k a = c a := if_neg h
theorem shf_cset {p : Addr} (h : c p = .tmp ∨ c p = .sh ∨ ∃ i, c p = .sl i) : Shf c (cset c p .sh) := fun a => by
  by_cases e : a = p
  · subst e
    rw [cset_at]
    rcases h with h | h | h
    · exact .inr ⟨.inl h, rfl⟩
    · exact .inl h.symm
    · exact .inr ⟨.inr h, rfl⟩
  · exact .inl (cset_ne e)
/-- slots stand while no colour of theirs shifts -/
theorem StR.shf (f : Shf c c') (k : ∀ a i, c a = .sl i → c' a = .sl i) (s : StR K H c e σ) : StR K H c' e σ := ⟨s.len, fun i x hx => by
  obtain ⟨v, hv, h⟩ := s.at_ i x hx
  refine ⟨v, hv, ?_⟩
  match x, h with
  | ⟨false, d⟩, h => exact f.rel h
  | ⟨true, d⟩, ⟨a, e1, e2, h⟩ => exact ⟨a, e1, k a i e2, f.top h⟩⟩
theorem getD_some {e : En} {i : Nat} {s : Sv} (h : e.getD i none = some s) : e[i]? = some (some s) := by
  rw [List.getD_eq_getElem?_getD] at h
  cases q : e[i]? with
  | none => rw [q] at h; cases h
  | some o => rw [q] at h; exact congrArg some h
theorem getD_of {e : En} {i : Nat} {s : Sv} (h : e[i]? = some (some s)) : e.getD i none = some s := by
  rw [List.getD_eq_getElem?_getD, h]; rfl
/-- slot i freezes -/
theorem StR.freeze (s : StR K H c e σ) {i : Nat} {x : Sv} (hx : e[i]? = some (some x)) (f0 : Fm c0 H0 c H) :
    ∃ c', StR K H c' (e.set i (some ⟨false, x.d⟩)) σ ∧ Shf c c' ∧ Fm c0 H0 c' H ∧ (∀ v, σ[i]? = some (some v) → RelS K H c' v x.d) ∧ (∀ a j, c a = .sl j → j ≠ i → c' a = .sl j) ∧ (∀ a, c a = .tmp → c' a = .tmp) := by
  obtain ⟨v, hv, h⟩ := s.at_ i x hx
  have hi : i < e.length := (List.getElem?_eq_some_iff.mp hx).1
  match x, h with
  | ⟨false, d⟩, h =>
    refine ⟨c, ?_, .refl, f0, fun w hw => by rw [hv] at hw; cases hw; exact h, fun _ _ h _ => h, fun _ h => h⟩
    have he : e.set i (some ⟨false, d⟩) = e := by
      refine List.ext_getElem? fun j => ?_
      by_cases hj : i = j
      · subst hj; rw [List.getElem?_set_self hi, hx]
      · rw [List.getElem?_set_ne hj]
    show StR K H c (e.set i (some ⟨false, d⟩)) σ
    rw [he]; exact s
  | ⟨true, d⟩, ⟨a, e1, e2, hT⟩ =>
    have F : Shf c (cset c a .sh) := shf_cset (.inr (.inr ⟨i, e2⟩))
    refine ⟨cset c a .sh, ⟨by rw [List.length_set]; exact s.len, fun j y hy => ?_⟩, F, ⟨fun b o hb n => f0.keep b o hb n, f0.keepI, f0.there, fun b hb => ?_⟩, fun w hw => ?_, fun b j hb hj => ?_, fun b hb => ?_⟩
    · by_cases hj : i = j
      · subst hj
        rw [List.getElem?_set_self hi] at hy
        cases hy
        exact ⟨v, hv, by subst e1; exact (F.top hT).give cset_at⟩
      · rw [List.getElem?_set_ne hj] at hy
        obtain ⟨w, hw, h'⟩ := s.at_ j y hy
        refine ⟨w, hw, ?_⟩
        match y, h' with
        | ⟨false, d⟩, h' => exact F.rel h'
        | ⟨true, d⟩, ⟨b, q1, q2, h'⟩ =>
          refine ⟨b, q1, ?_, F.top h'⟩
          rw [cset_ne]
          · exact q2
          · rintro rfl; rw [e2] at q2; cases q2; exact hj rfl
    · rcases f0.col b hb with q | ⟨j, q, q'⟩
      · by_cases hba : b = a
        · subst hba
          rw [e2] at q
          exact .inr ⟨i, q.symm, cset_at⟩
        · exact .inl ((cset_ne hba).trans q)
      · exact .inr ⟨j, q, F.sh q'⟩
    · rw [hv] at hw; cases hw; subst e1; exact (F.top hT).give cset_at
    · rw [cset_ne]
      · exact hb
      · rintro rfl; rw [e2] at hb; cases hb; exact hj rfl
    · rw [cset_ne]
      · exact hb
      · rintro rfl; rw [e2] at hb; cases hb
theorem settle_ok (s : StR K H c e σ) (f0 : Fm c0 H0 c H) {r : Res} (h : RW K H0 H c σ v r) (q : settle e r = .ok (d, e')) :
    ∃ c', StR K H c' e' σ ∧ RelS K H c' v d ∧ Fm c0 H0 c' H ∧ Shf c c' := by
  match r, h with
  | .v false d', h => cases q; exact ⟨c, s, h, f0, .refl⟩
  | .v true d', ⟨a, e1, e2, e3, hT⟩ =>
    cases q
    have F : Shf c (cset c a .sh) := shf_cset (by rcases e2 with z | z; exact .inl z; exact .inr (.inl z))
    refine ⟨cset c a .sh, s.shf F fun b i hb => ?_, ?_, ⟨f0.keep, f0.keepI, f0.there, fun b hb => ?_⟩, F⟩
    · rw [cset_ne]
      · exact hb
      · rintro rfl; rcases e2 with z | z <;> rw [z] at hb <;> cases hb
    · subst e1; exact (F.top hT).give cset_at
    · rw [cset_ne]
      · exact f0.col b hb
      · rintro rfl; exact hb e3
  | .p i, h =>
    have q : (match e[i]? with | some (some s) => R.ok (s.d, e.set i (some ⟨false, s.d⟩)) | _ => R.no) = R.ok (d, e') := q
    cases hs : e[i]? with
    | none => rw [hs] at q; cases q
    | some o =>
      cases o with
      | none => rw [hs] at q; cases q
      | some x =>
        rw [hs] at q
        injection q with q
        injection q with q1 q2
        subst q1; subst q2
        obtain ⟨c', s', F, f, r, _⟩ := s.freeze hs f0
        exact ⟨c', s', r v h, f, F⟩
theorem embed_ok (s : StR K H c e σ) (f0 : Fm c0 H0 c H) {r : Res} (h : RW K H0 H c σ v r) (q : embed e r = .ok (d, e')) :
    ∃ c', StR K H c' e' σ ∧ RelD K H (isSh c') v d ∧ Fm c0 H0 c' H ∧ Shf c c' := by
  unfold embed at q
  cases hs : settle e r with
  | ok p =>
    obtain ⟨d1, e1⟩ := p
    rw [hs] at q
    have q : (if notD d1 then R.ok (d1, e1) else R.no) = R.ok (d, e') := q
    split at q
    · rename_i hn
      cases q
      obtain ⟨c', a1, a2, a3, a4⟩ := settle_ok s f0 h hs
      exact ⟨c', a1, a2.pl hn, a3, a4⟩
    · cases q
  | ex x => rw [hs] at q; cases q
  | no => rw [hs] at q; cases q
/-- results, one by one -/
inductive RWs (K : PySem.W.Frag) (H0 H : Hp) (c : Clr) (σ : L2.St) : List V → List Res → Prop
  | nil : RWs K H0 H c σ [] []
  | cons {v : V} {vs : List V} {r : Res} {rs : List Res} : RW K H0 H c σ v r → RWs K H0 H c σ vs rs → RWs K H0 H c σ (v :: vs) (r :: rs)
theorem RWs.shf (f : Shf c c') : ∀ {vs : List V} {rs : List Res}, RWs K H0 H c σ vs rs → RWs K H0 H c' σ vs rs
  | _, _, .nil => .nil
  | _, _, .cons h hs => .cons (h.shf f) (hs.shf f)
theorem RWs.length : ∀ {vs : List V} {rs : List Res}, RWs K H0 H c σ vs rs → vs.length = rs.length
  | _, _, .nil => rfl
  | _, _, .cons _ hs => congrArg (· + 1) hs.length
theorem embeds_ok : ∀ {rs : List Res} {vs : List V} {ds : List D} {e e' : En} {c : Clr}, StR K H c e σ → Fm c0 H0 c H → RWs K H0 H c σ vs rs → embeds e rs = .ok (ds, e') →
    ∃ c', StR K H c' e' σ ∧ RelDs K H (isSh c') vs ds ∧ Fm c0 H0 c' H ∧ Shf c c'
  | _, _, _, e, e', c, s, f0, .nil, q => by cases q; exact ⟨c, s, .nil, f0, .refl⟩
  | _, _, ds, e, e', c, s, f0, .cons (r := r) (rs := rs) h hs, q => by
    unfold embeds at q
    cases h1 : embed e r with
    | ok p =>
      obtain ⟨d1, e1⟩ := p
      rw [h1] at q
      cases h2 : embeds e1 rs with
      | ok p =>
        obtain ⟨ds1, e2⟩ := p
        have q : (do let x ← embeds e1 rs; R.ok (d1 :: x.1, x.2)) = R.ok (ds, e') := q
        rw [h2] at q
        cases q
        obtain ⟨c1, s1, r1, f1, F1⟩ := embed_ok s f0 h h1
        obtain ⟨c2, s2, r2, f2, F2⟩ := embeds_ok s1 f1 (hs.shf F1) h2
        exact ⟨c2, s2, .cons (r1.mono fun _ e => F2.sh e) r2, f2, F1.trans F2⟩
      | ex x => 
        have q : (do let x ← embeds e1 rs; R.ok (d1 :: x.1, x.2)) = R.ok (ds, e') := q
        rw [h2] at q; cases q
      | no =>
        have q : (do let x ← embeds e1 rs; R.ok (d1 :: x.1, x.2)) = R.ok (ds, e') := q
        rw [h2] at q; cases q
    | ex x => rw [h1] at q; cases q
    | no => rw [h1] at q; cases q

/-! ### new things -/
theorem Fm.new {p : Addr} {o : HO} {k : Col} (h : H p = none) : Fm c H (cset c p k) (upd H p o) where
  keep := fun a u e _ => by rw [upd_ne (ne_of_none e h)]; exact e
  keepI := fun a u e _ => by rw [upd_ne (ne_of_none e h)]; exact e
  there := fun a e => by
    by_cases q : a = p
    · subst q; rw [upd_same]; simp
    · rw [upd_ne q]; exact e
  col := fun a e => .inl (cset_ne fun q => by subst q; exact e h)
theorem quiet_new {p : Addr} {o : HO} {k : Col} (h : H p = none) : Quiet c H (cset c p k) (upd H p o) := fun a i e q => by
  have ne : a ≠ p := fun z => by subst z; exact e h
  exact ⟨(cset_ne ne).trans q, upd_ne ne⟩
/-- a new tuple -/
theorem tup_new {p : Addr} (h : H p = none) (r : RelDs K H (isSh c) vs ds) (hz : ds.length ≤ sizeLine) {k : Col} : RelD K (upd H p (.tup vs)) (isSh (cset c p k)) (.ref p) (.tuple ds) :=
  .tup (SqT.of upd_same) hz (r.fm (.new h))
/-- a new list -/
theorem lst_new {p : Addr} (h : H p = none) (r : RelDs K H (isSh c) vs ds) (hz : ds.length ≤ sizeLine) : Top K (upd H p (.lst vs)) (isSh (cset c p .tmp)) p (.list ds) :=
  ⟨vs, upd_same, hz, r.fm (.new h)⟩
end Nm
set_option Elab.async false
set_option maxRecDepth 100000
set_option linter.all false
namespace Nm
open PySem L2

/-- an exception of the package, as data and as it lies -/
structure ExK where
  field : Nat → Option Str
def ExR (xk : ExK) (K : PySem.W.Frag) (H : Hp) (c : Clr) (x : D) (cls : Value) (dd : Option Addr) : Prop :=
  ∃ k fs, x = excD k fs ∧ Known K k = true ∧ cls = .ref (excCl K k) ∧ match xk.field k, fs with
    | some f, [d] => ∃ a v, dd = some a ∧ H a = some (.xd [(f, v)]) ∧ RelD K H (isSh c) v d
    | none, _ => dd = none
    | _, _ => False

/-- what stands behind a piece of the evaluator -/
def Post {α : Type} (xk : ExK) (K : PySem.W.Frag) (W : WX) (σ : L2.St) (c : Clr) (H : Hp) (res : R (α × En)) (Q : α → En → Clr → Hp → Prop) : Prop := match res with
  | .ok (a, e') => ∀ c' H', StR K H' c' e' σ → Fm c H c' H' → Q a e' c' H'
  | .ex x => ∀ cls dd c' H', Fm c H c' H' → ExR xk K H' c' x cls dd → W cls dd σ H'
  | .no => False
section
variable {α β : Type} {xk : ExK} {K : PySem.W.Frag} {W : WX} {σ : L2.St} {c : Clr} {H : Hp}
/-- what follows a first piece: still told from the start -/
theorem Post.bind {m : R (α × En)} {f : α × En → R (β × En)} {Q : β → En → Clr → Hp → Prop} (h : Post xk K W σ c H (m >>= f) Q) :
    Post xk K W σ c H m (fun a e1 _ _ => Post xk K W σ c H (f (a, e1)) Q) := by
  cases m with
  | no => exact h
  | ex x => exact h
  | ok p => exact fun _ _ _ _ => h
/-- .. where one stands further on -/
theorem Post.step {c1 : Clr} {H1 : Hp} {m : R (α × En)} {f : α × En → R (β × En)} {Q : β → En → Clr → Hp → Prop} (f1 : Fm c H c1 H1) (h : Post xk K W σ c H (m >>= f) Q) :
    Post xk K W σ c1 H1 m (fun a e2 c2 H2 => Fm c H c2 H2 ∧ Post xk K W σ c H (f (a, e2)) Q) := by
  cases m with
  | no => exact h
  | ex x => exact fun cls dd c2 H2 f2 z => h cls dd c2 H2 (f1.trans f2) z
  | ok p => exact fun _ _ _ f2 => ⟨f1.trans f2, h⟩
/-- the last piece -/
theorem Post.last {c1 : Clr} {H1 : Hp} {m : R (α × En)} {Q : α → En → Clr → Hp → Prop} (f1 : Fm c H c1 H1) (h : Post xk K W σ c H m Q) : Post xk K W σ c1 H1 m Q := by
  cases m with
  | no => exact h
  | ex x => exact fun cls dd c2 H2 f2 z => h cls dd c2 H2 (f1.trans f2) z
  | ok p => exact fun c2 H2 s2 f2 => h c2 H2 s2 (f1.trans f2)
theorem Post.imp {m : R (α × En)} {Q Q' : α → En → Clr → Hp → Prop} (h : Post xk K W σ c H m Q) (k : ∀ a e' c' H', StR K H' c' e' σ → Fm c H c' H' → Q a e' c' H' → Q' a e' c' H') : Post xk K W σ c H m Q' := by
  cases m with
  | no => exact h
  | ex x => exact h
  | ok p => exact fun c1 H1 s1 f1 => k _ _ _ _ s1 f1 (h c1 H1 s1 f1)
/-- a pure step -/
def NoEx (m : R β) : Prop := ∀ y, m ≠ .ex y
theorem Post.get {m : R β} {f : β → R (α × En)} {Q : α → En → Clr → Hp → Prop} (h : Post xk K W σ c H (m >>= f) Q) (n : NoEx m) : ∃ b, m = .ok b ∧ Post xk K W σ c H (f b) Q := by
  cases m with
  | no => exact h.elim
  | ex x => exact (n x rfl).elim
  | ok b => exact ⟨b, rfl, h⟩
theorem Post.ret {a : α} {e' : En} {Q : α → En → Clr → Hp → Prop} (h : Post xk K W σ c H (.ok (a, e')) Q) : ∀ c' H', StR K H' c' e' σ → Fm c H c' H' → Q a e' c' H' := h
theorem fetch_noEx {e : En} : ∀ {r : Res}, NoEx (fetch e r)
  | .v _ _, _, h => by cases h
  | .p i, y, h => by
    have h : (match e[i]? with | some (some s) => R.ok s.d | _ => R.no) = R.ex y := h
    split at h <;> cases h
theorem settle_noEx {e : En} : ∀ {r : Res}, NoEx (settle e r)
  | .v _ _, _, h => by cases h
  | .p i, y, h => by
    have h : (match e[i]? with | some (some s) => R.ok (s.d, e.set i (some ⟨false, s.d⟩)) | _ => R.no) = R.ex y := h
    split at h <;> cases h
theorem NoEx.bind {m : R α} {f : α → R β} (h : NoEx m) (g : ∀ a, NoEx (f a)) : NoEx (m >>= f) := fun y q => by
  cases m with
  | no => cases q
  | ex x => exact h x rfl
  | ok a => exact g a y q
theorem NoEx.ite {p : Prop} [Decidable p] {a b : R β} (h : NoEx a) (g : NoEx b) : NoEx (if p then a else b) := by
  split
  · exact h
  · exact g
theorem NoEx.ok {a : β} : NoEx (R.ok a) := fun _ q => by cases q
theorem NoEx.no : NoEx (R.no : R β) := fun _ q => by cases q
theorem embed_noEx {e : En} {r : Res} : NoEx (embed e r) := settle_noEx.bind fun _ => .ite .ok .no
theorem embeds_noEx : ∀ {rs : List Res} {e : En}, NoEx (embeds e rs)
  | [], _ => .ok
  | _ :: _, _ => embed_noEx.bind fun _ => embeds_noEx.bind fun _ => .ok
theorem fetchs_noEx {e : En} : ∀ {rs : List Res}, NoEx (fetchs e rs)
  | [] => .ok
  | _ :: _ => fetch_noEx.bind fun _ => fetchs_noEx.bind fun _ => .ok
theorem noEx_isSame {d e : D} : NoEx (isSame d e) := by unfold isSame; split <;> first | exact .ok | exact .no
theorem noEx_binop {o : BOp} {d e : D} : NoEx (binop o d e) := by unfold binop; split <;> first | exact .ok | exact .no | exact .ite .ok .no
theorem noEx_cmpop {o : COp} {d e : D} : NoEx (cmpop o d e) := by
  unfold cmpop
  split <;> first | exact .ok | exact .no | exact .ite .ok .no | exact noEx_isSame | exact noEx_isSame.bind fun _ => .ok
theorem noEx_excTy {k : Nat} {d : D} : NoEx (excTy k d) := by unfold excTy; split <;> first | exact .ok | (split <;> first | exact .ok | exact .no)
theorem noEx_isTy {t : Ty} {d : D} : NoEx (isTy t d) := by unfold isTy; split <;> first | exact .ok | exact .no | exact noEx_excTy
theorem noEx_ofO {α : Type} {o : Option α} : NoEx (R.ofO o) := by cases o; exact .no; exact .ok
theorem noEx_revD {d : D} : NoEx (revD d) := by unfold revD; split <;> first | exact .ok | exact .no
theorem noEx_fldD {d : D} : NoEx (fldD d) := by unfold fldD; split <;> first | exact .ok | exact .no
theorem noEx_mthD {m : Mt} {d : D} {ds : List D} : NoEx (mthD m d ds) := by
  unfold mthD
  split
  · exact .ite .ok .no
  · refine .ite ?_ .no
    split <;> first | exact .ok | exact .no
  · exact .no
theorem noEx_boolsOf : ∀ {xs : List D}, NoEx (boolsOf xs)
  | [] => .ok
  | .bool _ :: r => (noEx_boolsOf (xs := r)).bind fun _ => .ok
  | .none :: _ | .int _ :: _ | .str _ :: _ | .list _ :: _ | .tuple _ :: _ | .dict _ :: _ => .no
theorem noEx_intsOf : ∀ {xs : List D}, NoEx (intsOf xs)
  | [] => .ok
  | .int _ :: r => (noEx_intsOf (xs := r)).bind fun _ => .ok
  | .none :: _ | .bool _ :: _ | .str _ :: _ | .list _ :: _ | .tuple _ :: _ | .dict _ :: _ => .no
theorem noEx_biop {b : Bi} {ds : List D} : NoEx (biop b ds) := by
  unfold biop
  split <;> first | exact .ok | exact .no | exact .ite .ok .no | exact noEx_boolsOf.bind fun _ => .ok | (refine noEx_intsOf.bind fun a => ?_; first | exact .ok | (split <;> first | exact .ok | exact .no)) | (split <;> first | exact .ok | exact .no)
theorem noEx_getix {d e : D} : NoEx (getix d e) := by
  unfold getix
  split <;> (try split) <;> (try split) <;> first | exact .ok | exact .no
theorem noEx_getsl {d : D} {lo hi : Option Int} : NoEx (getsl d lo hi) := by unfold getsl; split <;> first | exact .ok | exact .no
theorem noEx_rng {ds : List D} : NoEx (rng ds) := by unfold rng; split <;> first | exact .ite .ok .no | exact .no
theorem noEx_zips {ds : List D} : NoEx (zips ds) := by
  unfold zips
  split <;> (try split) <;> first | exact .ok | exact .no
theorem noEx_asB {d : D} : NoEx (asB d) := by unfold asB; split <;> first | exact .ok | exact .no
end
end Nm
set_option Elab.async false
set_option maxRecDepth 100000
set_option linter.all false
/-! The operators on values: for each what the evaluator says is what the machine does. -/
namespace Nm
open PySem L2 PyProof.Rows

/-! ### tuple * int, whatever the number -/
theorem tuple_mul_same (l : Addr) (items : Array Value) (n : Nat) (dd : Option Addr) (sl : Array (Option Value)) (x : Int) (u : Tok) (c0 : (decide (x < -(2 ^ 63)) || decide (x ≥ 2 ^ 63)) = false) (c1 : (items.isEmpty || x == 1) = true) :
    Meets (Builtin.«tuple.__mul__» ⟨[.ref l, .int x u], []⟩) (fun _ R s => s.heap.get? l = some { cls := .type "tuple", dict := dd, data := .seq items n, slots := sl } ∧ R (.ok (.ret (Value.ref l))) s) :=
  .of_wp fun prog w A R s h => by
    obtain ⟨hp, g, d, tk, os⟩ := s
    obtain ⟨hl, h⟩ := h
    have f1 := AutoSeq1.idx_int
    wp_walk using wpAny_loadPart' hl
    repeat (first
      | (refine wpAny_ite_false (decide_eq_false (by rw [c0]; exact Bool.false_ne_true)) ?_; wp_walk using wpAny_loadPart' hl)
      | (refine wpAny_ite_true (decide_eq_true c1) ?_; wp_walk using wpAny_loadPart' hl))
    exact ⟨_, rfl, h⟩
theorem tuple_mul_none (l : Addr) (items : Array Value) (n : Nat) (dd : Option Addr) (sl : Array (Option Value)) (x : Int) (u : Tok) (c0 : (decide (x < -(2 ^ 63)) || decide (x ≥ 2 ^ 63)) = false) (c1 : (items.isEmpty || x == 1) = false) (c2 : (decide (x ≤ 0) || items.isEmpty) = true) :
    Meets (Builtin.«tuple.__mul__» ⟨[.ref l, .int x u], []⟩) (fun _ R s => s.heap.get? l = some { cls := .type "tuple", dict := dd, data := .seq items n, slots := sl } ∧
      R (.ok (.ret (Value.ref s.heap.objs.size))) { s with heap := s.heap.push { cls := Value.type "tuple", data := Data.seq #[] }, toks := s.toks }) :=
  .of_wp fun prog w A R s h => by
    obtain ⟨hp, g, d, tk, os⟩ := s
    obtain ⟨hl, h⟩ := h
    have f1 := AutoSeq1.idx_int
    wp_walk using wpAny_loadPart' hl
    repeat (first
      | (refine wpAny_ite_false (decide_eq_false (by rw [c0]; exact Bool.false_ne_true)) ?_; wp_walk using wpAny_loadPart' hl)
      | (refine wpAny_ite_false (decide_eq_false (by rw [c1]; exact Bool.false_ne_true)) ?_; wp_walk using wpAny_loadPart' hl)
      | (refine wpAny_ite_true (decide_eq_true c2) ?_; wp_walk using wpAny_loadPart' hl))
    exact ⟨_, rfl, h⟩
section
variable {X : Cx}
def rTupMul (K : PySem.W.Frag) : R2 := fun x y H Q => ∃ l k xs, x = .ref l ∧ y = .int k ∧ SqT K H l xs ∧ -1000 ≤ k ∧ k ≤ 1000 ∧ xs.length ≤ 1000 ∧
  ((xs = [] ∨ k = 1) → Q (.ref l) H) ∧ (¬ (xs = [] ∨ k = 1) → ∀ p, H p = none → Q (.ref p) (upd H p (.tup (List.replicate k.toNat xs).flatten)))
theorem op_tupMul : OpR X (binaryOp .Mult) (rTupMul X.K) := by
  intro pins s σ H x y v u Q I rx ry h
  obtain ⟨l, k, xs, rfl, rfl, hT, h1, h2, hz, q1, q2⟩ := h
  by_cases hs : xs = [] ∨ k = 1
  · have q := q1 hs
    cases rx
    obtain ⟨t, rfl⟩ := ry
    obtain ⟨its, r, ⟨⟨cls, dd, data, sl⟩, ho, hc, n, hd⟩, _⟩ := I.tuple hT
    simp only at hc hd
    subst hc hd
    have c0 : (decide (k < -(2 ^ 63)) || decide (k ≥ 2 ^ 63)) = false := by rw [decide_eq_false (by omega), decide_eq_false (by omega)] <;> rfl
    have c1 : (its.toArray.isEmpty || k == 1) = true := by
      rcases hs with hs | hs
      · subst hs; cases r; rfl
      · subst hs; simp
    exact wpAny_binaryOp_repeat_ref (T := "tuple") (U := "int") (by decide) ⟨_, ho, rfl⟩ (fun s' => typeIs_int s' k t) noFill_tuple_mul F.fills_int_mul F.slot_int_rmul repeat_tuple F.slot_int_index.lookup
      (call_meets F.slot_int_rmul (typeIs_int s k t) F.entry_int_rmul (F.args_int_rmul_2 _ _) (int_rmul_tuple k t l its.toArray n dd sl)
        ⟨ho, rfl, ⟨_, ho, rfl⟩, call_meets F.slot_tuple_mul ⟨_, ho, rfl⟩ F.entry_tuple_mul (F.args_tuple_mul_2 _ _) (tuple_mul_same l its.toArray n dd sl k t c0 c1) ⟨ho, .ref l, H, I, rfl, q⟩⟩)
  · have q := q2 hs
    have hne : xs ≠ [] := fun z => hs (.inl z)
    have hk1 : k ≠ 1 := fun z => hs (.inr z)
    by_cases hk : 2 ≤ k
    · exact op_repT pins s σ H _ _ v u Q I rx ry ⟨l, k, xs, rfl, rfl, hT, hne, hk, h2, hz, q⟩
    · cases rx
      obtain ⟨t, rfl⟩ := ry
      obtain ⟨its, r, ⟨⟨cls, dd, data, sl⟩, ho, hc, n, hd⟩, _⟩ := I.tuple hT
      simp only at hc hd
      subst hc hd
      have c0 : (decide (k < -(2 ^ 63)) || decide (k ≥ 2 ^ 63)) = false := by rw [decide_eq_false (by omega), decide_eq_false (by omega)] <;> rfl
      have hi : its.toArray.isEmpty = false := by
        cases r with
        | nil => exact absurd rfl hne
        | cons _ _ => rfl
      have c1 : (its.toArray.isEmpty || k == 1) = false := by rw [hi, Bool.false_or]; exact beq_eq_false_iff_ne.mpr hk1
      have c2 : (decide (k ≤ 0) || its.toArray.isEmpty) = true := by rw [decide_eq_true (by omega)]; rfl
      refine wpAny_binaryOp_repeat_ref (T := "tuple") (U := "int") (by decide) ⟨_, ho, rfl⟩ (fun s' => typeIs_int s' k t) noFill_tuple_mul F.fills_int_mul F.slot_int_rmul repeat_tuple F.slot_int_index.lookup
        (call_meets F.slot_int_rmul (typeIs_int s k t) F.entry_int_rmul (F.args_int_rmul_2 _ _) (int_rmul_tuple k t l its.toArray n dd sl)
          ⟨ho, rfl, ⟨_, ho, rfl⟩, call_meets F.slot_tuple_mul ⟨_, ho, rfl⟩ F.entry_tuple_mul (F.args_tuple_mul_2 _ _) (tuple_mul_none l its.toArray n dd sl k t c0 c1 c2) ⟨ho, ?_⟩⟩)
      have e0 : k.toNat = 0 := by omega
      rw [e0] at q
      exact ⟨.ref s.heap.objs.size, _, I.laid (t' := s.toks) (o := .tup []) (fun b ob z => Heap.get?_push_of_some _ z) (Nat.le_refl _) ⟨Nat.zero_le _, [], .nil, IsTup.new _ _⟩, rfl, q _ (I.hok.fresh (Nat.le_refl _))⟩
end

/-! ### what is read -/
/-- what a fetched result stands for: the items of a list are shared (the list itself may be anybody's) -/
def RelF (K : PySem.W.Frag) (H : Hp) (c : Clr) (v : V) (d : D) : Prop := RelS K H c v d ∨ ∃ a, v = .ref a ∧ Top K H (isSh c) a d
section
variable {K : PySem.W.Frag} {H H0 H' : Hp} {c c' : Clr} {v x y : V} {d : D} {e : En} {σ : L2.St} {r : Res}
theorem StR.get (s : StR K H c e σ) (h : RR K H0 H c σ v r) (hf : Nm.fetch e r = .ok d) : RelF K H c v d := by
  match r, h with
  | .v false d', h => cases hf; exact .inl h
  | .v true d', ⟨a, e1, _, _, h⟩ => cases hf; exact .inr ⟨a, e1, h⟩
  | .p i, h =>
    have h : σ[i]? = some (some v) := h
    have hf : (match e[i]? with | some (some s) => R.ok s.d | _ => R.no) = R.ok d := hf
    cases hs : e[i]? with
    | none => rw [hs] at hf; cases hf
    | some o =>
      cases o with
      | none => rw [hs] at hf; cases hf
      | some s' =>
        rw [hs] at hf
        injection hf with hf
        subst hf
        obtain ⟨w, hw, h'⟩ := s.at_ i s' hs
        rw [h] at hw; cases hw
        match s', h' with
        | ⟨false, d⟩, h' => exact .inl h'
        | ⟨true, d⟩, ⟨a, e1, _, hT⟩ => exact .inr ⟨a, e1, hT⟩
theorem RelF.int {i : Int} (h : RelF K H c v (.int i)) : v = .int i := by
  rcases h with (h | h) | ⟨a, _, h⟩
  · cases h; rfl
  · exact h.elim
  · exact h.elim
theorem RelF.bool {b : Bool} (h : RelF K H c v (.bool b)) : v = .bl b := by
  rcases h with (h | h) | ⟨a, _, h⟩
  · cases h; rfl
  · exact h.elim
  · exact h.elim
theorem RelF.none_ (h : RelF K H c v .none) : v = .non := by
  rcases h with (h | h) | ⟨a, _, h⟩
  · cases h; rfl
  · exact h.elim
  · exact h.elim
theorem RelF.str {z : Str} (h : RelF K H c v (.str z)) : v = .str z ∧ z.length ≤ sizeLine := by
  rcases h with (h | h) | ⟨a, _, h⟩
  · cases h with | str _ hz => exact ⟨rfl, hz⟩
  · exact h.elim
  · exact h.elim
theorem RelF.list {ds : List D} (h : RelF K H c v (.list ds)) : ∃ a xs, v = .ref a ∧ H a = some (.lst xs) ∧ ds.length ≤ sizeLine ∧ RelDs K H (isSh c) xs ds := by
  rcases h with (h | h) | ⟨a, e, xs, h1, h2, h3⟩
  · cases h with | list _ h1 h2 h3 => exact ⟨_, _, rfl, h1, h2, h3⟩
  · exact h.elim
  · exact ⟨a, xs, e, h1, h2, h3⟩
theorem RelF.tup {ds : List D} (h : RelF K H c v (.tuple ds)) : ∃ a xs, v = .ref a ∧ SqT K H a xs ∧ ds.length ≤ sizeLine ∧ RelDs K H (isSh c) xs ds := by
  rcases h with (h | h) | ⟨a, _, h⟩
  · cases h with | tup h1 h2 h3 => exact ⟨_, _, rfl, h1, h2, h3⟩
  · exact h.elim
  · exact h.elim
theorem RelF.plain (h : RelF K H c v d) (n : notD d = true) : RelD K H (fun _ => True) v d := by
  rcases h with h | ⟨a, e, h⟩
  · exact (h.pl n).mono fun _ _ => trivial
  · subst e
    cases d with
    | list ds => obtain ⟨xs, h1, hz, h2⟩ := h; exact .list trivial h1 hz (h2.mono fun _ _ => trivial)
    | _ => exact h.elim
theorem RelF.scr {ns : List Int} (h : RelF K H c v (scrD ns)) : ∃ a, v = .ref a ∧ ns.length ≤ sizeLine ∧ RoL K H a (ns.map V.int) := by
  rcases h with (h | h) | ⟨a, _, h⟩
  · cases h
  · rcases h with ⟨ms, a, e, ev, hz, hr⟩ | ⟨k, fs, a, e, _⟩
    rotate_left
    · cases e
    have : ms = ns := by
      have e1 : scr? (scrD ns) = scr? (scrD ms) := by rw [show scrD ns = scrD ms from e]
      rw [scr_scrD, scr_scrD] at e1
      exact (Option.some.inj e1).symm
    subst this
    exact ⟨a, ev, hz, hr⟩
  · exact h.elim
/-- a caught thing -/
theorem RelF.exc {k : Nat} (h : RelF K H c v d) (e : exc? d = some k) : ∃ a, v = .ref a ∧ Known K k = true ∧ H a = some (ExH (.ref (excCl K k)) none a) := by
  rcases h with (h | h) | ⟨a, _, h⟩
  · cases h <;> cases e
  · cases d with
    | dict kvs =>
      rcases h with ⟨ns, a, q, _⟩ | ⟨j, fs, a, q, ev, hk, _, hr⟩
      · rw [q] at e; cases e
      · rw [q, exc_excD] at e
        cases e
        exact ⟨a, ev, hk, hr⟩
    | _ => exact h.elim
  · cases d <;> first | exact h.elim | cases e
end

/-! ### what an operation leaves -/
/-- only new things, and a result -/
structure Nw (c : Clr) (H : Hp) (c' : Clr) (H' : Hp) : Prop where
  fm : Fm c H c' H'
  qt : Quiet c H c' H'
theorem Nw.refl {c : Clr} {H : Hp} : Nw c H c H := ⟨.refl, fun _ _ _ h => ⟨h, rfl⟩⟩
theorem Nw.new {c : Clr} {H : Hp} {p : Addr} {o : HO} {k : Col} (h : H p = none) : Nw c H (cset c p k) (upd H p o) := ⟨.new h, quiet_new h⟩
/-- what follows an operation whose result is r -/
def Aft (K : PySem.W.Frag) (σ : L2.St) (c : Clr) (H : Hp) (r : Res) (Q : VK) : Prop := ∀ c' H' v, Nw c H c' H' → RR K H H' c' σ v r → Q v H'
section
variable {K : PySem.W.Frag} {σ : L2.St} {c : Clr} {H : Hp} {Q : VK} {ds : List D} {vs : List V}
theorem Aft.here {v : V} {d : D} (h : Aft K σ c H (.v false d) Q) (r : RelD K H (isSh c) v d) : Q v H := h c H v .refl (.inl r)
theorem Aft.int {i : Int} (h : Aft K σ c H (.v false (.int i)) Q) : Q (.int i) H := h.here (.int i)
theorem Aft.bool {b : Bool} (h : Aft K σ c H (.v false (.bool b)) Q) : Q (.bl b) H := h.here (.bool b)
theorem Aft.tup (h : Aft K σ c H (.v false (.tuple ds)) Q) (r : RelDs K H (isSh c) vs ds) (hz : ds.length ≤ sizeLine) {p : Addr} (hp : H p = none) : Q (.ref p) (upd H p (.tup vs)) :=
  h (cset c p .sh) _ _ (.new hp) (.inl (tup_new hp r hz))
theorem Aft.list (h : Aft K σ c H (.v true (.list ds)) Q) (r : RelDs K H (isSh c) vs ds) (hz : ds.length ≤ sizeLine) {p : Addr} (hp : H p = none) : Q (.ref p) (upd H p (.lst vs)) :=
  h (cset c p .tmp) _ _ (.new hp) ⟨p, rfl, cset_at, hp, lst_new hp r hz⟩
end
theorem len_rep {α : Type} (n : Nat) (xs : List α) : (List.replicate n xs).flatten.length = n * xs.length := by
  induction n with
  | zero => simp
  | succ n ih => rw [List.replicate_succ, List.flatten_cons, List.length_append, ih, Nat.succ_mul, Nat.add_comm]
theorem RelDs.nil_iff {K : PySem.W.Frag} {H : Hp} {A : Addr → Prop} {vs : List V} {ds : List D} (h : RelDs K H A vs ds) : vs = [] ↔ ds = [] := by
  cases h <;> simp
theorem op_mul_str {X : Cx} : OpR X (binaryOp .Mult) (fun x y H Q => ∃ i k, x = V.str i ∧ y = V.int k ∧ -1000 ≤ k ∧ k ≤ 1000 ∧ i.length ≤ 1000 ∧ (strRep i k).length ≤ sizeLine ∧ Q (.str (strRep i k)) H) := by
  intro pins s σ H x y v u Q I rx ry h
  obtain ⟨i, k, rfl, rfl, h1, h2, h3, hz, q⟩ := h
  obtain ⟨t, rfl⟩ := rx
  obtain ⟨t', rfl⟩ := ry
  refine P.mul_str (by rw [decide_eq_false (by omega), decide_eq_false (by omega)] <;> rfl) (fun h _ => ?_) (fun h _ => ?_) ?_
  · have a1 : (i.length : Int) * k ≤ 1000 * 1000 := Int.mul_le_mul (by omega) h2 (by omega) (by omega)
    have a2 : (i.length : Int) ≤ (2 ^ 63 - 1) / k := (Int.le_ediv_iff_mul_le (by omega)).mpr (by omega)
    omega
  · have a1 : i.length * k.toNat ≤ 1000 * 1000 := Nat.mul_le_mul h3 (by omega)
    exact decide_eq_false (by rw [sizeLine_eq]; omega)
  · unfold strRep at hz q
    by_cases c : k < 1
    · rw [if_pos c] at hz q ⊢
      exact ⟨hz, .str Str.empty, H, I.tok _, ⟨_, rfl⟩, q⟩
    · rw [if_neg c] at hz q ⊢
      by_cases c2 : (k == 1 || i.length == 0) = true
      · rw [if_pos c2] at hz q ⊢
        exact ⟨.str i, H, I, ⟨_, rfl⟩, q⟩
      · rw [if_neg c2] at hz q ⊢
        exact ⟨hz, .str _, H, I.tok _, ⟨_, rfl⟩, q⟩
/-- an operator and its reading -/
structure BinOk (X : Cx) (o : BOp) (op : Operator) : Prop where
  ok : ∃ r : R2, OpR X (binaryOp op) r ∧ ∀ σ c H x y da db res Q, RelF X.K H c x da → RelF X.K H c y db → binop o da db = .ok res → Aft X.K σ c H res Q → r x y H Q
theorem OpR.two {f : Value → Value → Sem Value} {X : Cx} {r r' : R2} (h : OpR X f r) (h' : OpR X f r') : OpR X f (fun x y H Q => r x y H Q ∨ r' x y H Q) := h.or h'
theorem bigN_lt {n : Nat} (h : n < bigN) : n < 2 ^ 2000 := h
theorem bin_ok {X : Cx} : ∀ {o : BOp} {op : Operator}, bopIs o op = true → BinOk X o op
  | .add, .Add, _ => ⟨_, op_add.or (op_add_str.or (op_cat.or op_catA)), fun σ c H x y da db res Q hx hy e h => by
      unfold binop at e
      split at e <;> first | (rename_i q; cases q) | skip
      all_goals first | cases e | skip
      · exact .inl ⟨_, _, hx.int, hy.int, h.int⟩
      · obtain ⟨rfl, h1⟩ := hx.str
        obtain ⟨rfl, h2⟩ := hy.str
        split at e
        · cases e
          rename_i hz
          exact .inr (.inl ⟨_, _, rfl, rfl, hz, h.here (.str _ (by rw [PySem.Str.length_append]; exact hz))⟩)
        · cases e
      · obtain ⟨a, xs, rfl, h1, z1, r1⟩ := hx.list
        obtain ⟨b, ys, rfl, h2, z2, r2⟩ := hy.list
        split at e
        · cases e
          rename_i hz
          exact .inr (.inr (.inl ⟨_, _, _, _, rfl, rfl, h1, h2, by rw [r1.length, r2.length]; exact hz, fun p hp => h.list (r1.append r2) (by rw [List.length_append]; exact hz) hp⟩))
        · cases e
      · obtain ⟨a, xs, rfl, h1, z1, r1⟩ := hx.tup
        obtain ⟨b, ys, rfl, h2, z2, r2⟩ := hy.tup
        split at e
        · cases e
          rename_i hz
          refine .inr (.inr (.inr ⟨_, _, _, _, rfl, rfl, h1, h2, by rw [r1.length, r2.length]; exact hz, fun n => ?_, fun _ n => ?_, fun _ _ p hp => h.tup (r1.append r2) (by rw [List.length_append]; exact hz) hp⟩))
          · rw [r1.nil_iff.mp n] at h
            exact h.here (.tup h2 z2 r2)
          · rw [r2.nil_iff.mp n, List.append_nil] at h
            exact h.here (.tup h1 z1 r1)
        · cases e⟩
  | .sub, .Sub, _ => ⟨_, op_sub, fun σ c H x y da db res Q hx hy e h => by
      unfold binop at e
      split at e <;> first | (rename_i q; cases q) | skip
      all_goals first | cases e | skip
      exact ⟨_, _, hx.int, hy.int, h.int⟩⟩
  | .mul, .Mult, _ => ⟨_, op_mulW.or (op_rep.or (op_tupMul.or op_mul_str)), fun σ c H x y da db res Q hx hy e h => by
      unfold binop at e
      split at e <;> first | (rename_i q; cases q) | skip
      all_goals first | cases e | skip
      · split at e
        · cases e
          rename_i hz
          exact .inl ⟨_, _, hx.int, hy.int, wide_mul (bigN_lt hz.1) (bigN_lt hz.2) (by decide) (by decide) (by decide), h.int⟩
        · cases e
      · obtain ⟨a, xs, rfl, h1, z1, r1⟩ := hx.list
        split at e
        · cases e
          rename_i k hz
          exact .inr (.inl ⟨_, _, _, rfl, hy.int, h1, by omega, by omega, by rw [r1.length]; exact hz.2.2, fun p hp => h.list (r1.rep _) (by rw [len_rep, Nat.mul_comm]; exact hz.2.2) hp⟩)
        · cases e
      · obtain ⟨a, xs, rfl, h1, z1, r1⟩ := hx.tup
        split at e
        · cases e
          rename_i ds k hz
          have hle : (List.replicate k.toNat ds).flatten.length ≤ sizeLine := by
            rw [len_rep]
            have : k.toNat * ds.length ≤ 1000 * 1000 := Nat.mul_le_mul (by omega) hz.2.2
            rw [sizeLine_eq]; omega
          refine .inr (.inr (.inl ⟨_, _, _, rfl, hy.int, h1, hz.1, hz.2.1, by rw [r1.length]; exact hz.2.2, fun n => ?_, fun _ p hp => h.tup (r1.rep _) hle hp⟩))
          have he : (List.replicate k.toNat ds).flatten = ds := by
            rcases n with n | n
            · rw [r1.nil_iff.mp n]; exact List.eq_nil_of_length_eq_zero (by rw [len_rep]; rfl)
            · subst n; show (List.replicate 1 ds).flatten = ds; simp
          rw [he] at h
          exact h.here (.tup h1 z1 r1)
        · cases e
      · obtain ⟨rfl, z1⟩ := hx.str
        split at e
        · cases e
          rename_i k hz
          exact .inr (.inr (.inr ⟨_, _, rfl, hy.int, hz.1, hz.2.1, hz.2.2.1, hz.2.2.2, h.here (.str _ hz.2.2.2)⟩))
        · cases e⟩
  | .fdiv, .FloorDiv, _ => ⟨_, op_fdivW, fun σ c H x y da db res Q hx hy e h => by
      unfold binop at e
      split at e <;> first | (rename_i q; cases q) | skip
      all_goals first | cases e | skip
      split at e
      · cases e
        rename_i hz
        exact ⟨_, _, hx.int, hy.int, wide_div hz.1 (bigN_lt hz.2) (by decide) (by decide), h.int⟩
      · cases e⟩
  | .mod, .Mod, _ => ⟨_, op_mod, fun σ c H x y da db res Q hx hy e h => by
      unfold binop at e
      split at e <;> first | (rename_i q; cases q) | skip
      all_goals first | cases e | skip
      split at e
      · cases e
        rename_i hz
        exact ⟨_, _, hx.int, hy.int, hz, h.int⟩
      · cases e⟩
  | .pow, .Pow, _ => ⟨_, op_pow, fun σ c H x y da db res Q hx hy e h => by
      unfold binop at e
      split at e <;> first | (rename_i q; cases q) | skip
      all_goals first | cases e | skip
      split at e
      · cases e
        rename_i hz
        exact ⟨_, _, hx.int, hy.int, hz, h.int⟩
      · cases e⟩
  | .shl, .LShift, _ => ⟨_, op_shl, fun σ c H x y da db res Q hx hy e h => by
      unfold binop at e
      split at e <;> first | (rename_i q; cases q) | skip
      all_goals first | cases e | skip
      split at e
      · cases e
        rename_i hz
        exact ⟨_, _, hx.int, hy.int, hz, h.int⟩
      · cases e⟩
  | .band, .BitAnd, _ => ⟨_, op_and, fun σ c H x y da db res Q hx hy e h => by
      unfold binop at e
      split at e <;> first | (rename_i q; cases q) | skip
      all_goals first | cases e | skip
      exact ⟨_, _, hx.int, hy.int, h.int⟩⟩
end Nm
set_option Elab.async false
set_option maxRecDepth 100000
set_option linter.all false
namespace Nm
open PySem L2 PyProof.Rows

section
variable {K : PySem.W.Frag} {H : Hp} {A : Addr → Prop}
mutual
theorem RelD.plain_ : ∀ {v : V} {d : D}, RelD K H A v d → d.plain = true
  | _, _, .none => rfl
  | _, _, .bool _ => rfl
  | _, _, .int _ => rfl
  | _, _, .str _ _ => rfl
  | _, _, .list _ _ _ hs => RelDs.plain_ hs
  | _, _, .tup _ _ hs => RelDs.plain_ hs
theorem RelDs.plain_ : ∀ {vs : List V} {ds : List D}, RelDs K H A vs ds → PyData.plainAll ds = true
  | _, _, .nil => rfl
  | _, _, .cons h hs => by simp [PyData.plainAll, RelD.plain_ h, RelDs.plain_ hs]
end
end
theorem depth_list (xs : List D) : PyData.depthAll xs ≤ (PyData.list xs).depth := by simp [PyData.depth]
theorem depth_tuple (xs : List D) : PyData.depthAll xs ≤ (PyData.tuple xs).depth := by simp [PyData.depth]
theorem eqOk_parts {d e : D} (h : eqOk d e = true) : notD d = true ∧ notD e = true ∧ min d.depth e.depth ≤ 64 := by
  unfold eqOk at h
  simp only [Bool.and_eq_true, decide_eq_true_eq] at h
  exact ⟨h.1.1, h.1.2, h.2⟩
section
variable {X : Cx}
def rEqP (K : PySem.W.Frag) (neg : Bool) : R2 := fun x y H Q => ∃ d e, RelD K H (fun _ => True) x d ∧ RelD K H (fun _ => True) y e ∧ min d.depth e.depth ≤ 64 ∧ Q (.bl (if neg then !PyData.eqv d e else PyData.eqv d e)) H
theorem op_eqP (hu : X.A.units + 100 < cLine) : OpR X (compareOp .Eq) (rEqP X.K false) := by
  intro pins s σ H x y v u Q I rx ry h
  obtain ⟨d, e, hd, he, hz, q⟩ := h
  obtain ⟨as, r1⟩ := Dp.reads I d x v hd.dp rx
  obtain ⟨bs, r2⟩ := Dp.reads I e y u he.dp ry
  exact SeqAt.eq_plain r1 r2 hd.plain_ he.plain_ (by omega) ⟨.bl _, H, I, rfl, q⟩
theorem op_neP (hu : X.A.units + 100 < cLine) : OpR X (compareOp .NotEq) (rEqP X.K true) := by
  intro pins s σ H x y v u Q I rx ry h
  obtain ⟨d, e, hd, he, hz, q⟩ := h
  obtain ⟨as, r1⟩ := Dp.reads I d x v hd.dp rx
  obtain ⟨bs, r2⟩ := Dp.reads I e y u he.dp ry
  exact SeqAt.ne_plain r1 r2 hd.plain_ he.plain_ (by omega) ⟨.bl _, H, I, rfl, q⟩
def rInP (K : PySem.W.Frag) (neg : Bool) : R2 := fun x y H Q => ∃ d xs, RelD K H (fun _ => True) x d ∧ (RelD K H (fun _ => True) y (.list xs) ∨ RelD K H (fun _ => True) y (.tuple xs)) ∧ min (PyData.depthAll xs) d.depth ≤ 64 ∧ Q (.bl (if neg then !mem d xs else mem d xs)) H
theorem op_inP (hu : X.A.units + 100 < cLine) : OpR X (compareOp .In) (rInP X.K false) := by
  intro pins s σ H x y v u Q I rx ry h
  obtain ⟨d, xs, hd, he, hz, q⟩ := h
  obtain ⟨as, r1⟩ := Dp.reads I d x v hd.dp rx
  rcases he with he | he
  · obtain ⟨bs, r2⟩ := Dp.reads I _ y u he.dp ry
    exact SeqAt.in_list_data r2 r1 he.plain_ hd.plain_ (by omega) ⟨.bl _, H, I, rfl, q⟩
  · obtain ⟨bs, r2⟩ := Dp.reads I _ y u he.dp ry
    exact SeqAt.in_tuple_data r2 r1 he.plain_ hd.plain_ (by omega) ⟨.bl _, H, I, rfl, q⟩
theorem op_notInP (hu : X.A.units + 100 < cLine) : OpR X (compareOp .NotIn) (rInP X.K true) := by
  intro pins s σ H x y v u Q I rx ry h
  obtain ⟨d, xs, hd, he, hz, q⟩ := h
  obtain ⟨as, r1⟩ := Dp.reads I d x v hd.dp rx
  rcases he with he | he
  · obtain ⟨bs, r2⟩ := Dp.reads I _ y u he.dp ry
    exact SeqAt.notIn_list_data r2 r1 he.plain_ hd.plain_ (by omega) ⟨.bl _, H, I, rfl, q⟩
  · obtain ⟨bs, r2⟩ := Dp.reads I _ y u he.dp ry
    exact SeqAt.notIn_tuple_data r2 r1 he.plain_ hd.plain_ (by omega) ⟨.bl _, H, I, rfl, q⟩
/-- a value is None just where its data are -/
theorem RelF.isNon {K : PySem.W.Frag} {H : Hp} {c : Clr} {x : V} {d : D} (h : RelF K H c x d) : decide (x = V.non) = isNone d := by
  rcases h with (h | h) | ⟨a, e, h⟩
  · cases h <;> rfl
  · cases d with
    | dict kvs => rcases h with ⟨_, _, _, e, _⟩ | ⟨_, _, _, _, e, _⟩ <;> (subst e; rfl)
    | _ => exact h.elim
  · subst e
    cases d with
    | list ds => rfl
    | _ => exact h.elim
theorem isin_some {d e : D} {b : Bool} (h : cmpop .isin d e = .ok b) : ∃ xs, (e = .list xs ∨ e = .tuple xs) ∧ eqOk d e = true ∧ b = mem d xs := by
  cases e with
  | list xs =>
    have h : (if eqOk d (.list xs) = true then R.ok (mem d xs) else R.no) = R.ok b := h
    split at h
    · rename_i hz; cases h; exact ⟨xs, .inl rfl, hz, rfl⟩
    · cases h
  | tuple xs =>
    have h : (if eqOk d (.tuple xs) = true then R.ok (mem d xs) else R.no) = R.ok b := h
    split at h
    · rename_i hz; cases h; exact ⟨xs, .inr rfl, hz, rfl⟩
    · cases h
  | _ => cases h
theorem notin_some {d e : D} {b : Bool} (h : cmpop .notin d e = .ok b) : ∃ xs, (e = .list xs ∨ e = .tuple xs) ∧ eqOk d e = true ∧ b = !mem d xs := by
  cases e with
  | list xs =>
    have h : (if eqOk d (.list xs) = true then R.ok (!mem d xs) else R.no) = R.ok b := h
    split at h
    · rename_i hz; cases h; exact ⟨xs, .inl rfl, hz, rfl⟩
    · cases h
  | tuple xs =>
    have h : (if eqOk d (.tuple xs) = true then R.ok (!mem d xs) else R.no) = R.ok b := h
    split at h
    · rename_i hz; cases h; exact ⟨xs, .inr rfl, hz, rfl⟩
    · cases h
  | _ => cases h
/-- a comparison's operator and its reading -/
structure CmpOk (X : Cx) (o : COp) (op : CmpOp) : Prop where
  ok : ∃ r : R2, OpR X (compareOp op) r ∧ ∀ c H x y da db b Q, RelF X.K H c x da → RelF X.K H c y db → cmpop o da db = .ok b → Q (.bl b) H → r x y H Q
theorem isSame_some {d e : D} {b : Bool} (h : isSame d e = .ok b) : (e = .none ∧ b = isNone d) ∨ ∃ p q, d = .bool p ∧ e = .bool q ∧ b = (p == q) := by
  unfold isSame at h
  split at h
  · cases h; exact .inl ⟨rfl, rfl⟩
  · cases h; exact .inr ⟨_, _, rfl, rfl, rfl⟩
  · cases h
theorem cmp_ok (hu : X.A.units + 100 < cLine) : ∀ {o : COp} {op : CmpOp}, copIs o op = true → CmpOk X o op
  | .eq, .Eq, _ => ⟨_, op_eqP hu, fun c H x y da db b Q hx hy e q => by
      have e : (if eqOk da db = true then R.ok (PyData.eqv da db) else R.no) = R.ok b := by unfold cmpop at e; exact e
      split at e
      · rename_i hz
        cases e
        obtain ⟨n1, n2, hz⟩ := eqOk_parts hz
        exact ⟨da, db, hx.plain n1, hy.plain n2, hz, q⟩
      · cases e⟩
  | .ne, .NotEq, _ => ⟨_, op_neP hu, fun c H x y da db b Q hx hy e q => by
      have e : (if eqOk da db = true then R.ok (!PyData.eqv da db) else R.no) = R.ok b := by unfold cmpop at e; exact e
      split at e
      · rename_i hz
        cases e
        obtain ⟨n1, n2, hz⟩ := eqOk_parts hz
        exact ⟨da, db, hx.plain n1, hy.plain n2, hz, q⟩
      · cases e⟩
  | .lt, .Lt, _ => ⟨_, op_lt, fun c H x y da db b Q hx hy e q => by
      unfold cmpop at e
      split at e <;> first | (rename_i z; cases z; done) | skip
      all_goals first | cases e | skip
      exact ⟨_, _, hx.int, hy.int, q⟩⟩
  | .le, .LtE, _ => ⟨_, op_le, fun c H x y da db b Q hx hy e q => by
      unfold cmpop at e
      split at e <;> first | (rename_i z; cases z; done) | skip
      all_goals first | cases e | skip
      exact ⟨_, _, hx.int, hy.int, q⟩⟩
  | .gt, .Gt, _ => ⟨_, op_gt, fun c H x y da db b Q hx hy e q => by
      unfold cmpop at e
      split at e <;> first | (rename_i z; cases z; done) | skip
      all_goals first | cases e | skip
      exact ⟨_, _, hx.int, hy.int, q⟩⟩
  | .ge, .GtE, _ => ⟨_, op_ge, fun c H x y da db b Q hx hy e q => by
      unfold cmpop at e
      split at e <;> first | (rename_i z; cases z; done) | skip
      all_goals first | cases e | skip
      exact ⟨_, _, hx.int, hy.int, q⟩⟩
  | .isin, .In, _ => ⟨_, op_inP hu, fun c H x y da db b Q hx hy e q => by
      obtain ⟨xs, hxs, hz, rfl⟩ := isin_some e
      obtain ⟨n1, n2, hz⟩ := eqOk_parts hz
      have z1 := depth_list xs
      have z2 := depth_tuple xs
      refine ⟨da, xs, hx.plain n1, ?_, ?_, q⟩
      · rcases hxs with rfl | rfl
        · exact .inl (hy.plain n2)
        · exact .inr (hy.plain n2)
      · rcases hxs with rfl | rfl <;> omega⟩
  | .notin, .NotIn, _ => ⟨_, op_notInP hu, fun c H x y da db b Q hx hy e q => by
      obtain ⟨xs, hxs, hz, rfl⟩ := notin_some e
      obtain ⟨n1, n2, hz⟩ := eqOk_parts hz
      have z1 := depth_list xs
      have z2 := depth_tuple xs
      refine ⟨da, xs, hx.plain n1, ?_, ?_, q⟩
      · rcases hxs with rfl | rfl
        · exact .inl (hy.plain n2)
        · exact .inr (hy.plain n2)
      · rcases hxs with rfl | rfl <;> omega⟩
  | .is_, .Is, _ => ⟨_, op_isN.or op_isBl, fun c H x y da db b Q hx hy e q => by
      have e : isSame da db = .ok b := by unfold cmpop at e; exact e
      rcases isSame_some e with ⟨rfl, rfl⟩ | ⟨p, r, rfl, rfl, rfl⟩
      · exact .inl ⟨hy.none_, by rw [hx.isNon]; exact q⟩
      · refine .inr ⟨p, r, hx.bool, hy.bool, ?_⟩
        have : decide (p = r) = (p == r) := by cases p <;> cases r <;> rfl
        rw [this]; exact q⟩
  | .isnot, .IsNot, _ => ⟨_, op_notN.or op_notBl, fun c H x y da db b Q hx hy e q => by
      have e : (do let z ← isSame da db; return !z : R Bool) = .ok b := by unfold cmpop at e; exact e
      cases hs : isSame da db with
      | no => rw [hs] at e; cases e
      | ex z => rw [hs] at e; cases e
      | ok z =>
        rw [hs] at e
        cases e
        rcases isSame_some hs with ⟨rfl, rfl⟩ | ⟨p, r, rfl, rfl, rfl⟩
        · exact .inl ⟨hy.none_, by rw [hx.isNon]; exact q⟩
        · refine .inr ⟨p, r, hx.bool, hy.bool, ?_⟩
          have : decide (p = r) = (p == r) := by cases p <;> cases r <;> rfl
          rw [this]; exact q⟩
end
end Nm
set_option Elab.async false
set_option maxRecDepth 100000
set_option linter.all false
namespace Nm
open PySem L2 PyProof.Rows

section
variable {K : PySem.W.Frag} {H : Hp} {A : Addr → Prop}
theorem RelDs.ints : ∀ {vs : List V} {ds : List D} {ns : List Int}, RelDs K H A vs ds → intsOf ds = .ok ns → vs = ns.map V.int ∧ ds = ns.map PyData.int
  | _, _, ns, .nil, h => by cases h; exact ⟨rfl, rfl⟩
  | _, _, ns, .cons (d := d) (ds := ds) (vs := vs) h hs, q => by
    cases d with
    | int i =>
      have q : (do let is ← intsOf ds; R.ok (i :: is)) = R.ok ns := q
      cases q1 : intsOf ds with
      | ok ms =>
        rw [q1] at q
        cases q
        cases h
        obtain ⟨e1, e2⟩ := RelDs.ints hs q1
        subst e1; subst e2
        exact ⟨rfl, rfl⟩
      | ex x => rw [q1] at q; cases q
      | no => rw [q1] at q; cases q
    | _ => cases q
theorem RelDs.bools : ∀ {vs : List V} {ds : List D} {bs : List Bool}, RelDs K H A vs ds → boolsOf ds = .ok bs → vs = bs.map V.bl ∧ ds = bs.map PyData.bool
  | _, _, bs, .nil, h => by cases h; exact ⟨rfl, rfl⟩
  | _, _, bs, .cons (d := d) (ds := ds) (vs := vs) h hs, q => by
    cases d with
    | bool i =>
      have q : (do let is ← boolsOf ds; R.ok (i :: is)) = R.ok bs := q
      cases q1 : boolsOf ds with
      | ok ms =>
        rw [q1] at q
        cases q
        cases h
        obtain ⟨e1, e2⟩ := RelDs.bools hs q1
        subst e1; subst e2
        exact ⟨rfl, rfl⟩
      | ex x => rw [q1] at q; cases q
      | no => rw [q1] at q; cases q
    | _ => cases q
end
theorem maxI_cons (m x : Int) (r : List Int) : maxI m (x :: r) = maxI (if x > m then x else m) r := rfl
theorem minI_cons (m x : Int) (r : List Int) : minI m (x :: r) = minI (if x < m then x else m) r := rfl
theorem maxI_spec : ∀ (r : List Int) (m : Int), maxI m r ∈ m :: r ∧ ∀ y ∈ m :: r, y ≤ maxI m r
  | [], m => ⟨List.mem_cons_self, fun y h => by simp at h; subst h; exact Int.le_refl _⟩
  | x :: r, m => by
    obtain ⟨h1, h2⟩ := maxI_spec r (if x > m then x else m)
    rw [maxI_cons]
    generalize maxI (if x > m then x else m) r = M at h1 h2 ⊢
    have hm := h2 _ List.mem_cons_self
    refine ⟨?_, fun y hy => ?_⟩
    · rcases List.mem_cons.mp h1 with e | e
      · rw [e]; split <;> simp
      · exact List.mem_cons_of_mem _ (List.mem_cons_of_mem _ e)
    · rcases List.mem_cons.mp hy with rfl | hy
      · split at hm <;> omega
      · rcases List.mem_cons.mp hy with rfl | hy
        · split at hm <;> omega
        · exact h2 y (List.mem_cons_of_mem _ hy)
theorem minI_spec : ∀ (r : List Int) (m : Int), minI m r ∈ m :: r ∧ ∀ y ∈ m :: r, minI m r ≤ y
  | [], m => ⟨List.mem_cons_self, fun y h => by simp at h; subst h; exact Int.le_refl _⟩
  | x :: r, m => by
    obtain ⟨h1, h2⟩ := minI_spec r (if x < m then x else m)
    rw [minI_cons]
    generalize minI (if x < m then x else m) r = M at h1 h2 ⊢
    have hm := h2 _ List.mem_cons_self
    refine ⟨?_, fun y hy => ?_⟩
    · rcases List.mem_cons.mp h1 with e | e
      · rw [e]; split <;> simp
      · exact List.mem_cons_of_mem _ (List.mem_cons_of_mem _ e)
    · rcases List.mem_cons.mp hy with rfl | hy
      · split at hm <;> omega
      · rcases List.mem_cons.mp hy with rfl | hy
        · split at hm <;> omega
        · exact h2 y (List.mem_cons_of_mem _ hy)
theorem max_the {m M : Int} {r : List Int} (h1 : M ∈ m :: r) (h2 : ∀ y, y ∈ m :: r → y ≤ M) : M = maxI m r := by
  obtain ⟨a, b⟩ := maxI_spec r m
  have := h2 _ a
  have := b _ h1
  omega
theorem min_the {m M : Int} {r : List Int} (h1 : M ∈ m :: r) (h2 : ∀ y, y ∈ m :: r → M ≤ y) : M = minI m r := by
  obtain ⟨a, b⟩ := minI_spec r m
  have := h2 _ a
  have := b _ h1
  omega

/-! ### over a tuple -/
section
variable {prog : Program} {w : World} {A : Around} {E : Value → Shared → Prop} {s : Shared} {l : Addr}
theorem tup_iter {items : Array Value} {Q : Value → Shared → Prop} (hl : IsTup s.heap l items)
    (h : ∀ s2 : Shared, s2 = { s with heap := s.heap.push { cls := .type "tuple_iterator", data := .fields #[.ref l, .int 0 0] } } → (s2.heap.IsTupleIter s.heap.objs.size l 0 ∧ s2.heap.IsTuple l items) →
      (∀ b ∈ [s.heap.objs.size, l], b < s2.heap.objs.size) → l ≠ s.heap.objs.size → Q (.ref s.heap.objs.size) s2) : wpAny (model prog w) A (pyIter (.ref l)) Q E s := by
  have hlt : l < s.heap.objs.size := hl.lt
  refine wpAny_pyIter_tuple hl (h _ rfl ⟨⟨_, Heap.get?_push_size _ rfl, rfl, rfl⟩, hl.push _⟩ (fun b hb => ?_) (Nat.ne_of_lt hlt))
  show b < (s.heap.push _).objs.size
  rw [Heap.size_push]
  simp only [List.mem_cons, List.not_mem_nil, or_false] at hb
  rcases hb with rfl | rfl
  · exact Nat.lt_succ_self _
  · exact Nat.lt_succ_of_lt hlt
theorem kept_behind {o : Obj} {h' : Heap} (hk : ∀ b u, b ∉ [s.heap.objs.size] → (s.heap.push o).get? b = some u → h'.get? b = some u) : ∀ b u, s.heap.get? b = some u → h'.get? b = some u := fun b u e => by
  refine hk b u (fun hm => ?_) (Heap.get?_push_of_some _ e)
  simp only [List.mem_cons, List.not_mem_nil, or_false] at hm
  exact absurd (hm ▸ Heap.lt_size e) (Nat.lt_irrefl _)
end
section
variable {X : Cx}
def rAllT (K : PySem.W.Frag) : List V → Hp → VK → Prop := fun vs H Q => ∃ (a : Addr) (bs : List Bool), vs = [V.ref a] ∧ SqT K H a (bs.map V.bl) ∧ Q (.bl (bs.all id)) H
theorem cr_allT (hc : X.calm = true) : CallR X (.builtin "all") (rAllT X.K) := by
  intro pins s σ H vs us Q I r h
  obtain ⟨a, bs, rfl, hs, q⟩ := h
  obtain ⟨its, rv, hl, _⟩ := I.tuple hs
  rw [Vals.ref1 r]
  have hb := rv.bls
  refine call_all_walk (tup_iter hl fun s2 e2 st hfp hne => ?_)
  subst e2
  refine ⟨_, _, _, _, _, _, _, rfl, Walks.tuple (A := X.A.in1) (I.ok.hd hc) _ a hne its.toArray, st, truth_bools hb, fun h' tk hk => ⟨.bl _, H, I.kept (kept_behind hk), ?_, q⟩⟩
  show Value.bool _ = Value.bool _
  rw [← L2.all_range, hb, List.size_toArray, List.length_map]
def rMaxT (K : PySem.W.Frag) : List V → Hp → VK → Prop := fun vs H Q => ∃ (a : Addr) (ns : List Int), vs = [V.ref a] ∧ SqT K H a (ns.map V.int) ∧ 0 < ns.length ∧ ∀ m, m ∈ ns → (∀ y, y ∈ ns → y ≤ m) → Q (.int m) H
theorem cr_maxT (hc : X.calm = true) : CallR X (.builtin "max") (rMaxT X.K) := by
  intro pins s σ H vs us Q I r h
  obtain ⟨a, ns, rfl, hs, hne, q⟩ := h
  obtain ⟨its, rv, hl, _⟩ := I.tuple hs
  rw [Vals.ref1 r]
  have hi := rv.ints
  obtain ⟨xs, e⟩ := hi.allInts.items
  have hn : numsOf (intItems xs).toList = ns := by rw [← e]; exact hi.numsOf
  rw [nums_intItems] at hn
  rw [e] at hl
  have hsz : 0 < xs.size := by rw [← hn] at hne; simpa using hne
  refine call_max_walk (tup_iter hl fun s2 e2 st hfp hlI => ?_)
  subst e2
  refine ⟨_, _, _, _, _, _, _, rfl, Walks.tuple (A := X.A.in1) (I.ok.hd hc) _ a hlI (intItems xs), st, hfp, by simpa [intItems] using hsz, CmpOf.ints_gt (numAt xs) (fun _ _ => intItems_at), fun v h' tk hP hk => ?_⟩
  have hP' : (intItems xs)[argBest (fun i j => decide (numAt xs i > numAt xs j)) (xs.size - 1)]? = some v := by simpa [intItems] using hP
  obtain ⟨t, rfl⟩ := intItems_at hP'
  obtain ⟨h1, h2⟩ := argBest_gt (numAt xs) (xs.size - 1)
  refine ⟨.int _, H, I.kept (kept_behind hk), ⟨_, rfl⟩, q _ ?_ fun a ha => ?_⟩
  · rw [numAt_eq, ← hn]; exact PySem.getD_mem (by rw [List.length_map, Array.length_toList]; omega)
  · rw [← hn] at ha
    obtain ⟨j, hj, rfl⟩ := mem_getD ha
    rw [List.length_map, Array.length_toList] at hj
    rw [← numAt_eq]; exact h2 j (by omega)
/-- repr of data -/
theorem reprOk_parts {d : D} (h : reprOk d = true) : notD d = true ∧ d.showable = true ∧ d.depth ≤ 64 ∧ d.shown.length ≤ sizeLine := by
  unfold reprOk at h
  simp only [Bool.and_eq_true, decide_eq_true_eq] at h
  exact ⟨h.1.1.1, h.1.1.2, h.1.2, h.2⟩
def rRepr (K : PySem.W.Frag) : List V → Hp → VK → Prop := fun vs H Q => ∃ x d, vs = [x] ∧ RelD K H (fun _ => True) x d ∧ d.showable = true ∧ d.depth ≤ 64 ∧ d.shown.length ≤ sizeLine ∧ Q (.str d.shown) H
theorem cr_repr (hu : X.A.units + 100 < cLine) (hg : X.A.guards = some []) : CallR X (.builtin "repr") (rRepr X.K) := by
  intro pins s σ H vs us Q I r h
  obtain ⟨x, d, rfl, hd, hs, hz, hl, q⟩ := h
  obtain ⟨u, rfl, rx⟩ := vals1 r
  cases hd with
  | none => cases rx; exact PySem.P.repr_of_none ⟨.str _, H, I.tok _, ⟨_, rfl⟩, q⟩
  | bool b => cases rx; exact PySem.P.repr_of_bool ⟨.str _, H, I.tok _, ⟨_, rfl⟩, q⟩
  | int i => obtain ⟨t, rfl⟩ := rx; exact PySem.P.repr_of_int (by simpa [PyData.showable] using hs) ⟨.str _, H, I.tok _, ⟨_, rfl⟩, q⟩
  | str z _ => obtain ⟨t, rfl⟩ := rx; exact PySem.P.repr_of_str ⟨.str _, H, I.tok _, ⟨_, rfl⟩, q⟩ hl
  | list hA h1 h2 h3 =>
    cases rx
    have hd := RelD.list (A := fun _ => True) trivial h1 h2 (h3.mono fun _ _ => trivial)
    obtain ⟨as, rd⟩ := Dp.reads I _ _ _ hd.dp (show RelV (.ref _) (.ref _) from rfl)
    exact repr_of_reads' rd hs (fun z => by rw [hd.noDict] at z; cases z) hg (by omega) (fun _ _ z => z) (fun h' u tk hk => ⟨.str _, H, I.kept hk, ⟨_, rfl⟩, q⟩) hl
  | tup h1 h2 h3 =>
    cases rx
    have hd := RelD.tup (A := fun _ => True) h1 h2 (h3.mono fun _ _ => trivial)
    obtain ⟨as, rd⟩ := Dp.reads I _ _ _ hd.dp (show RelV (.ref _) (.ref _) from rfl)
    exact repr_of_reads' rd hs (fun z => by rw [hd.noDict] at z; cases z) hg (by omega) (fun _ _ z => z) (fun h' u tk hk => ⟨.str _, H, I.kept hk, ⟨_, rfl⟩, q⟩) hl
end
end Nm
set_option Elab.async false
set_option maxRecDepth 100000
set_option linter.all false
namespace Nm
open PySem L2 PyProof.Rows

inductive RelFs (K : PySem.W.Frag) (H : Hp) (c : Clr) : List V → List D → Prop
  | nil : RelFs K H c [] []
  | cons {v : V} {vs : List V} {d : D} {ds : List D} : RelF K H c v d → RelFs K H c vs ds → RelFs K H c (v :: vs) (d :: ds)
theorem RelFs.one {K : PySem.W.Frag} {H : Hp} {c : Clr} {vs : List V} {d : D} (h : RelFs K H c vs [d]) : ∃ v, vs = [v] ∧ RelF K H c v d := by
  cases h with
  | cons h hs => cases hs; exact ⟨_, rfl, h⟩
theorem RelFs.two {K : PySem.W.Frag} {H : Hp} {c : Clr} {vs : List V} {d d' : D} (h : RelFs K H c vs [d, d']) : ∃ v v', vs = [v, v'] ∧ RelF K H c v d ∧ RelF K H c v' d' := by
  cases h with
  | cons h hs => cases hs with
    | cons h' hs => cases hs; exact ⟨_, _, rfl, h, h'⟩
theorem RelDs.seq {K : PySem.W.Frag} {H : Hp} {A : Addr → Prop} {vs : List V} {ds : List D} (h : RelDs K H A vs ds) : vs.length = ds.length := h.length
/-- which thing a built-in's name is -/
def biVal : Bi → Value
  | .abs => .builtin "abs" | .all => .builtin "all" | .any => .builtin "any" | .int => .type "int" | .len => .builtin "len" | .list => .type "list" | .max => .builtin "max" | .min => .builtin "min"
  | .max2 => .builtin "max" | .min2 => .builtin "min" | .repr => .builtin "repr" | .str => .type "str" | .sum => .builtin "sum" | .tuple => .type "tuple" | .sorted => .builtin "sorted" | .minlen => .builtin "min"
theorem bi_boot : ∀ b : Bi, bootBuiltins (biName b) = some (biVal b) := fun b => by cases b <;> decide +kernel
structure BiOk (X : Cx) (b : Bi) : Prop where
  ok : ∃ r : List V → Hp → VK → Prop, CallR X (biVal b) r ∧ ∀ σ c H vs ds res Q, RelFs X.K H c vs ds → biop b ds = .ok res → Aft X.K σ c H res Q → r vs H Q
section
variable {X : Cx}
theorem no_rule {f : Value} : CallR X f (fun _ _ _ => False) := fun _ _ _ _ _ _ _ _ _ h => h.elim
theorem str_int_len {i : Int} (h : i.natAbs.log2 < 1920) : (toString i : Str).length ≤ sizeLine := int_text_fits h
theorem bi_ok (hc : X.calm = true) (hu : X.A.units + 100 < cLine) (hg : X.A.guards = some []) : ∀ b : Bi, BiOk X b
  | .abs => ⟨_, call_abs, fun σ c H vs ds res Q hv e h => by
      unfold biop at e; split at e <;> first | (rename_i z; cases z; done) | cases e | skip
      obtain ⟨v, rfl, hw⟩ := hv.one
      exact ⟨_, by rw [hw.int], h.int⟩⟩
  | .all => ⟨_, (cr_all hc).or (cr_allT hc), fun σ c H vs ds res Q hv e h => by
      unfold biop at e; split at e <;> first | (rename_i z; cases z; done) | cases e | skip
      · obtain ⟨v, rfl, hw⟩ := hv.one
        obtain ⟨a, xs, rfl, h1, hl_, hs⟩ := hw.list
        rename_i l _
        cases q : boolsOf l with
        | ok bs =>
          rw [q] at e; cases e
          obtain ⟨e1, e2⟩ := hs.bools q
          exact .inl ⟨a, bs, rfl, e1 ▸ SqL.of h1, h.bool⟩
        | ex _ => rw [q] at e; cases e
        | no => rw [q] at e; cases e
      · obtain ⟨v, rfl, hw⟩ := hv.one
        obtain ⟨a, xs, rfl, h1, hl_, hs⟩ := hw.tup
        rename_i l _
        cases q : boolsOf l with
        | ok bs =>
          rw [q] at e; cases e
          obtain ⟨e1, e2⟩ := hs.bools q
          exact .inr ⟨a, bs, rfl, e1 ▸ h1, h.bool⟩
        | ex _ => rw [q] at e; cases e
        | no => rw [q] at e; cases e⟩
  | .any => ⟨_, cr_any hc, fun σ c H vs ds res Q hv e h => by
      unfold biop at e; split at e <;> first | (rename_i z; cases z; done) | cases e | skip
      obtain ⟨v, rfl, hw⟩ := hv.one
      obtain ⟨a, xs, rfl, h1, hl_, hs⟩ := hw.list
      rename_i l _
      cases q : boolsOf l with
      | ok bs =>
        rw [q] at e; cases e
        obtain ⟨e1, e2⟩ := hs.bools q
        exact ⟨a, bs, rfl, e1 ▸ SqL.of h1, h.bool⟩
      | ex _ => rw [q] at e; cases e
      | no => rw [q] at e; cases e⟩
  | .int => ⟨_, call_int1, fun σ c H vs ds res Q hv e h => by
      unfold biop at e; split at e <;> first | (rename_i z; cases z; done) | cases e | skip
      · obtain ⟨v, rfl, hw⟩ := hv.one
        exact .inl ⟨_, by rw [hw.int], h.int⟩
      · obtain ⟨v, rfl, hw⟩ := hv.one
        exact .inr ⟨_, by rw [hw.bool], h.int⟩⟩
  | .len => ⟨_, call_len_seq.or call_len_str, fun σ c H vs ds res Q hv e h => by
      unfold biop at e; split at e <;> first | (rename_i z; cases z; done) | cases e | skip
      · obtain ⟨v, rfl, hw⟩ := hv.one
        obtain ⟨a, xs, rfl, h1, _, hs⟩ := hw.list
        exact .inl ⟨a, xs, rfl, .inl (SqL.of h1), by rw [hs.length]; exact h.int⟩
      · obtain ⟨v, rfl, hw⟩ := hv.one
        obtain ⟨a, xs, rfl, h1, _, hs⟩ := hw.tup
        exact .inl ⟨a, xs, rfl, .inr h1, by rw [hs.length]; exact h.int⟩
      · obtain ⟨v, rfl, hw⟩ := hv.one
        obtain ⟨rfl, hz⟩ := hw.str
        exact .inr ⟨_, rfl, hz, h.int⟩
      · obtain ⟨v, rfl, hw⟩ := hv.one
        split at e
        · rename_i kvs ns q
          cases e
          rw [scr_some q] at hw
          obtain ⟨a, rfl, hz, hr⟩ := hw.scr
          exact .inl ⟨a, _, rfl, .inl hr.sq, by rw [List.length_map]; exact h.int⟩
        · cases e⟩
  | .list => ⟨_, call_list_of, fun σ c H vs ds res Q hv e h => by
      unfold biop at e; split at e <;> first | (rename_i z; cases z; done) | cases e | skip
      · obtain ⟨v, rfl, hw⟩ := hv.one
        obtain ⟨a, xs, rfl, h1, hz, hs⟩ := hw.list
        exact ⟨a, xs, rfl, .inl (SqL.of h1), fun p hp => h.list hs hz hp⟩
      · obtain ⟨v, rfl, hw⟩ := hv.one
        obtain ⟨a, xs, rfl, h1, hz, hs⟩ := hw.tup
        exact ⟨a, xs, rfl, .inr h1, fun p hp => h.list hs hz hp⟩⟩
  | .tuple => ⟨_, call_tuple_of, fun σ c H vs ds res Q hv e h => by
      unfold biop at e; split at e <;> first | (rename_i z; cases z; done) | cases e | skip
      · obtain ⟨v, rfl, hw⟩ := hv.one
        obtain ⟨a, xs, rfl, h1, hz, hs⟩ := hw.list
        exact ⟨a, xs, rfl, .inl ⟨SqL.of h1, fun p hp => h.tup hs hz hp⟩⟩
      · obtain ⟨v, rfl, hw⟩ := hv.one
        obtain ⟨a, xs, rfl, h1, hz, hs⟩ := hw.tup
        exact ⟨a, xs, rfl, .inr ⟨h1, h.here (.tup h1 hz hs)⟩⟩⟩
  | .max => ⟨_, (cr_max hc).or (cr_maxT hc), fun σ c H vs ds res Q hv e h => by
      unfold biop at e; split at e <;> first | (rename_i z; cases z; done) | cases e | skip
      · obtain ⟨v, rfl, hw⟩ := hv.one
        obtain ⟨a, xs, rfl, h1, hl_, hs⟩ := hw.list
        rename_i l _
        cases q : intsOf l with
        | ok ns =>
          rw [q] at e
          obtain ⟨e1, e2⟩ := hs.ints q
          cases ns with
          | nil => cases e
          | cons m r =>
            cases e
            exact .inl ⟨a, m :: r, rfl, e1 ▸ SqL.of h1, Nat.succ_pos _, fun M a1 a2 => by rw [max_the a1 a2]; exact h.int⟩
        | ex _ => rw [q] at e; cases e
        | no => rw [q] at e; cases e
      · obtain ⟨v, rfl, hw⟩ := hv.one
        obtain ⟨a, xs, rfl, h1, hl_, hs⟩ := hw.tup
        rename_i l _
        cases q : intsOf l with
        | ok ns =>
          rw [q] at e
          obtain ⟨e1, e2⟩ := hs.ints q
          cases ns with
          | nil => cases e
          | cons m r =>
            cases e
            exact .inr ⟨a, m :: r, rfl, e1 ▸ h1, Nat.succ_pos _, fun M a1 a2 => by rw [max_the a1 a2]; exact h.int⟩
        | ex _ => rw [q] at e; cases e
        | no => rw [q] at e; cases e⟩
  | .min => ⟨_, cr_min hc, fun σ c H vs ds res Q hv e h => by
      unfold biop at e; split at e <;> first | (rename_i z; cases z; done) | cases e | skip
      obtain ⟨v, rfl, hw⟩ := hv.one
      obtain ⟨a, xs, rfl, h1, hl_, hs⟩ := hw.list
      rename_i l _
      cases q : intsOf l with
      | ok ns =>
        rw [q] at e
        obtain ⟨e1, e2⟩ := hs.ints q
        cases ns with
        | nil => cases e
        | cons m r =>
          cases e
          exact ⟨a, m :: r, rfl, e1 ▸ SqL.of h1, Nat.succ_pos _, fun M a1 a2 => by rw [min_the a1 a2]; exact h.int⟩
      | ex _ => rw [q] at e; cases e
      | no => rw [q] at e; cases e⟩
  | .max2 => ⟨_, call_max2 hc, fun σ c H vs ds res Q hv e h => by
      unfold biop at e; split at e <;> first | (rename_i z; cases z; done) | cases e | skip
      obtain ⟨v, v', rfl, hw, hw'⟩ := hv.two
      exact ⟨_, _, by rw [hw.int, hw'.int], h.int⟩⟩
  | .min2 => ⟨_, call_min2 hc, fun σ c H vs ds res Q hv e h => by
      unfold biop at e; split at e <;> first | (rename_i z; cases z; done) | cases e | skip
      obtain ⟨v, v', rfl, hw, hw'⟩ := hv.two
      exact ⟨_, _, by rw [hw.int, hw'.int], h.int⟩⟩
  | .repr => ⟨_, cr_repr hu hg, fun σ c H vs ds res Q hv e h => by
      unfold biop at e; split at e <;> first | (rename_i z; cases z; done) | cases e | skip
      split at e
      · rename_i hz
        cases e
        obtain ⟨v, rfl, hw⟩ := hv.one
        obtain ⟨n, h1, h2, h3⟩ := reprOk_parts hz
        exact ⟨_, _, rfl, hw.plain n, h1, h2, h3, h.here (.str _ h3)⟩
      · cases e⟩
  | .str => ⟨_, call_str_int, fun σ c H vs ds res Q hv e h => by
      unfold biop at e; split at e <;> first | (rename_i z; cases z; done) | cases e | skip
      split at e
      · rename_i hz
        cases e
        obtain ⟨v, rfl, hw⟩ := hv.one
        exact ⟨_, by rw [hw.int], hz, h.here (.str _ (str_int_len hz))⟩
      · cases e⟩
  | .sum => ⟨_, cr_sum hc, fun σ c H vs ds res Q hv e h => by
      unfold biop at e; split at e <;> first | (rename_i z; cases z; done) | cases e | skip
      obtain ⟨v, rfl, hw⟩ := hv.one
      obtain ⟨a, xs, rfl, h1, hl_, hs⟩ := hw.list
      rename_i l _
      cases q : intsOf l with
      | ok ns =>
        rw [q] at e; cases e
        obtain ⟨e1, e2⟩ := hs.ints q
        exact ⟨a, ns, rfl, e1 ▸ SqL.of h1, h.int⟩
      | ex _ => rw [q] at e; cases e
      | no => rw [q] at e; cases e⟩
  | .sorted => ⟨_, no_rule, fun σ c H vs ds res Q hv e h => by
      unfold biop at e; split at e <;> first | (rename_i z; cases z; done) | cases e⟩
  | .minlen => ⟨_, no_rule, fun σ c H vs ds res Q hv e h => by
      unfold biop at e; split at e <;> first | (rename_i z; cases z; done) | cases e⟩

/-! ### subscripts, slices -/
theorem RelDs.at_ {K : PySem.W.Frag} {H : Hp} {A : Addr → Prop} {vs : List V} {ds : List D} {i : Int} {d : D} (h : RelDs K H A vs ds) (e : atI ds i = some d) : ∃ v, atI vs i = some v ∧ RelD K H A v d := by
  unfold atI at e ⊢
  rw [h.length]
  cases q : ixN ds.length i with
  | none => rw [q] at e; cases e
  | some j =>
    rw [q] at e
    exact h.get e
theorem atI_map {α β : Type} {f : α → β} {xs : List α} {i : Int} {x : α} (e : atI xs i = some x) : atI (xs.map f) i = some (f x) := by
  unfold atI at e ⊢
  rw [List.length_map]
  cases q : ixN xs.length i with
  | none => rw [q] at e; cases e
  | some j =>
    rw [q] at e
    show (xs.map f)[j]? = _
    rw [List.getElem?_map, show xs[j]? = some x from e]; rfl
theorem ix_leaf {σ : L2.St} {c : Clr} {H : Hp} {x y : V} {da di : D} {res : Res} {Q : VK} (hx : RelF X.K H c x da) (hy : RelF X.K H c y di) (e : getix da di = .ok res) (h : Aft X.K σ c H res Q) : rIx X.K x y H Q := by
  unfold getix at e
  split at e <;> first | cases e | skip
  · obtain ⟨a, xs, rfl, h1, _, hs⟩ := hx.list
    split at e
    · rename_i d q
      cases e
      obtain ⟨v, h2, h3⟩ := hs.at_ q
      exact .inl ⟨a, xs, _, v, rfl, hy.int, SqL.of h1, h2, h.here h3⟩
    · cases e
  · obtain ⟨a, xs, rfl, h1, _, hs⟩ := hx.tup
    split at e
    · rename_i d q
      cases e
      obtain ⟨v, h2, h3⟩ := hs.at_ q
      exact .inr (.inl ⟨a, xs, _, v, rfl, hy.int, h1, h2, h.here h3⟩)
    · cases e
  · split at e
    · rename_i ns q
      split at e
      · rename_i n q2
        cases e
        rw [scr_some q] at hx
        obtain ⟨a, rfl, _, hr⟩ := hx.scr
        exact .inl ⟨a, _, _, _, rfl, hy.int, hr.sq, atI_map q2, h.int⟩
      · cases e
    · cases e
  · obtain ⟨rfl, hz⟩ := hx.str
    split at e
    · rename_i ch q
      cases e
      refine .inr (.inr ⟨_, _, _, rfl, hy.int, hz, q, h.here (.str _ ?_)⟩)
      show 1 ≤ sizeLine
      decide
    · cases e
theorem cut_rel {K : PySem.W.Frag} {H : Hp} {A : Addr → Prop} {vs : List V} {ds : List D} {lo hi : Option Int} (h : RelDs K H A vs ds) : RelDs K H A (cutV vs lo hi) (cutD ds lo hi) := by
  unfold cutV cutD
  rw [h.length]
  exact (h.drop _).take _
theorem cutD_len {ds : List D} {lo hi : Option Int} : (cutD ds lo hi).length ≤ ds.length := by
  unfold cutD
  rw [List.length_take, List.length_drop]
  omega
theorem sl_leaf {σ : L2.St} {c : Clr} {H : Hp} {x : V} {da : D} {lo hi : Option Int} {res : Res} {Q : VK} (hx : RelF X.K H c x da) (e : getsl da lo hi = .ok res) (h : Aft X.K σ c H res Q) : (rSlL X.K x lo hi H Q ∨ rSlA X.K x lo hi H Q) := by
  unfold getsl at e
  split at e <;> first | cases e | skip
  · obtain ⟨a, xs, rfl, h1, hz, hs⟩ := hx.list
    exact .inl ⟨a, xs, rfl, SqL.of h1, fun p hp => h.list (cut_rel hs) (Nat.le_trans cutD_len hz) hp⟩
  · obtain ⟨a, xs, rfl, h1, hz, hs⟩ := hx.tup
    refine .inr ⟨a, xs, rfl, h1, fun w => ?_, fun _ p hp => h.tup (cut_rel hs) (Nat.le_trans cutD_len hz) hp⟩
    refine h.here (.tup h1 (Nat.le_trans cutD_len hz) ?_)
    rename_i ds
    have : cutD ds lo hi = ds := by
      unfold cutD
      rw [← hs.length, w.1, w.2, hs.length, List.drop_zero, Nat.sub_zero, List.take_length]
    rw [this]; exact hs
end
end Nm
set_option Elab.async false
set_option maxRecDepth 100000
set_option linter.all false
namespace Nm
open PySem L2 PyProof.Rows

def tyName : Ty → String
  | .int => "int" | .bool => "bool" | .str => "str" | .tuple => "tuple" | .list => "list" | _ => ""
def dTy : D → String
  | .none => "NoneType" | .bool _ => "bool" | .int _ => "int" | .str _ => "str" | .list _ => "list" | .tuple _ => "tuple" | .dict _ => "dict"
section
variable {X : Cx} {K : PySem.W.Frag} {H : Hp} {c : Clr} {x : V} {d : D}
theorem RelF.tyx (h : RelF K H c x d) (n : notD d = true) : TyX K H x (.type (dTy d)) := by
  cases d with
  | none => rw [h.none_]; exact .base .non
  | bool b => rw [h.bool]; exact .base (.bl b)
  | int i => rw [h.int]; exact .base (.int i)
  | str z => rw [h.str.1]; exact .base (.str z)
  | list ds => obtain ⟨a, xs, rfl, h1, _⟩ := h.list; exact .base (.lst h1)
  | tuple ds =>
    obtain ⟨a, xs, rfl, h1, _⟩ := h.tup
    rcases h1 with (h1 | ⟨o, h1⟩) | ⟨o, its, n, h1, h2, _⟩
    · exact .base (.tup h1)
    · exact .fTuple h1
    · exact .kTuple h1 h2
  | dict kvs => cases n
theorem isTy_kit {t : Ty} {b : Bool} (e : isTy t d = .ok b) (ht : tyName t ≠ "") : notD d = true ∧ kitB (dTy d) (tyName t) = some b := by
  cases t <;> cases d <;> first | exact (ht rfl).elim | (cases e; refine ⟨rfl, ?_⟩; simp only [dTy, tyName]; decide +kernel) | cases e
theorem isi_leaf {t : Ty} {b : Bool} (h : RelF K H c x d) (e : isTy t d = .ok b) (ht : tyName t ≠ "") {Q : VK} (q : Q (.bl b) H) : rIsi K [x, .ty (tyName t)] H Q := by
  obtain ⟨n, k⟩ := isTy_kit e ht
  exact ⟨x, .ty (tyName t), _, _, b, rfl, .ty _, h.tyx n, kit_ty k, q⟩
theorem seq_kit {b : Bool} (e : isTy .seq d = .ok b) : notD d = true ∧ PySem.W.kitAny K (.type (dTy d)) [.type "list", .type "tuple"] = some b := by
  cases d with
  | list ds => cases e; exact ⟨rfl, kitAny_cons (b := true) (kit_ty (by simp only [dTy]; decide +kernel)) (fun z => by cases z) (fun _ => rfl)⟩
  | tuple ds => cases e; exact ⟨rfl, kitAny_cons (b := false) (kit_ty (by simp only [dTy]; decide +kernel)) (fun _ => kitAny_cons (b := true) (kit_ty (by simp only [dTy]; decide +kernel)) (fun z => by cases z) fun _ => rfl) (fun z => by cases z)⟩
  | dict kvs => cases e
  | none => cases e; exact ⟨rfl, kitAny_cons (b := false) (kit_ty (by simp only [dTy]; decide +kernel)) (fun _ => kitAny_cons (b := false) (kit_ty (by simp only [dTy]; decide +kernel)) (fun _ => kitAny_nil) fun z => by cases z) (fun z => by cases z)⟩
  | bool _ => cases e; exact ⟨rfl, kitAny_cons (b := false) (kit_ty (by simp only [dTy]; decide +kernel)) (fun _ => kitAny_cons (b := false) (kit_ty (by simp only [dTy]; decide +kernel)) (fun _ => kitAny_nil) fun z => by cases z) (fun z => by cases z)⟩
  | int _ => cases e; exact ⟨rfl, kitAny_cons (b := false) (kit_ty (by simp only [dTy]; decide +kernel)) (fun _ => kitAny_cons (b := false) (kit_ty (by simp only [dTy]; decide +kernel)) (fun _ => kitAny_nil) fun z => by cases z) (fun z => by cases z)⟩
  | str _ => cases e; exact ⟨rfl, kitAny_cons (b := false) (kit_ty (by simp only [dTy]; decide +kernel)) (fun _ => kitAny_cons (b := false) (kit_ty (by simp only [dTy]; decide +kernel)) (fun _ => kitAny_nil) fun z => by cases z) (fun z => by cases z)⟩
theorem seq_leaf {b : Bool} (h : RelF K H c x d) (e : isTy .seq d = .ok b) {p : Addr} (hp : H p = some (.tup [.ty "list", .ty "tuple"])) {Q : VK} (q : Q (.bl b) H) : rIsiT K [x, .ref p] H Q := by
  obtain ⟨n, k⟩ := seq_kit (K := K) e
  exact ⟨x, p, _, _, _, b, rfl, hp, .cons (.ty _) (.cons (.ty _) .nil), h.tyx n, k, q⟩
end
end Nm
set_option Elab.async false
set_option maxRecDepth 100000
set_option linter.all false
namespace Nm
open PySem L2 PyProof.Rows

/-- a call's arguments -/
structure ArgR (K : PySem.W.Frag) (H : Hp) (c : Clr) (io : List Nat) (vs : List V) (ss : List Sv) : Prop where
  len : vs.length = ss.length
  pn : ∀ a i, c a = .sl i → i ∈ io
  at_ : ∀ j s, ss[j]? = some s → ∃ v, vs[j]? = some v ∧ SlR K H c j v s
/-- a call's result, and what stands at the in-out parameters -/
structure OutR (K : PySem.W.Frag) (H H' : Hp) (c' : Clr) (io : List Nat) (vs : List V) (o : Out) (v : V) : Prop where
  res : RR K H H' c' [] v (.v o.own o.d)
  out : ∀ j, j ∈ io → ∀ s, o.outs.getD j none = some s → ∃ u, vs[j]? = some u ∧ SlR K H' c' j u s
def spF (xk : ExK) (K : PySem.W.Frag) (ft : Nat → Fd) (cl : Cl) (k : Nat) : Sp := fun vs H Q E => vs.length = (ft k).np ∧ ∃ c ss, ArgR K H c (ft k).io vs ss ∧ match cl k ss with
  | .ok o => ∀ v c' H', Fm c H c' H' → OutR K H H' c' (ft k).io vs o v → Q v H'
  | .ex x => ∀ cls dd c' H', Fm c H c' H' → ExR xk K H' c' x cls dd → E cls dd H'
  | .no => False
/-- what a text's functions and names are worth where one stands -/
structure Fns (xk : ExK) (ft : Nat → Fd) (cl : Cl) (G : Gi) (X : Cx) : Prop where
  fns : ∀ x k, G.fns.contains (x, k) = true → ∃ f fd ps m, X.mg x = some (.ref f) ∧ PySem.W.keepIn X.K (.ref f) = true ∧ Binds X.K fd ps [] ∧ Room m X.A ∧ FnG X.prog X.w X.K X.mg X.base m f fd ps (spF xk X.K ft cl k)
  bl : ∀ x, G.blt.contains x = true → X.mg x = none
  np : ∀ k ss, cl k ss ≠ .no → ss.length = (ft k).np
  cs : ∀ x d v, G.isC x d = true → cv d = some v → ∃ u, X.mg x = some u ∧ RelV v u
  xs : ∀ x k, G.excs.contains (x, k) = true → Known X.K k = true ∧ X.mg x = some (.ref (excCl X.K k))
  xb : excB X.K = true
structure Hy (xk : ExK) (ft : Nat → Fd) (cl : Cl) (G : Gi) (I : Info) (X : Cx) (W : WX) : Prop where
  gl : Fns xk ft cl G X
  N : X.N = I.N
  nd : I.N.Nodup
  sc : X.env.scope = I.sc
  fn : X.fn = I.fn
  calm : X.calm = true
  gd : X.A.guards = some []
  un : X.A.units + 100 < cLine
  tk : Takes X W

section
variable (xk : ExK) (K : PySem.W.Frag) (W : WX) (ft : Nat → Fd) (cl : Cl)
def rdE (x : Ex) : TE := fun σ H Q => ∃ c e, StR K H c e σ ∧ Post xk K W σ c H (evE ft cl x e) fun r _ c' H' => ∀ v, RR K H H' c' σ v r → Q v H'
def rdT (x : Ex) : TT := fun σ H Q => ∃ c e, StR K H c e σ ∧ Post xk K W σ c H (asTest (evE ft cl x e)) fun b _ _ H' => Q b H'
inductive RRs (K : PySem.W.Frag) (H0 H : Hp) (c : Clr) (σ : L2.St) : List V → List Res → Prop
  | nil : RRs K H0 H c σ [] []
  | cons {v : V} {vs : List V} {r : Res} {rs : List Res} : RR K H0 H c σ v r → RRs K H0 H c σ vs rs → RRs K H0 H c σ (v :: vs) (r :: rs)
/-- the addresses of new things among results -/
def ownA : List Res → List V → List Addr
  | .v true _ :: rs, .ref a :: vs => a :: ownA rs vs
  | _ :: rs, _ :: vs => ownA rs vs
  | _, _ => []
def rdA (xs : Exs) : TA := fun σ H Q => ∃ c e, StR K H c e σ ∧ Post xk K W σ c H (evEs ft cl xs e) fun rs _ c' H' => ∀ vs, RRs K H H' c' σ vs rs → (ownA rs vs).Nodup → Q vs H'
def rdO (x : ExO) : TO := fun σ H Q => ∃ c e, StR K H c e σ ∧ Post xk K W σ c H (evO ft cl x e) fun o _ _ H' => Q o H'
def rdTs (x : Exs) : TT := fun σ H Q => ∃ c e, StR K H c e σ ∧ Post xk K W σ c H (evT ft cl x e) fun b _ _ H' => Q b H'
end
section
variable {xk : ExK} {K : PySem.W.Frag} {W : WX} {ft : Nat → Fd} {cl : Cl} {H0 H H' : Hp} {c c' : Clr} {σ : L2.St} {e : En}
theorem RR.up {H1 : Hp} {c1 : Clr} (f : Fm c H c1 H1) {v : V} : ∀ {r : Res}, RR K H1 H' c' σ v r → RR K H H' c' σ v r
  | .v false d, h => h
  | .v true d, ⟨a, e1, e2, e3, h⟩ => ⟨a, e1, e2, f.free e3, h⟩
  | .p i, h => h
theorem RRs.up {H1 : Hp} {c1 : Clr} (f : Fm c H c1 H1) : ∀ {vs : List V} {rs : List Res}, RRs K H1 H' c' σ vs rs → RRs K H H' c' σ vs rs
  | _, _, .nil => .nil
  | _, _, .cons h hs => .cons (h.up f) (hs.up f)
theorem RRs.fm {c1 : Clr} {H1 : Hp} (f : Fm c H c1 H1) : ∀ {vs : List V} {rs : List Res}, RRs K H0 H c σ vs rs → RRs K H0 H1 c1 σ vs rs
  | _, _, .nil => .nil
  | _, _, .cons h hs => .cons (h.fm f) (hs.fm f)
theorem RRs.rws : ∀ {vs : List V} {rs : List Res}, RRs K H0 H c σ vs rs → RWs K H0 H c σ vs rs
  | _, _, .nil => .nil
  | _, _, .cons h hs => .cons h.rw_ hs.rws
theorem RRs.length : ∀ {vs : List V} {rs : List Res}, RRs K H0 H c σ vs rs → vs.length = rs.length
  | _, _, .nil => rfl
  | _, _, .cons _ hs => congrArg (· + 1) hs.length
/-- behind only new things the slots stand -/
theorem Nw.str (n : Nw c H c' H') (s : StR K H c e σ) : StR K H' c' e σ := s.fm n.fm n.qt
theorem fetchs_ok : ∀ {rs : List Res} {vs : List V} {ds : List D}, StR K H c e σ → RRs K H0 H c σ vs rs → fetchs e rs = .ok ds → RelFs K H c vs ds
  | _, _, ds, s, .nil, q => by cases q; exact .nil
  | _, _, ds, s, .cons (r := r) (rs := rs) h hs, q => by
    have q : (do let d ← fetch e r; let l ← fetchs e rs; R.ok (d :: l)) = R.ok ds := q
    cases h1 : fetch e r with
    | ok d =>
      rw [h1] at q
      cases h2 : fetchs e rs with
      | ok l =>
        have q : (do let l ← fetchs e rs; R.ok (d :: l)) = R.ok ds := q
        rw [h2] at q; cases q
        exact .cons (s.get h h1) (fetchs_ok s hs h2)
      | ex x =>
        have q : (do let l ← fetchs e rs; R.ok (d :: l)) = R.ok ds := q
        rw [h2] at q; cases q
      | no =>
        have q : (do let l ← fetchs e rs; R.ok (d :: l)) = R.ok ds := q
        rw [h2] at q; cases q
    | ex x => rw [h1] at q; cases q
    | no => rw [h1] at q; cases q
/-- a result's test -/
theorem test_leaf {c1 : Clr} {H1 : Hp} {Q : Bool → Hp → Prop} {r : Res} {v : V} (s : StR K H1 c1 e σ) (f1 : Fm c H c1 H1) (h : RR K H0 H1 c1 σ v r)
    (p : Post xk K W σ c H (do let d ← fetch e r; let b ← asB d; return (b, e)) fun b _ _ H' => Q b H') : ∃ b, v = .bl b ∧ Q b H1 := by
  obtain ⟨d, h1, p⟩ := p.get fetch_noEx
  obtain ⟨b, h2, p⟩ := p.get noEx_asB
  have hf := s.get h h1
  cases d with
  | bool b' =>
    cases h2
    exact ⟨b, hf.bool, p c1 H1 s f1⟩
  | _ => cases h2
theorem tB_of {x : Ex} {σ : L2.St} {H : Hp} {Q : Bool → Hp → Prop} (h : rdT xk K W ft cl x σ H Q) : tB (rdE xk K W ft cl x) σ H Q := by
  obtain ⟨c, e, s, h⟩ := h
  exact ⟨c, e, s, h.bind.imp fun r e1 c1 H1 s1 f1 p v rv => test_leaf s1 f1 rv p⟩
end
theorem vis_of {I : Info} {x : Str} (h : I.vis x = true) : Vis I.sc x := by
  unfold Info.vis at h
  simp only [Bool.or_eq_true, beq_iff_eq] at h
  rcases h with (h | h) | h
  · exact .inl h
  · exact .inr (.inl h)
  · exact .inr (.inr h)
theorem slot_of {I : Info} {i : Nat} {x : Str} (h : I.slot i x = true) : I.N[i]? = some x ∧ Vis I.sc x ∧ (x == ("__debug__" : Str)) = false ∧ (x == ("__classdict__" : Str)) = false := by
  unfold Info.slot at h
  simp only [Bool.and_eq_true, decide_eq_true_eq, Bool.not_eq_true'] at h
  exact ⟨h.1.1.1, vis_of h.1.1.2, h.1.2, h.2⟩
theorem bn_of {G : Gi} {I : Info} {x y : Str} (h : G.bn I x y = true) : x = y ∧ I.sc.names.lookup y = some .globalImplicit ∧ G.blt.contains y = true ∧ (y == ("__debug__" : Str)) = false ∧ y ≠ "__name__" := by
  unfold Gi.bn Info.glb at h
  simp only [Bool.and_eq_true, decide_eq_true_eq, Bool.not_eq_true', beq_iff_eq, beq_eq_false_iff_ne] at h
  exact ⟨h.1.1.1.1, h.1.1.1.2, h.1.1.2, by simpa using h.1.2, h.2⟩
section
variable {xk : ExK} {ft : Nat → Fd} {cl : Cl} {G : Gi} {I : Info} {X : Cx} {W : WX}
theorem Hy.glob (h : Hy xk ft cl G I X W) {x : Str} (e : I.sc.names.lookup x = some .globalImplicit) : Gl X x := by
  show X.env.scope.names.lookup x = _
  rw [h.sc]; exact e
theorem Hy.vis (h : Hy xk ft cl G I X W) {x : Str} (e : Vis I.sc x) : Vis X.env.scope x := by rw [h.sc]; exact e
end
theorem plainArg_star {e : Expr} {es : List Expr} {env : Env} (h : plainArg e = true) : starEach (e :: es) env = (false, eval e env) :: starEach es env := by
  cases e <;> first | rfl | exact absurd h Bool.false_ne_true
theorem notSlice_ix {e : Expr} (h : notSlice e = true) : PlainIx e := by
  intro o i
  cases e <;> first | rfl | exact absurd h Bool.false_ne_true
theorem notSet_mark {e : Expr} (op : CmpOp) (h : notSet e = true) : behindInMarks op e = false := by
  cases e <;> first | rfl | exact absurd h Bool.false_ne_true
theorem notSet_fold {e : Expr} {env : Env} (h : notSet e = true) : ∀ x, foldedSetIterable e env x = pure x := by
  intro x
  cases e <;> first | rfl | exact absurd h Bool.false_ne_true
theorem chkEs_plain {G : Gi} : ∀ {xs : Exs} {I : Info} {es : List Expr}, chkEs G xs I es = true → ∀ env : Env, (starEach es env).any (·.1) = false
  | .nil, I, [], _, env => rfl
  | .nil, I, _ :: _, h, env => absurd h Bool.false_ne_true
  | .cons _ _, I, [], h, env => absurd h Bool.false_ne_true
  | .cons x xs, I, e :: es, h, env => by
    have h : (chkE G x I e && plainArg e && chkEs G xs I es) = true := h
    simp only [Bool.and_eq_true] at h
    rw [plainArg_star h.1.2]
    simpa using chkEs_plain h.2 env
end Nm
set_option Elab.async false
set_option maxRecDepth 100000
set_option linter.all false
namespace Nm
open PySem L2 PyProof.Rows
section
variable {xk : ExK} {ft : Nat → Fd} {cl : Cl} {G : Gi} {I : Info} {X : Cx} {W : WX} {pe ea eb ec : Expr} {pos : Pos} {a b d : Ex}

theorem s_cst {dd : D} {k : Const} {n : Nat} (h : cstIs dd k = true) : PE X (.Constant k n pos) (rdE xk X.K W ft cl (.cst dd)) := by
  have go : ∀ {v : V}, (∀ H c, RelD X.K H (isSh c) v dd) → PE X (.Constant k n pos) (tC v) → PE X (.Constant k n pos) (rdE xk X.K W ft cl (.cst dd)) := fun {v} r p => p.wk fun σ H Q ⟨c, e, s, h⟩ => h.ret c H s .refl v (.inl (r H c))
  cases dd <;> cases k <;> first | exact absurd h Bool.false_ne_true | skip
  · exact go (v := .non) (fun _ _ => .none) pe_non
  · rename_i p q
    have e : p = q := by simpa [cstIs] using h
    subst e
    exact go (v := .bl p) (fun _ _ => .bool p) pe_bl
  · rename_i p q
    have e : p = q := by simpa [cstIs] using h
    subst e
    exact go (v := .int p) (fun _ _ => .int p) pe_int
  · rename_i p q
    have e : p = q ∧ p.length ≤ 100000 := by simpa [cstIs] using h
    obtain ⟨e, hz⟩ := e
    subst e
    exact go (v := .str p) (fun _ _ => .str p (Nat.le_trans hz (by decide))) pe_str
theorem s_var (hy : Hy xk ft cl G I X W) {i : Nat} {x : Str} (h : I.slot i x = true) : PE X (.Name x pos) (rdE xk X.K W ft cl (.var i)) := by
  obtain ⟨h1, h2, h3, h4⟩ := slot_of h
  refine (pe_var (i := i) (by rw [hy.N]; exact h1) (hy.vis h2) h3 h4).wk fun σ H Q ⟨c, e, s, q⟩ => ?_
  have q : Post xk X.K W σ c H (match e[i]? with | some (some ⟨false, d⟩) => R.ok (Res.v false d, e) | some (some ⟨true, _⟩) => R.ok (Res.p i, e) | _ => R.no) _ := q
  cases hs : e[i]? with
  | none => rw [hs] at q; exact q.elim
  | some o =>
    cases o with
    | none => rw [hs] at q; exact q.elim
    | some sv =>
      obtain ⟨v, hv, r⟩ := s.at_ i sv hs
      refine ⟨v, hv, ?_⟩
      match sv, r with
      | ⟨false, d⟩, r => rw [hs] at q; exact q.ret c H s .refl v r
      | ⟨true, d⟩, r => rw [hs] at q; exact q.ret c H s .refl v hv
theorem s_bin (hy : Hy xk ft cl G I X W) {o : BOp} {op : Operator} (ho : bopIs o op = true) (ha : PE X ea (rdE xk X.K W ft cl a)) (hb : PE X eb (rdE xk X.K W ft cl b)) :
    PE X (.BinOp ea op eb pos) (rdE xk X.K W ft cl (.bin o a b)) := by
  obtain ⟨r, hr, leaf⟩ := (bin_ok (X := X) ho).ok
  refine (pe_op hr ha hb).wk fun σ H Q ⟨c, e, s, h⟩ => ⟨c, e, s, h.bind.imp fun ra e1 c1 H1 s1 f1 p x rx => ⟨c1, e1, s1, (p.step f1).imp fun rb e2 c2 H2 s2 f2 ⟨f, p⟩ y ry => ?_⟩⟩
  obtain ⟨da, h1, p⟩ := p.get fetch_noEx
  obtain ⟨db, h2, p⟩ := p.get fetch_noEx
  obtain ⟨res, h3, p⟩ := p.get noEx_binop
  exact leaf σ c2 H2 x y da db res Q (s2.get (rx.fm f2) h1) (s2.get ry h2) h3 fun c3 H3 v n rv => p.ret c3 H3 (n.str s2) (f.trans n.fm) v (rv.up f)
theorem s_neg (hy : Hy xk ft cl G I X W) (ha : PE X ea (rdE xk X.K W ft cl a)) : PE X (.UnaryOp .USub ea pos) (rdE xk X.K W ft cl (.neg a)) := by
  refine (pe_un un_neg ha).wk fun σ H Q ⟨c, e, s, h⟩ => ⟨c, e, s, h.bind.imp fun ra e1 c1 H1 s1 f1 p x rx => ?_⟩
  obtain ⟨da, h1, p⟩ := p.get fetch_noEx
  cases da with
  | int i => exact ⟨i, (s1.get rx h1).int, p.ret c1 H1 s1 f1 _ (.inl (.int _))⟩
  | _ => exact p.elim
theorem asTest_bind {α : Type} (m : R α) (g : α → R (Res × En)) : asTest (m >>= g) = m >>= fun p => asTest (g p) := by cases m <;> rfl
theorem s_cmp (hy : Hy xk ft cl G I X W) {o : COp} {op : CmpOp} (ho : copIs o op = true) (hm : notSet eb = true) (ha : PE X ea (rdE xk X.K W ft cl a)) (hb : PE X eb (rdE xk X.K W ft cl b)) :
    PE X (.Compare ea [op] [eb] pos) (rdE xk X.K W ft cl (.cmp o a b)) ∧ PT X (.Compare ea [op] [eb] pos) (rdT xk X.K W ft cl (.cmp o a b)) := by
  obtain ⟨r, hr, leaf⟩ := (cmp_ok hy.un (o := o) (op := op) ho).ok
  constructor
  · refine (pe_cmpR hr ha hb (notSet_mark op hm)).wk fun σ H Q ⟨c, e, s, h⟩ => ⟨c, e, s, h.bind.imp fun ra e1 c1 H1 s1 f1 p x rx => ⟨c1, e1, s1, (p.step f1).imp fun rb e2 c2 H2 s2 f2 ⟨f, p⟩ y ry => ?_⟩⟩
    obtain ⟨da, h1, p⟩ := p.get fetch_noEx
    obtain ⟨db, h2, p⟩ := p.get fetch_noEx
    obtain ⟨res, h3, p⟩ := p.get noEx_cmpop
    exact leaf c2 H2 x y da db res Q (s2.get (rx.fm f2) h1) (s2.get ry h2) h3 (p.ret c2 H2 s2 f _ (.inl (.bool _)))
  · refine (pt_cmpR hr ha hb (notSet_mark op hm)).wk fun σ H Q ⟨c, e, s, h⟩ => ?_
    have h : Post xk X.K W σ c H (asTest (evE ft cl a e >>= fun p => evE ft cl b p.2 >>= fun q => do let da ← fetch q.2 p.1; let db ← fetch q.2 q.1; let r ← cmpop o da db; return (Res.v false (.bool r), q.2))) fun b _ _ H' => Q b H' := h
    rw [asTest_bind] at h
    refine ⟨c, e, s, h.bind.imp fun ra e1 c1 H1 s1 f1 p x rx => ?_⟩
    rw [asTest_bind] at p
    refine ⟨c1, e1, s1, (p.step f1).imp fun rb e2 c2 H2 s2 f2 ⟨f, p⟩ y ry => ?_⟩
    simp only [asTest_bind] at p
    obtain ⟨da, h1, p⟩ := p.get fetch_noEx
    obtain ⟨db, h2, p⟩ := p.get fetch_noEx
    obtain ⟨res, h3, p⟩ := p.get noEx_cmpop
    have p : Post xk X.K W σ c H (R.ok (res, e2)) fun b _ _ H' => Q b H' := p
    exact leaf c2 H2 x y da db res _ (s2.get (rx.fm f2) h1) (s2.get ry h2) h3 ⟨res, rfl, p.ret c2 H2 s2 f⟩
/-- the test of what is no not, and, or, if, comparison -/
theorem pt_of {x : Ex} (h : PE X pe (rdE xk X.K W ft cl x)) (he : ∀ whole, PySem.isTrue pe X.env whole = (do let v ← whole; standAt pe.pos; holding [v] (truthy v))) : PT X pe (rdT xk X.K W ft cl x) :=
  (pt_val h he).wk fun _ _ _ q => tB_of q
theorem lastMarks2 {o p : CmpOp} (h1 : notSet eb = true) (h2 : notSet ec = true) : lastMarks [o, p] [eb, ec] = false := notSet_mark p h2
theorem asTest_ite {p : Prop} [Decidable p] {a b : R (Res × En)} : asTest (if p then a else b) = if p then asTest a else asTest b := by split <;> rfl
theorem s_chn (hy : Hy xk ft cl G I X W) {o o' : COp} {op op' : CmpOp} (ho : copIs o op = true) (ho' : copIs o' op' = true) (hm : notSet eb = true) (hm' : notSet ec = true) (ha : PE X ea (rdE xk X.K W ft cl a)) (hb : PE X eb (rdE xk X.K W ft cl b)) (hd : PE X ec (rdE xk X.K W ft cl d)) :
    PE X (.Compare ea [op, op'] [eb, ec] pos) (rdE xk X.K W ft cl (.chn o o' a b d)) ∧ PT X (.Compare ea [op, op'] [eb, ec] pos) (rdT xk X.K W ft cl (.chn o o' a b d)) := by
  obtain ⟨r, hr, leaf⟩ := (cmp_ok hy.un (o := o) (op := op) ho).ok
  obtain ⟨r', hr', leaf'⟩ := (cmp_ok hy.un (o := o') (op := op') ho').ok
  constructor
  · refine (pe_chain hr hr' ha hb hd (lastMarks2 hm hm')).wk fun σ H Q ⟨c, e, s, h⟩ => ⟨c, e, s, h.bind.imp fun ra e1 c1 H1 s1 f1 p x rx => ⟨c1, e1, s1, (p.step f1).imp fun rb e2 c2 H2 s2 f2 ⟨f, p⟩ y ry => ?_⟩⟩
    obtain ⟨da, h1, p⟩ := p.get fetch_noEx
    obtain ⟨db, h2, p⟩ := p.get fetch_noEx
    obtain ⟨res, h3, p⟩ := p.get noEx_cmpop
    refine leaf c2 H2 x y da db res _ (s2.get (rx.fm f2) h1) (s2.get ry h2) h3 ⟨res, rfl, ?_⟩
    cases res with
    | true =>
      refine iteT ⟨c2, e2, s2, (p.step f).imp fun rc e3 c3 H3 s3 f3 ⟨f, p⟩ z rz => ?_⟩
      obtain ⟨db', h4, p⟩ := p.get fetch_noEx
      obtain ⟨dc, h5, p⟩ := p.get fetch_noEx
      obtain ⟨res', h6, p⟩ := p.get noEx_cmpop
      exact leaf' c3 H3 y z db' dc res' Q (s3.get (ry.fm f3) h4) (s3.get rz h5) h6 (p.ret c3 H3 s3 f _ (.inl (.bool _)))
    | false => exact iteF (p.ret c2 H2 s2 f _ (.inl (.bool _)))
  · refine (pt_chain hr hr' ha hb hd (lastMarks2 hm hm')).wk fun σ H Q ⟨c, e, s, h⟩ => ?_
    have h : Post xk X.K W σ c H (asTest (evE ft cl a e >>= fun p => evE ft cl b p.2 >>= fun q => do
        let da ← fetch q.2 p.1
        let db ← fetch q.2 q.1
        let t ← cmpop o da db
        if t = true then (evE ft cl d q.2 >>= fun z => do
          let db ← fetch z.2 q.1
          let dc ← fetch z.2 z.1
          let r ← cmpop o' db dc
          return (Res.v false (.bool r), z.2)) else return (Res.v false (.bool false), q.2))) fun b _ _ H' => Q b H' := h
    rw [asTest_bind] at h
    refine ⟨c, e, s, h.bind.imp fun ra e1 c1 H1 s1 f1 p x rx => ?_⟩
    rw [asTest_bind] at p
    refine ⟨c1, e1, s1, (p.step f1).imp fun rb e2 c2 H2 s2 f2 ⟨f, p⟩ y ry => ?_⟩
    simp only [asTest_bind, asTest_ite] at p
    obtain ⟨da, h1, p⟩ := p.get fetch_noEx
    obtain ⟨db, h2, p⟩ := p.get fetch_noEx
    obtain ⟨res, h3, p⟩ := p.get noEx_cmpop
    refine leaf c2 H2 x y da db res _ (s2.get (rx.fm f2) h1) (s2.get ry h2) h3 ⟨res, rfl, ?_⟩
    cases res with
    | true =>
      refine iteT ⟨c2, e2, s2, (p.step f).imp fun rc e3 c3 H3 s3 f3 ⟨f, p⟩ z rz => ?_⟩
      obtain ⟨db', h4, p⟩ := p.get fetch_noEx
      obtain ⟨dc, h5, p⟩ := p.get fetch_noEx
      obtain ⟨res', h6, p⟩ := p.get noEx_cmpop
      have p : Post xk X.K W σ c H (R.ok (res', e3)) fun b _ _ H' => Q b H' := p
      exact leaf' c3 H3 y z db' dc res' _ (s3.get (ry.fm f3) h4) (s3.get rz h5) h6 ⟨res', rfl, p.ret c3 H3 s3 f⟩
    | false =>
      have p : Post xk X.K W σ c H (R.ok (false, e2)) fun b _ _ H' => Q b H' := p
      exact iteF ⟨false, rfl, p.ret c2 H2 s2 f⟩
/-- and, or: as values, as tests -/
theorem s_not (ha : PE X ea (rdE xk X.K W ft cl a)) (ta : PT X ea (rdT xk X.K W ft cl a)) : PE X (.UnaryOp .Not ea pos) (rdE xk X.K W ft cl (.not_ a)) ∧ PT X (.UnaryOp .Not ea pos) (rdT xk X.K W ft cl (.not_ a)) := by
  constructor
  · refine (pe_not ha).wk fun σ H Q ⟨c, e, s, h⟩ => ?_
    refine tB_of (Q := fun b H1 => Q (.bl (!b)) H1) ⟨c, e, s, h.bind.imp fun b e1 c1 H1 s1 f1 p => p.ret c1 H1 s1 f1 _ (.inl (.bool _))⟩
  · refine (pt_not ta).wk fun σ H Q ⟨c, e, s, h⟩ => ?_
    have h : Post xk X.K W σ c H (asTest (asTest (evE ft cl a e) >>= fun p => R.ok (Res.v false (.bool (!p.1)), p.2))) fun b _ _ H' => Q b H' := h
    rw [asTest_bind] at h
    refine ⟨c, e, s, h.bind.imp fun b e1 c1 H1 s1 f1 p => ?_⟩
    have p : Post xk X.K W σ c H (R.ok (!b, e1)) fun b _ _ H' => Q b H' := p
    exact p.ret c1 H1 s1 f1
theorem pw_bool {op : BoolOp} {l : List Expr} {t : TT} (h : PT X (.BoolOp op l pos) t) : PW X (.BoolOp op l pos) t := ⟨fun whole pins s σ H Q I q => by
  have := h.run pins s σ H Q I q
  rw [PySem.isTrue] at this ⊢
  exact this⟩
theorem s_ite (tc : PT X ec (rdT xk X.K W ft cl d)) (ha : PE X ea (rdE xk X.K W ft cl a)) (hb : PE X eb (rdE xk X.K W ft cl b)) : PE X (.IfExp ec ea eb pos) (rdE xk X.K W ft cl (.ite d a b)) := by
  refine (pe_ifExp tc ha hb).wk fun σ H Q ⟨c, e, s, h⟩ => ⟨c, e, s, h.bind.imp fun t e1 c1 H1 s1 f1 p => ?_⟩
  cases t with
  | true => exact iteT ⟨c1, e1, s1, (p.last f1).imp fun r e2 c2 H2 s2 f2 q v rv => q v (rv.up f1)⟩
  | false => exact iteF ⟨c1, e1, s1, (p.last f1).imp fun r e2 c2 H2 s2 f2 q v rv => q v (rv.up f1)⟩
theorem pt_ifExp {c a b : Expr} {tc ta tb : TT} (hc : PT X c tc) (ha : PT X a ta) (hb : PT X b tb) : PT X (.IfExp c a b pos) (fun σ H Q => tc σ H fun k H1 => if k = true then ta σ H1 Q else tb σ H1 Q) := ⟨fun pins s σ H Q I h => by
  rw [PySem.isTrue]
  refine wpAny_bind (thn (hc.run pins s σ H _ I h) fun k s1 ⟨H1, I1, q⟩ => ?_)
  cases k with
  | true => exact ha.run pins s1 σ H1 Q I1 (by simpa using q)
  | false => exact hb.run pins s1 σ H1 Q I1 (by simpa using q)⟩
theorem s_iteT (tc : PT X ec (rdT xk X.K W ft cl d)) (ha : PT X ea (rdT xk X.K W ft cl a)) (hb : PT X eb (rdT xk X.K W ft cl b)) : PT X (.IfExp ec ea eb pos) (rdT xk X.K W ft cl (.ite d a b)) := by
  refine (pt_ifExp tc ha hb).wk fun σ H Q ⟨c, e, s, h⟩ => ?_
  have h : Post xk X.K W σ c H (asTest (asTest (evE ft cl d e) >>= fun p => if p.1 = true then evE ft cl a p.2 else evE ft cl b p.2)) fun b _ _ H' => Q b H' := h
  rw [asTest_bind] at h
  refine ⟨c, e, s, h.bind.imp fun t e1 c1 H1 s1 f1 p => ?_⟩
  cases t with
  | true => exact iteT ⟨c1, e1, s1, p.last f1⟩
  | false => exact iteF ⟨c1, e1, s1, p.last f1⟩
theorem s_and (pa : PE X ea (rdE xk X.K W ft cl a)) {r : List Expr} (hb : PE X (.BoolOp .And (eb :: r) pos) (rdE xk X.K W ft cl b)) : PE X (.BoolOp .And (ea :: eb :: r) pos) (rdE xk X.K W ft cl (.and_ a b)) := by
  refine (pe_and pa hb).wk fun σ H Q ⟨c, e, s, h⟩ => ?_
  refine tB_of (Q := fun k H1 => if k = true then rdE xk X.K W ft cl b σ H1 Q else Q (.bl false) H1) ⟨c, e, s, h.bind.imp fun k e1 c1 H1 s1 f1 p => ?_⟩
  cases k with
  | true => exact iteT ⟨c1, e1, s1, (p.last f1).imp fun r e2 c2 H2 s2 f2 q v rv => q v (rv.up f1)⟩
  | false => exact iteF (p.ret c1 H1 s1 f1 _ (.inl (.bool _)))
theorem s_or (pa : PE X ea (rdE xk X.K W ft cl a)) {r : List Expr} (hb : PE X (.BoolOp .Or (eb :: r) pos) (rdE xk X.K W ft cl b)) : PE X (.BoolOp .Or (ea :: eb :: r) pos) (rdE xk X.K W ft cl (.or_ a b)) := by
  refine (pe_or pa hb).wk fun σ H Q ⟨c, e, s, h⟩ => ?_
  refine tB_of (Q := fun k H1 => if k = true then Q (.bl true) H1 else rdE xk X.K W ft cl b σ H1 Q) ⟨c, e, s, h.bind.imp fun k e1 c1 H1 s1 f1 p => ?_⟩
  cases k with
  | true => exact iteT (p.ret c1 H1 s1 f1 _ (.inl (.bool _)))
  | false => exact iteF ⟨c1, e1, s1, (p.last f1).imp fun r e2 c2 H2 s2 f2 q v rv => q v (rv.up f1)⟩
theorem s_andT (ta : PT X ea (rdT xk X.K W ft cl a)) {r : List Expr} (tb : PT X (.BoolOp .And (eb :: r) pos) (rdT xk X.K W ft cl b)) : PT X (.BoolOp .And (ea :: eb :: r) pos) (rdT xk X.K W ft cl (.and_ a b)) := by
  refine (pw_and ta (pw_bool tb)).pt.wk fun σ H Q ⟨c, e, s, h⟩ => ?_
  have h : Post xk X.K W σ c H (asTest (asTest (evE ft cl a e) >>= fun p => if p.1 = true then evE ft cl b p.2 else R.ok (Res.v false (.bool false), p.2))) fun b _ _ H' => Q b H' := h
  rw [asTest_bind] at h
  refine ⟨c, e, s, h.bind.imp fun k e1 c1 H1 s1 f1 p => ?_⟩
  cases k with
  | true => exact iteT ⟨c1, e1, s1, p.last f1⟩
  | false =>
    have p : Post xk X.K W σ c H (R.ok (false, e1)) fun b _ _ H' => Q b H' := p
    exact iteF (p.ret c1 H1 s1 f1)
theorem s_orT (ta : PT X ea (rdT xk X.K W ft cl a)) {r : List Expr} (tb : PT X (.BoolOp .Or (eb :: r) pos) (rdT xk X.K W ft cl b)) : PT X (.BoolOp .Or (ea :: eb :: r) pos) (rdT xk X.K W ft cl (.or_ a b)) := by
  refine (pw_or ta (pw_bool tb)).pt.wk fun σ H Q ⟨c, e, s, h⟩ => ?_
  have h : Post xk X.K W σ c H (asTest (asTest (evE ft cl a e) >>= fun p => if p.1 = true then R.ok (Res.v false (.bool true), p.2) else evE ft cl b p.2)) fun b _ _ H' => Q b H' := h
  rw [asTest_bind] at h
  refine ⟨c, e, s, h.bind.imp fun k e1 c1 H1 s1 f1 p => ?_⟩
  cases k with
  | true =>
    have p : Post xk X.K W σ c H (R.ok (true, e1)) fun b _ _ H' => Q b H' := p
    exact iteT (p.ret c1 H1 s1 f1)
  | false => exact iteF ⟨c1, e1, s1, p.last f1⟩
/-- one alone in a chain of and, or -/
theorem s_one {op : BoolOp} (h : PE X pe (rdE xk X.K W ft cl a)) : PE X (.BoolOp op [pe] pos) (rdE xk X.K W ft cl a) := pe_one h
theorem s_oneA (h : PT X pe (rdT xk X.K W ft cl a)) : PT X (.BoolOp .And [pe] pos) (rdT xk X.K W ft cl a) := (pw_and1 h).pt
theorem s_oneO (h : PT X pe (rdT xk X.K W ft cl a)) : PT X (.BoolOp .Or [pe] pos) (rdT xk X.K W ft cl a) := (pw_or1 h).pt
/-- tuples, lists -/
theorem rdA_len {es : Exs} {n : Nat} : ∀ {rs : List Res} {vs : List V} {H0 H' : Hp} {c' : Clr} {σ : L2.St}, RRs X.K H0 H' c' σ vs rs → rs.length = n → vs.length = n := fun h e => by rw [h.length]; exact e
def exsLen : Exs → Nat
  | .nil => 0
  | .cons _ xs => exsLen xs + 1
theorem evEs_len : ∀ {es : Exs} {e e' : En} {rs : List Res}, evEs ft cl es e = .ok (rs, e') → rs.length = exsLen es
  | .nil, e, e', rs, h => by cases h; rfl
  | .cons x xs, e, e', rs, h => by
    have h : (evE ft cl x e >>= fun p => evEs ft cl xs p.2 >>= fun q => R.ok (p.1 :: q.1, q.2)) = R.ok (rs, e') := h
    cases h1 : evE ft cl x e with
    | ok p =>
      rw [h1] at h
      cases h2 : evEs ft cl xs p.2 with
      | ok q =>
        have h : (evEs ft cl xs p.2 >>= fun q => R.ok (p.1 :: q.1, q.2)) = R.ok (rs, e') := h
        rw [h2] at h
        cases h
        obtain ⟨q1, q2⟩ := q
        exact congrArg (· + 1) (evEs_len h2)
      | ex y => have h : (evEs ft cl xs p.2 >>= fun q => R.ok (p.1 :: q.1, q.2)) = R.ok (rs, e') := h; rw [h2] at h; cases h
      | no => have h : (evEs ft cl xs p.2 >>= fun q => R.ok (p.1 :: q.1, q.2)) = R.ok (rs, e') := h; rw [h2] at h; cases h
    | ex y => rw [h1] at h; cases h
    | no => rw [h1] at h; cases h
theorem Post.known {α : Type} {xk : ExK} {K : PySem.W.Frag} {W : WX} {σ : L2.St} {c : Clr} {H : Hp} {m : R (α × En)} {Q : α → En → Clr → Hp → Prop} (h : Post xk K W σ c H m Q) : Post xk K W σ c H m fun a e' c' H' => m = .ok (a, e') ∧ Q a e' c' H' := by
  cases m with
  | no => exact h
  | ex x => exact h
  | ok p => exact fun c1 H1 s1 f1 => ⟨rfl, h c1 H1 s1 f1⟩
theorem rdE_new {es : Exs} {l : Bool} {σ : L2.St} {H : Hp} {Q : VK} {c : Clr} {e : En} (s : StR X.K H c e σ) (hl : exsLen es ≤ 1000)
    (h : Post xk X.K W σ c H (evEs ft cl es e >>= fun p => embeds p.2 p.1 >>= fun q => R.ok (if l then Res.v true (.list q.1) else Res.v false (.tuple q.1), q.2)) fun r _ c' H' => ∀ v, RR X.K H H' c' σ v r → Q v H') :
    rdA xk X.K W ft cl es σ H fun vs H1 => vs.length ≤ sizeLine ∧ ∀ p, H1 p = none → Q (.ref p) (upd H1 p (if l then .lst vs else .tup vs)) := by
  refine ⟨c, e, s, h.bind.known.imp fun rs e1 c1 H1 s1 f1 ⟨hk, p⟩ vs rv _ => ?_⟩
  have hz : vs.length ≤ sizeLine := by
    rw [rv.length, evEs_len hk]
    exact Nat.le_trans hl (by decide)
  refine ⟨hz, fun a ha => ?_⟩
  obtain ⟨q, h1, p⟩ := p.get embeds_noEx
  obtain ⟨ds, e2⟩ := q
  obtain ⟨c2, s2, r2, f2, F⟩ := embeds_ok s1 f1 rv.rws h1
  have hz2 : ds.length ≤ sizeLine := by rw [← r2.length]; exact hz
  cases l with
  | true => exact p.ret (cset c2 a .tmp) _ ((Nw.new (k := .tmp) ha).str s2) (f2.trans (.new ha)) _ ⟨a, rfl, cset_at, f1.free ha, lst_new ha r2 hz2⟩
  | false => exact p.ret (cset c2 a .sh) _ ((Nw.new (k := .sh) ha).str s2) (f2.trans (.new ha)) _ (.inl (tup_new ha r2 hz2))
theorem chkEs_len : ∀ {xs : Exs} {I : Info} {es : List Expr}, chkEs G xs I es = true → es.length = exsLen xs
  | .nil, I, [], _ => rfl
  | .nil, I, _ :: _, h => absurd h Bool.false_ne_true
  | .cons _ _, I, [], h => absurd h Bool.false_ne_true
  | .cons x xs, I, e :: es, h => by
    have h : (chkE G x I e && plainArg e && chkEs G xs I es) = true := h
    simp only [Bool.and_eq_true] at h
    exact congrArg (· + 1) (chkEs_len h.2)
theorem s_tup {es : Exs} {l : List Expr} {n : Nat} (hl : exsLen es ≤ 1000) (h : PA X l (rdA xk X.K W ft cl es)) : PE X (.Tuple l n pos) (rdE xk X.K W ft cl (.tup es)) :=
  (pe_tup h).wk fun σ H Q ⟨c, e, s, q⟩ => rdE_new (l := false) s hl q
theorem s_lst {es : Exs} {l : List Expr} (hl : exsLen es ≤ 1000) (h : PA X l (rdA xk X.K W ft cl es)) : PE X (.List l pos) (rdE xk X.K W ft cl (.lst es)) :=
  (pe_lst h).wk fun σ H Q ⟨c, e, s, q⟩ => rdE_new (l := true) s hl q
/-- argument lists -/
theorem s_nil : PA X [] (rdA xk X.K W ft cl .nil) := pa_nil.wk fun σ H Q ⟨c, e, s, q⟩ => q.ret c H s .refl [] .nil .nil
theorem own_mem {K : PySem.W.Frag} {H0 H : Hp} {c : Clr} {σ : L2.St} : ∀ {vs : List V} {rs : List Res} {a : Addr}, RRs K H0 H c σ vs rs → a ∈ ownA rs vs → H0 a = none
  | _, _, a, .nil, h => by cases h
  | _, _, a, .cons (v := v) (r := r) h hs, m => by
    match r, v, h, m with
    | .v false _, _, _, m => exact own_mem hs m
    | .p _, _, _, m => exact own_mem hs m
    | .v true _, .ref b, ⟨b', e1, _, e3, _⟩, m =>
      cases e1
      rcases List.mem_cons.mp m with q | q
      · subst q; exact e3
      · exact own_mem hs q
    | .v true _, .non, ⟨_, e1, _⟩, _ => cases e1
    | .v true _, .bl _, ⟨_, e1, _⟩, _ => cases e1
    | .v true _, .int _, ⟨_, e1, _⟩, _ => cases e1
    | .v true _, .str _, ⟨_, e1, _⟩, _ => cases e1
    | .v true _, .byt _, ⟨_, e1, _⟩, _ => cases e1
    | .v true _, .flt _, ⟨_, e1, _⟩, _ => cases e1
    | .v true _, .ty _, ⟨_, e1, _⟩, _ => cases e1
theorem own_cons {K : PySem.W.Frag} {H H1 H2 : Hp} {c1 c2 : Clr} {σ : L2.St} {v : V} {vs : List V} {r : Res} {rs : List Res} (rv : RR K H H1 c1 σ v r) (rvs : RRs K H1 H2 c2 σ vs rs) (nd : (ownA rs vs).Nodup) : (ownA (r :: rs) (v :: vs)).Nodup := by
  match r, v, rv with
  | .v false _, _, _ => exact nd
  | .p _, _, _ => exact nd
  | .v true _, .ref b, ⟨b', e1, _, _, t⟩ =>
    cases e1
    refine List.nodup_cons.mpr ⟨fun m => ?_, nd⟩
    obtain ⟨o, ho⟩ := t.some
    rw [own_mem rvs m] at ho; cases ho
  | .v true _, .non, ⟨_, e1, _⟩ => cases e1
  | .v true _, .bl _, ⟨_, e1, _⟩ => cases e1
  | .v true _, .int _, ⟨_, e1, _⟩ => cases e1
  | .v true _, .str _, ⟨_, e1, _⟩ => cases e1
  | .v true _, .byt _, ⟨_, e1, _⟩ => cases e1
  | .v true _, .flt _, ⟨_, e1, _⟩ => cases e1
  | .v true _, .ty _, ⟨_, e1, _⟩ => cases e1
theorem s_cons {x : Ex} {xs : Exs} {l : List Expr} (hp : plainArg pe = true) (h : PE X pe (rdE xk X.K W ft cl x)) (hs : PA X l (rdA xk X.K W ft cl xs)) : PA X (pe :: l) (rdA xk X.K W ft cl (.cons x xs)) := by
  refine (pa_cons h hs (plainArg_star hp)).wk fun σ H Q ⟨c, e, s, q⟩ => ⟨c, e, s, q.bind.imp fun r e1 c1 H1 s1 f1 p v rv => ⟨c1, e1, s1, (p.step f1).imp fun rs e2 c2 H2 s2 f2 ⟨f, p⟩ vs rvs nd => ?_⟩⟩
  refine p.ret c2 H2 s2 f (v :: vs) (.cons (rv.fm f2) (rvs.up f1)) ?_
  exact own_cons rv rvs nd
/-- items, then a starred sequence -/
def rdAS (xk : ExK) (K : PySem.W.Frag) (W : WX) (ft : Nat → Fd) (cl : Cl) (xs : Exs) (r : Ex) : TA := fun σ H Q => ∃ c e, StR K H c e σ ∧ Post xk K W σ c H (evEs ft cl xs e >>= fun p => evE ft cl r p.2 >>= fun q => fetch q.2 q.1 >>= fun d => R.ofO (items? d) >>= fun ys => R.ok ((p.1, ys), q.2)) fun p _ c' H' => ∀ vs ws, RRs K H H' c' σ vs p.1 → (ownA p.1 vs).Nodup → RelDs K H' (isSh c') ws p.2 → Q (vs ++ ws) H'
theorem s_star0 {r : Ex} {p : Pos} (h : PE X pe (rdE xk X.K W ft cl r)) : PA X [.Starred pe p] (rdAS xk X.K W ft cl .nil r) := by
  refine (StX.pa_star h pa_nil).wk fun σ H Q ⟨c, e, s, q⟩ => ⟨c, e, s, ?_⟩
  have q : Post xk X.K W σ c H (evE ft cl r e >>= fun q => fetch q.2 q.1 >>= fun d => R.ofO (items? d) >>= fun ys => R.ok (([], ys), q.2)) fun p _ c' H' => ∀ vs ws, RRs X.K H H' c' σ vs p.1 → (ownA p.1 vs).Nodup → RelDs X.K H' (isSh c') ws p.2 → Q (vs ++ ws) H' := q
  refine q.bind.imp fun rr e1 c1 H1 s1 f1 p v rv => ?_
  obtain ⟨d, h1, p⟩ := p.get fetch_noEx
  obtain ⟨ys, h2, p⟩ := p.get noEx_ofO
  have g := s1.get rv h1
  have fin : ∀ ws, RelDs X.K H1 (isSh c1) ws ys → Q (ws ++ []) H1 := fun ws rw_ => by
    have := p.ret c1 H1 s1 f1 [] ws .nil .nil rw_
    rw [List.append_nil]
    exact this
  cases d with
  | list ds =>
    cases h2
    obtain ⟨a, xs, rfl, h3, hz, r3⟩ := g.list
    exact ⟨a, xs, rfl, .inr (SqL.of h3), fin xs r3⟩
  | tuple ds =>
    cases h2
    obtain ⟨a, xs, rfl, h3, hz, r3⟩ := g.tup
    exact ⟨a, xs, rfl, .inl h3, fin xs r3⟩
  | _ => cases h2
theorem s_starC {x r : Ex} {xs : Exs} {l : List Expr} (hp : plainArg pe = true) (h : PE X pe (rdE xk X.K W ft cl x)) (hs : PA X l (rdAS xk X.K W ft cl xs r)) : PA X (pe :: l) (rdAS xk X.K W ft cl (.cons x xs) r) := by
  have asc : ∀ {α β γ : Type} (m : R α) (g : α → R β) (k : β → R γ), (m >>= g) >>= k = m >>= fun a => g a >>= k := fun m g k => by cases m <;> rfl
  refine (pa_cons h hs (plainArg_star hp)).wk fun σ H Q ⟨c, e, s, q⟩ => ⟨c, e, s, ?_⟩
  have q : Post xk X.K W σ c H ((evE ft cl x e >>= fun p => evEs ft cl xs p.2 >>= fun q => R.ok (p.1 :: q.1, q.2)) >>= fun p => evE ft cl r p.2 >>= fun q => fetch q.2 q.1 >>= fun d => R.ofO (items? d) >>= fun ys => R.ok ((p.1, ys), q.2)) (fun p _ c' H' => ∀ vs ws, RRs X.K H H' c' σ vs p.1 → (ownA p.1 vs).Nodup → RelDs X.K H' (isSh c') ws p.2 → Q (vs ++ ws) H') := q
  simp only [asc] at q
  refine q.bind.imp fun rr e1 c1 H1 s1 f1 p v rv => ⟨c1, e1, s1, ?_⟩
  have p : Post xk X.K W σ c H ((evEs ft cl xs e1 >>= fun p => evE ft cl r p.2 >>= fun q => fetch q.2 q.1 >>= fun d => R.ofO (items? d) >>= fun ys => R.ok ((p.1, ys), q.2)) >>= fun p => R.ok ((rr :: p.1.1, p.1.2), p.2)) (fun p _ c' H' => ∀ vs ws, RRs X.K H H' c' σ vs p.1 → (ownA p.1 vs).Nodup → RelDs X.K H' (isSh c') ws p.2 → Q (vs ++ ws) H') := by
    simp only [asc]
    exact p
  refine (p.step f1).imp fun rs e2 c2 H2 s2 f2 ⟨f, p⟩ vs ws rvs nd rw_ => ?_
  refine p.ret c2 H2 s2 f (v :: vs) ws (.cons (rv.fm f2) (rvs.up f1)) ?_ rw_
  exact own_cons rv rvs nd
theorem rdE_newS {es : Exs} {r : Ex} {l : Bool} {σ : L2.St} {H : Hp} {Q : VK} {c : Clr} {e : En} (s : StR X.K H c e σ)
    (h : Post xk X.K W σ c H (evEs ft cl es e >>= fun p => evE ft cl r p.2 >>= fun q => fetch q.2 q.1 >>= fun d => R.ofO (items? d) >>= fun ys => embeds q.2 p.1 >>= fun u => if u.1.length + ys.length ≤ sizeLine then R.ok (if l then Res.v true (.list (u.1 ++ ys)) else Res.v false (.tuple (u.1 ++ ys)), u.2) else .no) fun r _ c' H' => ∀ v, RR X.K H H' c' σ v r → Q v H') :
    rdAS xk X.K W ft cl es r σ H fun vs H1 => vs.length ≤ sizeLine ∧ ∀ p, H1 p = none → Q (.ref p) (upd H1 p (if l then .lst vs else .tup vs)) := by
  have asc : ∀ {α β γ : Type} (m : R α) (g : α → R β) (k : β → R γ), (m >>= g) >>= k = m >>= fun a => g a >>= k := fun m g k => by cases m <;> rfl
  have h : Post xk X.K W σ c H ((evEs ft cl es e >>= fun p => evE ft cl r p.2 >>= fun q => fetch q.2 q.1 >>= fun d => R.ofO (items? d) >>= fun ys => R.ok ((p.1, ys), q.2)) >>= fun w => embeds w.2 w.1.1 >>= fun u => if u.1.length + w.1.2.length ≤ sizeLine then R.ok (if l then Res.v true (.list (u.1 ++ w.1.2)) else Res.v false (.tuple (u.1 ++ w.1.2)), u.2) else .no) fun r _ c' H' => ∀ v, RR X.K H H' c' σ v r → Q v H' := by
    simp only [asc]
    exact h
  refine ⟨c, e, s, h.bind.imp fun w e1 c1 H1 s1 f1 p vs ws rv _ rw_ => ?_⟩
  obtain ⟨rs, ys⟩ := w
  obtain ⟨q, h1, p⟩ := p.get embeds_noEx
  obtain ⟨ds, e2⟩ := q
  obtain ⟨c2, s2, r2, f2, F⟩ := embeds_ok s1 f1 rv.rws h1
  have p : Post xk X.K W σ c H (if ds.length + ys.length ≤ sizeLine then R.ok (if l then Res.v true (.list (ds ++ ys)) else Res.v false (.tuple (ds ++ ys)), e2) else .no) fun r _ c' H' => ∀ v, RR X.K H H' c' σ v r → Q v H' := p
  split at p
  · rename_i hz
    have r3 : RelDs X.K H1 (isSh c2) (vs ++ ws) (ds ++ ys) := r2.append (F.rels rw_)
    have hz2 : (ds ++ ys).length ≤ sizeLine := by rw [List.length_append]; exact hz
    refine ⟨by rw [r3.length]; exact hz2, fun a ha => ?_⟩
    cases l with
    | true => exact p.ret (cset c2 a .tmp) _ ((Nw.new (k := .tmp) ha).str s2) (f2.trans (.new ha)) _ ⟨a, rfl, cset_at, f1.free ha, lst_new ha r3 hz2⟩
    | false => exact p.ret (cset c2 a .sh) _ ((Nw.new (k := .sh) ha).str s2) (f2.trans (.new ha)) _ (.inl (tup_new ha r3 hz2))
  · exact p.elim
theorem s_tupS {es : Exs} {r : Ex} {l : List Expr} {n : Nat} (h : PA X l (rdAS xk X.K W ft cl es r)) : PE X (.Tuple l n pos) (rdE xk X.K W ft cl (.tupS es r)) :=
  (pe_tup h).wk fun σ H Q ⟨c, e, s, q⟩ => rdE_newS (l := false) s q
theorem s_lstS {es : Exs} {r : Ex} {l : List Expr} (h : PA X l (rdAS xk X.K W ft cl es r)) : PE X (.List l pos) (rdE xk X.K W ft cl (.lstS es r)) :=
  (pe_lst h).wk fun σ H Q ⟨c, e, s, q⟩ => rdE_newS (l := true) s q
end
end Nm
set_option Elab.async false
set_option maxRecDepth 100000
set_option linter.all false
/-! Methods that change nothing: list.count, list.index. -/
namespace Nm
open PySem L2 PySem.Spec PyProof.Rows
section
variable {X : Cx}
/-- what a reading of a list and a thing rests on -/
def HasD (K : PySem.W.Frag) (x y : V) (H : Hp) (ds : List D) (d : D) : Prop := RelD K H (fun _ => True) x (.list ds) ∧ RelD K H (fun _ => True) y d ∧ min (PyData.depthAll ds) d.depth ≤ 64
def rCountP (K : PySem.W.Frag) : V → List V → Hp → VK → Prop := fun x xs H Q => ∃ y ds d, xs = [y] ∧ HasD K x y H ds d ∧ Q (.int ((ds.countP fun z => PyData.eqv z d : Nat) : Int)) H
def rIndexP (K : PySem.W.Frag) : V → List V → Hp → VK → Prop := fun x xs H Q => ∃ y ds d j, xs = [y] ∧ HasD K x y H ds d ∧ SeqAt.dataPlace ds d = some j ∧ Q (.int (j : Nat)) H
theorem hasD_lay {pins : List (Addr × Obj)} {s : Shared} {σ : L2.St} {H : Hp} {x y : V} {v uy : Value} {ds : List D} {d : D} (I : Inv X pins σ H s) (rx : RelV x v) (ry : RelV y uy) (h : HasD X.K x y H ds d) :
    ∃ a its as bs, v = .ref a ∧ s.heap.IsList a its ∧ ReadsAll s.heap its.toList ds as ∧ Reads s.heap uy d bs ∧ PyData.plainAll ds = true ∧ d.plain = true ∧ its.size ≤ sizeLine := by
  obtain ⟨hl, hy, hz⟩ := h
  obtain ⟨bs, r1⟩ := Dp.reads I d y uy hy.dp ry
  have pl := hl.plain_
  match x, hl, rx with
  | .ref a, .list _ h1 h2 h3, rx =>
    cases (show v = Value.ref a from rx)
    obtain ⟨its, rv, ⟨o, n, ho, hc, hdn, hdt⟩, hlen⟩ := I.list (SqL.of h1)
    obtain ⟨as, h4⟩ := Dp.readsAll I ds _ its h3.dp rv
    have := rv.length
    exact ⟨a, its.toArray, as, bs, rfl, ⟨o, ho, hc, n, hdt⟩, by simpa using h4, r1, pl, hy.plain_, by simp; omega⟩
theorem mt_countP (hu : X.A.units + 100 < cLine) : MtR X "list.count" (rCountP X.K) := by
  intro pins s σ H x xs v us Q I rx rxs h
  obtain ⟨y, ds, d, rfl, hh, q⟩ := h
  obtain ⟨uy, rfl, ry⟩ := rxs.one
  obtain ⟨a, its, as, bs, rfl, h1, h2, h3, h4, h5, h6⟩ := hasD_lay I rx ry hh
  have hz := hh.2.2
  exact SeqAt.count_list_data h1 h2 h3 h4 h5 (by omega) ⟨.int _, H, I.tok _, ⟨_, rfl⟩, q⟩
theorem mt_indexP (hu : X.A.units + 100 < cLine) : MtR X "list.index" (rIndexP X.K) := by
  intro pins s σ H x xs v us Q I rx rxs h
  obtain ⟨y, ds, d, j, rfl, hh, hp, q⟩ := h
  obtain ⟨uy, rfl, ry⟩ := rxs.one
  obtain ⟨a, its, as, bs, rfl, h1, h2, h3, h4, h5, h6⟩ := hasD_lay I rx ry hh
  have hz := hh.2.2
  obtain ⟨⟨cls, dd, dat, sl⟩, ho, hc, n, hdt⟩ := h1
  simp only at hc hdt
  subst hc hdt
  obtain ⟨hj, hit, hno⟩ := SeqAt.hit_at h2 h4 hp
  have hsl := sizeLine_eq
  exact call_meets PySem.F.slot_list_index ⟨_, ho, rfl⟩ PySem.F.entry_list_index (PySem.F.args_list_index_2 _ _) (SeqAt.list_indexAt a its n dd sl uy _ j hj (by omega) hit hno)
    ⟨ho, SeqAt.items_plain h2 h3 h4 h5 (by omega), ⟨.int (j : Nat), H, I.tok _, ⟨_, rfl⟩, q⟩⟩
end
def mtName : Mt → Str
  | .count => "count" | .index => "index" | .join => "join" | .split => "split" | .get => "get"
/-- a method and its reading -/
structure MtOk (X : Cx) (m : Mt) : Prop where
  ok : ∃ (T id : String) (r : V → List V → Hp → VK → Prop), PlainAttrs T ∧ Slot T (mtName m) id ∧ typeOf (.builtin id) = pure (.type "method_descriptor") ∧ MtR X id r ∧
    (∀ c H x d, RelF X.K H c x d → mthT m d = true → tyV X.K T x H) ∧ ∀ σ c H x xs da ds res Q, RelF X.K H c x da → RelFs X.K H c xs ds → mthD m da ds = .ok res → Aft X.K σ c H res Q → r x xs H Q
theorem mthT_list {m : Mt} {d : D} (hm : m = .count ∨ m = .index) (h : mthT m d = true) : ∃ ds, d = .list ds := by
  rcases hm with rfl | rfl <;> cases d <;> first | exact ⟨_, rfl⟩ | cases h
theorem lst_ty {K : PySem.W.Frag} {H : Hp} {c : Clr} {x : V} {ds : List D} (h : RelF K H c x (.list ds)) : tyV K "list" x H := by
  obtain ⟨a, xs, rfl, h1, _⟩ := h.list
  exact .inl ⟨rfl, _, SqL.of h1⟩
theorem eqOk_list {d : D} {ds : List D} (h : eqOk d (.list ds) = true) : notD d = true ∧ min (PyData.depthAll ds) d.depth ≤ 64 := by
  unfold eqOk at h
  simp only [Bool.and_eq_true, decide_eq_true_eq] at h
  refine ⟨h.1.1, ?_⟩
  have := h.2
  have e : (PyData.list ds).depth = PyData.depthAll ds + 1 := rfl
  omega
theorem mt_ok {X : Cx} (hu : X.A.units + 100 < cLine) : ∀ {m : Mt}, m = .count ∨ m = .index → MtOk X m
  | .count, _ => ⟨"list", "list.count", _, PySem.F.plainAttrs_list, PySem.F.slot_list_count, PySem.F.type_list_count, mt_countP hu, fun c H x d hx ht => by
      obtain ⟨ds, rfl⟩ := mthT_list (.inl rfl) ht
      exact lst_ty hx, fun σ c H x xs da ds res Q hx hxs e q => by
      match da, ds, e with
      | .list zs, [d], e =>
        have e : (if eqOk d (.list zs) = true then R.ok (Res.v false (.int ((zs.countP fun y => PyData.eqv y d : Nat) : Int))) else .no) = R.ok res := e
        split at e
        · rename_i hz
          cases e
          obtain ⟨y, rfl, hy⟩ := hxs.one
          obtain ⟨n1, n2⟩ := eqOk_list hz
          exact ⟨y, zs, d, rfl, ⟨hx.plain rfl, hy.plain n1, n2⟩, q.int⟩
        · cases e⟩
  | .index, _ => ⟨"list", "list.index", _, PySem.F.plainAttrs_list, PySem.F.slot_list_index, PySem.F.type_list_index, mt_indexP hu, fun c H x d hx ht => by
      obtain ⟨ds, rfl⟩ := mthT_list (.inr rfl) ht
      exact lst_ty hx, fun σ c H x xs da ds res Q hx hxs e q => by
      match da, ds, e with
      | .list zs, [d], e =>
        have e : (if eqOk d (.list zs) = true then (match zs.findIdx? fun y => PyData.eqv y d with | some j => R.ok (Res.v false (.int j)) | none => .no) else .no) = R.ok res := e
        split at e
        · rename_i hz
          obtain ⟨y, rfl, hy⟩ := hxs.one
          obtain ⟨n1, n2⟩ := eqOk_list hz
          split at e
          · rename_i j hj
            cases e
            exact ⟨y, zs, d, j, rfl, ⟨hx.plain rfl, hy.plain n1, n2⟩, hj, q.int⟩
          · cases e
        · cases e⟩
  | .join, h => by rcases h with h | h <;> cases h
  | .split, h => by rcases h with h | h <;> cases h
  | .get, h => by rcases h with h | h <;> cases h
end Nm
set_option Elab.async false
set_option maxRecDepth 100000
set_option linter.all false
/-! A call: how the arguments go in, what the slots hold behind it. -/
namespace Nm
open PySem L2 PyProof.Rows
section
variable {K : PySem.W.Frag} {H0 H : Hp} {c : Clr} {σ : L2.St} {e : En} {io : List Nat}
theorem RRs.get : ∀ {vs : List V} {rs : List Res} {j : Nat} {r : Res}, RRs K H0 H c σ vs rs → rs[j]? = some r → ∃ v, vs[j]? = some v ∧ RR K H0 H c σ v r
  | _, _, _, _, .nil, h => by simp at h
  | _, _, 0, _, .cons h _, q => by simp at q; subst q; exact ⟨_, rfl, h⟩
  | _, _, j + 1, _, .cons _ hs, q => by simpa using hs.get (j := j) (by simpa using q)
theorem argsIn_get : ∀ {rs : List Res} {k : Nat} {ss : List Sv}, argsIn e io k rs = .ok ss → ss.length = rs.length ∧ ∀ j r, rs[j]? = some r → ∃ s, ss[j]? = some s ∧ argIn e (io.contains (k + j)) r = .ok s
  | [], k, ss, h => by cases h; exact ⟨rfl, fun j r q => by simp at q⟩
  | r :: rs, k, ss, h => by
    have h : (argIn e (io.contains k) r >>= fun s => argsIn e io (k + 1) rs >>= fun l => R.ok (s :: l)) = R.ok ss := h
    cases h1 : argIn e (io.contains k) r with
    | ok s =>
      rw [h1] at h
      have h : (argsIn e io (k + 1) rs >>= fun l => R.ok (s :: l)) = R.ok ss := h
      cases h2 : argsIn e io (k + 1) rs with
      | ok l =>
        rw [h2] at h
        cases h
        obtain ⟨z, g⟩ := argsIn_get h2
        refine ⟨congrArg (· + 1) z, fun j r' q => ?_⟩
        cases j with
        | zero => simp at q; subst q; exact ⟨s, rfl, h1⟩
        | succ j =>
          obtain ⟨s', a, b⟩ := g j r' (by simpa using q)
          exact ⟨s', by simpa using a, by rw [show k + (j + 1) = k + 1 + j by omega]; exact b⟩
      | ex x => rw [h2] at h; cases h
      | no => rw [h2] at h; cases h
    | ex x => rw [h1] at h; cases h
    | no => rw [h1] at h; cases h
theorem noEx_argIn {b : Bool} : ∀ {r : Res}, NoEx (argIn e b r)
  | .v o d => by
    show NoEx (if b = true then (if o = true then R.ok (Sv.mk true d) else .no) else .ok ⟨false, d⟩)
    exact .ite (.ite .ok .no) .ok
  | .p i => by
    intro y h
    have h : (match e[i]? with | some (some s) => if b = true then (if s.own = true then R.ok (Sv.mk true s.d) else .no) else .ok ⟨false, s.d⟩ | _ => R.no) = R.ex y := h
    split at h
    · exact NoEx.ite (.ite .ok .no) .ok y h
    · cases h
theorem noEx_argsIn : ∀ {rs : List Res} {k : Nat}, NoEx (argsIn e io k rs)
  | [], _ => .ok
  | _ :: rs, k => noEx_argIn.bind fun _ => (noEx_argsIn (rs := rs)).bind fun _ => .ok
theorem mem_inouts : ∀ {rs : List Res} {k i : Nat}, i ∈ inouts io k rs ↔ ∃ j, rs[j]? = some (.p i) ∧ io.contains (k + j) = true
  | [], k, i => by simp [inouts]
  | .v o d :: rs, k, i => by
    unfold inouts
    rw [mem_inouts]
    constructor
    · rintro ⟨j, h1, h2⟩; exact ⟨j + 1, by simpa using h1, by rw [show k + (j + 1) = k + 1 + j by omega]; exact h2⟩
    · rintro ⟨j, h1, h2⟩
      cases j with
      | zero => simp at h1
      | succ j => exact ⟨j, by simpa using h1, by rw [show k + 1 + j = k + (j + 1) by omega]; exact h2⟩
  | .p n :: rs, k, i => by
    unfold inouts
    split
    · rename_i hc
      rw [List.mem_cons, mem_inouts]
      constructor
      · rintro (rfl | ⟨j, h1, h2⟩)
        · exact ⟨0, rfl, by simpa using hc⟩
        · exact ⟨j + 1, by simpa using h1, by rw [show k + (j + 1) = k + 1 + j by omega]; exact h2⟩
      · rintro ⟨j, h1, h2⟩
        cases j with
        | zero => simp at h1; exact .inl h1.symm
        | succ j => exact .inr ⟨j, by simpa using h1, by rw [show k + 1 + j = k + (j + 1) by omega]; exact h2⟩
    · rename_i hc
      rw [mem_inouts]
      constructor
      · rintro ⟨j, h1, h2⟩; exact ⟨j + 1, by simpa using h1, by rw [show k + (j + 1) = k + 1 + j by omega]; exact h2⟩
      · rintro ⟨j, h1, h2⟩
        cases j with
        | zero => exact absurd h2 hc
        | succ j => exact ⟨j, by simpa using h1, by rw [show k + 1 + j = k + (j + 1) by omega]; exact h2⟩
theorem mem_lents : ∀ {rs : List Res} {k i : Nat}, i ∈ lents io k rs ↔ ∃ j, rs[j]? = some (.p i) ∧ io.contains (k + j) = false
  | [], k, i => by simp [lents]
  | .v o d :: rs, k, i => by
    unfold lents
    rw [mem_lents]
    constructor
    · rintro ⟨j, h1, h2⟩; exact ⟨j + 1, by simpa using h1, by rw [show k + (j + 1) = k + 1 + j by omega]; exact h2⟩
    · rintro ⟨j, h1, h2⟩
      cases j with
      | zero => simp at h1
      | succ j => exact ⟨j, by simpa using h1, by rw [show k + 1 + j = k + (j + 1) by omega]; exact h2⟩
  | .p n :: rs, k, i => by
    unfold lents
    split
    · rename_i hc
      rw [mem_lents]
      constructor
      · rintro ⟨j, h1, h2⟩; exact ⟨j + 1, by simpa using h1, by rw [show k + (j + 1) = k + 1 + j by omega]; exact h2⟩
      · rintro ⟨j, h1, h2⟩
        cases j with
        | zero => rw [show k + 0 = k from rfl, hc] at h2; cases h2
        | succ j => exact ⟨j, by simpa using h1, by rw [show k + 1 + j = k + (j + 1) by omega]; exact h2⟩
    · rename_i hc
      rw [List.mem_cons, mem_lents]
      constructor
      · rintro (rfl | ⟨j, h1, h2⟩)
        · exact ⟨0, rfl, by simpa using hc⟩
        · exact ⟨j + 1, by simpa using h1, by rw [show k + (j + 1) = k + 1 + j by omega]; exact h2⟩
      · rintro ⟨j, h1, h2⟩
        cases j with
        | zero => simp at h1; exact .inl h1.symm
        | succ j => exact .inr ⟨j, by simpa using h1, by rw [show k + 1 + j = k + (j + 1) by omega]; exact h2⟩
theorem ioAt_some : ∀ {rs : List Res} {k i m : Nat}, ioAt io k rs i = some m → ∃ j, m = k + j ∧ rs[j]? = some (.p i) ∧ io.contains m = true
  | [], k, i, m, h => by simp [ioAt] at h
  | .v o d :: rs, k, i, m, h => by
    unfold ioAt at h
    obtain ⟨j, h1, h2, h3⟩ := ioAt_some h
    exact ⟨j + 1, by omega, by simpa using h2, h3⟩
  | .p n :: rs, k, i, m, h => by
    unfold ioAt at h
    split at h
    · rename_i hc
      simp only [Bool.and_eq_true, beq_iff_eq] at hc
      cases h
      obtain ⟨h1, rfl⟩ := hc
      exact ⟨0, rfl, rfl, h1⟩
    · obtain ⟨j, h1, h2, h3⟩ := ioAt_some h
      exact ⟨j + 1, by omega, by simpa using h2, h3⟩
theorem ioAt_none : ∀ {rs : List Res} {k i : Nat}, ioAt io k rs i = none → ∀ j, rs[j]? = some (.p i) → io.contains (k + j) = false
  | [], k, i, h, j, q => by simp at q
  | .v o d :: rs, k, i, h, j, q => by
    unfold ioAt at h
    cases j with
    | zero => simp at q
    | succ j => rw [show k + (j + 1) = k + 1 + j by omega]; exact ioAt_none h j (by simpa using q)
  | .p n :: rs, k, i, h, j, q => by
    unfold ioAt at h
    split at h
    · cases h
    · rename_i hc
      cases j with
      | zero =>
        simp at q
        subst q
        cases hk : io.contains (k + 0) with
        | false => rfl
        | true => exact absurd (by simp only [Bool.and_eq_true, beq_iff_eq]; exact ⟨hk, trivial⟩) hc
      | succ j => rw [show k + (j + 1) = k + 1 + j by omega]; exact ioAt_none h j (by simpa using q)
theorem updE_get (g : Nat → Option Sv → Option Sv) : ∀ (e : En) (k i : Nat), (updE g k e)[i]? = (e[i]?).map (g (k + i))
  | [], k, i => by simp [updE]
  | s :: r, k, 0 => by simp [updE]
  | s :: r, k, i + 1 => by
    unfold updE
    rw [List.getElem?_cons_succ, updE_get g r (k + 1) i, List.getElem?_cons_succ, show k + 1 + i = k + (i + 1) by omega]
theorem updE_len (g : Nat → Option Sv → Option Sv) : ∀ (e : En) (k : Nat), (updE g k e).length = e.length
  | [], k => rfl
  | s :: r, k => congrArg (· + 1) (updE_len g r (k + 1))
/-- in-out slots go to one parameter each -/
theorem inouts_one : ∀ {rs : List Res} {k i j j' : Nat}, (inouts io k rs).Nodup → rs[j]? = some (.p i) → rs[j']? = some (.p i) → io.contains (k + j) = true → io.contains (k + j') = true → j = j'
  | [], k, i, j, j', n, q, _, _, _ => by simp at q
  | .v o d :: rs, k, i, j, j', n, q, q', c, c' => by
    unfold inouts at n
    cases j with
    | zero => simp at q
    | succ j =>
      cases j' with
      | zero => simp at q'
      | succ j' =>
        exact congrArg (· + 1) (inouts_one (k := k + 1) n (by simpa using q) (by simpa using q') (by rw [show k + 1 + j = k + (j + 1) by omega]; exact c) (by rw [show k + 1 + j' = k + (j' + 1) by omega]; exact c'))
  | .p m :: rs, k, i, j, j', n, q, q', c, c' => by
    unfold inouts at n
    have tail : ∀ {j : Nat}, rs[j]? = some (.p i) → io.contains (k + (j + 1)) = true → i ∈ inouts io (k + 1) rs := fun {j} a b => mem_inouts.mpr ⟨j, a, by rw [show k + 1 + j = k + (j + 1) by omega]; exact b⟩
    cases j with
    | zero =>
      cases j' with
      | zero => rfl
      | succ j' =>
        simp at q
        subst q
        rw [if_pos (by simpa using c)] at n
        exact absurd (tail (by simpa using q') c') (List.nodup_cons.mp n).1
    | succ j =>
      cases j' with
      | zero =>
        simp at q'
        subst q'
        rw [if_pos (by simpa using c')] at n
        exact absurd (tail (by simpa using q) c) (List.nodup_cons.mp n).1
      | succ j' =>
        have n' : (inouts io (k + 1) rs).Nodup := by
          split at n
          · exact (List.nodup_cons.mp n).2
          · exact n
        exact congrArg (· + 1) (inouts_one (k := k + 1) n' (by simpa using q) (by simpa using q') (by rw [show k + 1 + j = k + (j + 1) by omega]; exact c) (by rw [show k + 1 + j' = k + (j' + 1) by omega]; exact c'))
theorem ownA_mem : ∀ {rs : List Res} {vs : List V} {j : Nat} {d : D} {a : Addr}, rs[j]? = some (.v true d) → vs[j]? = some (.ref a) → a ∈ ownA rs vs
  | [], _, j, _, _, h, _ => by simp at h
  | _ :: _, [], j, _, _, _, h => by simp at h
  | r :: rs, v :: vs, 0, d, a, h, h' => by
    simp at h h'
    subst h h'
    exact List.mem_cons_self
  | r :: rs, v :: vs, j + 1, d, a, h, h' => by
    have m := ownA_mem (rs := rs) (vs := vs) (j := j) (d := d) (a := a) (by simpa using h) (by simpa using h')
    cases r with
    | p i => exact m
    | v o d' => cases o with
      | false => exact m
      | true => cases v <;> first | exact m | exact List.mem_cons_of_mem _ m
theorem ownA_one : ∀ {rs : List Res} {vs : List V} {j j' : Nat} {d d' : D} {a : Addr}, (ownA rs vs).Nodup → rs[j]? = some (.v true d) → rs[j']? = some (.v true d') → vs[j]? = some (.ref a) → vs[j']? = some (.ref a) → j = j'
  | [], _, j, _, _, _, _, _, h, _, _, _ => by simp at h
  | _ :: _, [], j, _, _, _, _, _, _, _, h, _ => by simp at h
  | r :: rs, v :: vs, j, j', d, d', a, n, h1, h2, h3, h4 => by
    have n' : (ownA rs vs).Nodup := by
      cases r with
      | p i => exact n
      | v o d' => cases o with
        | false => exact n
        | true => cases v <;> first | exact n | exact (List.nodup_cons.mp n).2
    cases j with
    | zero =>
      cases j' with
      | zero => rfl
      | succ j' =>
        simp at h1 h3
        subst h1 h3
        exact absurd (ownA_mem (by simpa using h2) (by simpa using h4)) (List.nodup_cons.mp n).1
    | succ j =>
      cases j' with
      | zero =>
        simp at h2 h4
        subst h2 h4
        exact absurd (ownA_mem (by simpa using h1) (by simpa using h3)) (List.nodup_cons.mp n).1
      | succ j' => exact congrArg (· + 1) (ownA_one n' (by simpa using h1) (by simpa using h2) (by simpa using h3) (by simpa using h4))
end
/-! what holds no list holds whoever may write -/
mutual
theorem imm_any {K : PySem.W.Frag} {H : Hp} {A A' : Addr → Prop} : ∀ {v : V} {d : D}, imm d = true → RelD K H A v d → RelD K H A' v d
  | _, _, _, .none => .none
  | _, _, _, .bool b => .bool b
  | _, _, _, .int i => .int i
  | _, _, _, .str x h => .str x h
  | _, _, i, .tup h1 h2 h3 => .tup h1 h2 (imms_any i h3)
  | _, _, i, .list _ _ _ _ => absurd i Bool.false_ne_true
theorem imms_any {K : PySem.W.Frag} {H : Hp} {A A' : Addr → Prop} : ∀ {vs : List V} {ds : List D}, imms ds = true → RelDs K H A vs ds → RelDs K H A' vs ds
  | _, _, _, .nil => .nil
  | _, d :: ds, i, .cons h hs => .cons (imm_any (Bool.and_eq_true_iff.mp (show (imm d && imms ds) = true from i)).1 h) (imms_any (Bool.and_eq_true_iff.mp (show (imm d && imms ds) = true from i)).2 hs)
end
theorem imm_notD {d : D} (h : imm d = true) : notD d = true := by cases d <;> first | rfl | exact absurd h Bool.false_ne_true
end Nm
set_option Elab.async false
set_option maxRecDepth 100000
set_option linter.all false
namespace Nm
open PySem L2 PyProof.Rows
open Classical in
/-- the callee's colours -/
noncomputable def inC (H : Hp) (c1 : Clr) (io ls : List Nat) (vs : List V) : Clr := fun a =>
  if h : ∃ j, io.contains j = true ∧ vs[j]? = some (.ref a) then .sl h.choose
  else if c1 a = .sh ∨ (∃ i, i ∈ ls ∧ c1 a = .sl i) ∨ (c1 a = .tmp ∧ H a = none) then .sh else .out
open Classical in
/-- the caller's colours behind the call -/
noncomputable def outC (H H1 : Hp) (c1 c' : Clr) (io ls : List Nat) (fz : Bool) (vs : List V) : Clr := fun a =>
  if H1 a = none then (if c' a = .sh then .sh else if c' a = .tmp then .tmp else .out)
  else if (∃ j, io.contains j = true ∧ vs[j]? = some (.ref a)) then (if c' a = .sh then .sh else c1 a)
  else if (c1 a = .tmp ∧ H a = none) ∨ (fz = true ∧ ∃ i, i ∈ ls ∧ c1 a = .sl i) then .sh else c1 a
section
variable {xk : ExK} {ft : Nat → Fd} {cl : Cl} {K : PySem.W.Frag} {W : WX} {σ : L2.St} {H H1 H' : Hp} {c c1 c' : Clr} {e1 : En} {rs : List Res} {vs : List V} {ss : List Sv} {io : List Nat}
/-- what is known where a call is made -/
structure At (K : PySem.W.Frag) (σ : L2.St) (c : Clr) (H : Hp) (c1 : Clr) (H1 : Hp) (e1 : En) (io : List Nat) (rs : List Res) (vs : List V) (ss : List Sv) : Prop where
  s : StR K H1 c1 e1 σ
  f : Fm c H c1 H1
  rr : RRs K H H1 c1 σ vs rs
  nd : (ownA rs vs).Nodup
  ni : (inouts io 0 rs).Nodup
  dj : ∀ i, i ∈ inouts io 0 rs → i ∉ lents io 0 rs
  ai : argsIn e1 io 0 rs = .ok ss
theorem At.io_arg (t : At K σ c H c1 H1 e1 io rs vs ss) {j : Nat} {a : Addr} (hj : io.contains j = true) (hv : vs[j]? = some (.ref a)) :
    (∃ d, rs[j]? = some (.v true d) ∧ ss[j]? = some ⟨true, d⟩ ∧ c1 a = .tmp ∧ H a = none ∧ Top K H1 (isSh c1) a d) ∨
    (∃ i d, rs[j]? = some (.p i) ∧ e1[i]? = some (some ⟨true, d⟩) ∧ ss[j]? = some ⟨true, d⟩ ∧ σ[i]? = some (some (.ref a)) ∧ c1 a = .sl i ∧ Top K H1 (isSh c1) a d) := by
  have hlt : j < rs.length := by rw [← t.rr.length]; exact (List.getElem?_eq_some_iff.mp hv).1
  obtain ⟨v, hv', hr⟩ := t.rr.get (List.getElem?_eq_getElem hlt)
  rw [hv] at hv'; cases hv'
  obtain ⟨s, hs, ha⟩ := (argsIn_get t.ai).2 j _ (List.getElem?_eq_getElem hlt)
  rw [Nat.zero_add, hj] at ha
  generalize hq : rs[j] = r at hr ha
  have hq' : rs[j]? = some r := by rw [List.getElem?_eq_getElem hlt, hq]
  match r, hr, ha with
  | .v true d, ⟨b, e, e2, e3, h⟩, ha => cases e; cases ha; exact .inl ⟨d, hq', hs, e2, e3, h⟩
  | .v false d, hr, ha => cases ha
  | .p i, hr, ha =>
    have ha : (match e1[i]? with | some (some s) => if true = true then (if s.own = true then R.ok (Sv.mk true s.d) else .no) else .ok ⟨false, s.d⟩ | _ => R.no) = R.ok s := ha
    cases hs1 : e1[i]? with
    | none => rw [hs1] at ha; cases ha
    | some o => cases o with
      | none => rw [hs1] at ha; cases ha
      | some sv =>
        rw [hs1] at ha
        obtain ⟨ow, d⟩ := sv
        cases ow with
        | false => cases ha
        | true =>
          cases ha
          obtain ⟨w, hw, b, e, e2, h⟩ := t.s.at_ i _ hs1
          have hr : σ[i]? = some (some (.ref a)) := hr
          rw [hr] at hw; cases hw; cases e
          exact .inr ⟨i, d, hq', hs1, hs, hr, e2, h⟩
theorem At.io_one (t : At K σ c H c1 H1 e1 io rs vs ss) {j j' : Nat} {a : Addr} (hj : io.contains j = true) (hv : vs[j]? = some (.ref a)) (hj' : io.contains j' = true) (hv' : vs[j']? = some (.ref a)) : j = j' := by
  rcases t.io_arg hj hv with ⟨d, h1, _, h2, _⟩ | ⟨i, d, h1, _, _, _, h2, _⟩
  · rcases t.io_arg hj' hv' with ⟨d', g1, _, g2, _⟩ | ⟨i', d', g1, _, _, _, g2, _⟩
    · exact ownA_one t.nd h1 g1 hv hv'
    · rw [h2] at g2; cases g2
  · rcases t.io_arg hj' hv' with ⟨d', g1, _, g2, _⟩ | ⟨i', d', g1, _, _, _, g2, _⟩
    · rw [h2] at g2; cases g2
    · rw [h2] at g2; cases g2
      exact inouts_one t.ni h1 g1 (by rw [Nat.zero_add]; exact hj) (by rw [Nat.zero_add]; exact hj')
theorem At.inC_io (t : At K σ c H c1 H1 e1 io rs vs ss) {j : Nat} {a : Addr} (hj : io.contains j = true) (hv : vs[j]? = some (.ref a)) : inC H c1 io (lents io 0 rs) vs a = .sl j := by
  unfold inC
  have hx : ∃ j, io.contains j = true ∧ vs[j]? = some (.ref a) := ⟨j, hj, hv⟩
  rw [dif_pos hx]
  exact congrArg _ (t.io_one hx.choose_spec.1 hx.choose_spec.2 hj hv)
theorem At.no_io (t : At K σ c H c1 H1 e1 io rs vs ss) {a : Addr} (h : c1 a = .sh ∨ c1 a = .out ∨ (∃ i, i ∈ lents io 0 rs ∧ c1 a = .sl i) ∨ (∃ i, i ∉ inouts io 0 rs ∧ c1 a = .sl i) ∨ (c1 a = .tmp ∧ H a ≠ none)) : ¬ ∃ j, io.contains j = true ∧ vs[j]? = some (.ref a) := by
  rintro ⟨j, hj, hv⟩
  rcases t.io_arg hj hv with ⟨d, h1, _, h2, h3, _⟩ | ⟨i, d, h1, _, _, _, h2, _⟩
  · rcases h with h | h | ⟨_, _, h⟩ | ⟨_, _, h⟩ | ⟨_, h⟩
    · rw [h2] at h; cases h
    · rw [h2] at h; cases h
    · rw [h2] at h; cases h
    · rw [h2] at h; cases h
    · exact h h3
  · have hi : i ∈ inouts io 0 rs := mem_inouts.mpr ⟨j, h1, by rw [Nat.zero_add]; exact hj⟩
    rcases h with h | h | ⟨k, hk, h⟩ | ⟨k, hk, h⟩ | ⟨h, _⟩
    · rw [h2] at h; cases h
    · rw [h2] at h; cases h
    · rw [h2] at h; cases h; exact t.dj i hi hk
    · rw [h2] at h; cases h; exact hk hi
    · rw [h2] at h; cases h
theorem At.inC_sh (t : At K σ c H c1 H1 e1 io rs vs ss) {a : Addr} (h : c1 a = .sh ∨ (∃ i, i ∈ lents io 0 rs ∧ c1 a = .sl i)) : inC H c1 io (lents io 0 rs) vs a = .sh := by
  unfold inC
  rw [dif_neg (t.no_io (by rcases h with h | h; exact .inl h; exact .inr (.inr (.inl h)))), if_pos (by rcases h with h | h; exact .inl h; exact .inr (.inl h))]
/-- what is not in-out is nobody's slot within -/
theorem At.inC_nsl (t : At K σ c H c1 H1 e1 io rs vs ss) {a : Addr} (h : ¬ ∃ j, io.contains j = true ∧ vs[j]? = some (.ref a)) (i : Nat) : inC H c1 io (lents io 0 rs) vs a ≠ .sl i := by
  unfold inC
  rw [dif_neg h]
  split <;> intro z <;> cases z
/-- the arguments, as the callee sees them -/
theorem At.args (t : At K σ c H c1 H1 e1 io rs vs ss) : ArgR K H1 (inC H c1 io (lents io 0 rs) vs) io vs ss := by
  have el {a : Addr} {d : D} (h : Top K H1 (isSh c1) a d) : Top K H1 (isSh (inC H c1 io (lents io 0 rs) vs)) a d := by
    cases d with
    | list ds => obtain ⟨xs, h1, hz, h2⟩ := h; exact ⟨xs, h1, hz, h2.mono fun b hb => t.inC_sh (.inl hb)⟩
    | _ => exact h
  obtain ⟨hl, hg⟩ := argsIn_get t.ai
  refine ⟨by rw [t.rr.length, hl], fun a i q => ?_, fun j s hs => ?_⟩
  · by_cases hx : ∃ j, io.contains j = true ∧ vs[j]? = some (.ref a)
    · obtain ⟨j, hj, hv⟩ := hx
      rw [t.inC_io hj hv] at q
      cases q
      simpa using hj
    · exact absurd q (t.inC_nsl hx i)
  have hlt : j < rs.length := by rw [← hl]; exact (List.getElem?_eq_some_iff.mp hs).1
  obtain ⟨v, hv, hr⟩ := t.rr.get (List.getElem?_eq_getElem hlt)
  obtain ⟨s', hs', ha⟩ := hg j _ (List.getElem?_eq_getElem hlt)
  rw [hs] at hs'; cases hs'
  refine ⟨v, hv, ?_⟩
  rw [Nat.zero_add] at ha
  cases hio : io.contains j with
  | true =>
    have own : ∃ a, v = .ref a := by
      rw [hio] at ha
      generalize rs[j] = r at hr ha
      match r, hr, ha with
      | .v true d, ⟨b, e, _⟩, _ => exact ⟨b, e⟩
      | .v false d, _, ha => cases ha
      | .p i, hr, ha =>
        have ha : (match e1[i]? with | some (some s) => if true = true then (if s.own = true then R.ok (Sv.mk true s.d) else .no) else .ok ⟨false, s.d⟩ | _ => R.no) = R.ok s := ha
        cases hs1 : e1[i]? with
        | none => rw [hs1] at ha; cases ha
        | some o => cases o with
          | none => rw [hs1] at ha; cases ha
          | some sv =>
            rw [hs1] at ha
            obtain ⟨ow, d⟩ := sv
            cases ow with
            | false => cases ha
            | true =>
              obtain ⟨w, hw, b, e, _⟩ := t.s.at_ i _ hs1
              have hr : σ[i]? = some (some v) := hr
              rw [hr] at hw; cases hw
              exact ⟨b, e⟩
    obtain ⟨a, rfl⟩ := own
    rcases t.io_arg hio hv with ⟨d, h1, h2, h3, _, h5⟩ | ⟨i, d, h1, _, h2, _, h3, h5⟩
    · rw [hs] at h2; cases h2
      exact ⟨a, rfl, t.inC_io hio hv, el h5⟩
    · rw [hs] at h2; cases h2
      exact ⟨a, rfl, t.inC_io hio hv, el h5⟩
  | false =>
    rw [hio] at ha
    have give {a : Addr} {d : D} (h : Top K H1 (isSh c1) a d) (q : inC H c1 io (lents io 0 rs) vs a = .sh) : RelS K H1 (inC H c1 io (lents io 0 rs) vs) (.ref a) d := (el h).give q
    generalize hq : rs[j] = r at hr ha
    have hq' : rs[j]? = some r := by rw [List.getElem?_eq_getElem hlt, hq]
    match r, hr, ha with
    | .v false d, hr, ha => cases ha; exact hr.mono fun b hb => t.inC_sh (.inl hb)
    | .v true d, ⟨b, e, e2, e3, h⟩, ha =>
      cases ha
      subst e
      refine give h ?_
      unfold inC
      rw [dif_neg, if_pos (.inr (.inr ⟨e2, e3⟩))]
      rintro ⟨k, hk, hvk⟩
      rcases t.io_arg hk hvk with ⟨d', h1, _⟩ | ⟨i, d', _, _, _, _, h2, _⟩
      · have := ownA_one t.nd hq' h1 hv hvk
        subst this
        rw [hio] at hk; cases hk
      · rw [e2] at h2; cases h2
    | .p i, hr, ha =>
      have ha : (match e1[i]? with | some (some s) => if false = true then (if s.own = true then R.ok (Sv.mk true s.d) else .no) else .ok ⟨false, s.d⟩ | _ => R.no) = R.ok s := ha
      have hr : σ[i]? = some (some v) := hr
      cases hs1 : e1[i]? with
      | none => rw [hs1] at ha; cases ha
      | some o => cases o with
        | none => rw [hs1] at ha; cases ha
        | some sv =>
          rw [hs1] at ha
          cases ha
          obtain ⟨w, hw, h⟩ := t.s.at_ i _ hs1
          rw [hr] at hw; cases hw
          obtain ⟨ow, d⟩ := sv
          cases ow with
          | false => exact RelA.mono (fun b hb => t.inC_sh (.inl hb)) h
          | true =>
            obtain ⟨a, e, e2, h⟩ := h
            subst e
            exact give h (t.inC_sh (.inr ⟨i, mem_lents.mpr ⟨j, hq', by rw [Nat.zero_add]; exact hio⟩, e2⟩))
end
end Nm
set_option Elab.async false
set_option maxRecDepth 100000
set_option linter.all false
namespace Nm
open PySem L2 PyProof.Rows
section
variable {xk : ExK} {ft : Nat → Fd} {cl : Cl} {K : PySem.W.Frag} {W : WX} {σ : L2.St} {H H1 H' : Hp} {c c1 c' : Clr} {e1 : En} {rs : List Res} {vs : List V} {ss : List Sv} {io : List Nat}
/-- colours behind the call -/
theorem outC_new {ls : List Nat} {fz : Bool} {a : Addr} (h : H1 a = none) : (c' a = .sh → outC H H1 c1 c' io ls fz vs a = .sh) ∧ (c' a = .tmp → outC H H1 c1 c' io ls fz vs a = .tmp) := by
  unfold outC
  rw [if_pos h]
  exact ⟨fun e => by rw [if_pos e], fun e => by rw [e]; simp⟩
theorem At.out_io (t : At K σ c H c1 H1 e1 io rs vs ss) {fz : Bool} {j : Nat} {a : Addr} (hn : H1 a ≠ none) (hj : io.contains j = true) (hv : vs[j]? = some (.ref a)) :
    outC H H1 c1 c' io (lents io 0 rs) fz vs a = if c' a = .sh then .sh else c1 a := by
  unfold outC
  rw [if_neg hn, if_pos ⟨j, hj, hv⟩]
theorem At.out_else (t : At K σ c H c1 H1 e1 io rs vs ss) {fz : Bool} {a : Addr} (hn : H1 a ≠ none) (hx : ¬ ∃ j, io.contains j = true ∧ vs[j]? = some (.ref a)) :
    (((c1 a = .tmp ∧ H a = none) ∨ (fz = true ∧ ∃ i, i ∈ lents io 0 rs ∧ c1 a = .sl i)) ∧ outC H H1 c1 c' io (lents io 0 rs) fz vs a = .sh) ∨
    (¬ ((c1 a = .tmp ∧ H a = none) ∨ (fz = true ∧ ∃ i, i ∈ lents io 0 rs ∧ c1 a = .sl i)) ∧ outC H H1 c1 c' io (lents io 0 rs) fz vs a = c1 a) := by
  unfold outC
  rw [if_neg hn, if_neg hx]
  by_cases q : (c1 a = .tmp ∧ H a = none) ∨ (fz = true ∧ ∃ i, i ∈ lents io 0 rs ∧ c1 a = .sl i)
  · exact .inl ⟨q, if_pos q⟩
  · exact .inr ⟨q, if_neg q⟩
theorem At.out_sh (t : At K σ c H c1 H1 e1 io rs vs ss) {fz : Bool} {a : Addr} (hn : H1 a ≠ none) (h : c1 a = .sh) : outC H H1 c1 c' io (lents io 0 rs) fz vs a = .sh := by
  rcases t.out_else (c' := c') (fz := fz) hn (t.no_io (.inl h)) with ⟨_, q⟩ | ⟨_, q⟩
  · exact q
  · exact q.trans h
theorem At.out_fm (t : At K σ c H c1 H1 e1 io rs vs ss) {fz : Bool} (g : Fm (inC H c1 io (lents io 0 rs) vs) H1 c' H') : Fm c H (outC H H1 c1 c' io (lents io 0 rs) fz vs) H' := by
  have ioc {j : Nat} {a : Addr} (hn : H a ≠ none) (hj : io.contains j = true) (hv : vs[j]? = some (.ref a)) : ∃ i, c1 a = .sl i := by
    rcases t.io_arg hj hv with ⟨_, _, _, _, h3, _⟩ | ⟨i, _, _, _, _, _, h2, _⟩
    · exact absurd h3 hn
    · exact ⟨i, h2⟩
  refine ⟨fun a o h n => ?_, fun a o h n => g.keepI a o (t.f.keepI a o h n) n, fun a h => g.there a (t.f.there a h), fun a h => ?_⟩
  · have hs : c1 a = c a := by
      rcases t.f.col a (by rw [h]; simp) with q | ⟨i, q, _⟩
      · exact q
      · exact absurd q (n i)
    refine g.keep a o (t.f.keep a o h n) fun i => t.inC_nsl ?_ i
    rintro ⟨j, hj, hv⟩
    obtain ⟨i, hi⟩ := ioc (by rw [h]; simp) hj hv
    exact n i (hs.symm.trans hi)
  · have hn := t.f.there a h
    by_cases hx : ∃ j, io.contains j = true ∧ vs[j]? = some (.ref a)
    · obtain ⟨j, hj, hv⟩ := hx
      rw [t.out_io hn hj hv]
      obtain ⟨i, hi⟩ := ioc h hj hv
      have hc : c a = .sl i := by
        rcases t.f.col a h with q | ⟨k, q, q'⟩
        · exact q.symm.trans hi
        · rw [q'] at hi; cases hi
      split
      · exact .inr ⟨i, hc, rfl⟩
      · exact .inl (hi.trans hc.symm)
    · rcases t.out_else (c' := c') (fz := fz) hn hx with ⟨w, q⟩ | ⟨_, q⟩
      · rcases w with ⟨_, w⟩ | ⟨_, i, _, w⟩
        · exact absurd w h
        · refine .inr ⟨i, ?_, q⟩
          rcases t.f.col a h with z | ⟨k, z, z'⟩
          · exact z.symm.trans w
          · rw [z'] at w; cases w
      · rw [q]; exact t.f.col a h
/-- what the callee holds shared is shared behind -/
theorem At.out_back (t : At K σ c H c1 H1 e1 io rs vs ss) {fz : Bool} (g : Fm (inC H c1 io (lents io 0 rs) vs) H1 c' H') (hz : fz = true ∨ lents io 0 rs = []) {a : Addr} (h : c' a = .sh) :
    outC H H1 c1 c' io (lents io 0 rs) fz vs a = .sh := by
  by_cases hn : H1 a = none
  · exact (outC_new hn).1 h
  · by_cases hx : ∃ j, io.contains j = true ∧ vs[j]? = some (.ref a)
    · obtain ⟨j, hj, hv⟩ := hx
      rw [t.out_io hn hj hv, if_pos h]
    · have hs : inC H c1 io (lents io 0 rs) vs a = .sh := by
        rcases g.col a hn with q | ⟨i, q, _⟩
        · exact q.symm.trans h
        · exact absurd q (t.inC_nsl hx i)
      unfold inC at hs
      rw [dif_neg hx] at hs
      split at hs
      · rename_i w
        rcases w with w | ⟨i, hi, w⟩ | w
        · exact t.out_sh hn w
        · rcases t.out_else (c' := c') (fz := fz) hn hx with ⟨_, q⟩ | ⟨k, _⟩
          · exact q
          · rcases hz with hz | hz
            · exact absurd (.inr ⟨hz, i, hi, w⟩) k
            · rw [hz] at hi; cases hi
        · rcases t.out_else (c' := c') (fz := fz) hn hx with ⟨_, q⟩ | ⟨k, _⟩
          · exact q
          · exact absurd (.inl w) k
      · cases hs
theorem At.out_rel (t : At K σ c H c1 H1 e1 io rs vs ss) {fz : Bool} (g : Fm (inC H c1 io (lents io 0 rs) vs) H1 c' H') {v : V} {d : D} (h : RelS K H1 c1 v d) : RelS K H' (outC H H1 c1 c' io (lents io 0 rs) fz vs) v d :=
  h.tr (fun a o ho n => by
    rcases n with n | n
    · exact g.keep a o ho fun i => t.inC_nsl (t.no_io (.inl n)) i
    · exact g.keepI a o ho n) fun a hn e => t.out_sh hn e
theorem At.out_rels (t : At K σ c H c1 H1 e1 io rs vs ss) {fz : Bool} (g : Fm (inC H c1 io (lents io 0 rs) vs) H1 c' H') {v : List V} {d : List D} (h : RelDs K H1 (isSh c1) v d) : RelDs K H' (isSh (outC H H1 c1 c' io (lents io 0 rs) fz vs)) v d :=
  h.tr (fun a o ho n => by
    rcases n with n | n
    · exact g.keep a o ho fun i => t.inC_nsl (t.no_io (.inl n)) i
    · exact g.keepI a o ho n) fun a hn e => t.out_sh hn e
theorem Top.mono {K : PySem.W.Frag} {H : Hp} {A A' : Addr → Prop} (g : ∀ a, A a → A' a) {a : Addr} {d : D} (h : Top K H A a d) : Top K H A' a d := by
  cases d with
  | list ds => obtain ⟨xs, h1, hz, h2⟩ := h; exact ⟨xs, h1, hz, h2.mono g⟩
  | _ => exact h
theorem lents_nil (h : (lents io 0 rs).isEmpty = true) : lents io 0 rs = [] := List.isEmpty_iff.mp h
theorem At.out_str (t : At K σ c H c1 H1 e1 io rs vs ss) {fz : Bool} {o : Out} {v : V} (g : Fm (inC H c1 io (lents io 0 rs) vs) H1 c' H') (r : OutR K H1 H' c' io vs o v)
    (hz : fz = true ∨ lents io 0 rs = [] ∨ inouts io 0 rs = [] ∨ outsOk o.outs = true) : StR K H' (outC H H1 c1 c' io (lents io 0 rs) fz vs) (updE (aft io rs (lents io 0 rs) fz o.outs) 0 e1) σ := by
  refine ⟨by rw [updE_len]; exact t.s.len, fun i s hs => ?_⟩
  rw [updE_get, Nat.zero_add] at hs
  obtain ⟨so, hso, ha⟩ := Option.map_eq_some_iff.mp hs
  unfold aft at ha
  cases hio : ioAt io 0 rs i with
  | some j =>
    rw [hio] at ha
    obtain ⟨j', e0, hj, hc⟩ := ioAt_some hio
    rw [Nat.zero_add] at e0
    subst e0
    obtain ⟨u, hu, h⟩ := r.out j (by simpa using hc) s ha
    obtain ⟨w, hw, hr⟩ := t.rr.get hj
    rw [hu] at hw; cases hw
    have hi : i ∈ inouts io 0 rs := mem_inouts.mpr ⟨j, hj, by rw [Nat.zero_add]; exact hc⟩
    have hz' : (fz = true ∨ lents io 0 rs = []) ∨ keepSv (some s) = true := by
      rcases hz with z | z | z | z
      · exact .inl (.inl z)
      · exact .inl (.inr z)
      · rw [z] at hi; cases hi
      · right
        unfold outsOk at z
        rw [List.all_eq_true] at z
        exact z _ (List.mem_of_getElem? (getD_some ha))
    refine ⟨u, hr, ?_⟩
    obtain ⟨ow, d⟩ := s
    cases ow with
    | false =>
      rcases hz' with z | z
      · exact RelA.mono (fun b hb => t.out_back g z hb) h
      · have z : imm d = true := z
        have h : RelS K H' c' u d := h
        exact .inl (imm_any z (h.pl (imm_notD z)))
    | true =>
      obtain ⟨a, e, e2, h⟩ := h
      subst e
      obtain ⟨od, ho⟩ := h.some
      refine ⟨a, rfl, ?_, ?_⟩
      rotate_left
      · rcases hz' with z | z
        · exact h.mono fun b hb => t.out_back g z hb
        · have z : immTop d = true := z
          cases d with
          | list ds => obtain ⟨xs, h1, hz1, h2⟩ := h; exact ⟨xs, h1, hz1, imms_any z h2⟩
          | _ => exact h.elim
      rcases t.io_arg hc hu with ⟨_, h1, _⟩ | ⟨i', _, h1, _, _, _, h2, h3⟩
      · rw [h1] at hj; cases hj
      · rw [h1] at hj; cases hj
        obtain ⟨o1, ho1⟩ := h3.some
        rw [t.out_io (by rw [ho1]; simp) hc hu, if_neg (by rw [e2]; intro z; cases z)]
        exact h2
  | none =>
    rw [hio] at ha
    have notio : i ∉ inouts io 0 rs := fun hi => by
      obtain ⟨j, h1, h2⟩ := mem_inouts.mp hi
      rw [ioAt_none hio j h1] at h2; cases h2
    have keepA {a : Addr} {ob : HO} (hc1 : c1 a = .sl i) (ho : H1 a = some ob) : H' a = some ob ∧ ¬ ∃ j, io.contains j = true ∧ vs[j]? = some (.ref a) := by
      have nx := t.no_io (a := a) (.inr (.inr (.inr (.inl ⟨i, notio, hc1⟩))))
      exact ⟨g.keep a ob ho fun k => t.inC_nsl nx k, nx⟩
    by_cases hf : (fz && (lents io 0 rs).contains i) = true
    · rw [if_pos hf] at ha
      cases so with
      | none => cases ha
      | some sv =>
        cases ha
        obtain ⟨w, hw, h⟩ := t.s.at_ i _ hso
        refine ⟨w, hw, ?_⟩
        obtain ⟨ow, d⟩ := sv
        cases ow with
        | false => exact t.out_rel g h
        | true =>
          obtain ⟨a, e, e2, h⟩ := h
          subst e
          obtain ⟨ob, ho⟩ := h.some
          obtain ⟨k1, nx⟩ := keepA e2 ho
          have q : outC H H1 c1 c' io (lents io 0 rs) fz vs a = .sh := by
            simp only [Bool.and_eq_true, List.contains_eq_mem, decide_eq_true_eq] at hf
            rcases t.out_else (c' := c') (fz := fz) (by rw [ho]; simp) nx with ⟨_, q⟩ | ⟨k, _⟩
            · exact q
            · exact absurd (.inr ⟨hf.1, i, hf.2, e2⟩) k
          refine Top.give ?_ q
          cases d with
          | list ds =>
            obtain ⟨xs, h1, hz1, h2⟩ := h
            rw [h1] at ho
            cases ho
            exact ⟨xs, k1, hz1, t.out_rels g h2⟩
          | _ => exact h.elim
    · rw [if_neg hf] at ha
      subst ha
      obtain ⟨w, hw, h⟩ := t.s.at_ i _ hso
      refine ⟨w, hw, ?_⟩
      obtain ⟨ow, d⟩ := s
      cases ow with
      | false => exact t.out_rel g h
      | true =>
        obtain ⟨a, e, e2, h⟩ := h
        subst e
        obtain ⟨ob, ho⟩ := h.some
        obtain ⟨k1, nx⟩ := keepA e2 ho
        refine ⟨a, rfl, ?_, ?_⟩
        · rcases t.out_else (c' := c') (fz := fz) (by rw [ho]; simp) nx with ⟨k, _⟩ | ⟨_, q⟩
          · rcases k with ⟨k, _⟩ | ⟨k1, i', hi', k2⟩
            · rw [e2] at k; cases k
            · rw [e2] at k2; cases k2
              exact absurd (by rw [k1]; simpa using hi') hf
          · exact q.trans e2
        · cases d with
          | list ds =>
            obtain ⟨xs, h1, hz1, h2⟩ := h
            rw [h1] at ho
            cases ho
            exact ⟨xs, k1, hz1, t.out_rels g h2⟩
          | _ => exact h.elim
theorem At.out_res (t : At K σ c H c1 H1 e1 io rs vs ss) {fz : Bool} {o : Out} {v : V} (g : Fm (inC H c1 io (lents io 0 rs) vs) H1 c' H') (r : RR K H1 H' c' [] v (.v o.own o.d))
    (hz : (fz = true ∨ lents io 0 rs = []) ∨ keepOk o = true) : RR K H H' (outC H H1 c1 c' io (lents io 0 rs) fz vs) σ v (.v o.own o.d) := by
  obtain ⟨ow, d, outs⟩ := o
  cases ow with
  | false =>
    rcases hz with z | z
    · exact RelA.mono (fun b hb => t.out_back g z hb) r
    · have z : imm d = true := z
      have r : RelS K H' c' v d := r
      exact .inl (imm_any z (r.pl (imm_notD z)))
  | true =>
    obtain ⟨a, e, e2, e3, h⟩ := r
    refine ⟨a, e, (outC_new e3).2 e2, t.f.free e3, ?_⟩
    rcases hz with z | z
    · exact h.mono fun b hb => t.out_back g z hb
    · have z : immTop d = true := z
      cases d with
      | list ds => obtain ⟨xs, h1, hz1, h2⟩ := h; exact ⟨xs, h1, hz1, imms_any z h2⟩
      | _ => exact h.elim
/-- a call of the text's own function -/
theorem call_leaf {k : Nat} {Q : VK} (s1 : StR K H1 c1 e1 σ) (f1 : Fm c H c1 H1) (rv : RRs K H H1 c1 σ vs rs) (nd : (ownA rs vs).Nodup) (hnp : ∀ ss, cl k ss ≠ .no → ss.length = (ft k).np)
    (p : Post xk K W σ c H (callR ft cl k rs e1) fun r _ c' H' => ∀ v, RR K H H' c' σ v r → Q v H') : spF xk K ft cl k vs H1 Q fun cls d H' => W cls d σ H' := by
  unfold callR at p
  generalize hio : (ft k).io = io at p
  have p : Post xk K W σ c H (if ((inouts io 0 rs).Nodup && (inouts io 0 rs).all fun i => !(lents io 0 rs).contains i) = true then (argsIn e1 io 0 rs >>= fun ss => match cl k ss with
    | .ok o => if ((inouts io 0 rs).isEmpty && !!((lents io 0 rs).isEmpty || (keepOk o && ((inouts io 0 rs).isEmpty || outsOk o.outs)))) = true then R.ok (Res.v o.own o.d, e1) else R.ok (Res.v o.own o.d, updE (aft io rs (lents io 0 rs) (!((lents io 0 rs).isEmpty || (keepOk o && ((inouts io 0 rs).isEmpty || outsOk o.outs)))) o.outs) 0 e1)
    | .ex x => if (inouts io 0 rs).isEmpty = true then .ex x else .no
    | .no => .no) else .no) fun r _ c' H' => ∀ v, RR K H H' c' σ v r → Q v H' := p
  split at p
  · rename_i hc
    simp only [Bool.and_eq_true, decide_eq_true_eq, List.all_eq_true, Bool.not_eq_true', List.contains_eq_mem, decide_eq_false_iff_not] at hc
    obtain ⟨ss, hs, p⟩ := p.get noEx_argsIn
    have t : At K σ c H c1 H1 e1 io rs vs ss := ⟨s1, f1, rv, nd, hc.1, hc.2, hs⟩
    have hl : ss.length = (ft k).np := hnp ss (by intro z; rw [z] at p; exact p)
    refine ⟨by rw [t.args.len]; exact hl, _, ss, by rw [hio]; exact t.args, ?_⟩
    cases hcl : cl k ss with
    | no => rw [hcl] at p; exact p
    | ex x =>
      rw [hcl] at p
      have p : Post xk K W σ c H (if (inouts io 0 rs).isEmpty = true then R.ex x else .no) fun r _ c' H' => ∀ v, RR K H H' c' σ v r → Q v H' := p
      split at p
      · intro cls dd c' H' g z
        refine p cls dd (outC H H1 c1 c' io (lents io 0 rs) true vs) H' (t.out_fm g) ?_
        obtain ⟨k, fs, e1, ek, e2, h⟩ := z
        refine ⟨k, fs, e1, ek, e2, ?_⟩
        split at h
        · obtain ⟨a, v, q1, q2, q3⟩ := h
          exact ⟨a, v, q1, q2, q3.mono fun b hb => t.out_back g (.inl rfl) hb⟩
        · exact h
        · exact h
      · exact p.elim
    | ok o =>
      rw [hcl] at p
      have p : Post xk K W σ c H (if ((inouts io 0 rs).isEmpty && !!((lents io 0 rs).isEmpty || (keepOk o && ((inouts io 0 rs).isEmpty || outsOk o.outs)))) = true then R.ok (Res.v o.own o.d, e1) else R.ok (Res.v o.own o.d, updE (aft io rs (lents io 0 rs) (!((lents io 0 rs).isEmpty || (keepOk o && ((inouts io 0 rs).isEmpty || outsOk o.outs)))) o.outs) 0 e1)) fun r _ c' H' => ∀ v, RR K H H' c' σ v r → Q v H' := p
      generalize hfz : (!((lents io 0 rs).isEmpty || (keepOk o && ((inouts io 0 rs).isEmpty || outsOk o.outs)))) = fz at p
      intro v c' H' g r
      rw [hio] at r
      have z1 : fz = true ∨ lents io 0 rs = [] ∨ inouts io 0 rs = [] ∨ outsOk o.outs = true := by
        cases h1 : (lents io 0 rs).isEmpty with
        | true => exact .inr (.inl (List.isEmpty_iff.mp h1))
        | false =>
          cases h2 : (inouts io 0 rs).isEmpty with
          | true => exact .inr (.inr (.inl (List.isEmpty_iff.mp h2)))
          | false =>
            cases h3 : outsOk o.outs with
            | true => exact .inr (.inr (.inr rfl))
            | false => rw [h1, h2, h3] at hfz; exact .inl (by simpa using hfz.symm)
      have z2 : (fz = true ∨ lents io 0 rs = []) ∨ keepOk o = true := by
        cases h1 : (lents io 0 rs).isEmpty with
        | true => exact .inl (.inr (List.isEmpty_iff.mp h1))
        | false =>
          cases h2 : keepOk o with
          | true => exact .inr rfl
          | false => rw [h1, h2] at hfz; exact .inl (.inl (by simpa using hfz.symm))
      have S := t.out_str g r z1
      have F := t.out_fm (fz := fz) g
      have RES := t.out_res g r.res z2
      split at p
      · rename_i hq
        have hq : ((inouts io 0 rs).isEmpty && !fz) = true := by first | exact hq | (rw [hfz] at hq; exact hq)
        simp only [Bool.and_eq_true, Bool.not_eq_true'] at hq
        have same : updE (aft io rs (lents io 0 rs) fz o.outs) 0 e1 = e1 := by
          refine List.ext_getElem? fun i => ?_
          rw [updE_get, Nat.zero_add]
          cases hi : e1[i]? with
          | none => rfl
          | some so =>
            show some (aft _ _ _ _ _ _ _) = _
            unfold aft
            cases ha : ioAt io 0 rs i with
            | some j =>
              obtain ⟨j', e0, hj, hcj⟩ := ioAt_some ha
              have : i ∈ inouts io 0 rs := mem_inouts.mpr ⟨j', hj, by rw [← e0]; exact hcj⟩
              rw [List.isEmpty_iff.mp hq.1] at this; cases this
            | none => rw [hq.2]; rfl
        rw [same] at S
        exact p.ret _ _ S F v RES
      · exact p.ret _ _ S F v RES
  · exact p.elim
end
end Nm
set_option Elab.async false
set_option maxRecDepth 100000
set_option linter.all false
namespace Nm
open PySem L2 PyProof.Rows
theorem and2 {a b : Bool} (h : (a && b) = true) : a = true ∧ b = true := by simpa using h
theorem notb {a : Bool} (h : (!a) = true) : a = false := by simpa using h
theorem dec {p : Prop} [Decidable p] (h : decide p = true) : p := of_decide_eq_true h
section
variable {xk : ExK} {ft : Nat → Fd} {cl : Cl} {G : Gi} {I : Info} {X : Cx} {W : WX} {pe ea eb ec : Expr} {pos p2 : Pos} {a b d : Ex}

theorem any_back (pos : Pos) : ∀ l : List (Bool × Sem Value), (backTo pos l).any (·.1) = l.any (·.1)
  | [] => rfl
  | x :: l => by
    show (x.1 || (backTo pos l).any (·.1)) = (x.1 || l.any (·.1))
    rw [any_back pos l]
theorem plain_back {xs : Exs} {es : List Expr} (h : chkEs G xs I es = true) (pos : Pos) (env : Env) : (backTo pos (starEach es env)).any (·.1) = false := by
  rw [any_back]; exact chkEs_plain h env
theorem glb_of {x : Str} (h : I.glb x = true) : I.sc.names.lookup x = some .globalImplicit := by
  unfold Info.glb at h; simpa using h
/-- f(..), the text's own -/
theorem s_call (hy : Hy xk ft cl G I X W) {f : Nat} {x : Str} {l : List Expr} {es : Exs} {p1 : Pos} (hf : G.fns.contains (x, f) = true) (hg : I.glb x = true) (hd : (x == ("__debug__" : Str)) = false) (hc : chkEs G es I l = true) (h : PA X l (rdA xk X.K W ft cl es)) :
    PE X (.Call (.Name x p1) l [] pos) (rdE xk X.K W ft cl (.call f es)) := by
  obtain ⟨fa, fd, ps, m, hm, hk, hb, hr, F⟩ := hy.gl.fns x f hf
  have go : ∀ {σ H Q c e}, StR X.K H c e σ → Post xk X.K W σ c H (evE ft cl (.call f es) e) (fun r _ c' H' => ∀ v, RR X.K H H' c' σ v r → Q v H') → rdA xk X.K W ft cl es σ H fun vs H1 => spF xk X.K ft cl f vs H1 Q fun cls d H' => W cls d σ H' :=
    fun {σ H Q c e} s q => ⟨c, e, s, (Post.bind q).imp fun rs e1 c1 H1 s1 f1 p vs rv nd => call_leaf s1 f1 rv nd (fun ss => hy.gl.np f ss) p⟩
  cases l with
  | nil =>
    refine (pe_callG0 F hr hy.gd (hy.glob (glb_of hg)) hm hk hb hy.tk hd).wk fun σ H Q ⟨c, e, s, q⟩ => ?_
    cases es with
    | nil =>
      obtain ⟨c', e', s', z⟩ := go s q
      exact z.ret c' H s' .refl [] .nil List.nodup_nil
    | cons _ _ => exact absurd hc Bool.false_ne_true
  | cons e0 l0 =>
    cases es with
    | nil => exact absurd hc Bool.false_ne_true
    | cons x0 xs0 =>
      have hc' : (chkE G x0 I e0 && plainArg e0 && chkEs G xs0 I l0) = true := hc
      simp only [Bool.and_eq_true] at hc'
      exact (pe_callG F hr hy.gd (hy.glob (glb_of hg)) hm hk hb hy.tk h hd (plainArg_star hc'.1.2) (plain_back hc'.2 _ _)).wk fun σ H Q ⟨c, e, s, q⟩ => go s q
/-- a built-in's call -/
theorem s_bi (hy : Hy xk ft cl G I X W) {bb : Bi} {x : Str} {l : List Expr} {es : Exs} {p1 : Pos} (hn : G.bn I x (biName bb) = true) (hc : chkEs G es I l = true) (hl : l.length = biArity bb) (h : PA X l (rdA xk X.K W ft cl es)) :
    PE X (.Call (.Name x p1) l [] pos) (rdE xk X.K W ft cl (.bi bb es)) := by
  obtain ⟨rfl, h2, h3, h4, h5⟩ := bn_of hn
  obtain ⟨r, hr, leaf⟩ := (bi_ok hy.calm hy.un hy.gd bb).ok
  have go : ∀ σ H Q, rdE xk X.K W ft cl (.bi bb es) σ H Q → tCB r (rdA xk X.K W ft cl es) σ H Q := fun σ H Q ⟨c, e, s, q⟩ => ⟨c, e, s, (Post.bind q).imp fun rs e1 c1 H1 s1 f1 p vs rv nd => by
    obtain ⟨ds, g1, p⟩ := p.get fetchs_noEx
    obtain ⟨res, g2, p⟩ := p.get noEx_biop
    exact leaf σ c1 H1 vs ds res Q (fetchs_ok s1 rv g1) g2 fun c3 H3 v n rv => p.ret c3 H3 (n.str s1) (f1.trans n.fm) v (rv.up f1)⟩
  cases l with
  | nil => cases bb <;> cases hl
  | cons e0 l0 =>
    cases es with
    | nil => exact absurd hc Bool.false_ne_true
    | cons x0 xs0 =>
      have hc' : (chkE G x0 I e0 && plainArg e0 && chkEs G xs0 I l0) = true := hc
      simp only [Bool.and_eq_true] at hc'
      have hv := bi_boot bb
      have hs := plainArg_star (es := l0) (env := X.env) hc'.1.2
      have hp := plain_back hc'.2 pos X.env
      have hm := hy.gl.bl _ h3
      have hgl : Gl X (biName bb) := hy.glob h2
      have fB : ∀ id, biVal bb = .builtin id → PE X (.Call (.Name (biName bb) p1) (e0 :: l0) [] pos) (rdE xk X.K W ft cl (.bi bb (.cons x0 xs0))) := fun id e => by
        rw [e] at hr hv
        exact (pe_callB hr hgl hm hv h h5 h4 hs hp).wk go
      have fT : ∀ T, biVal bb = .type T → PE X (.Call (.Name (biName bb) p1) (e0 :: l0) [] pos) (rdE xk X.K W ft cl (.bi bb (.cons x0 xs0))) := fun T e => by
        rw [e] at hr hv
        exact (pe_callTy hr hgl hm hv h h5 h4 hs hp).wk go
      cases bb <;> first | exact fB _ rfl | exact fT _ rfl
theorem s_ix (ha : PE X ea (rdE xk X.K W ft cl a)) (hb : PE X eb (rdE xk X.K W ft cl b)) (hs : notSlice eb = true) : PE X (.Subscript ea eb pos) (rdE xk X.K W ft cl (.ix a b)) :=
  (pe_ix ix_seq ha hb (notSlice_ix hs)).wk fun σ H Q ⟨c, e, s, h⟩ => ⟨c, e, s, (Post.bind h).imp fun ra e1 c1 H1 s1 f1 p x rx => ⟨c1, e1, s1, (p.step f1).imp fun rb e2 c2 H2 s2 f2 ⟨f, p⟩ y ry => by
    obtain ⟨da, h1, p⟩ := p.get fetch_noEx
    obtain ⟨db, h2, p⟩ := p.get fetch_noEx
    obtain ⟨res, h3, p⟩ := p.get noEx_getix
    exact ix_leaf (σ := σ) (c := c2) (s2.get (rx.fm f2) h1) (s2.get ry h2) h3 fun c3 H3 v n rv => p.ret c3 H3 (n.str s2) (f.trans n.fm) v (rv.up f)⟩⟩
theorem s_none : PO X none (rdO xk X.K W ft cl .none) := po_none.wk fun σ H Q ⟨c, e, s, q⟩ => q.ret c H s .refl
theorem s_some (h : PE X pe (rdE xk X.K W ft cl a)) : PO X (some pe) (rdO xk X.K W ft cl (.some a)) :=
  (po_some h).wk fun σ H Q ⟨c, e, s, q⟩ => ⟨c, e, s, (Post.bind q).imp fun r e1 c1 H1 s1 f1 p v rv => by
    obtain ⟨da, h1, p⟩ := p.get fetch_noEx
    cases da with
    | int i => exact ⟨i, (s1.get rv h1).int, p.ret c1 H1 s1 f1⟩
    | _ => exact p.elim⟩
theorem s_sl {lo hi : ExO} {elo ehi : Option Expr} (ha : PE X ea (rdE xk X.K W ft cl a)) (hl : PO X elo (rdO xk X.K W ft cl lo)) (hh : PO X ehi (rdO xk X.K W ft cl hi)) : PE X (.Subscript ea (.Slice elo ehi none p2) pos) (rdE xk X.K W ft cl (.sl a lo hi)) :=
  (pe_slice (sl_list.or sl_tupA) ha hl hh).wk fun σ H Q ⟨c, e, s, h⟩ => ⟨c, e, s, (Post.bind h).imp fun ra e1 c1 H1 s1 f1 p x rx => ⟨c1, e1, s1, (p.step f1).imp fun o1 e2 c2 H2 s2 f2 ⟨f, p⟩ => ⟨c2, e2, s2, (p.step f).imp fun o2 e3 c3 H3 s3 f3 ⟨g, p⟩ => by
    obtain ⟨da, h1, p⟩ := p.get fetch_noEx
    obtain ⟨res, h3, p⟩ := p.get noEx_getsl
    exact sl_leaf (σ := σ) (c := c3) (s3.get ((rx.fm f2).fm f3) h1) h3 fun c4 H4 v n rv => p.ret c4 H4 (n.str s3) (g.trans n.fm) v (rv.up g)⟩⟩⟩
/-- isinstance -/
theorem ty_name {t : Ty} {et : Expr} (h : tyIs G I t et = true) : (t = .seq) ∨ (∃ k, t = .exc k) ∨ (∃ x p, et = .Name x p ∧ G.bn I x (tyName t) = true ∧ tyName t ≠ "") := by
  cases t <;> cases et <;> first | exact .inl rfl | exact .inr (.inl ⟨_, rfl⟩) | exact absurd h Bool.false_ne_true | (exact .inr (.inr ⟨_, _, rfl, h, by decide⟩))
theorem pe_tyNm (hy : Hy xk ft cl G I X W) {x : Str} {T : String} {p : Pos} (h : G.bn I x T = true) (hv : bootBuiltins (T : Str) = some (.type T)) : PE X (.Name x p) (tC (.ty T)) := by
  obtain ⟨rfl, h2, h3, h4, h5⟩ := bn_of h
  exact pe_bltn (hy.glob h2) (hy.gl.bl _ h3) hv rfl h5 h4
theorem boot_ty {t : Ty} (h : tyName t ≠ "") : bootBuiltins (tyName t : Str) = some (.type (tyName t)) := by
  cases t <;> first | exact (h rfl).elim | decide +kernel
/-- [::-1] -/
theorem s_rev {k : Nat} {p1 p2 p3 : Pos} (ha : PE X ea (rdE xk X.K W ft cl a)) : PE X (.Subscript ea (.Slice none none (some (.UnaryOp .USub (.Constant (.int 1) k p1) p2)) p3) pos) (rdE xk X.K W ft cl (.rev a)) := by
  refine (pe_revL ha).wk fun σ H Q ⟨c, e, s, q⟩ => ⟨c, e, s, (Post.bind q).imp fun ra e1 c1 H1 s1 f1 p v rv => ?_⟩
  obtain ⟨d, h1, p⟩ := p.get fetch_noEx
  obtain ⟨r, h2, p⟩ := p.get noEx_revD
  cases d <;> first | cases h2 | skip
  rename_i ds
  obtain ⟨q, xs, rfl, h3, hz, r3⟩ := (s1.get rv h1).list
  refine ⟨q, xs, rfl, SqL.of h3, fun b hb => ?_⟩
  exact p.ret (cset c1 b .tmp) _ ((Nw.new (k := .tmp) hb).str s1) (f1.trans (.new hb)) _ ⟨b, rfl, cset_at, f1.free hb, lst_new hb r3.rev (by rw [List.length_reverse]; exact hz)⟩
/-- o.m(x) -/
theorem s_mth (hy : Hy xk ft cl G I X W) {m : Mt} {n : Str} {p1 pa pc : Pos} {ex : Expr} {x : Ex} (hm : m = .count ∨ m = .index) (ho : PE X (.Name n p1) (rdE xk X.K W ft cl a)) (hv : PE X ex (rdE xk X.K W ft cl x)) (hp : plainArg ex = true) (hl : (pa.endLine == pc.line) = true) :
    PE X (.Call (.Attribute (.Name n p1) (mtName m) pa) [ex] [] pc) (rdE xk X.K W ft cl (.mth m a (.cons x .nil))) := by
  obtain ⟨T, id, r, pat, sl, ty, mt, tyk, leaf⟩ := (mt_ok (X := X) hy.un hm).ok
  have h1 : starEach [ex] X.env = (false, eval ex X.env) :: starEach [] X.env := plainArg_star hp
  have few : ((backTo pc (starEach [ex] X.env)).all (fun x => !x.1) && (backToKw pc (keywordEach [] X.env)).all (fun x => x.1.isSome)
      && decide (([ex] : List Expr).length + ([] : List Keyword).length + (if ([] : List Keyword).isEmpty then 0 else 1) < 30)) = true := by rw [h1]; rfl
  refine (pe_bm pat sl ty mt ho (s_cons hp hv s_nil) rfl few hl h1 rfl).wk fun σ H Q ⟨c, e, s, q⟩ => ⟨c, e, s, (Post.bind q).imp fun ro e1 c1 H1 s1 f1 p v rv => ?_⟩
  obtain ⟨d0, g0, p⟩ := p.get fetch_noEx
  have p : Post xk X.K W σ c H (if mthT m d0 = true then (evEs ft cl (.cons x .nil) e1 >>= fun q => fetch q.2 ro >>= fun d => fetchs q.2 q.1 >>= fun ds => mthD m d ds >>= fun r => R.ok (r, q.2)) else .no) _ := p
  split at p
  · rename_i ht
    refine ⟨tyk c1 H1 v d0 (s1.get rv g0) ht, c1, e1, s1, (p.step f1).imp fun rs e2 c2 H2 s2 f2 ⟨f, p⟩ vs rvs nd => ?_⟩
    obtain ⟨da, g1, p⟩ := p.get fetch_noEx
    obtain ⟨ds, g2, p⟩ := p.get fetchs_noEx
    obtain ⟨res, g3, p⟩ := p.get noEx_mthD
    exact leaf σ c2 H2 v vs da ds res Q (s2.get (rv.fm f2) g1) (fetchs_ok s2 rvs g2) g3 fun c3 H3 w n rw_ => p.ret c3 H3 (n.str s2) (f.trans n.fm) w (rw_.up f)
  · exact p.elim
/-- isinstance of a caught thing, or of None -/
theorem excTy_some {k : Nat} {d : D} {b : Bool} (h : isTy (.exc k) d = .ok b) : (d = .none ∧ b = false) ∨ ∃ j, exc? d = some j ∧ b = (k == 0 || k == 100 || k == j) := by
  cases d with
  | none => cases h; exact .inl ⟨rfl, rfl⟩
  | dict kvs =>
    have h : (match exc? (.dict kvs) with | some j => R.ok (k == 0 || k == 100 || k == j) | none => R.no) = R.ok b := h
    cases q : exc? (.dict kvs) with
    | none => rw [q] at h; cases h
    | some j => rw [q] at h; cases h; exact .inr ⟨j, rfl, rfl⟩
  | _ => cases h
theorem s_isiX (hy : Hy xk ft cl G I X W) {k : Nat} {x : Str} {et : Expr} {p1 : Pos} (hn : G.bn I x "isinstance" = true) (ht : tyIs G I (.exc k) et = true) (hp : plainArg ea = true) (ha : PE X ea (rdE xk X.K W ft cl a)) :
    PE X (.Call (.Name x p1) [ea, et] [] pos) (rdE xk X.K W ft cl (.isi a (.exc k))) := by
  obtain ⟨rfl, h2, h3, h4, h5⟩ := bn_of hn
  have hv : bootBuiltins ("isinstance" : Str) = some (.builtin "isinstance") := by decide +kernel
  have hm := hy.gl.bl _ h3
  have hgl : Gl X "isinstance" := hy.glob h2
  cases et <;> try exact absurd ht Bool.false_ne_true
  rename_i y py
  obtain ⟨cv, u, pe, kv, kn, kx⟩ : ∃ cv u, PE X (.Name y py) (tC cv) ∧ ClsV cv u ∧ PySem.W.kitOne X.K noneT u = some false ∧ ∀ j, Known X.K j = true → PySem.W.kitOne X.K (.ref (excCl X.K j)) u = some (k == 0 || k == 100 || k == j) := by
    have ht : ((decide (k = 100) && G.bn I y "ValueError") || (decide (k ≠ 100) && G.excs.contains (y, k) && I.glb y && !(y == ("__debug__" : Str)))) = true := ht
    rcases (Bool.or_eq_true _ _).mp ht with q | q
    · obtain ⟨q1, q2⟩ := and2 q
      have q1 := dec q1
      subst q1
      exact ⟨.ty "ValueError", _, pe_tyNm hy q2 (by decide +kernel), .ty _, kit_ty (by decide +kernel), fun j hj => (excB_ok hy.gl.xb hj).value⟩
    · obtain ⟨q, q4⟩ := and2 q
      obtain ⟨q, q3⟩ := and2 q
      obtain ⟨q1, q2⟩ := and2 q
      obtain ⟨g1, g2⟩ := hy.gl.xs y k q2
      have q1 : k ≠ 100 := dec q1
      refine ⟨.ref (excCl X.K k), _, pe_glob (hy.glob (glb_of q3)) g2 rfl (notb q4), .own _, (excB_ok hy.gl.xb g1).none_, fun j hj => ?_⟩
      rw [(excB_ok hy.gl.xb hj).kit k g1]
      have : (k == 100) = false := by simpa using q1
      rw [this, Bool.or_false]
  have pa := pa_cons ha (pa_cons pe pa_nil) (plainArg_star (es := [.Name y py]) (env := X.env) hp)
  refine (pe_callB call_isX hgl hm hv pa h5 h4 (plainArg_star hp)).wk fun σ H Q ⟨c, e, s, q⟩ => ⟨c, e, s, (Post.bind q).imp fun ra e1 c1 H1 s1 f1 p v rv => ?_⟩
  obtain ⟨da, g1, p⟩ := p.get fetch_noEx
  obtain ⟨bv, g2, p⟩ := p.get noEx_isTy
  have R := s1.get rv g1
  have fin := p.ret c1 H1 s1 f1 _ (.inl (.bool _))
  rcases excTy_some g2 with ⟨rfl, rfl⟩ | ⟨j, hj, rfl⟩
  · exact ⟨_, _, u, _, rfl, kv, .inl ⟨R.none_, kn⟩, fin⟩
  · obtain ⟨q, rfl, hk, hH⟩ := R.exc hj
    exact ⟨_, _, u, _, rfl, kv, .inr ⟨q, _, rfl, hH, (excB_ok hy.gl.xb hk).cls, kx j hk⟩, fin⟩
theorem s_isi (hy : Hy xk ft cl G I X W) {t : Ty} {x : Str} {et : Expr} {p1 : Pos} (hn : G.bn I x "isinstance" = true) (ht : tyIs G I t et = true) (hp : plainArg ea = true) (ha : PE X ea (rdE xk X.K W ft cl a)) :
    PE X (.Call (.Name x p1) [ea, et] [] pos) (rdE xk X.K W ft cl (.isi a t)) := by
  have hn0 := hn
  obtain ⟨rfl, h2, h3, h4, h5⟩ := bn_of hn
  have hv : bootBuiltins ("isinstance" : Str) = some (.builtin "isinstance") := by decide +kernel
  have hm := hy.gl.bl _ h3
  have hgl : Gl X "isinstance" := hy.glob h2
  rcases ty_name ht with rfl | ⟨k, rfl⟩ | ⟨y, py, rfl, hty, hne⟩
  · cases et <;> try exact absurd ht Bool.false_ne_true
    rename_i l n p3
    match l, ht with
    | [.Name x1 q1, .Name y1 q2], ht =>
      have ht : (G.bn I x1 "list" && G.bn I y1 "tuple") = true := ht
      simp only [Bool.and_eq_true] at ht
      have pa := pa_cons ha (pa_cons (pe_tup (x1 := n) (pos := p3) (pa_cons (pe_tyNm (p := q1) hy ht.1 (by decide +kernel)) (pa_cons (pe_tyNm (p := q2) hy ht.2 (by decide +kernel)) pa_nil))) pa_nil) (plainArg_star (es := [.Tuple [.Name x1 q1, .Name y1 q2] n p3]) (env := X.env) hp)
      refine (pe_callB call_isiT hgl hm hv pa h5 h4 (plainArg_star hp)).wk fun σ H Q ⟨c, e, s, q⟩ => ⟨c, e, s, (Post.bind q).imp fun ra e1 c1 H1 s1 f1 p v rv => ?_⟩
      obtain ⟨da, g1, p⟩ := p.get fetch_noEx
      obtain ⟨bv, g2, p⟩ := p.get noEx_isTy
      refine ⟨by decide, fun q hq => ?_⟩
      have n : Nw c1 H1 (cset c1 q .tmp) (upd H1 q (.tup [.ty "list", .ty "tuple"])) := .new hq
      have s2 := n.str s1
      exact seq_leaf (K := X.K) (c := cset c1 q .tmp) (s2.get (rv.fm n.fm) g1) g2 upd_same (p.ret _ _ s2 (f1.trans n.fm) _ (.inl (.bool _)))
  · exact s_isiX hy hn0 ht hp ha
  · have pa := pa_cons ha (pa_cons (pe_tyNm (p := py) hy hty (boot_ty hne)) pa_nil) (plainArg_star (es := [.Name y py]) (env := X.env) hp)
    refine (pe_callB call_isi hgl hm hv pa h5 h4 (plainArg_star hp)).wk fun σ H Q ⟨c, e, s, q⟩ => ⟨c, e, s, (Post.bind q).imp fun ra e1 c1 H1 s1 f1 p v rv => ?_⟩
    obtain ⟨da, g1, p⟩ := p.get fetch_noEx
    obtain ⟨bv, g2, p⟩ := p.get noEx_isTy
    exact isi_leaf (s1.get rv g1) g2 hne (p.ret c1 H1 s1 f1 _ (.inl (.bool _)))
end
end Nm
set_option Elab.async false
set_option maxRecDepth 100000
set_option linter.all false
/-! enumerate and zip over lists and tuples in any mix. -/
namespace Nm
open PySem L2 PyProof.Rows

def SqX (K : PySem.W.Frag) (H : Hp) (l : Bool) (a : Addr) (xs : List V) : Prop := match l with
  | true => SqL K H a xs
  | false => SqT K H a xs
def ItrX (l : Bool) (h : Heap) (it a : Addr) (i : Nat) : Prop := match l with
  | true => h.IsListIter it a i
  | false => h.IsTupleIter it a i
def IsX (l : Bool) (h : Heap) (a : Addr) (its : Array Value) : Prop := match l with
  | true => h.IsList a its
  | false => h.IsTuple a its
def begO (l : Bool) (a : Addr) : Obj := match l with
  | true => { cls := .type "list_iterator", data := .fields #[.ref a, .int 0 0] }
  | false => { cls := .type "tuple_iterator", data := .fields #[.ref a, .int 0 0] }
section
variable {l : Bool} {h h' : Heap} {a it : Addr} {i : Nat} {its : Array Value}
theorem begO_ok (its : Array Value) : Begins (.ref a) (begO l a) fun h => IsX l h a its := match l with
  | true => begins_list a its
  | false => begins_tuple a its
theorem ItrX.rec_ (x : ItrX l h it a i) : ∃ o vs, h.get? it = some o ∧ o.data = .fields vs := match l, x with
  | true, ⟨o, e, _, d⟩ => ⟨o, _, e, d⟩
  | false, ⟨o, e, _, d⟩ => ⟨o, _, e, d⟩
theorem ItrX.at (x : ItrX l h it a i) (k : ∀ o, h.get? it = some o → h'.get? it = some o) : ItrX l h' it a i := match l, x with
  | true, ⟨o, e, r⟩ => ⟨o, k o e, r⟩
  | false, ⟨o, e, r⟩ => ⟨o, k o e, r⟩
theorem ItrX.beg (e : h.get? it = some (begO l a)) : ItrX l h it a 0 := match l, e with
  | true, e => ⟨_, e, rfl, rfl⟩
  | false, e => ⟨_, e, rfl, rfl⟩
theorem IsX.rec_ (x : IsX l h a its) : ∃ o vs n, h.get? a = some o ∧ o.data = .seq vs n := match l, x with
  | true, ⟨o, e, _, n, d⟩ => ⟨o, _, n, e, d⟩
  | false, ⟨o, e, _, n, d⟩ => ⟨o, _, n, e, d⟩
theorem ItrX.ne (x : ItrX l h it a i) {l' : Bool} {b : Addr} (y : IsX l' h b its) : b ≠ it := fun e => by
  obtain ⟨o, vs, e1, d1⟩ := x.rec_
  obtain ⟨u, ws, n, e2, d2⟩ := y.rec_
  rw [e, e1] at e2
  cases e2
  rw [d1] at d2; cases d2
theorem drawX {prog : Program} {w : World} {A : Around} (hh : A.handled = none) (hne : a ≠ it) : Draws prog w A it [it, a] its.size (fun j v => its[j]? = some v) (fun j h => ItrX l h it a j ∧ IsX l h a its) := match l with
  | true => Draws.list hh it a hne its
  | false => Draws.tuple hh it a hne its
end
theorem sqX_at {X : Cx} {pins : List (Addr × Obj)} {σ : L2.St} {H : Hp} {s : Shared} {l : Bool} {a : Addr} {xs : List V} (I : Inv X pins σ H s) (q : SqX X.K H l a xs) : ∃ us : List Value, Vals xs us ∧ IsX l s.heap a us.toArray ∧ xs.length ≤ sizeLine := match l, q with
  | true, q => by obtain ⟨us, r, p, z⟩ := I.list q; exact ⟨us, r, p.isList, z⟩
  | false, q => by obtain ⟨us, r, p, z⟩ := I.tuple q; exact ⟨us, r, p, z⟩
theorem sqX_inj {X : Cx} {pins : List (Addr × Obj)} {σ : L2.St} {H : Hp} {s : Shared} {l : Bool} {a : Addr} {xs ys : List V} (I : Inv X pins σ H s) (q : SqX X.K H l a xs) (q' : SqX X.K H l a ys) : xs = ys := match l, q, q' with
  | true, q, q' => I.list_inj q q'
  | false, q, q' => I.tuple_inj q q'
/-- enumerate(v), its one argument -/
theorem meets_enum1 {v : Value} {o : Obj} {Hv : Heap → Prop} (B : Begins v o Hv) :
    Meets (Builtin.«enumerate.__new__» ⟨[.type "enumerate", v], []⟩) fun _ Rq sh => Hv sh.heap ∧
      Rq (.ok (.ret (.ref (sh.heap.push o).objs.size))) { sh with heap := (sh.heap.push o).push { cls := .type "enumerate", data := .fields #[.none, .bool false, .ref sh.heap.objs.size, rawInt 0, .none, .none] } } :=
  .of_wp fun prog w A Rq sh h => by
    obtain ⟨h0, g0, d0, t0, o0⟩ := sh
    obtain ⟨hv, h⟩ := h
    have hsub := sub_enumerate
    have begun : ∀ {A' : Around} {E' : Value → Shared → Prop} {Q' : Value → Shared → Prop}, Q' (.ref h0.objs.size) ⟨h0.push o, g0, d0, t0, o0⟩ → wpAny (model prog w) A' (pyIter v) Q' E' ⟨h0, g0, d0, t0, o0⟩ :=
      fun z => B.iter prog w _ _ ⟨h0, g0, d0, t0, o0⟩ _ hv z
    wp_walk using begun
    refine wpAny_stack_any fun stk => wpAny_pure ?_
    split
    · rename_i ct _ _ _ _ _
      cases (ct == Value.type "enumerate")
      · wp_walk using begun
        exact ⟨_, rfl, h⟩
      · wp_walk using begun
        exact ⟨_, rfl, h⟩
    · wp_walk using begun
      exact ⟨_, rfl, h⟩
theorem enum_begins1 {prog : Program} {w : World} {A : Around} {E : Value → Shared → Prop} {sh : Shared} {v : Value} {o : Obj} {Hv : Heap → Prop} {Q : Value → Shared → Prop} (B : Begins v o Hv) (hv : Hv sh.heap)
    (go : ∀ g, IsEnum g (sh.heap.objs.size + 1) sh.heap.objs.size 0 .none → g.get? sh.heap.objs.size = some o → (∀ b u, sh.heap.get? b = some u → g.get? b = some u) → Q (.ref (sh.heap.objs.size + 1)) { sh with heap := g }) :
    wpAny (model prog w) A (call (.type "enumerate") [v]) Q E sh := by
  refine callType_new F.called_enumerate (by decide) (F.typeCall_enumerate_1 _) (F.newCall_enumerate_1 _) (fun ob => F.args_object_init_2 ob _) F.entry_enumerate_new (meets_enum1 B) ⟨hv, ?_⟩
  have sz : (sh.heap.push o).objs.size = sh.heap.objs.size + 1 := Heap.size_push ..
  show _ ∧ _
  rw [sz]
  have en : IsEnum ((sh.heap.push o).push { cls := .type "enumerate", data := .fields #[.none, .bool false, .ref sh.heap.objs.size, rawInt 0, .none, .none] }) (sh.heap.objs.size + 1) sh.heap.objs.size 0 .none := by
    have q := Heap.get?_push_size (sh.heap.push o) (o := { cls := .type "enumerate", data := .fields #[.none, .bool false, .ref sh.heap.objs.size, rawInt 0, .none, .none] }) rfl
    rw [sz] at q
    exact q
  exact ⟨⟨_, en, rfl⟩, go _ en (Heap.get?_push_of_some _ (Heap.get?_push_size _ B.free)) fun b u x => Heap.get?_push_of_some _ (Heap.get?_push_of_some _ x)⟩

/-- the items of a, each with its number from k on, in new pairs -/
def ItEn (K : PySem.W.Frag) (l : Bool) (a : Addr) (k : Int) : It :=
  ⟨fun i H => ∃ (xs : List V) (x : V), SqX K H l a xs ∧ xs[i]? = some x,
    fun i H v H' => ∃ T x, v = .ref T ∧ H T = none ∧ H' = upd H T (.tup [.int (k + (i : Int)), x]) ∧ ∀ xs, SqX K H l a xs → xs[i]? = some x,
    fun i H => ∃ xs : List V, SqX K H l a xs ∧ xs.length = i⟩
theorem turn_en {P : Program} {w : World} {K : PySem.W.Frag} {elts : List Expr} {kk : Nat} {tpos : Pos} {l : Bool} {a e it : Addr} {k : Int} :
    Turn P w K (.Tuple elts kk tpos) (ItEn K l a k) [e, it] e (fun i h => (∃ old, IsEnum h e it (k + (i : Int)) old) ∧ ItrX l h it a i ∧ e ≠ it) where
  mem := by simp
  obj := fun i h st b hb => by
    obtain ⟨⟨old, he⟩, hi, _⟩ := st
    obtain ⟨o, vs, ho, hd⟩ := hi.rec_
    rcases List.mem_cons.mp hb with z | z
    · rw [z]; exact ⟨_, he, fun v q => nomatch q⟩
    · rw [List.mem_singleton.mp z]
      exact ⟨o, ho, fun v q => by rw [hd] at q; cases q⟩
  keep := fun i h h' st kp => let ⟨⟨old, he⟩, hi, hne⟩ := st; ⟨⟨old, kp e (by simp) _ he⟩, hi.at fun o q => kp it (by simp) o q, hne⟩
  item := by
    intro X hP hw hK hc i pins sh σ H E I hf st hg
    subst hP hw hK
    obtain ⟨⟨old, he⟩, hit, hne⟩ := st
    obtain ⟨xs, x, hq, hx⟩ := hg
    obtain ⟨us, rv, p, hz⟩ := sqX_at I hq
    obtain ⟨u, hu, ru⟩ := rv.get hx
    have hel : e < sh.heap.objs.size := Heap.lt_size he
    have D := drawX (prog := X.prog) (w := X.w) (A := X.A.in1) (l := l) (its := us.toArray) (show X.A.in1.handled = none from I.ok.hd hc) (hit.ne p)
    have hlt : i < us.toArray.size := by
      have := (List.getElem?_eq_some_iff.mp hu).1
      simpa using this
    have hea : e ≠ a := fun z => by
      obtain ⟨o, vs, n, e1, e2⟩ := p.rec_
      have he : sh.heap.get? e = some _ := he
      rw [z, e1] at he
      cases he; cases e2
    refine wpAny_pyNext_enum_itemC D he ⟨hit, p⟩ hlt hne (by simp [hne, hea]) fun y h' tk hy ho hit' hT hsz hk => ?_
    have hyu : y = u := Option.some.inj (Eq.trans (Eq.symm hy) (by simpa using hu))
    subst hyu
    refine ⟨_, rfl, wpAny_letOwnedTupleGo_enum (s := { sh with heap := h', toks := tk + 1 }) ho fun h2 he2 sb => ?_⟩
    have hT2 : h2.get? sh.heap.objs.size = some { cls := .type "tuple", data := .seq #[.int (k + (i : Int)) tk, y] } := (sb.2 _ (Nat.ne_of_gt hel)).trans hT
    have made : ObjOk X.prog X.w (upd H sh.heap.objs.size (.tup [.int (k + (i : Int)), x])) h2 sh.heap.objs.size (.tup [.int (k + (i : Int)), x]) :=
      ⟨by show 2 ≤ sizeLine; decide, [.int (k + (i : Int)) tk, y], .cons ⟨_, rfl⟩ (.cons ru .nil), ⟨_, hT2, rfl, _, rfl⟩⟩
    have I2 : Inv X pins σ (upd H sh.heap.objs.size (.tup [.int (k + (i : Int)), x])) { sh with heap := h2, toks := tk + 1 } :=
      I.turnedNew (ch := [e, it]) (fun b ob hb q => (sb.2 b (fun z => hb (by simp [z]))).trans (hk b ob (fun z => hb (by simp [z])) (fun z => hb (by simp [z])) q)) hf (Nat.le_refl _) made
    refine ⟨.ref sh.heap.objs.size, _, I2, rfl, ⟨_, x, rfl, I.hok.fresh (Nat.le_refl _), rfl, fun ys hy => by rw [sqX_inj I hy hq]; exact hx⟩, ⟨⟨y, ?_⟩, hit'.1.at fun o q => (sb.2 it (Ne.symm hne)).trans q, hne⟩, fun b hb => ?_⟩
    · rw [show (k + ((i + 1 : Nat) : Int)) = k + (i : Int) + 1 by omega]; exact he2
    · have hlb : b < sh.heap.objs.size := by
        rcases List.mem_cons.mp hb with z | z
        · rw [z]; exact hel
        · rw [List.mem_singleton.mp z]
          obtain ⟨o, vs, ho, _⟩ := hit.rec_
          exact Heap.lt_size ho
      rw [upd_ne (Nat.ne_of_lt hlb)]
      exact (hf b hb).1
  done := by
    intro X hP hw hK hc i pins sh σ H E I hf st hg
    subst hP hw hK
    obtain ⟨⟨old, he⟩, hit, hne⟩ := st
    obtain ⟨xs, hq, hx⟩ := hg
    obtain ⟨us, rv, p, hz⟩ := sqX_at I hq
    obtain ⟨f0, f1, f2, f3, f4, f5⟩ := hf it (by simp)
    have D := drawX (prog := X.prog) (w := X.w) (A := X.A.in1) (l := l) (its := us.toArray) (show X.A.in1.handled = none from I.ok.hd hc) (hit.ne p)
    have hl : i = us.toArray.size := by rw [← hx, rv.length]; simp
    refine wpAny_pyNext_enum_endD D he (hl ▸ ⟨hit, p⟩) fun h' eb => ⟨rfl, I.turned (t' := sh.toks) (fun b o hb q => eb b o hb q) f0 f1 f3 f4 f5⟩
  self := fun A i sh Q E st h => let ⟨⟨_, he⟩, _⟩ := st; wpAny_pyIter_enum he h
def rEn (K : PySem.W.Frag) (k : Int) (v : V) (H : Hp) (Rq : It → Hp → Prop) : Prop := ∃ l a xs, v = .ref a ∧ SqX K H l a xs ∧ Rq (ItEn K l a k) H
theorem pi_en {X : Cx} {e : Expr} {te : TE} {p pos tpos : Pos} {elts : List Expr} {kk : Nat} (hg : Gl X "enumerate") (hm : X.mg "enumerate" = none) (he : PE X e te) (hs : plainArg e = true) :
    PI X (.Tuple elts kk tpos) (.Call (.Name "enumerate" p) [e] [] pos) (fun σ H Rq => te σ H fun v H1 => rEn X.K 0 v H1 Rq) := by
  refine ⟨fun pins sh σ H Rq I h => ?_⟩
  have h1 : starEach [e] X.env = (false, eval e X.env) :: starEach [] X.env := plainArg_star hs
  refine Call_ (ld_blt I hg hm boot_enumerate (PyProof.Rows.callWith_type1 (one_arg he I h (fun u s1 y H1 I1 r1 q1 => ?_) h1) h1 rfl))
  obtain ⟨l, a, xs, rfl, hq, q⟩ := q1
  cases r1
  obtain ⟨us, rv, px, hz⟩ := sqX_at I1 hq
  refine enum_begins1 (begO_ok (l := l) us.toArray) px fun g en hi hk => wpAny_pyIter_enum en ?_
  have I2 : Inv X pins σ H1 { s1 with heap := g } := I1.kept (t' := s1.toks) hk
  refine ⟨s1.heap.objs.size + 1, [s1.heap.objs.size + 1, s1.heap.objs.size], _, _, H1, rfl, I2, turn_en (l := l) (a := a) (k := 0) (it := s1.heap.objs.size), ⟨⟨.none, en⟩, ItrX.beg hi, Nat.succ_ne_self _⟩, fun b hb => ?_, q⟩
  have hle : s1.heap.objs.size ≤ b := by
    rcases List.mem_cons.mp hb with z | z
    · rw [z]; exact Nat.le_add_right _ _
    · rw [List.mem_singleton.mp z]; exact Nat.le_refl _
  exact I1.fpOk hle (I1.hok.fresh hle)
end Nm
set_option Elab.async false
set_option maxRecDepth 100000
set_option linter.all false
namespace Nm
open PySem L2 PyProof.Rows

/-- two side by side -/
def ItZ2 (K : PySem.W.Frag) (l1 : Bool) (a1 : Addr) (l2 : Bool) (a2 : Addr) : It :=
  ⟨fun i H => ∃ (xs ys : List V) (x y : V), (SqX K H l1 a1 xs ∧ xs[i]? = some x) ∧ (SqX K H l2 a2 ys ∧ ys[i]? = some y),
    fun i H v H' => ∃ T x y, v = .ref T ∧ H T = none ∧ H' = upd H T (.tup [x, y]) ∧ (∀ xs, SqX K H l1 a1 xs → xs[i]? = some x) ∧ ∀ ys, SqX K H l2 a2 ys → ys[i]? = some y,
    fun i H => ∃ xs ys : List V, SqX K H l1 a1 xs ∧ SqX K H l2 a2 ys ∧ i = min xs.length ys.length⟩
/-- three side by side -/
def ItZ3 (K : PySem.W.Frag) (l1 : Bool) (a1 : Addr) (l2 : Bool) (a2 : Addr) (l3 : Bool) (a3 : Addr) : It :=
  ⟨fun i H => ∃ (xs ys zs : List V) (x y z : V), (SqX K H l1 a1 xs ∧ xs[i]? = some x) ∧ (SqX K H l2 a2 ys ∧ ys[i]? = some y) ∧ (SqX K H l3 a3 zs ∧ zs[i]? = some z),
    fun i H v H' => ∃ T x y z, v = .ref T ∧ H T = none ∧ H' = upd H T (.tup [x, y, z]) ∧ (∀ xs, SqX K H l1 a1 xs → xs[i]? = some x) ∧ (∀ ys, SqX K H l2 a2 ys → ys[i]? = some y) ∧ ∀ zs, SqX K H l3 a3 zs → zs[i]? = some z,
    fun i H => ∃ xs ys zs : List V, SqX K H l1 a1 xs ∧ SqX K H l2 a2 ys ∧ SqX K H l3 a3 zs ∧ i = min (min xs.length ys.length) zs.length⟩
section
variable {X : Cx} {pins : List (Addr × Obj)} {σ : L2.St} {H : Hp} {s : Shared} {l : Bool} {a it : Addr} {xs : List V} {x : V} {i : Nat}
/-- an item of a source, as the iterator gives it -/
theorem sqX_item (I : Inv X pins σ H s) (hc : X.calm = true) (q : SqX X.K H l a xs) (hx : xs[i]? = some x) (t : ItrX l s.heap it a i) :
    ∃ (us : List Value) (u : Value), us.toArray[i]? = some u ∧ RelV x u ∧ IsX l s.heap a us.toArray ∧ i < us.toArray.size ∧ Draws X.prog X.w X.A.in1 it [it, a] us.toArray.size (fun j v => us.toArray[j]? = some v) fun j h => ItrX l h it a j ∧ IsX l h a us.toArray := by
  obtain ⟨us, rv, p, _⟩ := sqX_at I q
  obtain ⟨u, hu, ru⟩ := rv.get hx
  have hu' : us.toArray[i]? = some u := by simpa using hu
  exact ⟨us, u, hu', ru, p, (Array.getElem?_eq_some_iff.mp hu').1, drawX (show X.A.in1.handled = none from I.ok.hd hc) (t.ne p)⟩
theorem sqX_all (I : Inv X pins σ H s) (hc : X.calm = true) (q : SqX X.K H l a xs) (t : ItrX l s.heap it a i) :
    ∃ (us : List Value), xs.length = us.toArray.size ∧ IsX l s.heap a us.toArray ∧ Draws X.prog X.w X.A.in1 it [it, a] us.toArray.size (fun j v => us.toArray[j]? = some v) fun j h => ItrX l h it a j ∧ IsX l h a us.toArray := by
  obtain ⟨us, rv, p, _⟩ := sqX_at I q
  exact ⟨us, by rw [rv.length]; simp, p, drawX (show X.A.in1.handled = none from I.ok.hd hc) (t.ne p)⟩
end
theorem IsX.ne {l : Bool} {h : Heap} {a b : Addr} {vs : Array Value} {o : Obj} (p : IsX l h a vs) (hb : h.get? b = some o) (ho : ∃ ws, o.data = .fields ws) : b ≠ a := fun e => by
  obtain ⟨u, us, n, e1, d1⟩ := p.rec_
  obtain ⟨ws, d2⟩ := ho
  rw [e, e1] at hb
  cases hb
  rw [d1] at d2; cases d2
/-- the zip's own cells, told apart -/
structure Zp2 (z TI TO i1 i2 : Addr) : Prop where
  a : TI ≠ z
  b : TO ≠ z
  c : TI ≠ TO
  d1 : TI ≠ i1
  d2 : TI ≠ i2
  e1 : TO ≠ i1
  e2 : TO ≠ i2
  z1 : z ≠ i1
  z2 : z ≠ i2
  s : i1 ≠ i2
structure Zp3 (z TI TO i1 i2 i3 : Addr) : Prop extends Zp2 z TI TO i1 i2 where
  d3 : TI ≠ i3
  e3 : TO ≠ i3
  z3 : z ≠ i3
  s13 : i1 ≠ i3
  s23 : i2 ≠ i3
/-- .. and apart from what is walked: TO may be no source (the sources stand in the text's heap) -/
theorem Zp2.sep {z TI TO i1 i2 a1 a2 : Addr} (d : Zp2 z TI TO i1 i2) (q1 : z ≠ a1) (q2 : z ≠ a2) (t1 : TO ≠ a1) (t2 : TO ≠ a2) (w1 : i1 ≠ a2) (w2 : i2 ≠ a1) : ZipSep2 z TI TO i1 i2 [i1, a1] [i2, a2] where
  TIz := d.a
  TOz := d.b
  TITO := d.c
  TIi1 := d.d1
  mem1 := by simp
  zf1 := by simp [d.z1, q1]
  Tf1 := by simp [d.e1, t1]
  TIi2 := d.d2
  mem2 := by simp
  zf2 := by simp [d.z2, q2]
  Tf2 := by simp [d.e2, t2]
  sep1_2 := by simp [d.s, w1]
  sep2_1 := by simp [Ne.symm d.s, w2]
theorem Zp3.sep {z TI TO i1 i2 i3 a1 a2 a3 : Addr} (d : Zp3 z TI TO i1 i2 i3) (qz : ∀ a ∈ [a1, a2, a3], z ≠ a ∧ TO ≠ a ∧ i1 ≠ a ∧ i2 ≠ a ∧ i3 ≠ a) : ZipSep3 z TI TO i1 i2 i3 [i1, a1] [i2, a2] [i3, a3] :=
  have b1 := qz a1 (by simp)
  have b2 := qz a2 (by simp)
  have b3 := qz a3 (by simp)
  { TIz := d.a, TOz := d.b, TITO := d.c, TIi1 := d.d1, mem1 := by simp, zf1 := by simp [d.z1, b1.1], Tf1 := by simp [d.e1, b1.2.1], TIi2 := d.d2, mem2 := by simp,
    zf2 := by simp [d.z2, b2.1], Tf2 := by simp [d.e2, b2.2.1], TIi3 := d.d3, mem3 := by simp, zf3 := by simp [d.z3, b3.1], Tf3 := by simp [d.e3, b3.2.1],
    sep1_2 := by simp [d.s, b2.2.2.1], sep1_3 := by simp [d.s13, b3.2.2.1], sep2_1 := by simp [Ne.symm d.s, b1.2.2.2.1], sep2_3 := by simp [d.s23, b3.2.2.2.1], sep3_1 := by simp [Ne.symm d.s13, b1.2.2.2.2],
    sep3_2 := by simp [Ne.symm d.s23, b2.2.2.2.2] }
theorem turn_z2 {P : Program} {w : World} {K : PySem.W.Frag} {elts : List Expr} {kk : Nat} {tpos : Pos} {l1 l2 : Bool} {a1 a2 z TI TO i1 i2 : Addr} (d : Zp2 z TI TO i1 i2) (t1 : TO ≠ a1) (t2 : TO ≠ a2) :
    Turn P w K (.Tuple elts kk tpos) (ItZ2 K l1 a1 l2 a2) [z, TI, TO, i1, i2] z (fun i h => IsZip h z TI TO .none ∧ IsTupOf2 h TI (.ref i1) (.ref i2) ∧ (∃ x y, IsTupOf2 h TO x y) ∧ ItrX l1 h i1 a1 i ∧ ItrX l2 h i2 a2 i) where
  mem := by simp
  obj := fun i h st c hc => by
    obtain ⟨hz, hTI, ⟨x, y, hTO⟩, h1, h2⟩ := st
    obtain ⟨o1, _, e1, d1⟩ := h1.rec_
    obtain ⟨o2, _, e2, d2⟩ := h2.rec_
    simp only [List.mem_cons, List.not_mem_nil, or_false] at hc
    rcases hc with q | q | q | q | q <;> rw [q]
    · exact ⟨_, hz, fun v q => nomatch q⟩
    · exact ⟨_, hTI, fun v q => nomatch q⟩
    · exact ⟨_, hTO, fun v q => nomatch q⟩
    · exact ⟨o1, e1, fun v q => by rw [d1] at q; cases q⟩
    · exact ⟨o2, e2, fun v q => by rw [d2] at q; cases q⟩
  keep := fun i h h' st k => by
    obtain ⟨hz, hTI, ⟨x, y, hTO⟩, h1, h2⟩ := st
    exact ⟨k z (by simp) _ hz, k TI (by simp) _ hTI, ⟨x, y, k TO (by simp) _ hTO⟩, h1.at fun o q => k i1 (by simp) o q, h2.at fun o q => k i2 (by simp) o q⟩
  item := by
    intro X hP hw hK hc i pins s σ H E I hf st hg
    subst hP hw hK
    obtain ⟨hz, hTI, ⟨x0, y0, hTO⟩, h1, h2⟩ := st
    obtain ⟨xs, ys, x, y, ⟨qx, hx⟩, ⟨qy, hy⟩⟩ := hg
    obtain ⟨us, u, hu, ru, p1, lt1, D1⟩ := sqX_item I hc qx hx h1
    obtain ⟨ws, v, hv, rv, p2, lt2, D2⟩ := sqX_item I hc qy hy h2
    have S := d.sep (p1.ne hz ⟨_, rfl⟩) (p2.ne hz ⟨_, rfl⟩) t1 t2 (let ⟨o, vs, e, q⟩ := h1.rec_; p2.ne e ⟨vs, q⟩) (let ⟨o, vs, e, q⟩ := h2.rec_; p1.ne e ⟨vs, q⟩)
    have lt : ∀ {c o}, s.heap.get? c = some o → c < s.heap.objs.size := fun e => Heap.lt_size e
    refine wpAny_pyNext_zipD2_item S D1 D2 hz hTI hTO ⟨h1, p1⟩ ⟨h2, p2⟩ lt1 lt2 fun x1 x2 h' tk y1 y2 z' TO' g1 g2 hT hsz hk => ?_
    obtain rfl : x1 = u := Option.some.inj (Eq.trans (Eq.symm y1) hu)
    obtain rfl : x2 = v := Option.some.inj (Eq.trans (Eq.symm y2) hv)
    refine ⟨_, rfl, wpAny_letOwnedTupleGo_zip (s := { s with heap := h', toks := tk }) z' fun h3 z3 sb => ?_⟩
    have hT2 : h3.get? s.heap.objs.size = some { cls := .type "tuple", data := .seq #[x1, x2] } := (sb.2 _ (Nat.ne_of_gt (lt hz))).trans hT
    have made : ObjOk X.prog X.w (upd H s.heap.objs.size (.tup [x, y])) h3 s.heap.objs.size (.tup [x, y]) :=
      ⟨by show 2 ≤ sizeLine; decide, [x1, x2], .cons ru (.cons rv .nil), ⟨_, hT2, rfl, _, rfl⟩⟩
    have I2 : Inv X pins σ (upd H s.heap.objs.size (.tup [x, y])) { s with heap := h3, toks := tk } :=
      I.turnedNew (ch := [z, TI, TO, i1, i2]) (fun c o hb q => (sb.2 c (fun e => hb (by simp [e]))).trans (hk c o (fun e => hb (by simp [e])) (fun e => hb (by simp [e])) (fun e => hb (by simp [e])) (fun e => hb (by simp [e])) q)) hf (Nat.le_refl _) made
    refine ⟨.ref s.heap.objs.size, _, I2, rfl, ⟨_, x, y, rfl, I.hok.fresh (Nat.le_refl _), rfl, fun l hl => by rw [sqX_inj I hl qx]; exact hx, fun l hl => by rw [sqX_inj I hl qy]; exact hy⟩, ⟨z3, ?_, ⟨x1, x2, ?_⟩, ?_, ?_⟩, fun c hcm => ?_⟩
    · exact (sb.2 _ d.a).trans (hk _ _ d.a d.c d.d1 d.d2 hTI)
    · exact (sb.2 _ d.b).trans TO'
    · exact g1.1.at fun o q => (sb.2 _ (Ne.symm d.z1)).trans q
    · exact g2.1.at fun o q => (sb.2 _ (Ne.symm d.z2)).trans q
    · have hlt : c < s.heap.objs.size := by
        obtain ⟨o1, _, e1, _⟩ := h1.rec_
        obtain ⟨o2, _, e2, _⟩ := h2.rec_
        have q := hcm
        simp only [List.mem_cons, List.not_mem_nil, or_false] at q
        rcases q with q | q | q | q | q <;> rw [q]
        · exact lt hz
        · exact lt hTI
        · exact lt hTO
        · exact lt e1
        · exact lt e2
      rw [upd_ne (Nat.ne_of_lt hlt)]
      exact (hf c hcm).1
  done := by
    intro X hP hw hK hc i pins s σ H E I hf st hg
    subst hP hw hK
    obtain ⟨hz, hTI, ⟨x0, y0, hTO⟩, h1, h2⟩ := st
    obtain ⟨xs, ys, qx, qy, hi⟩ := hg
    obtain ⟨us, lx, p1, D1⟩ := sqX_all I hc qx h1
    obtain ⟨ws, ly, p2, D2⟩ := sqX_all I hc qy h2
    have S := d.sep (p1.ne hz ⟨_, rfl⟩) (p2.ne hz ⟨_, rfl⟩) t1 t2 (let ⟨o, vs, e, q⟩ := h1.rec_; p2.ne e ⟨vs, q⟩) (let ⟨o, vs, e, q⟩ := h2.rec_; p1.ne e ⟨vs, q⟩)
    exact wpAny_pyNext_zipD2_end S D1 D2 hz hTI hTO ⟨h1, p1⟩ ⟨h2, p2⟩ (by omega) (by omega) (by omega) fun h' tk hk => ⟨rfl, I.turnedL (ch := [z, TI, TO, i1, i2]) (fun c o hb q =>
      hk c o (fun e => hb (by simp [e])) (fun e => hb (by simp [e])) (fun e => hb (by simp [e])) (fun e => hb (by simp [e])) q) hf⟩
  self := fun A i s Q E st h => wpAny_pyIter_zip st.1 h
theorem turn_z3 {P : Program} {w : World} {K : PySem.W.Frag} {elts : List Expr} {kk : Nat} {tpos : Pos} {l1 l2 l3 : Bool} {a1 a2 a3 z TI TO i1 i2 i3 : Addr} (d : Zp3 z TI TO i1 i2 i3) (t1 : TO ≠ a1) (t2 : TO ≠ a2) (t3 : TO ≠ a3) :
    Turn P w K (.Tuple elts kk tpos) (ItZ3 K l1 a1 l2 a2 l3 a3) [z, TI, TO, i1, i2, i3] z (fun i h => IsZip h z TI TO .none ∧ IsTupOf3 h TI (.ref i1) (.ref i2) (.ref i3) ∧ (∃ x y v, IsTupOf3 h TO x y v) ∧ ItrX l1 h i1 a1 i ∧ ItrX l2 h i2 a2 i ∧ ItrX l3 h i3 a3 i) where
  mem := by simp
  obj := fun i h st c hc => by
    obtain ⟨hz, hTI, ⟨x, y, v, hTO⟩, h1, h2, h3⟩ := st
    obtain ⟨o1, _, e1, d1⟩ := h1.rec_
    obtain ⟨o2, _, e2, d2⟩ := h2.rec_
    obtain ⟨o3, _, e3, d3⟩ := h3.rec_
    simp only [List.mem_cons, List.not_mem_nil, or_false] at hc
    rcases hc with q | q | q | q | q | q <;> rw [q]
    · exact ⟨_, hz, fun v q => nomatch q⟩
    · exact ⟨_, hTI, fun v q => nomatch q⟩
    · exact ⟨_, hTO, fun v q => nomatch q⟩
    · exact ⟨o1, e1, fun v q => by rw [d1] at q; cases q⟩
    · exact ⟨o2, e2, fun v q => by rw [d2] at q; cases q⟩
    · exact ⟨o3, e3, fun v q => by rw [d3] at q; cases q⟩
  keep := fun i h h' st k => by
    obtain ⟨hz, hTI, ⟨x, y, v, hTO⟩, h1, h2, h3⟩ := st
    exact ⟨k z (by simp) _ hz, k TI (by simp) _ hTI, ⟨x, y, v, k TO (by simp) _ hTO⟩, h1.at fun o q => k i1 (by simp) o q, h2.at fun o q => k i2 (by simp) o q, h3.at fun o q => k i3 (by simp) o q⟩
  item := by
    intro X hP hw hK hc i pins s σ H E I hf st hg
    subst hP hw hK
    obtain ⟨hz, hTI, ⟨x0, y0, v0, hTO⟩, h1, h2, h3⟩ := st
    obtain ⟨xs, ys, zs, x, y, v, ⟨qx, hx⟩, ⟨qy, hy⟩, ⟨qv, hv⟩⟩ := hg
    obtain ⟨us1, u1, hu1, ru1, p1, lt1, D1⟩ := sqX_item I hc qx hx h1
    obtain ⟨us2, u2, hu2, ru2, p2, lt2, D2⟩ := sqX_item I hc qy hy h2
    obtain ⟨us3, u3, hu3, ru3, p3, lt3, D3⟩ := sqX_item I hc qv hv h3
    obtain ⟨o1, vs1, e1, k1⟩ := h1.rec_
    obtain ⟨o2, vs2, e2, k2⟩ := h2.rec_
    obtain ⟨o3, vs3, e3, k3⟩ := h3.rec_
    have S := d.sep (a1 := a1) (a2 := a2) (a3 := a3) fun a ha => by
      simp only [List.mem_cons, List.not_mem_nil, or_false] at ha
      rcases ha with q | q | q <;> rw [q]
      · exact ⟨p1.ne hz ⟨_, rfl⟩, t1, p1.ne e1 ⟨_, k1⟩, p1.ne e2 ⟨_, k2⟩, p1.ne e3 ⟨_, k3⟩⟩
      · exact ⟨p2.ne hz ⟨_, rfl⟩, t2, p2.ne e1 ⟨_, k1⟩, p2.ne e2 ⟨_, k2⟩, p2.ne e3 ⟨_, k3⟩⟩
      · exact ⟨p3.ne hz ⟨_, rfl⟩, t3, p3.ne e1 ⟨_, k1⟩, p3.ne e2 ⟨_, k2⟩, p3.ne e3 ⟨_, k3⟩⟩
    have lt : ∀ {c o}, s.heap.get? c = some o → c < s.heap.objs.size := fun e => Heap.lt_size e
    refine wpAny_pyNext_zipD3_item S D1 D2 D3 hz hTI hTO ⟨h1, p1⟩ ⟨h2, p2⟩ ⟨h3, p3⟩ lt1 lt2 lt3 fun x1 x2 x3 h' tk y1 y2 y3 z' TO' g1 g2 g3 hT hsz hk => ?_
    obtain rfl : x1 = u1 := Option.some.inj (Eq.trans (Eq.symm y1) hu1)
    obtain rfl : x2 = u2 := Option.some.inj (Eq.trans (Eq.symm y2) hu2)
    obtain rfl : x3 = u3 := Option.some.inj (Eq.trans (Eq.symm y3) hu3)
    refine ⟨_, rfl, wpAny_letOwnedTupleGo_zip (s := { s with heap := h', toks := tk }) z' fun h4 z4 sb => ?_⟩
    have hT2 : h4.get? s.heap.objs.size = some { cls := .type "tuple", data := .seq #[x1, x2, x3] } := (sb.2 _ (Nat.ne_of_gt (lt hz))).trans hT
    have made : ObjOk X.prog X.w (upd H s.heap.objs.size (.tup [x, y, v])) h4 s.heap.objs.size (.tup [x, y, v]) :=
      ⟨by show 3 ≤ sizeLine; decide, [x1, x2, x3], .cons ru1 (.cons ru2 (.cons ru3 .nil)), ⟨_, hT2, rfl, _, rfl⟩⟩
    have I2 : Inv X pins σ (upd H s.heap.objs.size (.tup [x, y, v])) { s with heap := h4, toks := tk } :=
      I.turnedNew (ch := [z, TI, TO, i1, i2, i3]) (fun c o hb q => (sb.2 c (fun e => hb (by simp [e]))).trans (hk c o (fun e => hb (by simp [e])) (fun e => hb (by simp [e])) (fun e => hb (by simp [e])) (fun e => hb (by simp [e])) (fun e => hb (by simp [e])) q)) hf (Nat.le_refl _) made
    refine ⟨.ref s.heap.objs.size, _, I2, rfl, ⟨_, x, y, v, rfl, I.hok.fresh (Nat.le_refl _), rfl, fun l hl => by rw [sqX_inj I hl qx]; exact hx, fun l hl => by rw [sqX_inj I hl qy]; exact hy, fun l hl => by rw [sqX_inj I hl qv]; exact hv⟩, ⟨z4, ?_, ⟨x1, x2, x3, ?_⟩, ?_, ?_, ?_⟩, fun c hcm => ?_⟩
    · exact (sb.2 _ d.a).trans (hk _ _ d.a d.c d.d1 d.d2 d.d3 hTI)
    · exact (sb.2 _ d.b).trans TO'
    · exact g1.1.at fun o q => (sb.2 _ (Ne.symm d.z1)).trans q
    · exact g2.1.at fun o q => (sb.2 _ (Ne.symm d.z2)).trans q
    · exact g3.1.at fun o q => (sb.2 _ (Ne.symm d.z3)).trans q
    · have hlt : c < s.heap.objs.size := by
        have q := hcm
        simp only [List.mem_cons, List.not_mem_nil, or_false] at q
        rcases q with q | q | q | q | q | q <;> rw [q]
        · exact lt hz
        · exact lt hTI
        · exact lt hTO
        · exact lt e1
        · exact lt e2
        · exact lt e3
      rw [upd_ne (Nat.ne_of_lt hlt)]
      exact (hf c hcm).1
  done := by
    intro X hP hw hK hc i pins s σ H E I hf st hg
    subst hP hw hK
    obtain ⟨hz, hTI, ⟨x0, y0, v0, hTO⟩, h1, h2, h3⟩ := st
    obtain ⟨xs, ys, zs, qx, qy, qv, hi⟩ := hg
    obtain ⟨us1, l1, p1, D1⟩ := sqX_all I hc qx h1
    obtain ⟨us2, l2, p2, D2⟩ := sqX_all I hc qy h2
    obtain ⟨us3, l3, p3, D3⟩ := sqX_all I hc qv h3
    obtain ⟨o1, vs1, e1, k1⟩ := h1.rec_
    obtain ⟨o2, vs2, e2, k2⟩ := h2.rec_
    obtain ⟨o3, vs3, e3, k3⟩ := h3.rec_
    have S := d.sep (a1 := a1) (a2 := a2) (a3 := a3) fun a ha => by
      simp only [List.mem_cons, List.not_mem_nil, or_false] at ha
      rcases ha with q | q | q <;> rw [q]
      · exact ⟨p1.ne hz ⟨_, rfl⟩, t1, p1.ne e1 ⟨_, k1⟩, p1.ne e2 ⟨_, k2⟩, p1.ne e3 ⟨_, k3⟩⟩
      · exact ⟨p2.ne hz ⟨_, rfl⟩, t2, p2.ne e1 ⟨_, k1⟩, p2.ne e2 ⟨_, k2⟩, p2.ne e3 ⟨_, k3⟩⟩
      · exact ⟨p3.ne hz ⟨_, rfl⟩, t3, p3.ne e1 ⟨_, k1⟩, p3.ne e2 ⟨_, k2⟩, p3.ne e3 ⟨_, k3⟩⟩
    exact wpAny_pyNext_zipD3_end S D1 D2 D3 hz hTI hTO ⟨h1, p1⟩ ⟨h2, p2⟩ ⟨h3, p3⟩ (by omega) (by omega) (by omega) (by omega) fun h' tk hk => ⟨rfl, I.turnedL (ch := [z, TI, TO, i1, i2, i3]) (fun c o hb q =>
      hk c o (fun e => hb (by simp [e])) (fun e => hb (by simp [e])) (fun e => hb (by simp [e])) (fun e => hb (by simp [e])) (fun e => hb (by simp [e])) q) hf⟩
  self := fun A i s Q E st h => wpAny_pyIter_zip st.1 h
def iZ2 (K : PySem.W.Frag) (ta : TA) : TI := fun σ H Rq => ta σ H fun vs H1 => ∃ l1 a1 xs l2 a2 ys, vs = [.ref a1, .ref a2] ∧ SqX K H1 l1 a1 xs ∧ SqX K H1 l2 a2 ys ∧ Rq (ItZ2 K l1 a1 l2 a2) H1
def iZ3 (K : PySem.W.Frag) (ta : TA) : TI := fun σ H Rq => ta σ H fun vs H1 => ∃ l1 a1 xs l2 a2 ys l3 a3 zs, vs = [.ref a1, .ref a2, .ref a3] ∧ SqX K H1 l1 a1 xs ∧ SqX K H1 l2 a2 ys ∧ SqX K H1 l3 a3 zs ∧ Rq (ItZ3 K l1 a1 l2 a2 l3 a3) H1
section
variable {X : Cx} {tg e0 : Expr} {er : List Expr} {p pos tpos : Pos} {elts : List Expr} {kk : Nat} {ta : TA}
theorem sq_lt {l : Bool} {h : Heap} {a : Addr} {vs : Array Value} (x : IsX l h a vs) : a < h.objs.size := let ⟨_, _, _, e, _⟩ := x.rec_; Heap.lt_size e
theorem pi_z2 (hg : Gl X "zip") (hm : X.mg "zip" = none) (ha : PA X (e0 :: er) ta) (hs : starEach (e0 :: er) X.env = (false, eval e0 X.env) :: starEach er X.env) (hpl : (backTo pos (starEach er X.env)).any (·.1) = false) :
    PI X (.Tuple elts kk tpos) (.Call (.Name "zip" p) (e0 :: er) [] pos) (iZ2 X.K ta) := by
  refine ⟨fun pins s σ H Rq I h => ?_⟩
  refine Call_ (ld_blt I hg hm PyProof.Rows.boot_zip (PyProof.Rows.callWith_type1 (thn (ha.run pos pins s σ H _ I h) fun us s1 ⟨vs, H1, I1, r1, q1⟩ => ?_) hs hpl))
  obtain ⟨l1, a1, xs, l2, a2, ys, rfl, hx, hy, q⟩ := q1
  obtain ⟨u1, u2, rfl, r1, r2⟩ := vals2 r1
  cases (show u1 = Value.ref a1 from r1)
  cases (show u2 = Value.ref a2 from r2)
  obtain ⟨us, rx, px, _⟩ := sqX_at I1 hx
  obtain ⟨ws, ry, py, _⟩ := sqX_at I1 hy
  refine zip_begins2 (begO_ok (l := l1) us.toArray) (begO_ok (l := l2) ws.toArray) px py fun h' hz hTI hTO b1 b2 hsz hk => wpAny_pyIter_zip hz ?_
  have I2 : Inv X pins σ H1 { s1 with heap := h' } := I1.kept (t' := s1.toks) hk
  generalize hn : s1.heap.objs.size = n at hz hTI hTO b1 b2 hsz
  have g : ∀ {l a vs}, IsX l s1.heap a vs → (n + 3 : Nat) ≠ a := fun z e => by have lt := sq_lt z; rw [← e, hn] at lt; exact Nat.not_lt.mpr (Nat.le_add_right n 3) lt
  refine ⟨n + 4, [n + 4, n + 2, n + 3, n, n + 1], _, _, H1, rfl, I2, turn_z2 (l1 := l1) (l2 := l2) (a1 := a1) (a2 := a2) (TI := n + 2) (TO := n + 3) (i1 := n) (i2 := n + 1) ?_ (g px) (g py), ⟨hz, hTI, ⟨_, _, hTO⟩, ItrX.beg b1, ItrX.beg b2⟩, fun b hb => ?_, q⟩
  · constructor <;> first | (show (_ : Nat) ≠ _; omega)
  · have hle : s1.heap.objs.size ≤ b := by
      rw [hn]
      simp only [List.mem_cons, List.not_mem_nil, or_false] at hb
      show (n : Nat) ≤ (b : Nat)
      rcases hb with z | z | z | z | z <;> rw [z] <;> first | exact Nat.le_add_right _ _ | exact Nat.le_refl _
    exact I1.fpOk hle (I1.hok.fresh hle)
theorem vals3 {x y z : V} {us : List Value} (r : Vals [x, y, z] us) : ∃ u v w, us = [u, v, w] ∧ RelV x u ∧ RelV y v ∧ RelV z w := by
  cases r with
  | cons r1 r => cases r with
    | cons r2 r => cases r with
      | cons r3 r => cases r; exact ⟨_, _, _, rfl, r1, r2, r3⟩
theorem pi_z3 (hg : Gl X "zip") (hm : X.mg "zip" = none) (ha : PA X (e0 :: er) ta) (hs : starEach (e0 :: er) X.env = (false, eval e0 X.env) :: starEach er X.env) (hpl : (backTo pos (starEach er X.env)).any (·.1) = false) :
    PI X (.Tuple elts kk tpos) (.Call (.Name "zip" p) (e0 :: er) [] pos) (iZ3 X.K ta) := by
  refine ⟨fun pins s σ H Rq I h => ?_⟩
  refine Call_ (ld_blt I hg hm PyProof.Rows.boot_zip (PyProof.Rows.callWith_type1 (thn (ha.run pos pins s σ H _ I h) fun us s1 ⟨vs, H1, I1, r1, q1⟩ => ?_) hs hpl))
  obtain ⟨l1, a1, xs, l2, a2, ys, l3, a3, zs, rfl, hx, hy, hv, q⟩ := q1
  obtain ⟨u1, u2, u3, rfl, r1, r2, r3⟩ := vals3 r1
  cases (show u1 = Value.ref a1 from r1)
  cases (show u2 = Value.ref a2 from r2)
  cases (show u3 = Value.ref a3 from r3)
  obtain ⟨us, rx, px, _⟩ := sqX_at I1 hx
  obtain ⟨ws, ry, py, _⟩ := sqX_at I1 hy
  obtain ⟨ts, rz, pz, _⟩ := sqX_at I1 hv
  refine zip_begins3 (begO_ok (l := l1) us.toArray) (begO_ok (l := l2) ws.toArray) (begO_ok (l := l3) ts.toArray) px py pz fun h' hz hTI hTO b1 b2 b3 hsz hk => wpAny_pyIter_zip hz ?_
  have I2 : Inv X pins σ H1 { s1 with heap := h' } := I1.kept (t' := s1.toks) hk
  generalize hn : s1.heap.objs.size = n at hz hTI hTO b1 b2 b3 hsz
  have g : ∀ {l a vs}, IsX l s1.heap a vs → (n + 4 : Nat) ≠ a := fun z e => by have lt := sq_lt z; rw [← e, hn] at lt; exact Nat.not_lt.mpr (Nat.le_add_right n 4) lt
  refine ⟨n + 5, [n + 5, n + 3, n + 4, n, n + 1, n + 2], _, _, H1, rfl, I2, turn_z3 (l1 := l1) (l2 := l2) (l3 := l3) (a1 := a1) (a2 := a2) (a3 := a3) (TI := n + 3) (TO := n + 4) (i1 := n) (i2 := n + 1) (i3 := n + 2) ?_ (g px) (g py) (g pz), ⟨hz, hTI, ⟨_, _, _, hTO⟩, ItrX.beg b1, ItrX.beg b2, ItrX.beg b3⟩, fun b hb => ?_, q⟩
  · constructor
    · constructor <;> first | (show (_ : Nat) ≠ _; omega)
    all_goals (show (_ : Nat) ≠ _; omega)
  · have hle : s1.heap.objs.size ≤ b := by
      rw [hn]
      simp only [List.mem_cons, List.not_mem_nil, or_false] at hb
      show (n : Nat) ≤ (b : Nat)
      rcases hb with z | z | z | z | z | z <;> rw [z] <;> first | exact Nat.le_add_right _ _ | exact Nat.le_refl _
    exact I1.fpOk hle (I1.hok.fresh hle)
end
end Nm
set_option Elab.async false
set_option maxRecDepth 100000
set_option linter.all false
/-! What is walked: a list of data, over any iterator. -/
namespace Nm
open PySem L2 PyProof.Rows

/-- a list or a tuple that nobody writes -/
structure Src (K : PySem.W.Frag) (H : Hp) (c : Clr) (l : Bool) (a : Addr) (xs : List V) (ds : List D) : Prop where
  top : match l with | true => c a = .sh ∧ H a = some (.lst xs) | false => SqT K H a xs
  len : ds.length ≤ sizeLine
  rel : RelDs K H (isSh c) xs ds
/-- what is shared stands -/
structure Fs (c : Clr) (H : Hp) (c' : Clr) (H' : Hp) : Prop where
  kp : Kp (isSh c) H H'
  sh : ∀ a, H a ≠ Option.none → c a = .sh → c' a = .sh
theorem Fm.fs {c c' : Clr} {H H' : Hp} (f : Fm c H c' H') : Fs c H c' H' := ⟨f.kp, fun a h e => f.sh h e⟩
theorem RelDs.fs {K : PySem.W.Frag} {H H' : Hp} {c c' : Clr} {vs : List V} {ds : List D} (f : Fs c H c' H') (h : RelDs K H (isSh c) vs ds) : RelDs K H' (isSh c') vs ds := h.tr f.kp fun a n e => f.sh a n e
/-- an iterator gives the data ds, turn by turn -/
structure WkD (K : PySem.W.Frag) (J : It) (ds : List D) (c : Clr) (H : Hp) : Prop where
  goes : ∀ i c2 H2, i < ds.length → Fs c H c2 H2 → J.go i H2
  stops : ∀ c2 H2, Fs c H c2 H2 → J.stop ds.length H2
  yields : ∀ i c2 H2 x H3 d, ds[i]? = some d → Fs c H c2 H2 → J.yld i H2 x H3 → ∃ c3, Nw c2 H2 c3 H3 ∧ RelS K H3 c3 x d
section
variable {K : PySem.W.Frag} {H H' H2 : Hp} {c c' c2 : Clr} {l l2 l3 : Bool} {a a2 a3 : Addr} {xs ys zs : List V} {ds es fs : List D} {v : V} {d : D}
theorem Src.sq (s : Src K H c l a xs ds) : SqX K H l a xs := match l, s with
  | true, s => SqL.of s.top.2
  | false, s => s.top
theorem Src.fm (s : Src K H c l a xs ds) (f : Fs c H c' H') : Src K H' c' l a xs ds := match l, s with
  | true, ⟨⟨h1, h2⟩, z, r⟩ => ⟨⟨f.sh _ (by rw [h2]; simp) h1, f.kp a _ h2 (.inl h1)⟩, z, r.fs f⟩
  | false, ⟨h1, z, r⟩ => ⟨sqT_kp f.kp h1, z, r.fs f⟩
theorem src_of (h : RelS K H c v d) (e : items? d = some ds) : ∃ l a xs, v = .ref a ∧ Src K H c l a xs ds := by
  have n : notD d = true := by cases d <;> first | rfl | cases e
  have h := h.pl n
  cases h with
  | list hA hr hz hs => cases e; exact ⟨true, _, _, rfl, ⟨hA, hr⟩, hz, hs⟩
  | tup ht hz hs => cases e; exact ⟨false, _, _, rfl, ht, hz, hs⟩
  | none => cases e
  | bool _ => cases e
  | int _ => cases e
  | str _ _ => cases e
theorem Src.at_ {i : Nat} (s : Src K H c l a xs ds) (h : ds[i]? = some d) : ∃ x, xs[i]? = some x ∧ RelD K H (isSh c) x d := s.rel.get h
theorem Src.lt {i : Nat} (s : Src K H c l a xs ds) (h : i < ds.length) : xs[i]? = some (xs[i]'(by rw [s.rel.length]; exact h)) := by simp

/-! ### the iterators -/
def ItS (K : PySem.W.Frag) (l : Bool) (a : Addr) : It := match l with
  | true => Itl K a
  | false => Itt K a
theorem wk_seq (s : Src K H c l a xs ds) : WkD K (ItS K l a) ds c H where
  goes := fun i c2 H2 hi f => by
    have s' := s.fm f
    cases l with
    | true => exact ⟨xs, _, s'.sq, s'.lt hi⟩
    | false => exact ⟨xs, _, s'.sq, s'.lt hi⟩
  stops := fun c2 H2 f => by
    have s' := s.fm f
    cases l with
    | true => exact ⟨xs, s'.sq, Nat.le_of_eq s'.rel.length⟩
    | false => exact ⟨xs, s'.sq, Nat.le_of_eq s'.rel.length⟩
  yields := fun i c2 H2 x H3 d hd f y => by
    have s' := s.fm f
    obtain ⟨x', h1, h2⟩ := s'.at_ hd
    cases l with
    | true =>
      obtain ⟨rfl, y⟩ := y
      rw [y xs s'.sq] at h1
      cases h1
      exact ⟨c2, .refl, .inl h2⟩
    | false =>
      obtain ⟨rfl, y⟩ := y
      rw [y xs s'.sq] at h1
      cases h1
      exact ⟨c2, .refl, .inl h2⟩
theorem rangeL_get {lo hi : Int} {i : Nat} (h : i < (hi - lo).toNat) : (rangeL lo hi)[i]? = some (.int (lo + (i : Int))) := by
  unfold rangeL
  rw [List.getElem?_map, List.getElem?_range h]; rfl
theorem rangeL_len {lo hi : Int} : (rangeL lo hi).length = (hi - lo).toNat := by unfold rangeL; rw [List.length_map, List.length_range]
theorem wk_rng {lo hi : Int} : WkD K (Itr lo (hi - lo).toNat) (rangeL lo hi) c H where
  goes := fun i c2 H2 h f => by rw [rangeL_len] at h; exact h
  stops := fun c2 H2 f => by rw [rangeL_len]; exact Nat.le_refl _
  yields := fun i c2 H2 x H3 d hd f y => by
    obtain ⟨rfl, rfl⟩ := y
    have hi' : i < (hi - lo).toNat := by
      have := (List.getElem?_eq_some_iff.mp hd).1
      rw [rangeL_len] at this; exact this
    rw [rangeL_get hi'] at hd
    cases hd
    exact ⟨c2, .refl, .inl (.int _)⟩
theorem enumL_len : ∀ {ds : List D} {k : Int}, (enumL k ds).length = ds.length
  | [], _ => rfl
  | _ :: ds, k => congrArg (· + 1) (enumL_len (ds := ds) (k := k + 1))
theorem enumL_get : ∀ {ds : List D} {k : Int} {i : Nat} {d : D}, (enumL k ds)[i]? = some d → ∃ e, ds[i]? = some e ∧ d = .tuple [.int (k + (i : Int)), e]
  | [], _, _, _, h => by simp [enumL] at h
  | x :: ds, k, 0, d, h => by
    simp [enumL] at h
    exact ⟨x, rfl, by rw [← h]; simp⟩
  | x :: ds, k, i + 1, d, h => by
    have h : (enumL (k + 1) ds)[i]? = some d := by simpa [enumL] using h
    obtain ⟨e, h1, h2⟩ := enumL_get h
    refine ⟨e, by simpa using h1, ?_⟩
    rw [h2, show k + 1 + (i : Int) = k + ((i + 1 : Nat) : Int) by omega]
/-- a new tuple of shared things -/
theorem pair_new {p : Addr} (hp : H p = none) (r : RelDs K H (isSh c) xs ds) (hz : ds.length ≤ 3) : ∃ c3, Nw c H c3 (upd H p (.tup xs)) ∧ RelS K (upd H p (.tup xs)) c3 (.ref p) (.tuple ds) :=
  ⟨cset c p .sh, .new hp, .inl (tup_new hp r (Nat.le_trans hz (by decide)))⟩
theorem wk_en {k : Int} (s : Src K H c l a xs ds) : WkD K (ItEn K l a k) (enumL k ds) c H where
  goes := fun i c2 H2 hi f => by
    have s' := s.fm f
    rw [enumL_len] at hi
    exact ⟨xs, _, s'.sq, s'.lt hi⟩
  stops := fun c2 H2 f => by
    rw [enumL_len]
    exact ⟨xs, (s.fm f).sq, s.rel.length⟩
  yields := fun i c2 H2 x H3 d hd f y => by
    have s' := s.fm f
    obtain ⟨e, h1, rfl⟩ := enumL_get hd
    obtain ⟨x', h2, h3⟩ := s'.at_ h1
    obtain ⟨T, z, rfl, hT, rfl, hy⟩ := y
    rw [hy xs s'.sq] at h2
    cases h2
    exact pair_new hT (.cons (.int _) (.cons h3 .nil)) (by show 2 ≤ 3; decide)
theorem zip2_len : ∀ {ds es : List D}, (zip2 ds es).length = min ds.length es.length
  | [], _ => by simp [zip2]
  | _ :: _, [] => by simp [zip2]
  | _ :: ds, _ :: es => by
    show (zip2 ds es).length + 1 = min (ds.length + 1) (es.length + 1)
    rw [zip2_len]; omega
theorem zip2_get : ∀ {ds es : List D} {i : Nat} {d : D}, (zip2 ds es)[i]? = some d → ∃ x y, ds[i]? = some x ∧ es[i]? = some y ∧ d = .tuple [x, y]
  | [], _, _, _, h => by simp [zip2] at h
  | _ :: _, [], _, _, h => by simp [zip2] at h
  | x :: ds, y :: es, 0, d, h => by
    simp [zip2] at h
    exact ⟨x, y, rfl, rfl, h.symm⟩
  | x :: ds, y :: es, i + 1, d, h => by
    have h : (zip2 ds es)[i]? = some d := by simpa [zip2] using h
    obtain ⟨u, v, h1, h2, h3⟩ := zip2_get h
    exact ⟨u, v, by simpa using h1, by simpa using h2, h3⟩
theorem zip3_len : ∀ {ds es fs : List D}, (zip3 ds es fs).length = min (min ds.length es.length) fs.length
  | [], _, _ => by simp [zip3]
  | _ :: _, [], _ => by simp [zip3]
  | _ :: _, _ :: _, [] => by simp [zip3]
  | _ :: ds, _ :: es, _ :: fs => by
    show (zip3 ds es fs).length + 1 = min (min (ds.length + 1) (es.length + 1)) (fs.length + 1)
    rw [zip3_len]; omega
theorem zip3_get : ∀ {ds es fs : List D} {i : Nat} {d : D}, (zip3 ds es fs)[i]? = some d → ∃ x y z, ds[i]? = some x ∧ es[i]? = some y ∧ fs[i]? = some z ∧ d = .tuple [x, y, z]
  | [], _, _, _, _, h => by simp [zip3] at h
  | _ :: _, [], _, _, _, h => by simp [zip3] at h
  | _ :: _, _ :: _, [], _, _, h => by simp [zip3] at h
  | x :: ds, y :: es, z :: fs, 0, d, h => by
    simp [zip3] at h
    exact ⟨x, y, z, rfl, rfl, rfl, h.symm⟩
  | x :: ds, y :: es, z :: fs, i + 1, d, h => by
    have h : (zip3 ds es fs)[i]? = some d := by simpa [zip3] using h
    obtain ⟨u, v, w, h1, h2, h3, h4⟩ := zip3_get h
    exact ⟨u, v, w, by simpa using h1, by simpa using h2, by simpa using h3, h4⟩
theorem wk_z2 (s : Src K H c l a xs ds) (s2 : Src K H c l2 a2 ys es) : WkD K (ItZ2 K l a l2 a2) (zip2 ds es) c H where
  goes := fun i c2 H2 hi f => by
    have q := s.fm f
    have q2 := s2.fm f
    rw [zip2_len] at hi
    exact ⟨xs, ys, _, _, ⟨q.sq, q.lt (by omega)⟩, q2.sq, q2.lt (by omega)⟩
  stops := fun c2 H2 f => by
    rw [zip2_len]
    exact ⟨xs, ys, (s.fm f).sq, (s2.fm f).sq, by rw [s.rel.length, s2.rel.length]⟩
  yields := fun i c2 H2 x H3 d hd f y => by
    have q := s.fm f
    have q2 := s2.fm f
    obtain ⟨u, v, h1, h2, rfl⟩ := zip2_get hd
    obtain ⟨u', g1, r1⟩ := q.at_ h1
    obtain ⟨v', g2, r2⟩ := q2.at_ h2
    obtain ⟨T, x1, x2, rfl, hT, rfl, hy1, hy2⟩ := y
    rw [hy1 xs q.sq] at g1
    rw [hy2 ys q2.sq] at g2
    cases g1
    cases g2
    exact pair_new hT (.cons r1 (.cons r2 .nil)) (by show 2 ≤ 3; decide)
theorem wk_z3 (s : Src K H c l a xs ds) (s2 : Src K H c l2 a2 ys es) (s3 : Src K H c l3 a3 zs fs) : WkD K (ItZ3 K l a l2 a2 l3 a3) (zip3 ds es fs) c H where
  goes := fun i c2 H2 hi f => by
    have q := s.fm f
    have q2 := s2.fm f
    have q3 := s3.fm f
    rw [zip3_len] at hi
    exact ⟨xs, ys, zs, _, _, _, ⟨q.sq, q.lt (by omega)⟩, ⟨q2.sq, q2.lt (by omega)⟩, q3.sq, q3.lt (by omega)⟩
  stops := fun c2 H2 f => by
    rw [zip3_len]
    exact ⟨xs, ys, zs, (s.fm f).sq, (s2.fm f).sq, (s3.fm f).sq, by rw [s.rel.length, s2.rel.length, s3.rel.length]⟩
  yields := fun i c2 H2 x H3 d hd f y => by
    have q := s.fm f
    have q2 := s2.fm f
    have q3 := s3.fm f
    obtain ⟨u, v, w, h1, h2, h3, rfl⟩ := zip3_get hd
    obtain ⟨u', g1, r1⟩ := q.at_ h1
    obtain ⟨v', g2, r2⟩ := q2.at_ h2
    obtain ⟨w', g3, r3⟩ := q3.at_ h3
    obtain ⟨T, x1, x2, x3, rfl, hT, rfl, hy1, hy2, hy3⟩ := y
    rw [hy1 xs q.sq] at g1
    rw [hy2 ys q2.sq] at g2
    rw [hy3 zs q3.sq] at g3
    cases g1
    cases g2
    cases g3
    exact pair_new hT (.cons r1 (.cons r2 (.cons r3 .nil))) (by show 3 ≤ 3; decide)
end
/-- for over a list or a tuple, which of them shows only then -/
theorem pi_sq {X : Cx} {tg e : Expr} {te : TE} (he : PE X e te) : PI X tg e (fun σ H Rq => te σ H fun v H1 => ∃ l a xs, v = .ref a ∧ SqX X.K H1 l a xs ∧ Rq (ItS X.K l a) H1) := by
  refine ⟨fun pins sh σ H Rq I h => thn (he.run pins sh σ H _ I h) fun u s1 ⟨x, H1, I1, r1, l, a, xs, ex, hq, q⟩ => ?_⟩
  subst ex
  cases r1
  have fresh : ∀ b, b ∈ [s1.heap.objs.size] → FpOk X pins H1 b := fun b hb => by
    rw [List.mem_singleton.mp hb]
    exact I1.fpOk (Nat.le_refl _) (I1.hok.fresh (Nat.le_refl _))
  cases l with
  | true =>
    obtain ⟨us, rv, p, hz⟩ := I1.list hq
    exact wpAny_pyIter_list p.isList ⟨_, [s1.heap.objs.size], _, _, H1, rfl, I1.kept (t' := s1.toks) fun b o e => Heap.get?_push_of_some _ e, turn_list a _, ⟨_, Heap.get?_push_size _ rfl, rfl, rfl⟩, fresh, q⟩
  | false =>
    obtain ⟨us, rv, p, hz⟩ := I1.tuple hq
    exact wpAny_pyIter_tuple (items := us.toArray) p ⟨_, [s1.heap.objs.size], _, _, H1, rfl, I1.kept (t' := s1.toks) fun b o e => Heap.get?_push_of_some _ e, turn_tuple a _, ⟨_, Heap.get?_push_size _ rfl, rfl, rfl⟩, fresh, q⟩
theorem pi_off {X : Cx} {tg e : Expr} {t : TI} (h : ∀ σ H Rq, t σ H Rq → False) : PI X tg e t := ⟨fun _ _ σ H Rq _ q => (h σ H Rq q).elim⟩
section
variable (xk : ExK) (K : PySem.W.Frag) (W : WX) (ft : Nat → Fd) (cl : Cl)
def rdI (x : Wk) : TI := fun σ H Rq => ∃ c e, StR K H c e σ ∧ Post xk K W σ c H (evI ft cl x e) fun ds _ c' H' => ds.length ≤ sizeLine → ∀ J, WkD K J ds c' H' → Rq J H'
end
section
variable {xk : ExK} {ft : Nat → Fd} {cl : Cl} {G : Gi} {I : Info} {X : Cx} {W : WX} {tg pe : Expr} {pos p1 : Pos} {a : Ex}
theorem noEx_items {α : Type} {o : Option (List D)} {e : En} : NoEx (match o with | some xs => R.ok (xs, e) | none => R.no) := by split <;> first | exact .ok | exact .no
theorem s_seq (he : PE X pe (rdE xk X.K W ft cl a)) : PI X tg pe (rdI xk X.K W ft cl (.seq a)) :=
  (pi_sq he).wk fun σ H Rq ⟨c, e, s, h⟩ => ⟨c, e, s, (Post.bind h).imp fun r e1 c1 H1 s1 f1 p v rv => by
    obtain ⟨⟨d, e2⟩, h1, p⟩ := p.get settle_noEx
    obtain ⟨c2, s2, r2, f2, F⟩ := settle_ok s1 f1 rv.rw_ h1
    have p : Post xk X.K W σ c H (match items? d with | some xs => R.ok (xs, e2) | none => R.no) _ := p
    cases hi : items? d with
    | none => rw [hi] at p; exact p.elim
    | some ds =>
      rw [hi] at p
      obtain ⟨l, b, xs, rfl, S⟩ := src_of r2 hi
      exact ⟨l, b, xs, rfl, S.sq, p.ret c2 H1 s2 f2 S.len _ (wk_seq S)⟩⟩
theorem small_of {i : Int} (h : small62 i = true) : -(2 ^ 62) ≤ i ∧ i < 2 ^ 62 := by
  unfold small62 at h
  simpa only [Bool.and_eq_true, decide_eq_true_eq] using h
theorem rng1 {d : D} {ds : List D} (h : rng [d] = .ok ds) : ∃ j, d = .int j ∧ small62 j = true ∧ j ≤ 16777216 ∧ ds = rangeL 0 j := by
  unfold rng at h
  split at h
  · rename_i j q
    cases q
    split at h
    · rename_i z
      simp only [Bool.and_eq_true, decide_eq_true_eq] at z
      cases h
      exact ⟨j, rfl, z.1, z.2, rfl⟩
    · cases h
  · rename_i z; cases z
  · cases h
theorem rng2 {d d' : D} {ds : List D} (h : rng [d, d'] = .ok ds) : ∃ i j, d = .int i ∧ d' = .int j ∧ small62 i = true ∧ small62 j = true ∧ j - i ≤ 16777216 ∧ ds = rangeL i j := by
  unfold rng at h
  split at h
  · rename_i z; cases z
  · rename_i i j q
    cases q
    split at h
    · rename_i z
      simp only [Bool.and_eq_true, decide_eq_true_eq] at z
      cases h
      exact ⟨i, j, rfl, rfl, z.1.1, z.1.2, z.2, rfl⟩
    · cases h
  · cases h
theorem fetchs_len {e : En} : ∀ {rs : List Res} {ds : List D}, fetchs e rs = .ok ds → ds.length = rs.length
  | [], ds, q => by cases q; rfl
  | r :: rs, ds, q => by
    have q : (do let d ← fetch e r; let l ← fetchs e rs; R.ok (d :: l)) = R.ok ds := q
    cases h1 : fetch e r with
    | ok d =>
      rw [h1] at q
      cases h2 : fetchs e rs with
      | ok l =>
        have q : (do let l ← fetchs e rs; R.ok (d :: l)) = R.ok ds := q
        rw [h2] at q; cases q
        exact congrArg (· + 1) (fetchs_len h2)
      | ex x => have q : (do let l ← fetchs e rs; R.ok (d :: l)) = R.ok ds := q; rw [h2] at q; cases q
      | no => have q : (do let l ← fetchs e rs; R.ok (d :: l)) = R.ok ds := q; rw [h2] at q; cases q
    | ex x => rw [h1] at q; cases q
    | no => rw [h1] at q; cases q
theorem s_rng (hy : Hy xk ft cl G I X W) {x : Str} {l : List Expr} {es : Exs} (hn : G.bn I x "range" = true) (hc : chkEs G es I l = true) (hl : l.length ≤ 2) (h : PA X l (rdA xk X.K W ft cl es)) :
    PI X tg (.Call (.Name x p1) l [] pos) (rdI xk X.K W ft cl (.rng es)) := by
  obtain ⟨rfl, h2, h3, h4, h5⟩ := bn_of hn
  have hm := hy.gl.bl _ h3
  have hg : Gl X "range" := hy.glob h2
  have hlen := chkEs_len hc
  match l, es, hc, hl, h, hlen with
  | [], .nil, _, _, _, _ => exact pi_off fun σ H Rq ⟨c, e, s, q⟩ => q
  | [], .cons _ _, hc, _, _, _ => exact absurd hc Bool.false_ne_true
  | [e1], .cons x1 .nil, hc, _, h, _ =>
    have hc' : (chkE G x1 I e1 && plainArg e1 && chkEs G .nil I []) = true := hc
    simp only [Bool.and_eq_true] at hc'
    refine (pi_range1 hg hm h (by rw [plainArg_star hc'.1.2]; rfl)).wk fun σ H Rq ⟨c, e, s, q⟩ => ⟨c, e, s, (Post.bind q).known.imp fun rs e2 c1 H1 s1 f1 ⟨hk, p⟩ vs rv nd => ?_⟩
    obtain ⟨ds, g1, p⟩ := p.get fetchs_noEx
    obtain ⟨xs, g2, p⟩ := p.get noEx_rng
    have hf := fetchs_ok s1 rv g1
    have hd : ds.length = 1 := by rw [fetchs_len g1, evEs_len hk]; rfl
    match ds, hd with
    | [d], _ =>
      obtain ⟨j, rfl, z1, z2, rfl⟩ := rng1 g2
      obtain ⟨v, rfl, hw⟩ := hf.one
      have z3 := small_of z1
      have hz : (rangeL 0 j).length ≤ sizeLine := by rw [rangeL_len]; show _ ≤ 2 ^ 24; omega
      refine ⟨j, by rw [hw.int], z3.1, z3.2, ?_⟩
      have w := wk_rng (K := X.K) (lo := 0) (hi := j) (c := c1) (H := H1)
      rw [Int.sub_zero] at w
      exact p.ret c1 H1 s1 f1 hz _ w
  | [e1, e2], .cons x1 (.cons x2 .nil), hc, _, h, _ =>
    have hc' : (chkE G x1 I e1 && plainArg e1 && (chkE G x2 I e2 && plainArg e2 && chkEs G .nil I [])) = true := hc
    simp only [Bool.and_eq_true] at hc'
    refine (pi_range2 hg hm h (by rw [plainArg_star hc'.1.2, plainArg_star hc'.2.1.2]; rfl) (by rw [plainArg_star hc'.2.1.2]; rfl)).wk fun σ H Rq ⟨c, e, s, q⟩ => ⟨c, e, s, (Post.bind q).known.imp fun rs e2 c1 H1 s1 f1 ⟨hk, p⟩ vs rv nd => ?_⟩
    obtain ⟨ds, g1, p⟩ := p.get fetchs_noEx
    obtain ⟨xs, g2, p⟩ := p.get noEx_rng
    have hf := fetchs_ok s1 rv g1
    have hd : ds.length = 2 := by rw [fetchs_len g1, evEs_len hk]; rfl
    match ds, hd with
    | [d, d'], _ =>
      obtain ⟨i, j, rfl, rfl, z1, z2, z4, rfl⟩ := rng2 g2
      obtain ⟨v, v', rfl, hw, hw'⟩ := hf.two
      have q1 := small_of z1
      have q2 := small_of z2
      have hz : (rangeL i j).length ≤ sizeLine := by rw [rangeL_len]; show _ ≤ 2 ^ 24; omega
      exact ⟨i, j, by rw [hw.int, hw'.int], ⟨q1.1, q1.2, q2.1, q2.2⟩, p.ret c1 H1 s1 f1 hz _ wk_rng⟩
theorem s_enum (hy : Hy xk ft cl G I X W) {y : Str} {elts : List Expr} {kk : Nat} {tpos : Pos} (hn : G.bn I y "enumerate" = true) (hp : plainArg pe = true) (he : PE X pe (rdE xk X.K W ft cl a)) :
    PI X (.Tuple elts kk tpos) (.Call (.Name y p1) [pe] [] pos) (rdI xk X.K W ft cl (.enum a 0)) := by
  obtain ⟨rfl, h2, h3, h4, h5⟩ := bn_of hn
  refine (pi_en (hy.glob h2) (hy.gl.bl _ h3) he hp).wk fun σ H Rq ⟨c, e, s, h⟩ => ⟨c, e, s, (Post.bind h).imp fun r e1 c1 H1 s1 f1 p v rv => ?_⟩
  obtain ⟨⟨d, e2⟩, h1, p⟩ := p.get settle_noEx
  obtain ⟨c2, s2, r2, f2, F⟩ := settle_ok s1 f1 rv.rw_ h1
  have p : Post xk X.K W σ c H (match items? d with | some xs => R.ok (enumL ((0 : Nat) : Int) xs, e2) | none => R.no) _ := p
  cases hi : items? d with
  | none => rw [hi] at p; exact p.elim
  | some ds =>
    rw [hi] at p
    obtain ⟨l, b, xs, rfl, S⟩ := src_of r2 hi
    exact ⟨l, b, xs, rfl, S.sq, p.ret c2 H1 s2 f2 (by rw [enumL_len]; exact S.len) _ (wk_en S)⟩
theorem s_zip (hy : Hy xk ft cl G I X W) {y : Str} {l : List Expr} {es : Exs} {elts : List Expr} {kk : Nat} {tpos : Pos} (hn : G.bn I y "zip" = true) (hc : chkEs G es I l = true) (hl : l.length = 2 ∨ l.length = 3) (h : PA X l (rdA xk X.K W ft cl es)) :
    PI X (.Tuple elts kk tpos) (.Call (.Name y p1) l [] pos) (rdI xk X.K W ft cl (.zip es)) := by
  obtain ⟨rfl, h2, h3, h4, h5⟩ := bn_of hn
  have hm := hy.gl.bl _ h3
  have hg : Gl X "zip" := hy.glob h2
  have hlen := chkEs_len hc
  cases l with
  | nil => rcases hl with z | z <;> cases z
  | cons e0 er =>
    cases es with
    | nil => exact absurd hc Bool.false_ne_true
    | cons x0 xr =>
      have hc' : (chkE G x0 I e0 && plainArg e0 && chkEs G xr I er) = true := hc
      simp only [Bool.and_eq_true] at hc'
      have hs := plainArg_star (es := er) (env := X.env) hc'.1.2
      have hpl := plain_back hc'.2 pos X.env
      rcases hl with hl | hl
      · refine (pi_z2 hg hm h hs hpl).wk fun σ H Rq ⟨c, e, s, q⟩ => ⟨c, e, s, (Post.bind q).known.imp fun rs e1 c1 H1 s1 f1 ⟨hk, p⟩ vs rv nd => ?_⟩
        obtain ⟨⟨ds, e2⟩, g1, p⟩ := p.get embeds_noEx
        obtain ⟨c2, s2, r2, f2, F⟩ := embeds_ok s1 f1 rv.rws g1
        obtain ⟨zs, g2, p⟩ := p.get noEx_zips
        have hd : ds.length = 2 := by rw [← r2.length, rv.length, evEs_len hk, ← hlen]; exact hl
        match ds, hd with
        | [d1, d2], _ =>
          have g2 : (match items? d1, items? d2 with | some xs, some ys => R.ok (zip2 xs ys) | _, _ => R.no) = R.ok zs := g2
          cases i1 : items? d1 with
          | none => rw [i1] at g2; cases g2
          | some ys1 =>
            cases i2 : items? d2 with
            | none => rw [i1, i2] at g2; cases g2
            | some ys2 =>
              rw [i1, i2] at g2
              cases g2
              cases r2 with
              | cons ra r2 => cases r2 with
                | cons rb r2 =>
                  cases r2
                  obtain ⟨l1, a1, xs1, rfl, S1⟩ := src_of (.inl ra) i1
                  obtain ⟨l2, a2, xs2, rfl, S2⟩ := src_of (.inl rb) i2
                  exact ⟨l1, a1, xs1, l2, a2, xs2, rfl, S1.sq, S2.sq, p.ret c2 H1 s2 f2 (by rw [zip2_len]; exact Nat.le_trans (Nat.min_le_left _ _) S1.len) _ (wk_z2 S1 S2)⟩
      · refine (pi_z3 hg hm h hs hpl).wk fun σ H Rq ⟨c, e, s, q⟩ => ⟨c, e, s, (Post.bind q).known.imp fun rs e1 c1 H1 s1 f1 ⟨hk, p⟩ vs rv nd => ?_⟩
        obtain ⟨⟨ds, e2⟩, g1, p⟩ := p.get embeds_noEx
        obtain ⟨c2, s2, r2, f2, F⟩ := embeds_ok s1 f1 rv.rws g1
        obtain ⟨zs, g2, p⟩ := p.get noEx_zips
        have hd : ds.length = 3 := by rw [← r2.length, rv.length, evEs_len hk, ← hlen]; exact hl
        match ds, hd with
        | [d1, d2, d3], _ =>
          have g2 : (match items? d1, items? d2, items? d3 with | some xs, some ys, some zs => R.ok (zip3 xs ys zs) | _, _, _ => R.no) = R.ok zs := g2
          cases i1 : items? d1 with
          | none => rw [i1] at g2; cases g2
          | some ys1 =>
            cases i2 : items? d2 with
            | none => rw [i1, i2] at g2; cases g2
            | some ys2 =>
              cases i3 : items? d3 with
              | none => rw [i1, i2, i3] at g2; cases g2
              | some ys3 =>
                rw [i1, i2, i3] at g2
                cases g2
                cases r2 with
                | cons ra r2 => cases r2 with
                  | cons rb r2 => cases r2 with
                    | cons rc r2 =>
                      cases r2
                      obtain ⟨l1, a1, xs1, rfl, S1⟩ := src_of (.inl ra) i1
                      obtain ⟨l2, a2, xs2, rfl, S2⟩ := src_of (.inl rb) i2
                      obtain ⟨l3, a3, xs3, rfl, S3⟩ := src_of (.inl rc) i3
                      exact ⟨l1, a1, xs1, l2, a2, xs2, l3, a3, xs3, rfl, S1.sq, S2.sq, S3.sq, p.ret c2 H1 s2 f2 (by rw [zip3_len]; exact Nat.le_trans (Nat.min_le_left _ _) (Nat.le_trans (Nat.min_le_left _ _) S1.len)) _ (wk_z3 S1 S2 S3)⟩
end
end Nm
set_option Elab.async false
set_option maxRecDepth 100000
set_option linter.all false
/-! Targets, and the slots that a block forgets. -/
namespace Nm
open PySem L2 PyProof.Rows

section
variable {K : PySem.W.Frag} {H : Hp} {c : Clr} {e e' : En} {σ σ' : L2.St} {v : V} {d : D} {i : Nat} {vs : List V} {ds : List D}
theorem getE_set {e : En} {s : Option Sv} : ∀ {j : Nat} {x : Sv}, (e.set i s)[j]? = some (some x) → (j = i ∧ s = some x) ∨ (j ≠ i ∧ e[j]? = some (some x)) := fun {j x} h => by
  by_cases hj : i = j
  · subst hj
    by_cases hl : i < e.length
    · rw [List.getElem?_set_self hl] at h
      exact .inl ⟨rfl, Option.some.inj h⟩
    · rw [List.getElem?_eq_none (by simpa using hl)] at h; cases h
  · rw [List.getElem?_set_ne hj] at h
    exact .inr ⟨fun z => hj z.symm, h⟩
/-- a slot gets a value -/
theorem StR.put (s : StR K H c e σ) {x : Sv} (r : SlR K H c i v x) : StR K H c (e.set i (some x)) (σ.set i (some v)) where
  len := by rw [List.length_set, List.length_set]; exact s.len
  at_ := fun j y hy => by
    have hj : j < σ.length := by
      have := (List.getElem?_eq_some_iff.mp hy).1
      rw [List.length_set, s.len] at this; exact this
    rcases getE_set hy with ⟨rfl, e1⟩ | ⟨hn, hy⟩
    · cases e1
      exact ⟨v, by rw [List.getElem?_set_self hj], r⟩
    · obtain ⟨u, h1, h2⟩ := s.at_ j y hy
      exact ⟨u, by rw [List.getElem?_set_ne (Ne.symm hn)]; exact h1, h2⟩
/-- a slot is forgotten -/
theorem StR.drop (s : StR K H c e σ) (o : Option V) : StR K H c (e.set i none) (σ.set i o) where
  len := by rw [List.length_set, List.length_set]; exact s.len
  at_ := fun j y hy => by
    rcases getE_set hy with ⟨_, e1⟩ | ⟨hn, hy⟩
    · cases e1
    · obtain ⟨u, h1, h2⟩ := s.at_ j y hy
      exact ⟨u, by rw [List.getElem?_set_ne (Ne.symm hn)]; exact h1, h2⟩
theorem StR.wipe (s : StR K H c e σ) : ∀ vs : List Nat, StR K H c (wipeE e vs) (wipe σ vs)
  | [] => s
  | v :: vs => (s.wipe vs).drop none
theorem wipe_same {σ1 σ2 : L2.St} (hl : σ2.length = σ1.length) : ∀ {vs : List Nat}, (∀ i, i ∉ vs → σ2[i]? = σ1[i]?) → L2.wipe σ2 vs = L2.wipe σ1 vs := fun {vs} h => by
  refine List.ext_getElem? fun i => ?_
  by_cases hi : i ∈ vs
  · have go : ∀ (σ : L2.St) (vs : List Nat), i ∈ vs → (L2.wipe σ vs)[i]? = if i < σ.length then some none else none := fun σ vs => by
      induction vs with
      | nil => intro h; cases h
      | cons v vs ih =>
        intro h
        unfold L2.wipe
        by_cases hv : v = i
        · subst hv
          rw [List.getElem?_set, wipe_length]
          simp
        · rw [List.getElem?_set_ne hv]
          exact ih ((List.mem_cons.mp h).resolve_left fun e => hv e.symm)
    rw [go σ2 vs hi, go σ1 vs hi, hl]
  · rw [wipe_out hi, wipe_out hi, h i hi]
theorem wipe_wipe : ∀ {vs : List Nat}, L2.wipe (L2.wipe σ vs) vs = L2.wipe σ vs := fun {vs} => wipe_same (wipe_length σ vs) fun i hi => wipe_out hi
theorem wipeE_out {i : Nat} : ∀ {vs : List Nat}, i ∉ vs → (wipeE e vs)[i]? = e[i]?
  | [], _ => rfl
  | v :: vs, h => by
    simp only [List.mem_cons, not_or] at h
    unfold wipeE
    rw [List.getElem?_set_ne (Ne.symm h.1)]
    exact wipeE_out h.2
theorem wipeE_len : ∀ {vs : List Nat}, (wipeE e vs).length = e.length
  | [] => rfl
  | v :: vs => by unfold wipeE; rw [List.length_set]; exact wipeE_len

/-! ### targets -/
def gT (K : PySem.W.Frag) (t : Tg) : TG := fun v σ H Q => ∃ c e d e', StR K H c e σ ∧ RelS K H c v d ∧ bindT t d e = .ok e' ∧ ∀ σ', StR K H c e' σ' → σ'.length = σ.length → (∀ i, i ∉ tgNames t → σ'[i]? = σ[i]?) → Q σ' H
def gTs (K : PySem.W.Frag) (ts : List Tg) : TGs := fun vs σ H Q => ∃ c e ds e', StR K H c e σ ∧ RelDs K H (isSh c) vs ds ∧ ds.length = ts.length ∧ bindTs ts ds e = .ok e' ∧ ∀ σ', StR K H c e' σ' → σ'.length = σ.length → (∀ i, i ∉ tgsNames ts → σ'[i]? = σ[i]?) → Q σ' H
end
theorem plain_assign {e : Expr} {es : List Expr} {env : Env} (h : plainArg e = true) : assignEach (e :: es) env = (false, assign e env) :: assignEach es env := by
  cases e <;> first | rfl | exact absurd h Bool.false_ne_true
theorem assign_len {env : Env} : ∀ {es : List Expr}, es.all plainArg = true → (assignEach es env).length = es.length ∧ (assignEach es env).findIdx? (·.1) = none
  | [], _ => ⟨rfl, rfl⟩
  | e :: es, h => by
    simp only [List.all_cons, Bool.and_eq_true] at h
    have ih := assign_len (env := env) h.2
    rw [plain_assign h.1, List.length_cons, ih.1, List.findIdx?_cons, ih.2]
    exact ⟨rfl, rfl⟩
section
variable {X : Cx} {N : List Str} {sc : Scope} {fn : Str → Bool}
theorem sto_of {I : Info} {x : Str} (h : I.sto x = true) : Loc I.sc x ∧ (I.fn x = true ∨ I.sc.names.lookup x = some .local) := by
  unfold Info.sto at h
  simp only [Bool.or_eq_true, Bool.and_eq_true, beq_iff_eq] at h
  rcases h with h | ⟨h, h'⟩
  · exact ⟨.inl h, .inr h⟩
  · exact ⟨.inr h, .inl h'⟩
theorem tslot_of {I : Info} {i : Nat} {x : Str} (h : I.tslot i x = true) : I.N[i]? = some x ∧ Loc I.sc x ∧ (I.fn x = true ∨ I.sc.names.lookup x = some .local) := by
  unfold Info.tslot at h
  simp only [Bool.and_eq_true, decide_eq_true_eq] at h
  exact ⟨h.1, sto_of h.2⟩
/-- what storing needs of where one stands -/
structure Hs (I : Info) (X : Cx) : Prop where
  N : X.N = I.N
  nd : I.N.Nodup
  sc : X.env.scope = I.sc
  fn : X.fn = I.fn
  calm : X.calm = true
theorem Hy.hs {xk : ExK} {ft : Nat → Fd} {cl : Cl} {G : Gi} {I : Info} {W : WX} (h : Hy xk ft cl G I X W) : Hs I X := ⟨h.N, h.nd, h.sc, h.fn, h.calm⟩
theorem pg_nm {I : Info} (hs : Hs I X) {i : Nat} {x : Str} {pos : Pos} (h : I.tslot i x = true) : PG X (.Name x pos) (gT X.K (.nm i)) := by
  obtain ⟨h1, h2, h3⟩ := tslot_of h
  refine (pg_name (i := i) (by rw [hs.N]; exact hs.nd) (by rw [hs.N]; exact h1) (by rw [hs.sc]; exact h2) (by rw [hs.fn, hs.sc]; exact h3)).wk fun v σ H Q ⟨c, e, d, e', s, r, hb, k⟩ => ?_
  have hb : (if i < e.length then R.ok (e.set i (some ⟨false, d⟩)) else .no) = R.ok e' := hb
  split at hb
  · cases hb
    refine k _ (s.put (x := ⟨false, d⟩) r) (by rw [List.length_set]) fun j hj => ?_
    have : i ≠ j := fun z => hj (by rw [z]; exact List.mem_singleton.mpr rfl)
    rw [List.getElem?_set_ne this]
  · cases hb
theorem _root_.L2.PGs.wk {e : List Expr} {t t' : TGs} (h : PGs X e t) (w : ∀ v σ H Q, t' v σ H Q → t v σ H Q) : PGs X e t' := ⟨fun pins s σ H v u Q I r q => h.run pins s σ H v u Q I r (w v σ H Q q)⟩
mutual
theorem pg_ok {I : Info} (hs : Hs I X) : ∀ {t : Tg} {et : Expr}, chkT I t et = true → PG X et (gT X.K t)
  | .nm i, et, h => by
    cases et <;> first | exact absurd h Bool.false_ne_true | exact pg_nm hs h
  | .tp ts, et, h => by
    cases et <;> try exact absurd h Bool.false_ne_true
    rename_i es k pos
    have h : (chkTs I ts es && es.all plainArg && decide (ts.length ≤ 100)) = true := h
    simp only [Bool.and_eq_true, decide_eq_true_eq] at h
    obtain ⟨l1, l2⟩ := assign_len (env := X.env) h.1.2
    refine (pg_tup (k := k) (pos := pos) hs.calm (pgs_ok hs h.1.1 h.1.2) l1 l2).wk fun v σ H Q ⟨c, e, d, e', s, r, hb, q⟩ => ?_
    cases d with
    | tuple ds =>
      have hb : (if ds.length = ts.length then bindTs ts ds e else .no) = R.ok e' := hb
      split at hb
      · rename_i hl
        have r := r.pl rfl
        cases r with
        | tup ht hz hr => exact ⟨_, _, rfl, ht, by rw [hr.length, hl, chkTs_len h.1.1], c, e, ds, e', s, hr, hl, hb, q⟩
      · cases hb
    | _ => cases hb
theorem pgs_ok {I : Info} (hs : Hs I X) : ∀ {ts : List Tg} {es : List Expr}, chkTs I ts es = true → es.all plainArg = true → PGs X es (gTs X.K ts)
  | [], [], _, _ => pgs_nil.wk fun vs σ H Q ⟨c, e, ds, e', s, r, hl, hb, q⟩ => by
    cases r with
    | nil =>
      cases hb
      exact ⟨rfl, q σ s rfl fun _ _ => rfl⟩
    | cons _ _ => cases hl
  | [], _ :: _, h, _ => absurd h Bool.false_ne_true
  | _ :: _, [], h, _ => absurd h Bool.false_ne_true
  | t :: ts, et :: es, h, hp => by
    have h : (chkT I t et && chkTs I ts es) = true := h
    simp only [Bool.and_eq_true] at h
    simp only [List.all_cons, Bool.and_eq_true] at hp
    refine (pgs_cons (pg_ok hs h.1) (pgs_ok hs h.2 hp.2) (by rw [plain_assign hp.1]; rfl)).wk fun vs σ H Q ⟨c, e, ds, e', s, r, hl, hb, q⟩ => ?_
    cases r with
    | nil => cases hl
    | @cons v vr d dr r1 rr =>
      have hb : (bindT t d e >>= fun e1 => bindTs ts dr e1) = R.ok e' := hb
      cases hb1 : bindT t d e with
      | ok e1 =>
        rw [hb1] at hb
        refine ⟨v, vr, rfl, c, e, d, e1, s, .inl r1, hb1, fun σ1 s1 l1 k1 => ⟨c, e1, dr, e', s1, rr, Nat.succ.inj hl, hb, fun σ2 s2 l2 k2 => q σ2 s2 (l2.trans l1) fun i hi => ?_⟩⟩
        have hi : i ∉ tgNames t ++ tgsNames ts := hi
        rw [List.mem_append, not_or] at hi
        rw [k2 i hi.2, k1 i hi.1]
      | ex x => rw [hb1] at hb; cases hb
      | no => rw [hb1] at hb; cases hb
theorem chkTs_len {I : Info} : ∀ {ts : List Tg} {es : List Expr}, chkTs I ts es = true → ts.length = es.length
  | [], [], _ => rfl
  | [], _ :: _, h => absurd h Bool.false_ne_true
  | _ :: _, [], h => absurd h Bool.false_ne_true
  | t :: ts, et :: es, h => by
    have h : (chkT I t et && chkTs I ts es) = true := h
    simp only [Bool.and_eq_true] at h
    exact congrArg (· + 1) (chkTs_len h.2)
end
end
mutual
theorem noEx_bindT : ∀ {t : Tg} {d : D} {e : En}, NoEx (bindT t d e)
  | .nm i, d, e => .ite .ok .no
  | .tp ts, d, e => by
    cases d with
    | tuple ds => exact .ite noEx_bindTs .no
    | _ => exact .no
theorem noEx_bindTs : ∀ {ts : List Tg} {ds : List D} {e : En}, NoEx (bindTs ts ds e)
  | [], _, _ => .ok
  | t :: ts, d :: ds, e => noEx_bindT.bind fun _ => noEx_bindTs
  | _ :: _, [], _ => .no
end
/-- a frame step that touches nothing shared, owned or written: a new list grows -/
theorem StR.grow {K : PySem.W.Frag} {H : Hp} {c : Clr} {e : En} {σ : L2.St} {p : Addr} {xs : List V} {o : HO} (s : StR K H c e σ) (hp : H p = some (.lst xs)) (hc : c p = .tmp) : StR K (upd H p o) c e σ := by
  have kp : Kp (isSh c) H (upd H p o) := fun a u h n => by
    have : a ≠ p := fun z => by
      subst z
      rw [hp] at h
      cases h
      rcases n with n | n
      · rw [show c a = .sh from n] at hc; cases hc
      · exact n trivial
    rw [upd_ne this]; exact h
  refine ⟨s.len, fun i x hx => ?_⟩
  obtain ⟨v, hv, h⟩ := s.at_ i x hx
  refine ⟨v, hv, ?_⟩
  match x, h with
  | ⟨false, d⟩, h => exact h.tr kp fun a _ e => e
  | ⟨true, d⟩, ⟨a, e1, e2, h⟩ =>
    refine ⟨a, e1, e2, ?_⟩
    have ha : a ≠ p := fun z => by rw [z, hc] at e2; cases e2
    cases d with
    | list ds => obtain ⟨ys, h1, hz, h2⟩ := h; exact ⟨ys, by rw [upd_ne ha]; exact h1, hz, h2.tr kp fun a _ e => e⟩
    | _ => exact h
theorem RelDs.grow {K : PySem.W.Frag} {H : Hp} {c : Clr} {vs : List V} {ds : List D} {p : Addr} {xs : List V} {o : HO} (r : RelDs K H (isSh c) vs ds) (hp : H p = some (.lst xs)) (hc : c p = .tmp) : RelDs K (upd H p o) (isSh c) vs ds := by
  refine r.tr (fun a u h n => ?_) fun a _ e => e
  have : a ≠ p := fun z => by
    subst z
    rw [hp] at h
    cases h
    rcases n with n | n
    · rw [show c a = .sh from n] at hc; cases hc
    · exact n trivial
  rw [upd_ne this]; exact h
end Nm
set_option Elab.async false
set_option maxRecDepth 100000
set_option linter.all false
/-! List comprehensions. -/
namespace Nm
open PySem L2 PyProof.Rows

def W0 : WX := fun _ _ _ _ => False
theorem takes0 {X : Cx} : Takes X W0 := fun _ _ ⟨_, _, _, _, _, _, _, _, _, _, _, _, _, _, _, _, h⟩ => h.elim
section
variable {α β : Type} {xk : ExK} {K : PySem.W.Frag} {W : WX} {σ : L2.St} {c : Clr} {H : Hp}
/-- a piece that raises nothing, elsewhere -/
theorem Post.stepQ {W' : WX} {σ' : L2.St} {c1 : Clr} {H1 : Hp} {m : R (α × En)} {f : α × En → R (β × En)} {Q : β → En → Clr → Hp → Prop} (f1 : Fm c H c1 H1) (h : Post xk K W σ c H (m.quiet >>= f) Q) :
    Post xk K W' σ' c1 H1 m (fun a e2 c2 H2 => Fm c H c2 H2 ∧ Post xk K W σ c H (f (a, e2)) Q) := by
  cases m with
  | no => exact h
  | ex x => exact h.elim
  | ok p => exact fun _ _ _ f2 => ⟨f1.trans f2, h⟩
end
section
variable {K : PySem.W.Frag} {H : Hp} {c : Clr} {e e0 : En} {σ : L2.St}
theorem back_len : ∀ {vs : List Nat}, (back e0 e vs).length = e.length
  | [] => rfl
  | v :: vs => by unfold back; rw [List.length_set]; exact back_len
theorem back_at {i : Nat} {x : Sv} : ∀ {vs : List Nat}, (back e0 e vs)[i]? = some (some x) → (i ∉ vs ∧ e[i]? = some (some x)) ∨ (x.own = false ∧ e0[i]? = some (some x))
  | [], h => .inl ⟨by simp, h⟩
  | v :: vs, h => by
    unfold back at h
    rcases getE_set h with ⟨rfl, h⟩ | ⟨hn, h⟩
    · refine .inr ?_
      cases q : e0.getD i none with
      | none => rw [q] at h; cases h
      | some s =>
        rw [q] at h
        obtain ⟨o, d⟩ := s
        cases o with
        | true => cases h
        | false => cases h; exact ⟨rfl, getD_some q⟩
    · rcases back_at h with ⟨h1, h2⟩ | h2
      · exact .inl ⟨by simp only [List.mem_cons, not_or]; exact ⟨hn, h1⟩, h2⟩
      · exact .inr h2
/-- behind the block: its own slots as they were -/
theorem StR.back_ {H0 : Hp} {c0 : Clr} {vs : List Nat} (s0 : StR K H0 c0 e0 σ) (f : Fm c0 H0 c H) (s : StR K H c (wipeE e vs) (L2.wipe σ vs)) : StR K H c (back e0 e vs) σ where
  len := by rw [back_len, ← wipeE_len (vs := vs), s.len, wipe_length]
  at_ := fun i x hx => by
    rcases back_at hx with ⟨h1, h2⟩ | ⟨h1, h2⟩
    · rw [← wipeE_out (e := e) h1] at h2
      obtain ⟨v, hv, r⟩ := s.at_ i x h2
      exact ⟨v, (wipe_some hv).1, r⟩
    · obtain ⟨v, hv, r⟩ := s0.at_ i x h2
      obtain ⟨o, d⟩ := x
      subst h1
      exact ⟨v, hv, RelA.fm f r⟩
end
section
variable {K : PySem.W.Frag} {H H' : Hp} {c c' : Clr} {e eF : En} {σ : L2.St}
theorem zipAt {α β γ : Type} {f : α → β → γ} : ∀ {l : List α} {m : List β} {i : Nat} {x : γ}, (List.zipWith f l m)[i]? = some x → ∃ a b, l[i]? = some a ∧ m[i]? = some b ∧ x = f a b
  | a :: l, b :: m, 0, x, h => ⟨a, b, rfl, rfl, by simpa using h.symm⟩
  | a :: l, b :: m, i + 1, x, h => by
    have h : (List.zipWith f l m)[i]? = some x := by simpa using h
    obtain ⟨a', b', h1, h2, h3⟩ := zipAt h
    exact ⟨a', b', by simpa using h1, by simpa using h2, h3⟩
  | [], _, i, x, h => by simp at h
  | _ :: _, [], i, x, h => by simp at h
theorem okT_of {a b : Option Sv} : ∀ {l m : En} {i : Nat}, (List.zipWith okT l m).all id = true → l[i]? = some a → m[i]? = some b → okT a b = true
  | x :: l, y :: m, 0, h, h1, h2 => by
    simp at h1 h2
    subst h1; subst h2
    rw [List.zipWith_cons_cons, List.all_cons] at h
    exact (Bool.and_eq_true_iff.mp h).1
  | x :: l, y :: m, i + 1, h, h1, h2 => by
    rw [List.zipWith_cons_cons, List.all_cons] at h
    exact okT_of (Bool.and_eq_true_iff.mp h).2 (by simpa using h1) (by simpa using h2)
  | [], _, i, h, h1, h2 => by simp at h1
  | _ :: _, [], i, h, h1, h2 => by simp at h2
/-- what was a slot's own ahead is so again, where nothing holds it -/
theorem thaw_ok (s : StR K H c e σ) (f : Fm c H c' H') (s' : StR K H' c' eF σ) (h : (List.zipWith okT e eF).all id = true) : ∃ c2, StR K H' c2 (thawE e eF) σ ∧ Fm c H c2 H' ∧ ∀ a, H a = none → c2 a = c' a := by
  refine ⟨fun a => match H a with | none => c' a | some _ => c a, ?_, ?_, ?_⟩
  rotate_left
  · refine ⟨f.keep, f.keepI, f.there, fun a h => .inl ?_⟩
    cases q : H a with
    | none => exact absurd q h
    | some o => simp [q]
  · intro a q
    simp [q]
  have f2 : Fm c H (fun a => match H a with | none => c' a | some _ => c a) H' := by
    refine ⟨f.keep, f.keepI, f.there, fun a h => .inl ?_⟩
    cases q : H a with
    | none => exact absurd q h
    | some o => simp [q]
  refine ⟨?_, fun i x hx => ?_⟩
  · show (List.zipWith thaw1 e eF).length = _
    rw [List.length_zipWith, s.len, s'.len, Nat.min_self]
  obtain ⟨se, sf, h1, h2, h3⟩ := zipAt hx
  have hk := okT_of h h1 h2
  match se, sf, h3, hk, h1, h2 with
  | none, _, h3, _, _, _ => cases h3
  | some ⟨false, d⟩, _, h3, _, h1, _ =>
    cases h3
    obtain ⟨v, hv, r⟩ := s.at_ i _ h1
    exact ⟨v, hv, RelA.fm f2 r⟩
  | some ⟨true, d⟩, none, h3, _, _, _ => cases h3
  | some ⟨true, d⟩, some ⟨o, d'⟩, h3, hk, h1, h2 =>
    cases h3
    obtain ⟨v, hv, a, rfl, ca, t⟩ := s.at_ i _ h1
    obtain ⟨ob, ho⟩ := t.some
    obtain ⟨w, hw, r⟩ := s'.at_ i _ h2
    rw [hv] at hw
    cases hw
    cases d' with
    | list ds =>
      have hk : imms ds = true := hk
      refine ⟨_, hv, a, rfl, by simp [ho, ca], ?_⟩
      cases o with
      | false =>
        rcases (r : RelS K H' c' (.ref a) (.list ds)) with r | r
        · cases r with
          | list _ hr hz hs => exact ⟨_, hr, hz, imms_any hk hs⟩
        · exact r.elim
      | true =>
        obtain ⟨a', e', _, xs, hr, hz, hs⟩ := r
        cases e'
        exact ⟨xs, hr, hz, imms_any hk hs⟩
    | _ => cases o <;> cases hk
theorem thawW_ok {it : Wk} {ys : List D} (s : StR K H c e σ) (f : Fm c H c' H') (s' : StR K H' c' eF σ) {p : Addr} {acc : List V} (hp : c' p = .tmp) (hn : H p = none) (hpl : H' p = some (.lst acc)) (hz : ys.length ≤ sizeLine) (rd : RelDs K H' (isSh c') acc ys) :
    ∃ c2, StR K H' c2 (thawW it e ys eF) σ ∧ Fm c H c2 H' ∧ RR K H H' c2 σ (.ref p) (.v true (.list ys)) := by
  unfold thawW
  split
  · rename_i q
    have q := Bool.and_eq_true_iff.mp q
    obtain ⟨c2, s2, f2, g⟩ := thaw_ok s f s' q.2
    exact ⟨c2, s2, f2, p, rfl, (g p hn).trans hp, hn, acc, hpl, hz, imms_any (Bool.and_eq_true_iff.mp q.1).2 rd⟩
  · exact ⟨c', s', f, p, rfl, hp, hn, acc, hpl, hz, rd⟩
end
theorem names_own {t : Tg} {own : List Nat} (h : (tgNames t).all own.contains = true) {i : Nat} (hi : i ∉ own) : i ∉ tgNames t := fun m => hi (by simpa using List.all_eq_true.mp h i m)
theorem ownP_snd {N : List Str} {own : List Nat} : (ownP N own).map (·.2) = own := by
  unfold ownP
  rw [List.map_map]
  exact List.map_id _
section
variable {xk : ExK} {ft : Nat → Fd} {cl : Cl} {G : Gi} {I : Info} {X : Cx} {W : WX}
theorem Hy.blk (hy : Hy xk ft cl G I X W) {scope : Scope} {s : Shared} {H : Hp} {C : Addr} {ce : List (Str × Addr)} {fp : List Addr} : Hy xk ft cl G (blkI I scope) (X.blk s H scope (compEnvC scope ce C X.env) fp) W0 where
  gl := ⟨hy.gl.fns, hy.gl.bl, hy.gl.np, hy.gl.cs, hy.gl.xs, hy.gl.xb⟩
  N := hy.N
  nd := hy.nd
  sc := by
    show relabel scope X.env = relS scope I.sc
    rw [← hy.sc]; rfl
  fn := rfl
  calm := hy.calm
  gd := hy.gd
  un := hy.un
  tk := takes0
/-- one turn's place in a comprehension -/
structure LcI (xk : ExK) (K : PySem.W.Frag) (W : WX) (σ : L2.St) (Qv : VK) (own : List Nat) (el : En → R (Res × En)) (ts : En → R (Bool × En)) (tg : Tg) (F : List D → En → En) (cs Hs : Clr × Hp) (e0 : En) (c0H0 : Clr × Hp) (p : Addr) (xs : List D) (i : Nat) (H' : Hp) : Prop where
  ex : ∃ c' e' acc ad, StR K H' c' (wipeE e' own) (L2.wipe σ own) ∧ Fm c0H0.1 c0H0.2 c' H' ∧ c' p = .tmp ∧ H' p = some (.lst acc) ∧ RelDs K H' (isSh c') acc ad ∧ ad.length ≤ i ∧
    Post xk K W σ cs.1 cs.2 (loopC (fun e => (el e).quiet) (fun e => (ts e).quiet) tg own (xs.drop i) e' >>= fun q => R.ok (Res.v true (.list (ad ++ q.1)), F (ad ++ q.1) (back e0 q.2 own))) fun r _ c2 H2 => ∀ v, RR K cs.2 H2 c2 σ v r → Qv v H2
theorem lc_reads {K : PySem.W.Frag} {el : Ex} {tg : Tg} {it : Wk} {cs : Exs} {own : List Nat} (hown : (tgNames tg).all own.contains = true) : ∀ (σ : L2.St) (H : Hp) (Q : VK), rdE xk K W ft cl (.comp el tg it cs own) σ H Q →
    tLc (rdI xk K W ft cl it) (gT K tg) (rdTs xk K W0 ft cl cs) (rdE xk K W0 ft cl el) own σ H Q := by
  intro σ H Q ⟨c, e, s, h⟩
  have h0 : ∃ F, F = thawW it e := ⟨_, rfl⟩
  obtain ⟨F, hF⟩ := h0
  have h : Post xk K W σ c H (evI ft cl it e >>= fun p => loopC (fun e => (evE ft cl el e).quiet) (fun e => (evT ft cl cs e).quiet) tg own p.1 p.2 >>= fun q => R.ok (Res.v true (.list q.1), F q.1 (back p.2 q.2 own))) (fun r _ c2 H2 => ∀ v, RR K H H2 c2 σ v r → Q v H2) := by rw [hF]; exact h
  refine ⟨c, e, s, (Post.bind h).imp fun xs e0 c0 H0 s0 f0 p hlen J wk => ?_⟩
  intro Dn hD
  have wlk : Walk J xs.length (fun H' => ∃ c', Fm c0 H0 c' H') (fun i H' x H'' => ∀ d, xs[i]? = some d → ∀ c', Fm c0 H0 c' H' → ∃ c3, Nw c' H' c3 H'' ∧ RelS K H'' c3 x d) :=
    ⟨fun i H' hi ⟨c', f⟩ => wk.goes i c' H' hi f.fs, fun H' ⟨c', f⟩ => wk.stops c' H' f.fs, fun i H' x H'' hi _ y d hd c' f => wk.yields i c' H' x H'' d hd f.fs y⟩
  refine lc_it wlk (fun i H' => LcI xk K W σ Q own (evE ft cl el) (evT ft cl cs) tg F (c, H) (c, H) e0 (c0, H0) Dn xs i H') ?_ ?_ ?_ ?_
  · refine ⟨cset c0 Dn .tmp, e0, [], [], (Nw.str (.new hD) s0).wipe own, .new hD, cset_at, upd_same, .nil, Nat.zero_le _, ?_⟩
    have p : Post xk K W σ c H (loopC (fun e => (evE ft cl el e).quiet) (fun e => (evT ft cl cs e).quiet) tg own xs e0 >>= fun q => R.ok (Res.v true (.list q.1), F q.1 (back e0 q.2 own))) _ := p
    simpa using p
  · rintro i H' _ ⟨c', e', acc, ad, _, f', _⟩
    exact ⟨c', f'⟩
  · rintro i x H' H'' hi ⟨c', e', acc, ad, s', f', hp, hpl, rd, hl, p⟩ y
    have hx : xs[i]? = some xs[i] := List.getElem?_eq_getElem hi
    obtain ⟨c3, n3, r3⟩ := y _ hx c' f'
    have s3 := n3.str s'
    have p3 : H'' Dn = some (.lst acc) := n3.fm.keep Dn _ hpl fun i z => by rw [hp] at z; cases z
    have hp3 : c3 Dn = .tmp := by
      rcases n3.fm.col Dn (by rw [hpl]; simp) with q | ⟨i, q, _⟩
      · exact q.trans hp
      · rw [hp] at q; cases q
    have rd3 := rd.fm n3.fm
    rw [List.drop_eq_getElem_cons hi] at p
    generalize hxi : xs[i] = xi at p hx
    rw [hxi] at r3
    -- the turn, piece by piece
    have p : Post xk K W σ c H ((bindT tg xi (wipeE e' own) >>= fun e1 => ((evT ft cl cs e1).quiet >>= fun q => (if q.1 = true then ((evE ft cl el q.2).quiet >>= fun z => embed z.2 z.1 >>= fun w => loopC (fun e => (evE ft cl el e).quiet) (fun e => (evT ft cl cs e).quiet) tg own (xs.drop (i + 1)) w.2 >>= fun u => R.ok (w.1 :: u.1, u.2))
        else loopC (fun e => (evE ft cl el e).quiet) (fun e => (evT ft cl cs e).quiet) tg own (xs.drop (i + 1)) q.2))) >>= fun q => R.ok (Res.v true (.list (ad ++ q.1)), F (ad ++ q.1) (back e0 q.2 own))) _ := p
    have asc : ∀ {α β γ : Type} (m : R α) (g : α → R β) (k : β → R γ), (m >>= g) >>= k = m >>= fun a => g a >>= k := fun m g k => by cases m <;> rfl
    rw [asc] at p
    obtain ⟨e1, hb1, p⟩ := p.get noEx_bindT
    refine ⟨c3, wipeE e' own, xi, e1, s3, r3, hb1, fun σ2 s2 l2 k2 => ⟨?_, ?_⟩⟩
    · rw [wipe_same (σ1 := L2.wipe σ own) l2 fun j hj => k2 j (names_own hown hj), wipe_wipe]
    have hw : L2.wipe σ2 own = L2.wipe σ own := by rw [wipe_same (σ1 := L2.wipe σ own) l2 fun j hj => k2 j (names_own hown hj), wipe_wipe]
    rw [asc] at p
    have f3 : Fm c H c3 H'' := f0.trans (f'.trans n3.fm)
    refine ⟨c3, e1, s2, (p.stepQ f3).imp fun b e2 c4 H4 s4 f4 ⟨g4, p⟩ => ?_⟩
    have p4 : H4 Dn = some (.lst acc) := f4.keep Dn _ p3 fun i z => by rw [hp3] at z; cases z
    have hp4 : c4 Dn = .tmp := by
      rcases f4.col Dn (by rw [p3]; simp) with q | ⟨i, q, _⟩
      · exact q.trans hp3
      · rw [hp3] at q; cases q
    have rd4 := rd3.fm f4
    cases b with
    | false =>
      show LcI xk K W σ Q own (evE ft cl el) (evT ft cl cs) tg F (c, H) (c, H) e0 (c0, H0) Dn xs (i + 1) H4
      refine ⟨c4, e2, acc, ad, ?_, f'.trans (n3.fm.trans f4), hp4, p4, rd4, Nat.le_succ_of_le hl, p⟩
      rw [← hw]; exact s4.wipe own
    | true =>
      show rdE xk K W0 ft cl el σ2 H4 _
      have p : Post xk K W σ c H (((evE ft cl el e2).quiet >>= fun z => embed z.2 z.1 >>= fun w => loopC (fun e => (evE ft cl el e).quiet) (fun e => (evT ft cl cs e).quiet) tg own (xs.drop (i + 1)) w.2 >>= fun u => R.ok (w.1 :: u.1, u.2)) >>= fun q => R.ok (Res.v true (.list (ad ++ q.1)), F (ad ++ q.1) (back e0 q.2 own))) _ := p
      rw [asc] at p
      refine ⟨c4, e2, s4, (p.stepQ g4).imp fun r e3 c5 H5 s5 f5 ⟨g5, p⟩ v rv => ?_⟩
      rw [asc] at p
      obtain ⟨⟨d, e4⟩, h1, p⟩ := p.get embed_noEx
      obtain ⟨c6, s6, r6, f6, F6⟩ := embed_ok s5 f5 rv.rw_ h1
      have p5 : H5 Dn = some (.lst acc) := f5.keep Dn _ p4 fun i z => by rw [hp4] at z; cases z
      have hp6 : c6 Dn = .tmp := by
        rcases f6.col Dn (by rw [p4]; simp) with q | ⟨i, q, _⟩
        · exact q.trans hp4
        · rw [hp4] at q; cases q
      have rd6 : RelDs K H5 (isSh c6) (acc ++ [v]) (ad ++ [d]) := (rd4.fm f6).append (.cons r6 .nil)
      have hal : acc.length < sizeLine := by
        rw [rd.length]
        omega
      refine ⟨acc, p5, hal, c6, e4, acc ++ [v], ad ++ [d], ?_, ?_, hp6, upd_same, rd6.grow p5 hp6, by rw [List.length_append]; exact Nat.succ_le_succ hl, ?_⟩
      · rw [← hw]; exact (s6.grow p5 hp6).wipe own
      · have f7 : Fm c0 H0 c6 H5 := f'.trans (n3.fm.trans (f4.trans f6))
        have ne : ∀ a, H0 a ≠ none → a ≠ Dn := fun a z q => z (by rw [q]; exact hD)
        show Fm c0 H0 c6 _
        exact ⟨fun a o h n => by rw [upd_ne (ne a (by rw [h]; simp))]; exact f7.keep a o h n, fun a o h n => by rw [upd_ne (ne a (by rw [h]; simp))]; exact f7.keepI a o h n,
          fun a h => by rw [upd_ne (ne a h)]; exact f7.there a h, f7.col⟩
      · have p : Post xk K W σ c H ((loopC (fun e => (evE ft cl el e).quiet) (fun e => (evT ft cl cs e).quiet) tg own (xs.drop (i + 1)) e4 >>= fun u => R.ok (d :: u.1, u.2)) >>= fun q => R.ok (Res.v true (.list (ad ++ q.1)), F (ad ++ q.1) (back e0 q.2 own))) _ := p
        rw [asc] at p
        have p : Post xk K W σ c H (loopC (fun e => (evE ft cl el e).quiet) (fun e => (evT ft cl cs e).quiet) tg own (xs.drop (i + 1)) e4 >>= fun u => R.ok (Res.v true (.list (ad ++ d :: u.1)), F (ad ++ d :: u.1) (back e0 u.2 own))) _ := p
        have hk : (fun u : List D × En => (R.ok (Res.v true (.list (ad ++ d :: u.1)), F (ad ++ d :: u.1) (back e0 u.2 own)) : R (Res × En))) = fun u => R.ok (Res.v true (.list (ad ++ [d] ++ u.1)), F (ad ++ [d] ++ u.1) (back e0 u.2 own)) := funext fun u => by rw [List.append_assoc]; rfl
        rw [hk] at p
        exact p
  · rintro H' ⟨c', e', acc, ad, s', f', hp, hpl, rd, hl, p⟩
    rw [List.drop_length] at p
    have p : Post xk K W σ c H (R.ok (Res.v true (.list (ad ++ [])), F (ad ++ []) (back e0 e' own))) _ := p
    rw [List.append_nil] at p
    obtain ⟨c2, s2, f2, r2⟩ := thawW_ok (it := it) (ys := ad) s (f0.trans f') (s0.back_ f' s') hp (f0.free hD) hpl (by omega) rd
    rw [hF] at p
    exact p.ret c2 H' s2 f2 _ r2
theorem s_comp (hy : Hy xk ft cl G I X W) {et ei ee : Expr} {ec : List Expr} {scope : Scope} {pos : Pos} {el : Ex} {tg : Tg} {it : Wk} {cs : Exs} {own : List Nat} (hb : blkC I.N I.sc scope (ownP I.N own) = true) (hn : notSet ei = true)
    (hi : PI X et ei (rdI xk X.K W ft cl it)) (ht : chkT (blkI I scope) tg et = true) (hown : (tgNames tg).all own.contains = true)
    (he : ∀ X', X'.K = X.K → Hy xk ft cl G (blkI I scope) X' W0 → PE X' ee (rdE xk X.K W0 ft cl el)) (hc : ∀ X', X'.K = X.K → Hy xk ft cl G (blkI I scope) X' W0 → PTs X' ec (rdTs xk X.K W0 ft cl cs)) :
    PE X (.ListComp ee [⟨et, ei, ec, 0⟩] scope pos) (rdE xk X.K W ft cl (.comp el tg it cs own)) := by
  have hb' : BlkOk X.N X.env.scope scope (ownP I.N own) := by rw [hy.N, hy.sc]; exact blkOk_by hb
  refine (pe_lc (pos := pos) hy.calm (by rw [hy.N]; exact hy.nd) hi hb' (fun s H C ce fp => show PG _ et (gT X.K tg) from pg_ok (hy.blk (s := s) (H := H) (C := C) (ce := ce) (fp := fp)).hs ht) (fun s H C ce fp => hc _ rfl hy.blk) (fun s H C ce fp => he _ rfl hy.blk) (notSet_fold hn)).wk ?_
  rw [ownP_snd]
  exact lc_reads hown
/-- name = [..], stored within the comprehension -/
theorem s_setLc (hy : Hy xk ft cl G I X W) {et ei ee : Expr} {ec : List Expr} {scope : Scope} {pos pn spos : Pos} {el : Ex} {tg : Tg} {it : Wk} {cs : Exs} {own : List Nat} {i : Nat} {n : Str} (hb : blkC I.N I.sc scope (ownP I.N own) = true) (hn : notSet ei = true)
    (hi : PI X et ei (rdI xk X.K W ft cl it)) (ht : chkT (blkI I scope) tg et = true) (hown : (tgNames tg).all own.contains = true)
    (he : ∀ X', X'.K = X.K → Hy xk ft cl G (blkI I scope) X' W0 → PE X' ee (rdE xk X.K W0 ft cl el)) (hc : ∀ X', X'.K = X.K → Hy xk ft cl G (blkI I scope) X' W0 → PTs X' ec (rdTs xk X.K W0 ft cl cs))
    (h1 : I.N[i]? = some n) (h2 : I.sc.names.lookup n = some .local) (hw : swapsWith (.ListComp ee [⟨et, ei, ec, 0⟩] scope pos) (some (.Name n pn)) spos.line X.env = pure true) :
    ∃ te, PS X (.Assign [.Name n pn] (.ListComp ee [⟨et, ei, ec, 0⟩] scope pos) spos) (tAsg te (gName i)) ∧ ∀ σ H Q, rdE xk X.K W ft cl (.comp el tg it cs own) σ H Q → te σ H Q := by
  have hb' : BlkOk X.N X.env.scope scope (ownP I.N own) := by rw [hy.N, hy.sc]; exact blkOk_by hb
  refine ⟨_, ps_setLc hy.calm (by rw [hy.N]; exact hy.nd) (by rw [hy.N]; exact h1) (by rw [hy.sc]; exact h2) hw hi hb' (fun s H C ce fp => show PG _ et (gT X.K tg) from pg_ok (hy.blk (s := s) (H := H) (C := C) (ce := ce) (fp := fp)).hs ht) (fun s H C ce fp => hc _ rfl hy.blk) (fun s H C ce fp => he _ rfl hy.blk) (notSet_fold hn), ?_⟩
  rw [ownP_snd]
  exact lc_reads hown
end
end Nm
set_option Elab.async false
set_option maxRecDepth 100000
set_option linter.all false
/-! List comprehensions with two sources. -/
namespace Nm
open PySem L2 PyProof.Rows
theorem wipeE_same {e1 e2 : En} (hl : e2.length = e1.length) : ∀ {vs : List Nat}, (∀ i, i ∉ vs → e2[i]? = e1[i]?) → wipeE e2 vs = wipeE e1 vs := fun {vs} h => by
  refine List.ext_getElem? fun i => ?_
  by_cases hi : i ∈ vs
  · have go : ∀ {ws : List Nat}, i ∈ ws → (wipeE e2 ws)[i]? = (wipeE e1 ws)[i]? := by
      intro ws
      induction ws with
      | nil => intro h; cases h
      | cons w ws ih =>
        intro h
        show ((wipeE e2 ws).set w none)[i]? = ((wipeE e1 ws).set w none)[i]?
        by_cases q : w = i
        · subst q
          rw [List.getElem?_set, List.getElem?_set]
          simp [wipeE_len, hl]
        · rw [List.getElem?_set_ne q, List.getElem?_set_ne q]
          exact ih (by simpa [Ne.symm q] using h)
    exact go hi
  · rw [wipeE_out hi, wipeE_out hi, h i hi]
theorem wipeE_sub {e : En} {us vs : List Nat} (h : ∀ i ∈ us, i ∈ vs) : wipeE (wipeE e us) vs = wipeE e vs := wipeE_same wipeE_len fun i hi => wipeE_out fun m => hi (h i m)
theorem wipe_sub {σ : L2.St} {us vs : List Nat} (h : ∀ i ∈ us, i ∈ vs) : L2.wipe (L2.wipe σ us) vs = L2.wipe σ vs := wipe_same (wipe_length σ us) fun i hi => wipe_out fun m => hi (h i m)
/-- a walk with a state, from any start -/
theorem lc_itG {J : It} {n : Nat} {g : TG} {tt : TT} {te : TE} {vs : List Nat} {σ : L2.St} {H1 : Hp} {Dn : Addr} {Qd : Hp → Prop} (Pv : Nat → Hp → Prop) (goes : ∀ i H, i < n → Pv i H → J.go i H) (stops : ∀ H, Pv n H → J.stop n H) (h0 : Pv 0 H1)
    (hs : ∀ i x H H', i < n → Pv i H → J.yld i H x H' → g x (L2.wipe σ vs) H' fun σ2 H2 => L2.wipe σ2 vs = L2.wipe σ vs ∧ tt σ2 H2 fun b H3 =>
      if b = true then te σ2 H3 fun y H4 => ∃ acc, H4 Dn = some (.lst acc) ∧ acc.length < sizeLine ∧ Pv (i + 1) (upd H4 Dn (.lst (acc ++ [y]))) else Pv (i + 1) H3) (hd : ∀ H, Pv n H → Qd H) :
    ∃ M : Nat → Nat → Hp → Prop, (∃ m, M 0 m H1) ∧ ∀ i m H, M i m H → (J.stop i H ∧ Qd H) ∨ (J.go i H ∧ ∃ Nx : Hp → Prop, (∀ H', Nx H' → ∃ m', m' < m ∧ M (i + 1) m' H') ∧ ∀ x H', J.yld i H x H' →
      g x (L2.wipe σ vs) H' fun σ2 H2 => L2.wipe σ2 vs = L2.wipe σ vs ∧ tt σ2 H2 fun b H3 =>
        if b = true then te σ2 H3 fun y H4 => ∃ acc, H4 Dn = some (.lst acc) ∧ acc.length < sizeLine ∧ Nx (upd H4 Dn (.lst (acc ++ [y]))) else Nx H3) := by
  refine ⟨fun i m H => m = n - i ∧ i ≤ n ∧ Pv i H, ⟨n, rfl, Nat.zero_le _, h0⟩, ?_⟩
  rintro i m H ⟨rfl, hi, p⟩
  by_cases hlt : i < n
  · right
    exact ⟨goes i H hlt p, Pv (i + 1), fun H' p' => ⟨n - (i + 1), by omega, rfl, hlt, p'⟩, fun x H' y => hs i x H H' hlt p y⟩
  · have e : i = n := by omega
    subst e
    left
    exact ⟨stops H p, hd H p⟩
section
variable {xk : ExK} {ft : Nat → Fd} {cl : Cl} {G : Gi} {I : Info} {X : Cx} {W : WX}
abbrev KT := List D × En → R (Res × En)
/-- where the second walk stands -/
def LcJ (xk : ExK) (K : PySem.W.Frag) (W : WX) (σ : L2.St) (c : Clr) (H : Hp) (Qf : Res → En → Clr → Hp → Prop) (own : List Nat) (el : En → R (Res × En)) (ts : En → R (Bool × En)) (tg : Tg) (σ2 : L2.St) (c0 : Clr) (H0 : Hp) (c2 : Clr) (H2 : Hp) (Dn : Addr) (xs ad0 : List D) (k : KT) (i : Nat) (H' : Hp) : Prop :=
  ∃ c' e' acc ad, StR K H' c' (wipeE e' own) (L2.wipe σ2 own) ∧ Fm c0 H0 c' H' ∧ Fs c2 H2 c' H' ∧ c' Dn = .tmp ∧ H' Dn = some (.lst acc) ∧ RelDs K H' (isSh c') acc (ad0 ++ ad) ∧ ad.length ≤ i ∧
    Post xk K W σ c H (loopC (fun e => (el e).quiet) (fun e => (ts e).quiet) tg own (xs.drop i) e' >>= fun q => k (ad ++ q.1, q.2)) Qf
theorem Fs.trans {c c1 c2 : Clr} {H H1 H2 : Hp} (f : Fs c H c1 H1) (g : Fm c1 H1 c2 H2) : Fs c H c2 H2 where
  kp := fun a o h n => by
    have q := f.kp a o h n
    rcases n with n | n
    · exact g.kp a o q (.inl (f.sh a (by rw [h]; simp) n))
    · exact g.keepI a o q n
  sh := fun a h e => by
    have q := f.sh a h e
    cases z : H a with
    | none => exact absurd z h
    | some o => exact g.sh (by rw [f.kp a o z (.inl e)]; simp) q
theorem lcj_step {K : PySem.W.Frag} {el : Ex} {tg : Tg} {cs : Exs} {own : List Nat} (hown : (tgNames tg).all own.contains = true) {σ σ2 : L2.St} {c c0 c2 : Clr} {H H0 H2 : Hp} {Qf : Res → En → Clr → Hp → Prop} {Dn : Addr} {xs ad0 : List D} {k : KT} {J : It}
    (hD : H0 Dn = none) (hc2 : c2 Dn = .tmp) (hH2 : ∃ l, H2 Dn = some (.lst l)) (f0 : Fm c H c0 H0) (wk : WkD K J xs c2 H2) (hlen : ad0.length + xs.length ≤ sizeLine) (i : Nat) (x : V) (H' H'' : Hp) (hi : i < xs.length)
    (hp0 : LcJ xk K W σ c H Qf own (evE ft cl el) (evT ft cl cs) tg σ2 c0 H0 c2 H2 Dn xs ad0 k i H') (y : J.yld i H' x H'') :
    gT K tg x (L2.wipe σ2 own) H'' fun σ3 H3 => L2.wipe σ3 own = L2.wipe σ2 own ∧ rdTs xk K W0 ft cl cs σ3 H3 fun b H4 =>
      if b = true then rdE xk K W0 ft cl el σ3 H4 fun v H5 => ∃ acc, H5 Dn = some (.lst acc) ∧ acc.length < sizeLine ∧ LcJ xk K W σ c H Qf own (evE ft cl el) (evT ft cl cs) tg σ2 c0 H0 c2 H2 Dn xs ad0 k (i + 1) (upd H5 Dn (.lst (acc ++ [v])))
      else LcJ xk K W σ c H Qf own (evE ft cl el) (evT ft cl cs) tg σ2 c0 H0 c2 H2 Dn xs ad0 k (i + 1) H4 := by
  obtain ⟨c', e', acc, ad, s', f', g', hp, hpl, rd, hl, p⟩ := hp0
  have hx : xs[i]? = some xs[i] := List.getElem?_eq_getElem hi
  obtain ⟨c3, n3, r3⟩ := wk.yields i c' H' x H'' _ hx g' y
  have s3 := n3.str s'
  have p3 : H'' Dn = some (.lst acc) := n3.fm.keep Dn _ hpl fun i z => by rw [hp] at z; cases z
  have tmp : ∀ {ca cb : Clr} {Ha Hb : Hp}, Fm ca Ha cb Hb → ca Dn = .tmp → Ha Dn ≠ Option.none → cb Dn = .tmp := by
    intro ca cb Ha Hb f h1 h2
    rcases f.col Dn h2 with q | ⟨i, q, _⟩
    · exact q.trans h1
    · rw [h1] at q; cases q
  have hp3 : c3 Dn = .tmp := tmp n3.fm hp (by rw [hpl]; simp)
  have rd3 := rd.fm n3.fm
  rw [List.drop_eq_getElem_cons hi] at p
  generalize hxi : xs[i] = xi at p hx
  rw [hxi] at r3
  have asc : ∀ {α β γ : Type} (m : R α) (g : α → R β) (k : β → R γ), (m >>= g) >>= k = m >>= fun a => g a >>= k := fun m g k => by cases m <;> rfl
  have p : Post xk K W σ c H ((bindT tg xi (wipeE e' own) >>= fun e1 => ((evT ft cl cs e1).quiet >>= fun q => (if q.1 = true then ((evE ft cl el q.2).quiet >>= fun z => embed z.2 z.1 >>= fun w => loopC (fun e => (evE ft cl el e).quiet) (fun e => (evT ft cl cs e).quiet) tg own (xs.drop (i + 1)) w.2 >>= fun u => R.ok (w.1 :: u.1, u.2))
      else loopC (fun e => (evE ft cl el e).quiet) (fun e => (evT ft cl cs e).quiet) tg own (xs.drop (i + 1)) q.2))) >>= fun q => k (ad ++ q.1, q.2)) Qf := p
  rw [asc] at p
  obtain ⟨e1, hb1, p⟩ := p.get noEx_bindT
  refine ⟨c3, wipeE e' own, xi, e1, s3, r3, hb1, fun σ3 s4 l4 k4 => ⟨?_, ?_⟩⟩
  · rw [wipe_same (σ1 := L2.wipe σ2 own) l4 fun j hj => k4 j (names_own hown hj), wipe_wipe]
  have hw : L2.wipe σ3 own = L2.wipe σ2 own := by rw [wipe_same (σ1 := L2.wipe σ2 own) l4 fun j hj => k4 j (names_own hown hj), wipe_wipe]
  rw [asc] at p
  have f3 : Fm c H c3 H'' := f0.trans (f'.trans n3.fm)
  refine ⟨c3, e1, s4, (p.stepQ f3).imp fun b e2 c4 H4 s5 f4 ⟨g4, p⟩ => ?_⟩
  have p4 : H4 Dn = some (.lst acc) := f4.keep Dn _ p3 fun i z => by rw [hp3] at z; cases z
  have hp4 : c4 Dn = .tmp := tmp f4 hp3 (by rw [p3]; simp)
  have rd4 := rd3.fm f4
  cases b with
  | false =>
    show LcJ _ _ _ _ _ _ _ _ _ _ _ _ _ _ _ _ _ _ _ _ _ _
    refine ⟨c4, e2, acc, ad, ?_, f'.trans (n3.fm.trans f4), (g'.trans n3.fm).trans f4, hp4, p4, rd4, Nat.le_succ_of_le hl, p⟩
    rw [← hw]; exact s5.wipe own
  | true =>
    show rdE xk K W0 ft cl el σ3 H4 _
    have p : Post xk K W σ c H (((evE ft cl el e2).quiet >>= fun z => embed z.2 z.1 >>= fun w => loopC (fun e => (evE ft cl el e).quiet) (fun e => (evT ft cl cs e).quiet) tg own (xs.drop (i + 1)) w.2 >>= fun u => R.ok (w.1 :: u.1, u.2)) >>= fun q => k (ad ++ q.1, q.2)) Qf := p
    rw [asc] at p
    refine ⟨c4, e2, s5, (p.stepQ g4).imp fun r e3 c5 H5 s6 f5 ⟨g5, p⟩ v rv => ?_⟩
    rw [asc] at p
    obtain ⟨⟨d, e4⟩, h1, p⟩ := p.get embed_noEx
    obtain ⟨c6, s7, r6, f6, F6⟩ := embed_ok s6 f5 rv.rw_ h1
    have p5 : H5 Dn = some (.lst acc) := f5.keep Dn _ p4 fun i z => by rw [hp4] at z; cases z
    have hp6 : c6 Dn = .tmp := tmp f6 hp4 (by rw [p4]; simp)
    have rd6 : RelDs K H5 (isSh c6) (acc ++ [v]) (ad0 ++ (ad ++ [d])) := by
      rw [← List.append_assoc]
      exact (rd4.fm f6).append (.cons r6 .nil)
    have hal : acc.length < sizeLine := by
      rw [rd.length, List.length_append]
      omega
    refine ⟨acc, p5, hal, c6, e4, acc ++ [v], ad ++ [d], ?_, ?_, ?_, hp6, upd_same, rd6.grow p5 hp6, by rw [List.length_append]; exact Nat.succ_le_succ hl, ?_⟩
    · rw [← hw]; exact (s7.grow p5 hp6).wipe own
    · have f7 : Fm c0 H0 c6 H5 := f'.trans (n3.fm.trans (f4.trans f6))
      have ne : ∀ a, H0 a ≠ none → a ≠ Dn := fun a z q => z (by rw [q]; exact hD)
      exact ⟨fun a o h n => by rw [upd_ne (ne a (by rw [h]; simp))]; exact f7.keep a o h n, fun a o h n => by rw [upd_ne (ne a (by rw [h]; simp))]; exact f7.keepI a o h n,
        fun a h => by rw [upd_ne (ne a h)]; exact f7.there a h, f7.col⟩
    · have g7 : Fs c2 H2 c6 H5 := (g'.trans n3.fm).trans (f4.trans f6)
      refine ⟨fun a o h n => ?_, g7.sh⟩
      have ne : a ≠ Dn := by
        rintro rfl
        rcases n with n | n
        · have n : c2 a = .sh := n
          rw [hc2] at n; cases n
        · obtain ⟨l, hl2⟩ := hH2
          rw [hl2] at h
          cases h
          exact n trivial
      rw [upd_ne ne]
      exact g7.kp a o h n
    · have p : Post xk K W σ c H ((loopC (fun e => (evE ft cl el e).quiet) (fun e => (evT ft cl cs e).quiet) tg own (xs.drop (i + 1)) e4 >>= fun u => R.ok (d :: u.1, u.2)) >>= fun q => k (ad ++ q.1, q.2)) Qf := p
      rw [asc] at p
      have p : Post xk K W σ c H (loopC (fun e => (evE ft cl el e).quiet) (fun e => (evT ft cl cs e).quiet) tg own (xs.drop (i + 1)) e4 >>= fun u => k (ad ++ d :: u.1, u.2)) Qf := p
      have hk : (fun u : List D × En => k (ad ++ d :: u.1, u.2)) = fun u => k (ad ++ [d] ++ u.1, u.2) := funext fun u => by rw [List.append_assoc]; rfl
      rw [hk] at p
      exact p
/-- where the first walk stands -/
def LcO (xk : ExK) (K : PySem.W.Frag) (W : WX) (σ : L2.St) (c : Clr) (H : Hp) (Qf : Res → En → Clr → Hp → Prop) (own : List Nat) (el : En → R (Res × En)) (ts : En → R (Bool × En)) (it1 : En → R (List D × En)) (tg : Tg) (tg1 : Tg) (own1 : List Nat) (e0 : En) (c0 : Clr) (H0 : Hp) (Dn : Addr) (xs : List D) (i : Nat) (H' : Hp) : Prop :=
  ∃ c' e' acc ad, StR K H' c' (wipeE e' own) (L2.wipe σ own) ∧ Fm c0 H0 c' H' ∧ c' Dn = .tmp ∧ H' Dn = some (.lst acc) ∧ RelDs K H' (isSh c') acc ad ∧
    Post xk K W σ c H (loopC2 (fun e => (el e).quiet) (fun e => (ts e).quiet) (fun e => (it1 e).quiet) tg own tg1 own1 ad.length (xs.drop i) e' >>= fun q => R.ok (Res.v true (.list (ad ++ q.1)), back e0 q.2 own)) Qf ∧ ad.length ≤ sizeLine
theorem lc2_reads {K : PySem.W.Frag} {el : Ex} {tg tg1 : Tg} {it it1 : Wk} {cs : Exs} {own own1 : List Nat} (hown : (tgNames tg).all own.contains = true) (hown1 : (tgNames tg1).all own1.contains = true) (hsub : ∀ i ∈ own1, i ∈ own) : ∀ (σ : L2.St) (H : Hp) (Q : VK), rdE xk K W ft cl (.comp2 el tg it tg1 it1 cs own own1) σ H Q →
    tLc2 (rdI xk K W ft cl it) (gT K tg) tYes (rdI xk K W0 ft cl it1) (gT K tg1) (rdTs xk K W0 ft cl cs) (rdE xk K W0 ft cl el) own own1 σ H Q := by
  intro σ H Q ⟨c, e, s, h⟩
  refine ⟨c, e, s, (Post.bind h).imp fun xs e0 c0 H0 s0 f0 p hlen J wk => ?_⟩
  intro Dn hD
  generalize hQf : (fun (r : Res) (_ : En) (c' : Clr) (H' : Hp) => ∀ v, RR K H H' c' σ v r → Q v H') = Qf at p
  have asc : ∀ {α β γ : Type} (m : R α) (g : α → R β) (k : β → R γ), (m >>= g) >>= k = m >>= fun a => g a >>= k := fun m g k => by cases m <;> rfl
  refine ⟨fun i m H' => m = xs.length - i ∧ i ≤ xs.length ∧ LcO xk K W σ c H Qf own (evE ft cl el) (evT ft cl cs) (evI ft cl it1) tg tg1 own1 e0 c0 H0 Dn xs i H', ⟨xs.length, rfl, Nat.zero_le _, ?_⟩, ?_⟩
  · refine ⟨cset c0 Dn .tmp, e0, [], [], (Nw.str (.new hD) s0).wipe own, .new hD, cset_at, upd_same, .nil, ?_, Nat.zero_le _⟩
    have p : Post xk K W σ c H (loopC2 (fun e => (evE ft cl el e).quiet) (fun e => (evT ft cl cs e).quiet) (fun e => (evI ft cl it1 e).quiet) tg own tg1 own1 0 xs e0 >>= fun q => R.ok (Res.v true (.list q.1), back e0 q.2 own)) Qf := p
    simpa using p
  rintro i m H' ⟨rfl, hi, c', e', acc, ad, s', f', hp, hpl, rd, p, hadl⟩
  by_cases hlt : i < xs.length
  · right
    refine ⟨wk.goes i c' H' hlt f'.fs, fun H'' => i + 1 ≤ xs.length ∧ LcO xk K W σ c H Qf own (evE ft cl el) (evT ft cl cs) (evI ft cl it1) tg tg1 own1 e0 c0 H0 Dn xs (i + 1) H'', fun H'' p' => ⟨_, by omega, rfl, p'⟩, fun x H'' y => ?_⟩
    have hx : xs[i]? = some xs[i] := List.getElem?_eq_getElem hlt
    obtain ⟨c3, n3, r3⟩ := wk.yields i c' H' x H'' _ hx f'.fs y
    have s3 := n3.str s'
    have p3 : H'' Dn = some (.lst acc) := n3.fm.keep Dn _ hpl fun i z => by rw [hp] at z; cases z
    have tmp : ∀ {ca cb : Clr} {Ha Hb : Hp}, Fm ca Ha cb Hb → ca Dn = .tmp → Ha Dn ≠ Option.none → cb Dn = .tmp := by
      intro ca cb Ha Hb f h1 h2
      rcases f.col Dn h2 with q | ⟨i, q, _⟩
      · exact q.trans h1
      · rw [h1] at q; cases q
    have hp3 : c3 Dn = .tmp := tmp n3.fm hp (by rw [hpl]; simp)
    have rd3 := rd.fm n3.fm
    rw [List.drop_eq_getElem_cons hlt] at p
    generalize hxi : xs[i] = xi at p hx
    rw [hxi] at r3
    have p : Post xk K W σ c H ((bindT tg xi (wipeE e' own) >>= fun e1 => (evI ft cl it1 e1).quiet >>= fun q => (if ad.length + q.1.length ≤ sizeLine then (loopC (fun e => (evE ft cl el e).quiet) (fun e => (evT ft cl cs e).quiet) tg1 own1 q.1 q.2 >>= fun u => loopC2 (fun e => (evE ft cl el e).quiet) (fun e => (evT ft cl cs e).quiet) (fun e => (evI ft cl it1 e).quiet) tg own tg1 own1 (ad.length + u.1.length) (xs.drop (i + 1)) u.2 >>= fun w => R.ok (u.1 ++ w.1, w.2)) else .no))
      >>= fun q => R.ok (Res.v true (.list (ad ++ q.1)), back e0 q.2 own)) Qf := p
    rw [asc] at p
    obtain ⟨e1, hb1, p⟩ := p.get noEx_bindT
    refine ⟨c3, wipeE e' own, xi, e1, s3, r3, hb1, fun σ2 s2 l2 k2 => ⟨?_, ?_⟩⟩
    · rw [wipe_same (σ1 := L2.wipe σ own) l2 fun j hj => k2 j (names_own hown hj), wipe_wipe]
    have hw : L2.wipe σ2 own = L2.wipe σ own := by rw [wipe_same (σ1 := L2.wipe σ own) l2 fun j hj => k2 j (names_own hown hj), wipe_wipe]
    rw [asc] at p
    have f3 : Fm c H c3 H'' := f0.trans (f'.trans n3.fm)
    unfold tYes
    dsimp only
    rw [if_pos rfl]
    refine ⟨c3, e1, s2, (p.stepQ f3).imp fun ys e2 c4 H4 s4 f4 ⟨g4, p⟩ hyl J1 wk1 => ?_⟩
    have p4 : H4 Dn = some (.lst acc) := f4.keep Dn _ p3 fun i z => by rw [hp3] at z; cases z
    have hp4 : c4 Dn = .tmp := tmp f4 hp3 (by rw [p3]; simp)
    have rd4 := rd3.fm f4
    have p : Post xk K W σ c H ((if ad.length + ys.length ≤ sizeLine then (loopC (fun e => (evE ft cl el e).quiet) (fun e => (evT ft cl cs e).quiet) tg1 own1 ys e2 >>= fun u => loopC2 (fun e => (evE ft cl el e).quiet) (fun e => (evT ft cl cs e).quiet) (fun e => (evI ft cl it1 e).quiet) tg own tg1 own1 (ad.length + u.1.length) (xs.drop (i + 1)) u.2 >>= fun w => R.ok (u.1 ++ w.1, w.2)) else .no)
      >>= fun q => R.ok (Res.v true (.list (ad ++ q.1)), back e0 q.2 own)) Qf := p
    split at p
    · rename_i hbd
      rw [asc] at p
      let k : KT := fun u => (loopC2 (fun e => (evE ft cl el e).quiet) (fun e => (evT ft cl cs e).quiet) (fun e => (evI ft cl it1 e).quiet) tg own tg1 own1 (ad.length + u.1.length) (xs.drop (i + 1)) u.2 >>= fun w => R.ok (u.1 ++ w.1, w.2)) >>= fun q => R.ok (Res.v true (.list (ad ++ q.1)), back e0 q.2 own)
      have p : Post xk K W σ c H (loopC (fun e => (evE ft cl el e).quiet) (fun e => (evT ft cl cs e).quiet) tg1 own1 ys e2 >>= fun u => k u) Qf := p
      refine lc_itG (J := J1) (n := ys.length) (fun j Hj => LcJ xk K W σ c H Qf own1 (evE ft cl el) (evT ft cl cs) tg1 σ2 c0 H0 c4 H4 Dn ys ad k j Hj) ?_ ?_ ?_ ?_ ?_
      · rintro j Hj hj ⟨c5, e5, acc5, ad5, s5, f5, g5, _⟩
        exact wk1.goes j c5 Hj hj g5
      · rintro Hj ⟨c5, e5, acc5, ad5, s5, f5, g5, _⟩
        exact wk1.stops c5 Hj g5
      · refine ⟨c4, e2, acc, [], s4.wipe own1, f'.trans (n3.fm.trans f4), ⟨fun a o h n => h, fun a h e => e⟩, hp4, p4, by rw [List.append_nil]; exact rd4, Nat.zero_le _, ?_⟩
        exact p
      · intro j x' Hj Hj' hj hP hy
        exact lcj_step hown1 hD hp4 ⟨_, p4⟩ f0 wk1 hbd j x' Hj Hj' hj hP hy
      · rintro Hj ⟨c5, e5, acc5, ad5, s5, f5, g5, hp5, hpl5, rd5, hl5, p5⟩
        rw [List.drop_length] at p5
        have p5 : Post xk K W σ c H (k (ad5 ++ [], e5)) Qf := p5
        rw [List.append_nil] at p5
        have p5 : Post xk K W σ c H ((loopC2 (fun e => (evE ft cl el e).quiet) (fun e => (evT ft cl cs e).quiet) (fun e => (evI ft cl it1 e).quiet) tg own tg1 own1 (ad.length + ad5.length) (xs.drop (i + 1)) e5 >>= fun w => R.ok (ad5 ++ w.1, w.2)) >>= fun q => R.ok (Res.v true (.list (ad ++ q.1)), back e0 q.2 own)) Qf := p5
        rw [asc] at p5
        refine ⟨hlt, c5, e5, acc5, ad ++ ad5, ?_, f5, hp5, hpl5, rd5, ?_, by rw [List.length_append]; omega⟩
        · have q := s5.wipe own
          rw [wipeE_sub hsub, wipe_sub hsub, hw] at q
          exact q
        · rw [List.length_append]
          have hk : (fun u : List D × En => (R.ok (ad5 ++ u.1, u.2) : R (List D × En)) >>= fun q => (R.ok (Res.v true (.list (ad ++ q.1)), back e0 q.2 own) : R (Res × En))) = fun u => R.ok (Res.v true (.list (ad ++ ad5 ++ u.1)), back e0 u.2 own) := funext fun u => by
            show R.ok (Res.v true (.list (ad ++ (ad5 ++ u.1))), back e0 u.2 own) = _
            rw [List.append_assoc]
          rw [hk] at p5
          exact p5
    · exact p.elim
  · have e : i = xs.length := by omega
    subst e
    left
    refine ⟨wk.stops c' H' f'.fs, ?_⟩
    rw [List.drop_length] at p
    have p : Post xk K W σ c H (R.ok (Res.v true (.list (ad ++ [])), back e0 e' own)) Qf := p
    rw [List.append_nil] at p
    subst hQf
    have p : ∀ c2 H2, StR K H2 c2 (back e0 e' own) σ → Fm c H c2 H2 → ∀ v, RR K H H2 c2 σ v (.v true (.list ad)) → Q v H2 := p
    exact p c' H' (s0.back_ f' s') (f0.trans f') _ ⟨Dn, rfl, hp, f0.free hD, acc, hpl, hadl, rd⟩

theorem sub_own {own own1 : List Nat} (h : own1.all own.contains = true) : ∀ i ∈ own1, i ∈ own := fun i hi => by simpa using List.all_eq_true.mp h i hi
theorem s_comp2 (hy : Hy xk ft cl G I X W) {et ei ee et1 ei1 : Expr} {ec : List Expr} {scope : Scope} {pos : Pos} {el : Ex} {tg tg1 : Tg} {it it1 : Wk} {cs : Exs} {own own1 : List Nat} (hb : blkC I.N I.sc scope (ownP I.N own) = true) (hn : notSet ei = true) (hn1 : notSet ei1 = true)
    (hi : PI X et ei (rdI xk X.K W ft cl it)) (ht : chkT (blkI I scope) tg et = true) (ht1 : chkT (blkI I scope) tg1 et1 = true) (hown : (tgNames tg).all own.contains = true) (hown1 : (tgNames tg1).all own1.contains = true) (hsub : own1.all own.contains = true)
    (hi1 : ∀ X', X'.K = X.K → Hy xk ft cl G (blkI I scope) X' W0 → PI X' et1 ei1 (rdI xk X.K W0 ft cl it1))
    (he : ∀ X', X'.K = X.K → Hy xk ft cl G (blkI I scope) X' W0 → PE X' ee (rdE xk X.K W0 ft cl el)) (hc : ∀ X', X'.K = X.K → Hy xk ft cl G (blkI I scope) X' W0 → PTs X' ec (rdTs xk X.K W0 ft cl cs)) :
    PE X (.ListComp ee [⟨et, ei, [], 0⟩, ⟨et1, ei1, ec, 0⟩] scope pos) (rdE xk X.K W ft cl (.comp2 el tg it tg1 it1 cs own own1)) := by
  have hb' : BlkOk X.N X.env.scope scope (ownP I.N own) := by rw [hy.N, hy.sc]; exact blkOk_by hb
  refine (pe_lc2 (pos := pos) (vs1 := own1) hy.calm (by rw [hy.N]; exact hy.nd) hi hb' (by rw [ownP_snd]; exact sub_own hsub) (fun s H C ce fp => show PG _ et (gT X.K tg) from pg_ok (hy.blk (s := s) (H := H) (C := C) (ce := ce) (fp := fp)).hs ht) (fun s H C ce fp => pts_nil)
    (fun s H C ce fp => hi1 _ rfl hy.blk) (fun s H C ce fp => show PG _ et1 (gT X.K tg1) from pg_ok (hy.blk (s := s) (H := H) (C := C) (ce := ce) (fp := fp)).hs ht1) (fun s H C ce fp => hc _ rfl hy.blk) (fun s H C ce fp => he _ rfl hy.blk) (notSet_fold hn) (fun env => notSet_fold hn1)).wk ?_
  rw [ownP_snd]
  exact lc2_reads hown hown1 (sub_own hsub)
theorem s_setLc2 (hy : Hy xk ft cl G I X W) {et ei ee et1 ei1 : Expr} {ec : List Expr} {scope : Scope} {pos pn spos : Pos} {el : Ex} {tg tg1 : Tg} {it it1 : Wk} {cs : Exs} {own own1 : List Nat} {i : Nat} {n : Str} (hb : blkC I.N I.sc scope (ownP I.N own) = true) (hn : notSet ei = true) (hn1 : notSet ei1 = true)
    (hi : PI X et ei (rdI xk X.K W ft cl it)) (ht : chkT (blkI I scope) tg et = true) (ht1 : chkT (blkI I scope) tg1 et1 = true) (hown : (tgNames tg).all own.contains = true) (hown1 : (tgNames tg1).all own1.contains = true) (hsub : own1.all own.contains = true)
    (hi1 : ∀ X', X'.K = X.K → Hy xk ft cl G (blkI I scope) X' W0 → PI X' et1 ei1 (rdI xk X.K W0 ft cl it1))
    (he : ∀ X', X'.K = X.K → Hy xk ft cl G (blkI I scope) X' W0 → PE X' ee (rdE xk X.K W0 ft cl el)) (hc : ∀ X', X'.K = X.K → Hy xk ft cl G (blkI I scope) X' W0 → PTs X' ec (rdTs xk X.K W0 ft cl cs))
    (h1 : I.N[i]? = some n) (h2 : I.sc.names.lookup n = some .local) (hw : swapsWith (.ListComp ee [⟨et, ei, [], 0⟩, ⟨et1, ei1, ec, 0⟩] scope pos) (some (.Name n pn)) spos.line X.env = pure true) :
    ∃ te, PS X (.Assign [.Name n pn] (.ListComp ee [⟨et, ei, [], 0⟩, ⟨et1, ei1, ec, 0⟩] scope pos) spos) (tAsg te (gName i)) ∧ ∀ σ H Q, rdE xk X.K W ft cl (.comp2 el tg it tg1 it1 cs own own1) σ H Q → te σ H Q := by
  have hb' : BlkOk X.N X.env.scope scope (ownP I.N own) := by rw [hy.N, hy.sc]; exact blkOk_by hb
  refine ⟨_, ps_setLc2 (vs1 := own1) hy.calm (by rw [hy.N]; exact hy.nd) (by rw [hy.N]; exact h1) (by rw [hy.sc]; exact h2) hw hi hb' (by rw [ownP_snd]; exact sub_own hsub) (fun s H C ce fp => show PG _ et (gT X.K tg) from pg_ok (hy.blk (s := s) (H := H) (C := C) (ce := ce) (fp := fp)).hs ht) (fun s H C ce fp => pts_nil)
    (fun s H C ce fp => hi1 _ rfl hy.blk) (fun s H C ce fp => show PG _ et1 (gT X.K tg1) from pg_ok (hy.blk (s := s) (H := H) (C := C) (ce := ce) (fp := fp)).hs ht1) (fun s H C ce fp => hc _ rfl hy.blk) (fun s H C ce fp => he _ rfl hy.blk) (notSet_fold hn) (fun env => notSet_fold hn1), ?_⟩
  rw [ownP_snd]
  exact lc2_reads hown hown1 (sub_own hsub)
/-- list(range(..)), tuple(range(..)) -/
theorem rg_new {K : PySem.W.Frag} {c c1 : Clr} {H H1 : Hp} {e1 : En} {σ : L2.St} {Q : VK} {l : Bool} {lo hi : Int} (s1 : StR K H1 c1 e1 σ) (f1 : Fm c H c1 H1) (hz : (rangeL lo hi).length ≤ sizeLine)
    (p : Post xk K W σ c H (R.ok (if l = true then Res.v true (.list (rangeL lo hi)) else Res.v false (.tuple (rangeL lo hi)), e1)) fun r _ c' H' => ∀ v, RR K H H' c' σ v r → Q v H') : ∀ q, H1 q = none → Q (.ref q) (upd H1 q (if l = true then .lst (rgV lo hi) else .tup (rgV lo hi))) := by
  intro q hq
  have rd : RelDs K H1 (isSh c1) (rgV lo hi) (rangeL lo hi) := by
    unfold rgV rangeL
    generalize List.range (hi - lo).toNat = R
    induction R with
    | nil => exact .nil
    | cons a R ih => exact .cons (.int _) ih
  cases l with
  | true => exact p.ret (cset c1 q .tmp) _ ((Nw.new (k := .tmp) hq).str s1) (f1.trans (.new hq)) _ ⟨q, rfl, cset_at, f1.free hq, lst_new hq rd hz⟩
  | false => exact p.ret (cset c1 q .sh) _ ((Nw.new (k := .sh) hq).str s1) (f1.trans (.new hq)) _ (.inl (tup_new hq rd hz))
theorem pe_mkRg {l : Bool} {y : Str} {p pos : Pos} {e : Expr} {te : L2.St → Hp → (Int → Int → Hp → Prop) → Prop} (hc : X.calm = true) (hy : y = seqName l) (hg : Gl X y) (hm : X.mg y = none) (he : PRg X e te) (na : starEach [e] X.env = (false, eval e X.env) :: starEach [] X.env) :
    PE X (.Call (.Name y p) [e] [] pos) (fun σ H Q => te σ H fun a b H1 => RgOk a b ∧ ∀ q, H1 q = none → Q (.ref q) (upd H1 q (if l = true then .lst (rgV a b) else .tup (rgV a b)))) := by
  subst hy
  cases l with
  | true => exact pe_listRg hc hg hm he na
  | false => exact pe_tupRg hc hg hm he na
theorem s_mkRg1 (hy : Hy xk ft cl G I X W) {l : Bool} {x y : Str} {p1 p2 pos pos2 : Pos} {ea : Expr} {a : Ex} (hy1 : G.bn I y (seqName l) = true) (hx : G.bn I x "range" = true) (hp : plainArg ea = true) (h : PE X ea (rdE xk X.K W ft cl a)) :
    PE X (.Call (.Name y p1) [.Call (.Name x p2) [ea] [] pos2] [] pos) (rdE xk X.K W ft cl (.mk l (.rng (.cons a .nil)))) := by
  obtain ⟨rfl, h2, h3, h4, h5⟩ := bn_of hx
  obtain ⟨rfl, g2, g3, g4, g5⟩ := bn_of hy1
  refine (pe_mkRg (l := l) hy.calm rfl (hy.glob g2) (hy.gl.bl _ g3) (prg_1 (hy.glob h2) (hy.gl.bl _ h3) h (plainArg_star hp)) rfl).wk fun σ H Q ⟨c, e, s, q⟩ => ⟨c, e, s, ?_⟩
  have q : Post xk X.K W σ c H (evE ft cl a e >>= fun p => fetch p.2 p.1 >>= fun d => rng [d] >>= fun xs => R.ok (if l = true then Res.v true (.list xs) else Res.v false (.tuple xs), p.2)) fun r _ c' H' => ∀ v, RR X.K H H' c' σ v r → Q v H' := by
    have e0 : evE ft cl (.mk l (.rng (.cons a .nil))) e = (evE ft cl a e >>= fun p => fetch p.2 p.1 >>= fun d => rng [d] >>= fun xs => R.ok (if l = true then Res.v true (.list xs) else Res.v false (.tuple xs), p.2)) := by
      have e1 : evI ft cl (.rng (.cons a .nil)) e = ((evE ft cl a e >>= fun p => (R.ok (([] : List Res), p.2) : R (List Res × En)) >>= fun q => R.ok (p.1 :: q.1, q.2)) >>= fun p => fetchs p.2 p.1 >>= fun ds => rng ds >>= fun xs => R.ok (xs, p.2)) := rfl
      show (evI ft cl (.rng (.cons a .nil)) e >>= fun p => R.ok (if l = true then Res.v true (.list p.1) else Res.v false (.tuple p.1), p.2)) = _
      rw [e1]
      cases evE ft cl a e with
      | no => rfl
      | ex x => rfl
      | ok p =>
        obtain ⟨r, e2⟩ := p
        show ((((fetch e2 r >>= fun d => (R.ok [] : R (List D)) >>= fun ds => R.ok (d :: ds)) >>= fun ds => rng ds >>= fun xs => R.ok (xs, e2)) : R (List D × En)) >>= fun p => R.ok (if l = true then Res.v true (.list p.1) else Res.v false (.tuple p.1), p.2)) = (fetch e2 r >>= fun d => rng [d] >>= fun xs => R.ok (if l = true then Res.v true (.list xs) else Res.v false (.tuple xs), e2))
        cases fetch e2 r with
        | no => rfl
        | ex x => rfl
        | ok d => simp only [bind_ok]; cases rng [d] <;> rfl
    rw [← e0]; exact q
  refine (Post.bind q).imp fun r e1 c1 H1 s1 f1 p v rv => ?_
  obtain ⟨d, g1, p⟩ := p.get fetch_noEx
  obtain ⟨xs, g6, p⟩ := p.get noEx_rng
  obtain ⟨j, rfl, z1, z2, rfl⟩ := rng1 g6
  have z3 := small_of z1
  have hz : (rangeL 0 j).length ≤ sizeLine := by rw [rangeL_len]; show _ ≤ 2 ^ 24; omega
  exact ⟨j, (s1.get rv g1).int, ⟨by decide, by decide, z3.1, z3.2, by omega⟩, rg_new s1 f1 hz p⟩
theorem s_mkRg2 (hy : Hy xk ft cl G I X W) {l : Bool} {x y : Str} {p1 p2 pos pos2 : Pos} {ea eb : Expr} {a b : Ex} (hy1 : G.bn I y (seqName l) = true) (hx : G.bn I x "range" = true) (hp : plainArg ea = true) (hp2 : plainArg eb = true) (h : PE X ea (rdE xk X.K W ft cl a)) (h' : PE X eb (rdE xk X.K W ft cl b)) :
    PE X (.Call (.Name y p1) [.Call (.Name x p2) [ea, eb] [] pos2] [] pos) (rdE xk X.K W ft cl (.mk l (.rng (.cons a (.cons b .nil))))) := by
  obtain ⟨rfl, h2, h3, h4, h5⟩ := bn_of hx
  obtain ⟨rfl, g2, g3, g4, g5⟩ := bn_of hy1
  refine (pe_mkRg (l := l) hy.calm rfl (hy.glob g2) (hy.gl.bl _ g3) (prg_2 (hy.glob h2) (hy.gl.bl _ h3) h h' (plainArg_star hp) (plainArg_star hp2) (by rw [plainArg_star hp2]; rfl)) rfl).wk fun σ H Q ⟨c, e, s, q⟩ => ⟨c, e, s, ?_⟩
  have q : Post xk X.K W σ c H (evE ft cl a e >>= fun p => evE ft cl b p.2 >>= fun q => fetch q.2 p.1 >>= fun d => fetch q.2 q.1 >>= fun d' => rng [d, d'] >>= fun xs => R.ok (if l = true then Res.v true (.list xs) else Res.v false (.tuple xs), q.2)) fun r _ c' H' => ∀ v, RR X.K H H' c' σ v r → Q v H' := by
    have e0 : evE ft cl (.mk l (.rng (.cons a (.cons b .nil)))) e = (evE ft cl a e >>= fun p => evE ft cl b p.2 >>= fun q => fetch q.2 p.1 >>= fun d => fetch q.2 q.1 >>= fun d' => rng [d, d'] >>= fun xs => R.ok (if l = true then Res.v true (.list xs) else Res.v false (.tuple xs), q.2)) := by
      have e1 : evI ft cl (.rng (.cons a (.cons b .nil))) e = ((evE ft cl a e >>= fun p => (evE ft cl b p.2 >>= fun q => (R.ok (([] : List Res), q.2) : R (List Res × En)) >>= fun u => R.ok (q.1 :: u.1, u.2)) >>= fun q => R.ok (p.1 :: q.1, q.2)) >>= fun p => fetchs p.2 p.1 >>= fun ds => rng ds >>= fun xs => R.ok (xs, p.2)) := rfl
      show (evI ft cl (.rng (.cons a (.cons b .nil))) e >>= fun p => R.ok (if l = true then Res.v true (.list p.1) else Res.v false (.tuple p.1), p.2)) = _
      rw [e1]
      cases evE ft cl a e with
      | no => rfl
      | ex x => rfl
      | ok p =>
        obtain ⟨r, e2⟩ := p
        simp only [bind_ok]
        cases evE ft cl b e2 with
        | no => rfl
        | ex x => rfl
        | ok p =>
          obtain ⟨r', e3⟩ := p
          show ((((fetch e3 r >>= fun d => (fetch e3 r' >>= fun d' => (R.ok [] : R (List D)) >>= fun ds => R.ok (d' :: ds)) >>= fun ds => R.ok (d :: ds)) >>= fun ds => rng ds >>= fun xs => R.ok (xs, e3)) : R (List D × En)) >>= fun p => R.ok (if l = true then Res.v true (.list p.1) else Res.v false (.tuple p.1), p.2))
            = (fetch e3 r >>= fun d => fetch e3 r' >>= fun d' => rng [d, d'] >>= fun xs => R.ok (if l = true then Res.v true (.list xs) else Res.v false (.tuple xs), e3))
          cases fetch e3 r with
          | no => rfl
          | ex x => rfl
          | ok d =>
            cases fetch e3 r' with
            | no => rfl
            | ex x => rfl
            | ok d' => simp only [bind_ok]; cases rng [d, d'] <;> rfl
    rw [← e0]; exact q
  refine (Post.bind q).imp fun r e1 c1 H1 s1 f1 p v rv => ⟨c1, e1, s1, (p.step f1).imp fun r' e2 c2 H2 s2 f2 ⟨f, p⟩ v' rv' => ?_⟩
  obtain ⟨d, g1, p⟩ := p.get fetch_noEx
  obtain ⟨d', g7, p⟩ := p.get fetch_noEx
  obtain ⟨xs, g6, p⟩ := p.get noEx_rng
  obtain ⟨i, j, rfl, rfl, z1, z2, z3, rfl⟩ := rng2 g6
  have y1 := small_of z1
  have y2 := small_of z2
  have hz : (rangeL i j).length ≤ sizeLine := by rw [rangeL_len]; show _ ≤ 2 ^ 24; omega
  exact ⟨i, j, (s2.get (rv.fm f2) g1).int, (s2.get rv' g7).int, ⟨y1.1, y1.2, y2.1, y2.2, by omega⟩, rg_new s2 f hz p⟩
end
end Nm
set_option Elab.async false
set_option maxRecDepth 100000
set_option linter.all false
/-! Every expression that the check lets through. -/
namespace Nm
open PySem L2 PyProof.Rows
section
variable {xk : ExK} {ft : Nat → Fd} {cl : Cl} {G : Gi}

theorem s_cname {I : Info} {X : Cx} {W : WX} (hy : Hy xk ft cl G I X W) {d : D} {x : Str} {pos : Pos} (h : G.isC x d = true) (hg : I.glb x = true) (hd : (x == ("__debug__" : Str)) = false) : PE X (.Name x pos) (rdE xk X.K W ft cl (.cst d)) := by
  obtain ⟨v, hv⟩ : ∃ v, cv d = some v := by
    unfold Gi.isC at h
    rw [List.any_eq_true] at h
    obtain ⟨p, _, h⟩ := h
    simp only [Bool.and_eq_true] at h
    exact Option.isSome_iff_exists.mp h.2
  obtain ⟨u, hm, r⟩ := hy.gl.cs x d v h hv
  refine (pe_glob (hy.glob (glb_of hg)) hm r hd).wk fun σ H Q ⟨c, e, s, q⟩ => q.ret c H s .refl v (.inl ?_)
  match d, hv with
  | .int i, hv => cases hv; exact .int i
  | .str z, hv =>
    have hv : (if z.length ≤ 100000 then some (V.str z) else none) = some v := hv
    split at hv
    · rename_i hz
      cases hv
      exact .str z (Nat.le_trans hz (by decide))
    · cases hv
/-- as a value and as a test -/
def Both (xk : ExK) (ft : Nat → Fd) (cl : Cl) (X : Cx) (W : WX) (x : Ex) (pe : Expr) : Prop := PE X pe (rdE xk X.K W ft cl x) ∧ PT X pe (rdT xk X.K W ft cl x)
theorem both_of {X : Cx} {W : WX} {x : Ex} {pe : Expr} (h : PE X pe (rdE xk X.K W ft cl x)) (he : ∀ whole, PySem.isTrue pe X.env whole = (do let v ← whole; standAt pe.pos; holding [v] (truthy v))) : Both xk ft cl X W x pe := ⟨h, pt_of h he⟩
mutual
theorem snd : ∀ (x : Ex) {I : Info} {X : Cx} {W : WX} {pe : Expr}, chkE G x I pe = true → Hy xk ft cl G I X W → Both xk ft cl X W x pe
  | .cst d, I, X, W, pe, h, hy => by
    cases pe <;> first | exact absurd h Bool.false_ne_true | skip
    · exact both_of (s_cst h) fun _ => rfl
    · rename_i x pos
      obtain ⟨h, h3⟩ := and2 (show (G.isC x d && I.glb x && !(x == ("__debug__" : Str))) = true from h)
      obtain ⟨h1, h2⟩ := and2 h
      exact both_of (s_cname hy h1 h2 (notb h3)) fun _ => rfl
  | .var i, I, X, W, pe, h, hy => by
    cases pe <;> first | exact absurd h Bool.false_ne_true | exact both_of (s_var hy h) fun _ => rfl
  | .bin o a b, I, X, W, pe, h, hy => by
    cases pe <;> try exact absurd h Bool.false_ne_true
    rename_i ea op eb pos
    obtain ⟨h, h3⟩ := and2 (show (bopIs o op && chkE G a I ea && chkE G b I eb) = true from h)
    obtain ⟨h1, h2⟩ := and2 h
    exact both_of (s_bin hy h1 (snd a h2 hy).1 (snd b h3 hy).1) fun _ => rfl
  | .neg a, I, X, W, pe, h, hy => by
    cases pe <;> try exact absurd h Bool.false_ne_true
    rename_i op ea pos
    cases op <;> try exact absurd h Bool.false_ne_true
    exact both_of (s_neg hy (snd a h hy).1) fun _ => rfl
  | .not_ a, I, X, W, pe, h, hy => by
    cases pe <;> try exact absurd h Bool.false_ne_true
    rename_i op ea pos
    cases op <;> try exact absurd h Bool.false_ne_true
    exact s_not (snd a h hy).1 (snd a h hy).2
  | .and_ a b, I, X, W, pe, h, hy => by
    cases pe <;> try exact absurd h Bool.false_ne_true
    rename_i op l pos
    cases op <;> try exact absurd h Bool.false_ne_true
    match l, h with
    | [], h => exact absurd h Bool.false_ne_true
    | [_], h => exact absurd h Bool.false_ne_true
    | ea :: eb :: [], h =>
      obtain ⟨h1, h2⟩ := and2 (show (chkE G a I ea && chkE G b I eb) = true from h)
      exact ⟨s_and (snd a h1 hy).1 (s_one (snd b h2 hy).1), s_andT (snd a h1 hy).2 (s_oneA (snd b h2 hy).2)⟩
    | ea :: eb :: ec :: r, h =>
      obtain ⟨h1, h2⟩ := and2 (show (chkE G a I ea && chkE G b I (.BoolOp .And (eb :: ec :: r) pos)) = true from h)
      exact ⟨s_and (snd a h1 hy).1 (snd b h2 hy).1, s_andT (snd a h1 hy).2 (snd b h2 hy).2⟩
  | .or_ a b, I, X, W, pe, h, hy => by
    cases pe <;> try exact absurd h Bool.false_ne_true
    rename_i op l pos
    cases op <;> try exact absurd h Bool.false_ne_true
    match l, h with
    | [], h => exact absurd h Bool.false_ne_true
    | [_], h => exact absurd h Bool.false_ne_true
    | ea :: eb :: [], h =>
      obtain ⟨h1, h2⟩ := and2 (show (chkE G a I ea && chkE G b I eb) = true from h)
      exact ⟨s_or (snd a h1 hy).1 (s_one (snd b h2 hy).1), s_orT (snd a h1 hy).2 (s_oneO (snd b h2 hy).2)⟩
    | ea :: eb :: ec :: r, h =>
      obtain ⟨h1, h2⟩ := and2 (show (chkE G a I ea && chkE G b I (.BoolOp .Or (eb :: ec :: r) pos)) = true from h)
      exact ⟨s_or (snd a h1 hy).1 (snd b h2 hy).1, s_orT (snd a h1 hy).2 (snd b h2 hy).2⟩
  | .cmp o a b, I, X, W, pe, h, hy => by
    cases pe <;> try exact absurd h Bool.false_ne_true
    rename_i ea ops es pos
    match ops, es, h with
    | [op], [eb], h =>
      obtain ⟨h, h4⟩ := and2 (show (copIs o op && chkE G a I ea && chkE G b I eb && notSet eb) = true from h)
      obtain ⟨h, h3⟩ := and2 h
      obtain ⟨h1, h2⟩ := and2 h
      exact s_cmp hy h1 h4 (snd a h2 hy).1 (snd b h3 hy).1
    | [], _, h => exact absurd h Bool.false_ne_true
    | [_], [], h => exact absurd h Bool.false_ne_true
    | [_], _ :: _ :: _, h => exact absurd h Bool.false_ne_true
    | _ :: _ :: _, _, h => exact absurd h Bool.false_ne_true
  | .chn o o' a b c, I, X, W, pe, h, hy => by
    cases pe <;> try exact absurd h Bool.false_ne_true
    rename_i ea ops es pos
    match ops, es, h with
    | [op, op'], [eb, ec], h =>
      obtain ⟨h, h7⟩ := and2 (show (copIs o op && copIs o' op' && chkE G a I ea && chkE G b I eb && chkE G c I ec && notSet eb && notSet ec) = true from h)
      obtain ⟨h, h6⟩ := and2 h
      obtain ⟨h, h5⟩ := and2 h
      obtain ⟨h, h4⟩ := and2 h
      obtain ⟨h, h3⟩ := and2 h
      obtain ⟨h1, h2⟩ := and2 h
      exact s_chn hy h1 h2 h6 h7 (snd a h3 hy).1 (snd b h4 hy).1 (snd c h5 hy).1
    | [], _, h => exact absurd h Bool.false_ne_true
    | [_], _, h => exact absurd h Bool.false_ne_true
    | [_, _], [], h => exact absurd h Bool.false_ne_true
    | [_, _], [_], h => exact absurd h Bool.false_ne_true
    | [_, _], _ :: _ :: _ :: _, h => exact absurd h Bool.false_ne_true
    | _ :: _ :: _ :: _, _, h => exact absurd h Bool.false_ne_true
  | .ite c a b, I, X, W, pe, h, hy => by
    cases pe <;> try exact absurd h Bool.false_ne_true
    rename_i ec ea eb pos
    obtain ⟨h, h3⟩ := and2 (show (chkE G c I ec && chkE G a I ea && chkE G b I eb) = true from h)
    obtain ⟨h1, h2⟩ := and2 h
    exact ⟨s_ite (snd c h1 hy).2 (snd a h2 hy).1 (snd b h3 hy).1, s_iteT (snd c h1 hy).2 (snd a h2 hy).2 (snd b h3 hy).2⟩
  | .tup es, I, X, W, pe, h, hy => by
    cases pe <;> try exact absurd h Bool.false_ne_true
    rename_i l n pos
    obtain ⟨h1, h2⟩ := and2 (show (chkEs G es I l && decide (l.length ≤ 1000)) = true from h)
    exact both_of (s_tup (by rw [← chkEs_len h1]; exact dec h2) (sndA es h1 hy)) fun _ => rfl
  | .lst es, I, X, W, pe, h, hy => by
    cases pe <;> try exact absurd h Bool.false_ne_true
    rename_i l pos
    obtain ⟨h1, h2⟩ := and2 (show (chkEs G es I l && decide (l.length ≤ 1000)) = true from h)
    exact both_of (s_lst (by rw [← chkEs_len h1]; exact dec h2) (sndA es h1 hy)) fun _ => rfl
  | .tupS es r, I, X, W, pe, h, hy => by
    cases pe <;> try exact absurd h Bool.false_ne_true
    rename_i l n pos
    obtain ⟨h1, h2⟩ := and2 (show (chkEsS G es (fun e => chkE G r I e) I l && decide (l.length ≤ 1000)) = true from h)
    exact both_of (s_tupS (sndS es h1 (fun e he => (snd r he hy).1) hy)) fun _ => rfl
  | .lstS es r, I, X, W, pe, h, hy => by
    cases pe <;> try exact absurd h Bool.false_ne_true
    rename_i l pos
    obtain ⟨h1, h2⟩ := and2 (show (chkEsS G es (fun e => chkE G r I e) I l && decide (l.length ≤ 1000)) = true from h)
    exact both_of (s_lstS (sndS es h1 (fun e he => (snd r he hy).1) hy)) fun _ => rfl
  | .dct, I, X, W, pe, h, hy => by cases pe <;> exact absurd h Bool.false_ne_true
  | .comp el tg it cs own, I, X, W, pe, h, hy => by
    cases pe <;> try exact absurd h Bool.false_ne_true
    rename_i ee gs scope pos
    match gs, h with
    | [⟨et, ei, ec, k⟩], h =>
      have g0 : (blkC I.N I.sc scope (ownP I.N own) && notSet ei && chkI G it tg I et ei && chkT (blkI I scope) tg et && chkE G el (blkI I scope) ee && chkEs G cs (blkI I scope) ec && decide (ec.length ≤ 1) && (tgNames tg).all own.contains && own.all (fun i => decide (i < I.N.length)) && decide (k = 0)) = true := h
      obtain ⟨g, h10⟩ := and2 g0
      cases dec h10
      obtain ⟨g, h9⟩ := and2 g
      obtain ⟨g, h8⟩ := and2 g
      obtain ⟨g, h7⟩ := and2 g
      obtain ⟨g, h6⟩ := and2 g
      obtain ⟨g, h5⟩ := and2 g
      obtain ⟨g, h4⟩ := and2 g
      obtain ⟨g, h3⟩ := and2 g
      obtain ⟨h1, h2⟩ := and2 g
      exact both_of (s_comp hy h1 h2 (sndI it h3 hy) h4 h8 (fun X' e hy' => e ▸ (snd el h5 hy').1) (fun X' e hy' => e ▸ sndT cs h6 (dec h7) hy')) fun _ => rfl
    | [], h => exact absurd h Bool.false_ne_true
    | ⟨_, _, _, _⟩ :: _ :: _, h => exact absurd h Bool.false_ne_true
  | .comp2 el tg it tg1 it1 cs own own1, I, X, W, pe, h, hy => by
    cases pe <;> try exact absurd h Bool.false_ne_true
    rename_i ee gs scope pos
    obtain ⟨et, ei, et1, ei1, ec, hgs, g0⟩ := chkG2_of (show chkG2 _ gs = true from h)
    subst hgs
    obtain ⟨g, h14⟩ := and2 g0
    obtain ⟨g, h13⟩ := and2 g
    obtain ⟨g, h12⟩ := and2 g
    obtain ⟨g, h11⟩ := and2 g
    obtain ⟨g, h10⟩ := and2 g
    obtain ⟨g, h9⟩ := and2 g
    obtain ⟨g, h8⟩ := and2 g
    obtain ⟨g, h7⟩ := and2 g
    obtain ⟨g, h6⟩ := and2 g
    obtain ⟨g, h5⟩ := and2 g
    obtain ⟨g, h4⟩ := and2 g
    obtain ⟨g, h3⟩ := and2 g
    obtain ⟨h1, h2⟩ := and2 g
    exact both_of (s_comp2 hy h1 h2 h3 (sndI it h4 hy) h5 h6 h11 h12 h13 (fun X' e hy' => e ▸ sndI it1 h7 hy') (fun X' e hy' => e ▸ (snd el h8 hy').1) (fun X' e hy' => e ▸ sndT cs h9 (dec h10) hy')) fun _ => rfl
  | .dcmp _ _ _ _ _ _, I, X, W, pe, h, hy => by cases pe <;> exact absurd h Bool.false_ne_true
  | .call f es, I, X, W, pe, h, hy => by
    cases pe <;> try exact absurd h Bool.false_ne_true
    rename_i ef l ks pos
    cases ef <;> try exact absurd h Bool.false_ne_true
    cases ks <;> try exact absurd h Bool.false_ne_true
    rename_i x p1
    obtain ⟨h, h4⟩ := and2 (show (G.fns.contains (x, f) && I.glb x && !(x == ("__debug__" : Str)) && chkEs G es I l) = true from h)
    obtain ⟨h, h3⟩ := and2 h
    obtain ⟨h1, h2⟩ := and2 h
    exact both_of (s_call hy h1 h2 (notb h3) h4 (sndA es h4 hy)) fun _ => rfl
  | .callk _ _ _ _, I, X, W, pe, h, hy => by cases pe <;> exact absurd h Bool.false_ne_true
  | .bi b es, I, X, W, pe, h, hy => by
    cases pe <;> try exact absurd h Bool.false_ne_true
    rename_i ef l ks pos
    cases ef <;> try exact absurd h Bool.false_ne_true
    cases ks <;> try exact absurd h Bool.false_ne_true
    rename_i x p1
    obtain ⟨h, h3⟩ := and2 (show (G.bn I x (biName b) && chkEs G es I l && decide (l.length = biArity b)) = true from h)
    obtain ⟨h1, h2⟩ := and2 h
    exact both_of (s_bi hy h1 h2 (dec h3) (sndA es h2 hy)) fun _ => rfl
  | .mk l (.rng (.cons a .nil)), I, X, W, pe, h, hy => by
    cases pe <;> try exact absurd h Bool.false_ne_true
    rename_i ef l1 ks pos
    cases ef <;> try exact absurd h Bool.false_ne_true
    rename_i y p1
    match l1, ks, h with
    | [], _, h => exact absurd h Bool.false_ne_true
    | _ :: _ :: _, _, h => exact absurd h Bool.false_ne_true
    | [_], _ :: _, h => exact absurd h Bool.false_ne_true
    | [e], [], h =>
      obtain ⟨h1, h⟩ := and2 (show (G.bn I y (seqName l) && chkRg1 _ e) = true from h)
      obtain ⟨x, p2, ea, pos2, he, h⟩ := chkRg1_of h
      subst he
      obtain ⟨h, h4⟩ := and2 h
      obtain ⟨h2, h3⟩ := and2 h
      exact both_of (s_mkRg1 hy h1 h2 h3 (snd a h4 hy).1) fun _ => rfl
  | .mk l (.rng (.cons a (.cons b .nil))), I, X, W, pe, h, hy => by
    cases pe <;> try exact absurd h Bool.false_ne_true
    rename_i ef l1 ks pos
    cases ef <;> try exact absurd h Bool.false_ne_true
    rename_i y p1
    match l1, ks, h with
    | [], _, h => exact absurd h Bool.false_ne_true
    | _ :: _ :: _, _, h => exact absurd h Bool.false_ne_true
    | [_], _ :: _, h => exact absurd h Bool.false_ne_true
    | [e], [], h =>
      obtain ⟨h1, h⟩ := and2 (show (G.bn I y (seqName l) && chkRg2 _ e) = true from h)
      obtain ⟨x, p2, ea, eb, pos2, he, h⟩ := chkRg2_of h
      subst he
      obtain ⟨h, h6⟩ := and2 h
      obtain ⟨h, h5⟩ := and2 h
      obtain ⟨h, h4⟩ := and2 h
      obtain ⟨h2, h3⟩ := and2 h
      exact both_of (s_mkRg2 hy h1 h2 h3 h4 (snd a h5 hy).1 (snd b h6 hy).1) fun _ => rfl
  | .mk _ (.rng .nil), I, X, W, pe, h, hy => by cases pe <;> exact absurd h Bool.false_ne_true
  | .mk _ (.rng (.cons _ (.cons _ (.cons _ _)))), I, X, W, pe, h, hy => by cases pe <;> exact absurd h Bool.false_ne_true
  | .mk _ (.seq _), I, X, W, pe, h, hy => by cases pe <;> exact absurd h Bool.false_ne_true
  | .mk _ (.enum _ _), I, X, W, pe, h, hy => by cases pe <;> exact absurd h Bool.false_ne_true
  | .mk _ (.zip _), I, X, W, pe, h, hy => by cases pe <;> exact absurd h Bool.false_ne_true
  | .mk _ (.zipS _), I, X, W, pe, h, hy => by cases pe <;> exact absurd h Bool.false_ne_true
  | .mk _ (.items _), I, X, W, pe, h, hy => by cases pe <;> exact absurd h Bool.false_ne_true
  | .mk _ (.values _), I, X, W, pe, h, hy => by cases pe <;> exact absurd h Bool.false_ne_true
  | .ix a i, I, X, W, pe, h, hy => by
    cases pe <;> try exact absurd h Bool.false_ne_true
    rename_i ea ei pos
    obtain ⟨h, h3⟩ := and2 (show (chkE G a I ea && chkE G i I ei && notSlice ei) = true from h)
    obtain ⟨h1, h2⟩ := and2 h
    exact both_of (s_ix (snd a h1 hy).1 (snd i h2 hy).1 h3) fun _ => rfl
  | .sl a lo hi, I, X, W, pe, h, hy => by
    cases pe <;> try exact absurd h Bool.false_ne_true
    rename_i ea es pos
    cases es <;> try exact absurd h Bool.false_ne_true
    rename_i elo ehi est p2
    cases est <;> try exact absurd h Bool.false_ne_true
    obtain ⟨h, h3⟩ := and2 (show (chkE G a I ea && chkO G lo I elo && chkO G hi I ehi) = true from h)
    obtain ⟨h1, h2⟩ := and2 h
    exact both_of (s_sl (snd a h1 hy).1 (sndO lo h2 hy) (sndO hi h3 hy)) fun _ => rfl
  | .rev a, I, X, W, pe, h, hy => by
    obtain ⟨ea, k, p1, p2, p3, p4, rfl, h⟩ := revE_of (show revE? (fun ea => chkE G a I ea) pe = true from h)
    exact both_of (s_rev (snd a h hy).1) fun _ => rfl
  | .isi a t, I, X, W, pe, h, hy => by
    cases pe <;> try exact absurd h Bool.false_ne_true
    rename_i ef l ks pos
    cases ef <;> try exact absurd h Bool.false_ne_true
    rename_i x p1
    match l, ks, h with
    | [ea, et], [], h =>
      obtain ⟨h, h4⟩ := and2 (show (G.bn I x "isinstance" && chkE G a I ea && tyIs G I t et && plainArg ea) = true from h)
      obtain ⟨h, h3⟩ := and2 h
      obtain ⟨h1, h2⟩ := and2 h
      exact both_of (s_isi hy h1 h3 h4 (snd a h2 hy).1) fun _ => rfl
    | [], _, h => exact absurd h Bool.false_ne_true
    | [_], _, h => exact absurd h Bool.false_ne_true
    | [_, _], _ :: _, h => exact absurd h Bool.false_ne_true
    | _ :: _ :: _ :: _, _, h => exact absurd h Bool.false_ne_true
  | .mth m a es, I, X, W, pe, h, hy => by
    cases es with
    | nil => cases pe <;> exact absurd h Bool.false_ne_true
    | cons x r =>
      cases r with
      | cons _ _ => cases pe <;> exact absurd h Bool.false_ne_true
      | nil =>
        obtain ⟨n, p, nm, pa, ex, pc, rfl, h, hp, hl⟩ := mthE_of (show mthE? (fun eo nm ex => (m == .count && nm == ("count" : Str) || m == .index && nm == ("index" : Str)) && chkE G a I eo && chkE G x I ex) pe = true from h)
        obtain ⟨h, h3⟩ := and2 h
        obtain ⟨h1, h2⟩ := and2 h
        have hm : (m = .count ∨ m = .index) ∧ nm = mtName m := by
          rcases (Bool.or_eq_true _ _).mp h1 with q | q
          · obtain ⟨q1, q2⟩ := and2 q
            have q1 : m = .count := by simpa using q1
            subst q1
            exact ⟨.inl rfl, (show nm = ("count" : Str) from by simpa using q2)⟩
          · obtain ⟨q1, q2⟩ := and2 q
            have q1 : m = .index := by simpa using q1
            subst q1
            exact ⟨.inr rfl, (show nm = ("index" : Str) from by simpa using q2)⟩
        obtain ⟨hm, rfl⟩ := hm
        exact both_of (s_mth hy hm (snd a h2 hy).1 (snd x h3 hy).1 hp hl) fun _ => rfl
  | .fld _ _, I, X, W, pe, h, hy => by cases pe <;> exact absurd h Bool.false_ne_true
termination_by structural x => x
theorem sndS : ∀ (es : Exs) {r : Ex} {f : Expr → Bool} {I : Info} {X : Cx} {W : WX} {l : List Expr}, chkEsS G es f I l = true → (∀ e, f e = true → PE X e (rdE xk X.K W ft cl r)) → Hy xk ft cl G I X W → PA X l (rdAS xk X.K W ft cl es r)
  | .nil, r, f, I, X, W, l, h, hr, hy => by
    match l, h with
    | [e], h => cases e <;> first | exact s_star0 (hr _ h) | exact absurd h Bool.false_ne_true
    | [], h => exact absurd h Bool.false_ne_true
    | e :: _ :: _, h => cases e <;> exact absurd h Bool.false_ne_true
  | .cons x xs, r, f, I, X, W, [], h, hr, hy => absurd h Bool.false_ne_true
  | .cons x xs, r, f, I, X, W, e :: l, h, hr, hy => by
    obtain ⟨h, h3⟩ := and2 (show (chkE G x I e && plainArg e && chkEsS G xs f I l) = true from h)
    obtain ⟨h1, h2⟩ := and2 h
    exact s_starC h2 (snd x h1 hy).1 (sndS xs h3 hr hy)
theorem sndA : ∀ (es : Exs) {I : Info} {X : Cx} {W : WX} {l : List Expr}, chkEs G es I l = true → Hy xk ft cl G I X W → PA X l (rdA xk X.K W ft cl es)
  | .nil, I, X, W, [], h, hy => s_nil
  | .nil, I, X, W, _ :: _, h, hy => absurd h Bool.false_ne_true
  | .cons _ _, I, X, W, [], h, hy => absurd h Bool.false_ne_true
  | .cons x xs, I, X, W, e :: l, h, hy => by
    obtain ⟨h, h3⟩ := and2 (show (chkE G x I e && plainArg e && chkEs G xs I l) = true from h)
    obtain ⟨h1, h2⟩ := and2 h
    exact s_cons h2 (snd x h1 hy).1 (sndA xs h3 hy)
theorem sndO : ∀ (o : ExO) {I : Info} {X : Cx} {W : WX} {eo : Option Expr}, chkO G o I eo = true → Hy xk ft cl G I X W → PO X eo (rdO xk X.K W ft cl o)
  | .none, I, X, W, none, h, hy => s_none
  | .none, I, X, W, some _, h, hy => absurd h Bool.false_ne_true
  | .some _, I, X, W, none, h, hy => absurd h Bool.false_ne_true
  | .some x, I, X, W, some e, h, hy => s_some (snd x h hy).1
theorem sndI : ∀ (it : Wk) {tg : Tg} {I : Info} {X : Cx} {W : WX} {et ei : Expr}, chkI G it tg I et ei = true → Hy xk ft cl G I X W → PI X et ei (rdI xk X.K W ft cl it)
  | .seq x, tg, I, X, W, et, ei, h, hy => s_seq (snd x h hy).1
  | .rng es, tg, I, X, W, et, ei, h, hy => by
    cases ei <;> try exact absurd h Bool.false_ne_true
    rename_i ef l ks pos
    cases ef <;> try exact absurd h Bool.false_ne_true
    cases ks <;> try exact absurd h Bool.false_ne_true
    rename_i x p1
    obtain ⟨h, h3⟩ := and2 (show (G.bn I x "range" && chkEs G es I l && decide (l.length ≤ 2)) = true from h)
    obtain ⟨h1, h2⟩ := and2 h
    exact s_rng hy h1 h2 (dec h3) (sndA es h2 hy)
  | .enum x k, tg, I, X, W, et, ei, h, hy => by
    cases et <;> first | (cases ei <;> exact absurd h Bool.false_ne_true) | skip
    cases ei <;> try exact absurd h Bool.false_ne_true
    rename_i elts kk tpos ef l ks pos
    cases ef <;> try exact absurd h Bool.false_ne_true
    rename_i y p1
    match l, ks, h with
    | [a], [], h =>
      obtain ⟨h, h4⟩ := and2 (show (G.bn I y "enumerate" && chkE G x I a && decide (k = 0) && plainArg a) = true from h)
      obtain ⟨h, h3⟩ := and2 h
      obtain ⟨h1, h2⟩ := and2 h
      rw [dec h3]
      exact s_enum hy h1 h4 (snd x h2 hy).1
    | [], _, h => exact absurd h Bool.false_ne_true
    | [_], _ :: _, h => exact absurd h Bool.false_ne_true
    | _ :: _ :: _, _, h => exact absurd h Bool.false_ne_true
  | .zip es, tg, I, X, W, et, ei, h, hy => by
    cases et <;> first | (cases ei <;> exact absurd h Bool.false_ne_true) | skip
    cases ei <;> try exact absurd h Bool.false_ne_true
    rename_i elts kk tpos ef l ks pos
    cases ef <;> try exact absurd h Bool.false_ne_true
    cases ks <;> try exact absurd h Bool.false_ne_true
    rename_i y p1
    obtain ⟨h, h3⟩ := and2 (show (G.bn I y "zip" && chkEs G es I l && (decide (l.length = 2) || decide (l.length = 3))) = true from h)
    obtain ⟨h1, h2⟩ := and2 h
    exact s_zip hy h1 h2 (by simpa using h3) (sndA es h2 hy)
  | .zipS _, tg, I, X, W, et, ei, h, hy => by cases ei <;> exact absurd h Bool.false_ne_true
  | .items _, tg, I, X, W, et, ei, h, hy => by cases ei <;> exact absurd h Bool.false_ne_true
  | .values _, tg, I, X, W, et, ei, h, hy => by cases ei <;> exact absurd h Bool.false_ne_true
theorem sndT : ∀ (cs : Exs) {I : Info} {X : Cx} {W : WX} {l : List Expr}, chkEs G cs I l = true → l.length ≤ 1 → Hy xk ft cl G I X W → PTs X l (rdTs xk X.K W ft cl cs)
  | .nil, I, X, W, [], h, hl, hy => pts_nil.wk fun σ H Q ⟨c, e, s, q⟩ => q.ret c H s .refl
  | .nil, I, X, W, _ :: _, h, hl, hy => absurd h Bool.false_ne_true
  | .cons _ _, I, X, W, [], h, hl, hy => absurd h Bool.false_ne_true
  | .cons x .nil, I, X, W, [e], h, hl, hy => by
    obtain ⟨h, h3⟩ := and2 (show (chkE G x I e && plainArg e && chkEs G .nil I []) = true from h)
    refine (pts_one (snd x (and2 h).1 hy).2).wk fun σ H Q ⟨c, e, s, q⟩ => ⟨c, e, s, (Post.bind q).imp fun b e1 c1 H1 s1 f1 p => ?_⟩
    cases b with
    | true => exact Post.ret (a := true) (e' := e1) p c1 H1 s1 f1
    | false => exact Post.ret (a := false) (e' := e1) p c1 H1 s1 f1
  | .cons x (.cons _ _), I, X, W, [e], h, hl, hy => absurd (and2 (show (chkE G x I e && plainArg e && chkEs G (.cons _ _) I []) = true from h)).2 Bool.false_ne_true
  | .cons _ _, I, X, W, _ :: _ :: _, h, hl, hy => absurd hl (by simp)
end
end
end Nm
set_option Elab.async false
set_option maxRecDepth 100000
set_option linter.all false
/-! Statements: what stands behind them. -/
namespace Nm
open PySem L2 PyProof.Rows

/-- where a call began -/
structure Bs where
  c : Clr
  H : Hp
  σ : L2.St
/-- only in-out parameters were owned at the start -/
def Pin (pin : List Nat) (b : Bs) : Prop := ∀ a i, b.H a ≠ none → b.c a = .sl i → i ∈ pin
structure Now (K : PySem.W.Frag) (pin : List Nat) (b : Bs) (c : Clr) (H : Hp) (e : En) (σ : L2.St) : Prop where
  str : StR K H c e σ
  fm : Fm b.c b.H c H
  pn : ∀ j, j ∈ pin → σ[j]? = b.σ[j]?
/-- a statement's ends, told from where it begins; kp, rq: the slots stand as they were when it is through, when it raises -/
def PostS (xk : ExK) (K : PySem.W.Frag) (W : WX) (pin : List Nat) (b : Bs) (c : Clr) (H : Hp) (σ : L2.St) (kp rq : Bool) (m : R (Fl × En)) (D : Ends) : Prop := match m with
  | .ok (.nx, e') => ∀ σ' c' H', (kp = true → σ' = σ) → Now K pin b c' H' e' σ' → Fm c H c' H' → D.nx σ' H'
  | .ok (.rt o d, e') => ∀ σ' v c' H', Now K pin b c' H' e' σ' → RR K b.H H' c' [] v (.v o d) → D.rt v H'
  | .ex x => ∀ cls dd σ' c' H', (rq = true → σ' = σ) → Fm b.c b.H c' H' → Fm c H c' H' → ExR xk K H' c' x cls dd → W cls dd σ' H'
  | .no => False
section
variable {α β : Type} {xk : ExK} {K : PySem.W.Frag} {W : WX} {pin : List Nat} {b : Bs} {σ : L2.St} {kp rq kp' rq' : Bool} {c c1 : Clr} {H H1 : Hp} {e : En} {D : Ends}
theorem Now.free (N : Now K pin b c H e σ) {a : Addr} (h : H a = none) : b.H a = none := N.fm.free h
theorem Now.on (N : Now K pin b c H e σ) {e1 : En} (s : StR K H1 c1 e1 σ) (f : Fm c H c1 H1) : Now K pin b c1 H1 e1 σ := ⟨s, N.fm.trans f, N.pn⟩
/-- an expression's piece -/
theorem PostS.step {m : R (α × En)} {f : α × En → R (Fl × En)} (N : Now K pin b c H e σ) (f1 : Fm c H c1 H1) (h : PostS xk K W pin b c H σ kp rq (m >>= f) D) :
    Post xk K W σ c1 H1 m (fun a e' c' H' => Fm c H c' H' ∧ PostS xk K W pin b c H σ kp rq (f (a, e')) D) := by
  cases m with
  | no => exact h
  | ex x => exact fun cls dd c' H' g z => h cls dd σ c' H' (fun _ => rfl) (N.fm.trans (f1.trans g)) (f1.trans g) z
  | ok p => exact fun c' H' s' g => ⟨f1.trans g, h⟩
theorem PostS.ex {m : R (α × En)} {f : α × En → R (Fl × En)} (N : Now K pin b c H e σ) (h : PostS xk K W pin b c H σ kp rq (m >>= f) D) :
    Post xk K W σ c H m (fun a e' c' H' => PostS xk K W pin b c H σ kp rq (f (a, e')) D) := (h.step N .refl).imp fun _ _ _ _ _ _ q => q.2
theorem PostS.get {m : R β} {f : β → R (Fl × En)} (h : PostS xk K W pin b c H σ kp rq (m >>= f) D) (n : NoEx m) : ∃ y, m = .ok y ∧ PostS xk K W pin b c H σ kp rq (f y) D := by
  cases m with
  | no => exact h.elim
  | ex x => exact (n x rfl).elim
  | ok y => exact ⟨y, rfl, h⟩
theorem PostS.move {σ1 : L2.St} {m : R (Fl × En)} (h : PostS xk K W pin b c H σ kp rq m D) (f1 : Fm c H c1 H1) (hk : kp = true → kp' = true ∧ σ1 = σ) (hr : rq = true → rq' = true ∧ σ1 = σ) : PostS xk K W pin b c1 H1 σ1 kp' rq' m D := by
  match m, h with
  | .ok (.nx, e'), h => exact fun σ' c' H' z N g => h σ' c' H' (fun k => (z (hk k).1).trans (hk k).2) N (f1.trans g)
  | .ok (.rt o d, e'), h => exact h
  | .ex x, h => exact fun cls dd σ' c' H' z g0 g => h cls dd σ' c' H' (fun k => (z (hr k).1).trans (hr k).2) g0 (f1.trans g)
  | .no, h => exact h
theorem PostS.flag {m : R (Fl × En)} (h : PostS xk K W pin b c H σ kp rq m D) (f1 : Fm c H c1 H1) (hk : kp = true → kp' = true) (hr : rq = true → rq' = true) : PostS xk K W pin b c1 H1 σ kp' rq' m D :=
  h.move f1 (fun z => ⟨hk z, rfl⟩) fun z => ⟨hr z, rfl⟩
/-- then .. -/
def thenF (m : R (Fl × En)) (k : En → R (Fl × En)) : R (Fl × En) := m >>= fun p => match p.1 with
  | .nx => k p.2
  | .rt o d => .ok (.rt o d, p.2)
theorem PostS.seq {m : R (Fl × En)} {k : En → R (Fl × En)} {kp1 rq1 : Bool} (h : PostS xk K W pin b c H σ kp rq (thenF m k) D) (hk : kp = true → kp1 = true ∧ kp' = true) (hr : rq = true → rq1 = true ∧ kp1 = true ∧ rq' = true) :
    PostS xk K W pin b c H σ kp1 rq1 m { D with nx := fun σ' H' => ∃ c' e', Now K pin b c' H' e' σ' ∧ Fm c H c' H' ∧ PostS xk K W pin b c' H' σ' kp' rq' (k e') D } := by
  match m, h with
  | .ok (.nx, e'), h => exact fun σ' c' H' z N g => ⟨c', e', N, g, PostS.move (m := k e') h g (fun q => ⟨(hk q).2, z (hk q).1⟩) fun q => ⟨(hr q).2.2, z (hr q).2.1⟩⟩
  | .ok (.rt o d, e'), h => exact h
  | .ex x, h => exact fun cls dd σ' c' H' z => h cls dd σ' c' H' fun q => z (hr q).1
  | .no, h => exact h
/-- other ends -/
theorem PostS.ends {m : R (Fl × En)} {D' : Ends} (h : PostS xk K W pin b c H σ kp rq m D) (h1 : ∀ e' σ' c' H', Now K pin b c' H' e' σ' → Fm c H c' H' → D.nx σ' H' → D'.nx σ' H') (h2 : ∀ v H', D.rt v H' → D'.rt v H') : PostS xk K W pin b c H σ kp rq m D' := by
  match m, h with
  | .ok (.nx, e'), h => exact fun σ' c' H' z N g => h1 e' σ' c' H' N g (h σ' c' H' z N g)
  | .ok (.rt o d, e'), h => exact fun σ' v c' H' N r => h2 v H' (h σ' v c' H' N r)
  | .ex x, h => exact h
  | .no, h => exact h
end

/-! ### storing -/
def SvR (K : PySem.W.Frag) (Hx H : Hp) (c : Clr) (v : V) : Sv → Prop
  | ⟨false, d⟩ => RelS K H c v d
  | ⟨true, d⟩ => ∃ a, v = .ref a ∧ c a = .tmp ∧ Hx a = none ∧ Top K H (isSh c) a d
section
variable {K : PySem.W.Frag} {Hx H0 H : Hp} {c0 c c' : Clr} {e e' : En} {σ : L2.St} {v : V} {r : Res} {sv : Sv}
theorem noEx_stow : NoEx (stow e r) := by
  cases r with
  | v o d => exact .ok
  | p j => exact settle_noEx.bind fun _ => .ok
theorem stow_ok (s : StR K H c e σ) (f0 : Fm c0 H0 c H) (h : RR K Hx H c σ v r) (q : stow e r = .ok (sv, e')) : ∃ c', StR K H c' e' σ ∧ Fm c0 H0 c' H ∧ Shf c c' ∧ (∀ a, c a = .tmp → c' a = .tmp) ∧ SvR K Hx H c' v sv := by
  match r, h, q with
  | .v false d, h, q => cases q; exact ⟨c, s, f0, .refl, fun _ h => h, h⟩
  | .v true d, h, q => cases q; exact ⟨c, s, f0, .refl, fun _ h => h, h⟩
  | .p j, h, q =>
    have q : ((match e[j]? with | some (some s) => R.ok (s.d, e.set j (some ⟨false, s.d⟩)) | _ => R.no) >>= fun p => R.ok (⟨false, p.1⟩, p.2)) = R.ok (sv, e') := q
    cases hs : e[j]? with
    | none => rw [hs] at q; cases q
    | some o =>
      cases o with
      | none => rw [hs] at q; cases q
      | some x =>
        rw [hs] at q
        cases q
        obtain ⟨c', s', F, f, g, _, t⟩ := s.freeze hs f0
        exact ⟨c', s', f, F, t, g v h⟩
theorem SvR.shf (F : Shf c c') (t : ∀ a, c a = .tmp → c' a = .tmp) (h : SvR K Hx H c v sv) : SvR K Hx H c' v sv := by
  match sv, h with
  | ⟨false, d⟩, h => exact F.rel h
  | ⟨true, d⟩, ⟨a, e1, e2, e3, h⟩ => exact ⟨a, e1, t a e2, e3, F.top h⟩
theorem put_ok (s : StR K H c e σ) (f0 : Fm c0 H0 c H) (h : SvR K Hx H c v sv) (hx : ∀ a, Hx a = none → H0 a = none) (i : Nat) :
    ∃ c', StR K H c' (e.set i (some sv)) (σ.set i (some v)) ∧ Fm c0 H0 c' H ∧ (∀ a, c a = .sh → c' a = .sh) ∧ (∀ a, (sv.own = true → v ≠ .ref a) → c' a = c a) := by
  match sv, h with
  | ⟨false, d⟩, h => exact ⟨c, s.put (x := ⟨false, d⟩) h, f0, fun _ h => h, fun _ _ => rfl⟩
  | ⟨true, d⟩, ⟨a, e1, e2, e3, h⟩ =>
    have sh : ∀ b, c b = .sh → cset c a (.sl i) b = .sh := fun b hb => by
      rw [cset_ne]
      · exact hb
      · rintro rfl; rw [e2] at hb; cases hb
    have s' : StR K H (cset c a (.sl i)) e σ := ⟨s.len, fun j x hx => by
      obtain ⟨w, hw, h'⟩ := s.at_ j x hx
      refine ⟨w, hw, ?_⟩
      match x, h' with
      | ⟨false, d⟩, h' => exact h'.mono sh
      | ⟨true, d⟩, ⟨b, q1, q2, h'⟩ =>
        refine ⟨b, q1, ?_, Top.mono sh h'⟩
        rw [cset_ne]
        · exact q2
        · rintro rfl; rw [e2] at q2; cases q2⟩
    refine ⟨cset c a (.sl i), s'.put (x := ⟨true, d⟩) ⟨a, e1, cset_at, Top.mono sh h⟩, ⟨f0.keep, f0.keepI, f0.there, fun b hb => ?_⟩, sh, fun b hb => ?_⟩
    · rw [cset_ne]
      · exact f0.col b hb
      · rintro rfl; exact hb (hx _ e3)
    · rw [cset_ne]
      rintro rfl; exact hb rfl e1
end
theorem set_pn {pin : List Nat} {σ σ0 : L2.St} {i : Nat} {o : Option V} (h : ∀ j, j ∈ pin → σ[j]? = σ0[j]?) (hi : i ∉ pin) : ∀ j, j ∈ pin → (σ.set i o)[j]? = σ0[j]? := fun j hj => by
  have : i ≠ j := fun z => hi (z ▸ hj)
  rw [List.getElem?_set_ne this]; exact h j hj

/-! ### what keeps the slots -/
mutual
def keeps : Sm → Bool
  | .drop _ | .ret _ | .rse _ _ | .pass | .setix _ _ _ => true
  | .ife _ a b => keepss a && keepss b
  | _ => false
def keepss : List Sm → Bool
  | [] => true
  | s :: r => keeps s && keepss r
def rqt : Sm → Bool
  | .drop _ | .ret _ | .rse _ _ | .pass | .asg (.nm _) _ => true
  | .ife _ a b => rqts a && rqts b
  | _ => false
def rqts : List Sm → Bool
  | [] => true
  | s :: r => rqt s && (match r with | [] => true | _ :: _ => keeps s && rqts r)
end
section
variable (xk : ExK) (K : PySem.W.Frag) (W : WX) (ft : Nat → Fd) (cl : Cl) (pin : List Nat)
def rdS (s : Sm) : TS := fun D σ H => ∃ b c e, Pin pin b ∧ Now K pin b c H e σ ∧ PostS xk K W pin b c H σ (keeps s) (rqt s) (evS ft cl pin s e) D
def rdSs (s : List Sm) : TS := fun D σ H => ∃ b c e, Pin pin b ∧ Now K pin b c H e σ ∧ PostS xk K W pin b c H σ (keepss s) (rqts s) (evSs ft cl pin s e) D
end
theorem evSs_cons {ft : Nat → Fd} {cl : Cl} {pin : List Nat} {s : Sm} {r : List Sm} {e : En} : evSs ft cl pin (s :: r) e = thenF (evS ft cl pin s e) (evSs ft cl pin r) := by
  show (evS ft cl pin s e >>= fun x => _) = (evS ft cl pin s e >>= fun p => _)
  cases evS ft cl pin s e with
  | ok p => obtain ⟨f, e1⟩ := p; cases f <;> rfl
  | ex x => rfl
  | no => rfl
section
variable {xk : ExK} {ft : Nat → Fd} {cl : Cl} {pin : List Nat} {G : Gi} {I : Info} {X : Cx} {W : WX} {st : Stmt} {rest : List Stmt} {s : Sm} {r : List Sm}
theorem ss_nil : PSs X [] (rdSs xk X.K W ft cl pin []) := pss_nil.wk fun D σ H ⟨b, c, e, P, N, h⟩ => h σ c H (fun _ => rfl) N .refl
theorem ss_one (h : PS X st (rdS xk X.K W ft cl pin s)) : PSs X [st] (rdSs xk X.K W ft cl pin [s]) := (pss_one h).wk fun D σ H ⟨b, c, e, P, N, h⟩ => ⟨b, c, e, P, N, by
  have q : evSs ft cl pin [s] e = evS ft cl pin s e := by
    rw [evSs_cons]
    unfold thenF
    cases evS ft cl pin s e with
    | ok p => obtain ⟨f, e1⟩ := p; cases f <;> rfl
    | ex x => rfl
    | no => rfl
  rw [q] at h
  exact h.flag .refl (fun z => (and2 z).1) fun z => (and2 z).1⟩
theorem ss_cons {s2 : Sm} (h : PS X st (rdS xk X.K W ft cl pin s)) (hs : PSs X rest (rdSs xk X.K W ft cl pin (s2 :: r))) : PSs X (st :: rest) (rdSs xk X.K W ft cl pin (s :: s2 :: r)) :=
  (pss_cons h hs).wk fun D σ H ⟨b, c, e, P, N, h⟩ => by
    rw [evSs_cons] at h
    refine ⟨b, c, e, P, N, ?_⟩
    have q := h.seq (kp1 := keeps s) (kp' := keepss (s2 :: r)) (rq1 := rqt s) (rq' := rqts (s2 :: r)) (fun z => and2 z) fun z => ⟨(and2 z).1, and2 (and2 z).2⟩
    exact q.ends (fun _ _ _ _ _ _ ⟨c2, e2, N2, _, q2⟩ => ⟨b, c2, e2, P, N2, q2⟩) fun _ _ q => q
theorem ss_pass {pos : Pos} : PS X (.Pass pos) (rdS xk X.K W ft cl pin .pass) := ps_pass.wk fun D σ H ⟨b, c, e, P, N, h⟩ => h σ c H (fun _ => rfl) N .refl
variable {pe pt : Expr} {x y : Ex} {pos : Pos}
theorem ss_drop (he : PE X pe (rdE xk X.K W ft cl x)) (hs : swapsWith pe none pos.line X.env = pure false) : PS X (.Expr pe pos) (rdS xk X.K W ft cl pin (.drop x)) :=
  (ps_expr he hs).wk fun D σ H ⟨b, c, e, P, N, h⟩ => ⟨c, e, N.str, (PostS.ex N h).imp fun a e1 c1 H1 s1 f1 p v rv => p σ c1 H1 (fun _ => rfl) (N.on s1 f1) f1⟩
theorem ss_if {a b : List Sm} {sa sb : List Stmt} (hc : PT X pe (rdT xk X.K W ft cl x)) (ha : PSs X sa (rdSs xk X.K W ft cl pin a)) (hb : PSs X sb (rdSs xk X.K W ft cl pin b)) : PS X (.If pe sa sb pos) (rdS xk X.K W ft cl pin (.ife x a b)) :=
  (ps_if hc ha hb).wk fun D σ H ⟨b, c, e, P, N, h⟩ => ⟨c, e, N.str, (PostS.ex N h).imp fun t e1 c1 H1 s1 f1 p => by
    cases t with
    | true => exact iteT ⟨b, c1, e1, P, N.on s1 f1, PostS.flag (m := evSs ft cl pin a e1) p f1 (fun z => (and2 z).1) fun z => (and2 z).1⟩
    | false => exact iteF ⟨b, c1, e1, P, N.on s1 f1, PostS.flag (m := evSs ft cl pin _ e1) p f1 (fun z => (and2 z).2) fun z => (and2 z).2⟩⟩
theorem noEx_setR {e : En} {i : Nat} {r : Res} : NoEx (setR pin i r e) := noEx_stow.bind fun _ => .ite .ok .no
/-- a result gets into slot i -/
theorem setR_ok {b : Bs} {c c1 : Clr} {H H1 : Hp} {e e1 e2 : En} {σ : L2.St} {v : V} {r : Res} {i : Nat} (N : Now X.K pin b c H e σ) (s1 : StR X.K H1 c1 e1 σ) (f1 : Fm c H c1 H1) (rv : RR X.K H H1 c1 σ v r) (q : setR pin i r e1 = .ok e2) :
    ∃ c2, Now X.K pin b c2 H1 e2 (σ.set i (some v)) ∧ Fm c H c2 H1 := by
  unfold setR at q
  cases h1 : stow e1 r with
  | ok p =>
    obtain ⟨sv, e3⟩ := p
    rw [h1] at q
    have q : (if i < e3.length ∧ i ∉ pin then R.ok (e3.set i (some sv)) else .no) = R.ok e2 := q
    split at q
    · rename_i hi
      cases q
      obtain ⟨c2, s2, f2, F2, t2, r2⟩ := stow_ok s1 f1 rv h1
      obtain ⟨c3, s3, f3, _⟩ := put_ok s2 f2 r2 (fun _ h => h) i
      exact ⟨c3, ⟨s3, N.fm.trans f3, set_pn N.pn hi.2⟩, f3⟩
    · cases q
  | ex x => rw [h1] at q; cases q
  | no => rw [h1] at q; cases q
theorem ss_set_ {i : Nat} {te : TE} (h : PS X st (tAsg te (gName i))) (he : ∀ σ H Q, rdE xk X.K W ft cl x σ H Q → te σ H Q) : PS X st (rdS xk X.K W ft cl pin (.asg (.nm i) x)) :=
  h.wk fun D σ H ⟨b, c, e, P, N, h⟩ => he σ H _ ⟨c, e, N.str, (PostS.ex N h).imp fun r e1 c1 H1 s1 f1 p v rv => by
    obtain ⟨e2, h2, p⟩ := p.get noEx_setR
    obtain ⟨c2, N2, f2⟩ := setR_ok N s1 f1 rv h2
    exact p _ c2 H1 (fun z => absurd z Bool.false_ne_true) N2 f2⟩
end
end Nm
set_option Elab.async false
set_option maxRecDepth 100000
set_option linter.all false
namespace Nm
open PySem L2 PyProof.Rows
section
variable {K : PySem.W.Frag} {pin : List Nat} {b : Bs} {c : Clr} {H : Hp} {e : En} {σ : L2.St} {x : Nat} {ds : List D}
theorem set_same {σ : L2.St} {i : Nat} {o : Option V} (h : σ[i]? = some o) : σ.set i o = σ := by
  refine List.ext_getElem? fun j => ?_
  by_cases hj : i = j
  · subst hj
    rw [List.getElem?_set_self (List.getElem?_eq_some_iff.mp h).1, h]
  · rw [List.getElem?_set_ne hj]
/-- the list that slot x owns -/
theorem Now.own (N : Now K pin b c H e σ) (h : e.getD x none = some ⟨true, .list ds⟩) : ∃ a vs, σ[x]? = some (some (.ref a)) ∧ c a = .sl x ∧ H a = some (.lst vs) ∧ ds.length ≤ sizeLine ∧ RelDs K H (isSh c) vs ds := by
  obtain ⟨v, hv, a, e1, e2, vs, h1, hz, h2⟩ := N.str.at_ x _ (getD_some h)
  subst e1
  exact ⟨a, vs, hv, e2, h1, hz, h2⟩
/-- a frame through a write to what a slot owns -/
theorem Fm.owned {c0 : Clr} {H0 : Hp} {a : Addr} {vs : List V} {o : HO} (f : Fm c0 H0 c H) (hc : c a = .sl x) (hH : H a = some (.lst vs)) : Fm c0 H0 c (upd H a o) := by
  refine ⟨fun p o h n => ?_, fun p o h n => ?_, fun p h => ?_, f.col⟩
  · have hp : p ≠ a := fun z => by
      subst z
      rcases f.col p (by rw [h]; simp) with q | ⟨i, q, q'⟩
      · rw [hc] at q; exact n x q.symm
      · exact n i q
    rw [upd_ne hp]; exact f.keep p o h n
  · have q := f.keepI p o h n
    have hp : p ≠ a := fun z => by subst z; rw [hH] at q; cases q; exact n trivial
    rw [upd_ne hp]; exact q
  · by_cases hp : p = a
    · subst hp; rw [upd_same]; simp
    · rw [upd_ne hp]; exact f.there p h
/-- .. written -/
theorem Now.write {c0 : Clr} {H0 : Hp} (N : Now K pin b c H e σ) (f : Fm c0 H0 c H) {a : Addr} {vs ws : List V} {es : List D} (hx : x < e.length) (hv : σ[x]? = some (some (.ref a))) (hc : c a = .sl x) (hH : H a = some (.lst vs)) (r : RelDs K H (isSh c) ws es) (hz : es.length ≤ sizeLine) :
    Now K pin b c (upd H a (.lst ws)) (e.set x (some ⟨true, .list es⟩)) σ ∧ Fm c0 H0 c (upd H a (.lst ws)) := by
  have kp : Kp (isSh c) H (upd H a (.lst ws)) := fun p u h n => by
    have : p ≠ a := fun z => by
      subst z
      rw [hH] at h
      cases h
      rcases n with n | n
      · rw [show c p = .sh from n] at hc; cases hc
      · exact n trivial
    rw [upd_ne this]; exact h
  refine ⟨⟨⟨by rw [List.length_set]; exact N.str.len, fun j y hy => ?_⟩, N.fm.owned hc hH, N.pn⟩, f.owned hc hH⟩
  rcases getE_set hy with ⟨rfl, e1⟩ | ⟨hn, hy⟩
  · cases e1
    exact ⟨_, hv, a, rfl, hc, ws, upd_same, hz, r.tr kp fun _ _ e => e⟩
  · obtain ⟨v, h1, h2⟩ := N.str.at_ j y hy
    refine ⟨v, h1, ?_⟩
    match y, h2 with
    | ⟨false, d⟩, h2 => exact h2.tr kp fun _ _ e => e
    | ⟨true, d⟩, ⟨p, q1, q2, q3⟩ =>
      have hp : p ≠ a := fun z => by rw [z, hc] at q2; cases q2; exact hn rfl
      refine ⟨p, q1, q2, ?_⟩
      cases d with
      | list l => obtain ⟨zs, g1, g2, g3⟩ := q3; exact ⟨zs, by rw [upd_ne hp]; exact g1, g2, g3.tr kp fun _ _ e => e⟩
      | _ => exact q3
theorem own_lt {s : Sv} (h : e.getD x none = some s) : x < e.length := (List.getElem?_eq_some_iff.mp (getD_some h)).1
end
section
variable {xk : ExK} {ft : Nat → Fd} {cl : Cl} {pin : List Nat} {G : Gi} {I : Info} {X : Cx} {W : WX} {pe pt ei : Expr} {x xi : Ex} {pos p1 p2 : Pos}
/-- reading slot i where it owns a list -/
theorem rd_own {σ : L2.St} {H : Hp} {Q : VK} {c : Clr} {e : En} {i : Nat} {ds : List D} (s : StR X.K H c e σ) (h : e.getD i none = some ⟨true, .list ds⟩) (k : ∀ c' H', StR X.K H' c' e σ → Fm c H c' H' → ∀ v, σ[i]? = some (some v) → Q v H') : rdE xk X.K W ft cl (.var i) σ H Q := by
  refine ⟨c, e, s, ?_⟩
  show Post xk X.K W σ c H (match e[i]? with | some (some ⟨false, d⟩) => R.ok (Res.v false d, e) | some (some ⟨true, _⟩) => R.ok (Res.p i, e) | _ => R.no) _
  rw [getD_some h]
  exact k
theorem noEx_lst {o : Option Sv} : NoEx (lst? o) := by unfold lst?; split <;> first | exact .ok | exact .no
theorem noEx_int {o : Option Sv} : NoEx (int? o) := by unfold int?; split <;> first | exact .ok | exact .no
theorem noEx_asI {d : D} : NoEx (asI d) := by unfold asI; split <;> first | exact .ok | exact .no
theorem noEx_asL {d : D} : NoEx (asL d) := by unfold asL; split <;> first | exact .ok | exact .no
theorem lst_some {o : Option Sv} {xs : List D} (h : lst? o = .ok xs) : o = some ⟨true, .list xs⟩ := by
  unfold lst? at h
  split at h
  · cases h; rfl
  · cases h
theorem int_some {o : Option Sv} {i : Int} (h : int? o = .ok i) : o = some ⟨false, .int i⟩ := by
  unfold int? at h
  split at h
  · cases h; rfl
  · cases h
theorem asI_some {d : D} {i : Int} (h : asI d = .ok i) : d = .int i := by
  unfold asI at h
  split at h
  · cases h; rfl
  · cases h
theorem asL_some {d : D} {xs : List D} (h : asL d = .ok xs) : d = .list xs := by
  unfold asL at h
  split at h
  · cases h; rfl
  · cases h
theorem ofO_ok {α : Type} {o : Option α} {a : α} (h : R.ofO o = .ok a) : o = some a := by cases o <;> cases h; rfl
theorem swaps_sub {o i : Expr} {ps : Pos} {l : Nat} {env : Env} {e : Expr} : swapsWithSole [.Subscript o i ps] e l env = pure false := by cases e <;> rfl
theorem stores_sub {o i : Expr} {ps : Pos} {env : Env} {e : Expr} : swappedStores [.Subscript o i ps] e env = pure none := by cases e <;> rfl
/-- a result, fetched behind what was settled -/
theorem RR.shf {K : PySem.W.Frag} {H0 H : Hp} {c c' : Clr} {e : En} {σ : L2.St} {v : V} {r : Res} {d : D} (s : StR K H c' e σ) (F : Shf c c') (h : RR K H0 H c σ v r) (g : fetch e r = .ok d) : RelF K H c' v d := by
  match r, h, g with
  | .v false d', h, g => cases g; exact .inl (F.rel h)
  | .v true d', ⟨a, q1, _, _, q⟩, g => cases g; exact .inr ⟨a, q1, F.top q⟩
  | .p j, h, g => exact s.get (H0 := H) (r := .p j) h g
theorem ss_setix {i : Nat} {po : Expr} (ho : PE X po (rdE xk X.K W ft cl (.var i))) (hi : PE X ei (rdE xk X.K W ft cl xi)) (hv : PE X pe (rdE xk X.K W ft cl x)) (hn : notSlice ei = true) :
    PS X (.Assign [.Subscript po ei p1] pe pos) (rdS xk X.K W ft cl pin (.setix i xi x)) := by
  have ha : ∀ v, assign (.Subscript po ei p1) X.env v = (do
      let ov ← holding [v] (eval po X.env)
      let iv ← holding [v, ov] (eval ei X.env)
      standAt p1
      holding [v, ov, iv] (setItem ov iv v)
      release [v, ov, iv] []) := fun v => by cases ei <;> first | rfl | exact absurd hn Bool.false_ne_true
  refine (ps_asg hv (pg_sub ho hi set_list ha) swaps_sub stores_sub).wk fun D σ H ⟨b, c, e, P, N, h⟩ => ?_
  refine ⟨c, e, N.str, (PostS.ex N h).imp fun r e1 c1 H1 s1 f1 p v rv => ?_⟩
  obtain ⟨ds, h1, p⟩ := p.get noEx_lst
  refine rd_own s1 (lst_some h1) fun c2 H2 s2 f2 o ho => ?_
  refine ⟨c2, e1, s2, (PostS.step N (f1.trans f2) p).imp fun ri e3 c3 H3 s3 f3 ⟨g, p⟩ iv riv => ?_⟩
  obtain ⟨⟨d, e4⟩, g1, p⟩ := p.get embed_noEx
  obtain ⟨di, g2, p⟩ := p.get fetch_noEx
  obtain ⟨k, g3, p⟩ := p.get noEx_asI
  obtain ⟨xs, g4, p⟩ := p.get noEx_lst
  obtain ⟨j, g5, p⟩ := p.get noEx_ofO
  obtain ⟨c4, s4, r4, f4, F4⟩ := embed_ok s3 g ((rv.fm f2).fm f3).rw_ g1
  have N4 := N.on s4 f4
  have riv4 : RelF X.K H3 c4 iv di := RR.shf s4 F4 riv g2
  rw [asI_some g3] at riv4
  have g4 := lst_some g4
  obtain ⟨a, vs, q1, q2, q3, q4, q5⟩ := N4.own g4
  rw [ho] at q1
  cases q1
  obtain ⟨N5, f5⟩ := N4.write f4 (own_lt g4) ho q2 q3 (q5.set r4 j) (by rw [List.length_set]; exact q4)
  exact ⟨a, vs, k, j, rfl, riv4.int, q3, by rw [q5.length]; exact ofO_ok g5, p σ c4 _ (fun _ => rfl) N5 f5⟩
/-- name += .. -/
theorem ss_aug {i : Nat} {n : Str} (hs : Hs I X) (ht : I.tslot i n = true) (hv : PE X pe (rdE xk X.K W ft cl x)) : PS X (.AugAssign (.Name n p1) .Add pe pos) (rdS xk X.K W ft cl pin (.aug i .add x)) := by
  obtain ⟨h1, h2, h3⟩ := tslot_of ht
  have ip : PIp X .Add (fun x y H Q => ipI (fun i j => i + j) x y H Q ∨ rExt2 x y H Q) := fun pins s σ H x y v u Q I r1 r2 h => h.elim (ip_add pins s σ H x y v u Q I r1 r2) (iop_ext pins s σ H x y v u Q I r1 r2)
  refine (ps_aug (i := i) (by rw [hs.N]; exact hs.nd) (by rw [hs.N]; exact h1) (by rw [hs.sc]; exact h2) hv ip (by rw [hs.fn, hs.sc]; exact h3)).wk fun D σ H ⟨b, c, e, P, N, h⟩ => ?_
  have h : PostS xk X.K W pin b c H σ false false (match lst? (e.getD i none) with
    | .ok _ => (evE ft cl x e >>= fun p => fetch p.2 p.1 >>= fun d => asL d >>= fun ys => lst? (p.2.getD i none) >>= fun xs => if xs.length + ys.length ≤ sizeLine then R.ok (Fl.nx, p.2.set i (some ⟨true, .list (xs ++ ys)⟩)) else .no)
    | _ => (int? (e.getD i none) >>= fun k => evE ft cl x e >>= fun p => fetch p.2 p.1 >>= fun d => asI d >>= fun j => if i < p.2.length ∧ i ∉ pin then R.ok (Fl.nx, p.2.set i (some ⟨false, .int (k + j)⟩)) else .no)) D := h
  have int : PostS xk X.K W pin b c H σ false false (int? (e.getD i none) >>= fun k => evE ft cl x e >>= fun p => fetch p.2 p.1 >>= fun d => asI d >>= fun j => if i < p.2.length ∧ i ∉ pin then R.ok (Fl.nx, p.2.set i (some ⟨false, .int (k + j)⟩)) else .no) D →
      tAug i (rdE xk X.K W ft cl x) (fun x y H Q => ipI (fun i j => i + j) x y H Q ∨ rExt2 x y H Q) D σ H := fun h => by
    obtain ⟨k, g1, p⟩ := h.get noEx_int
    obtain ⟨v, hv', r⟩ := N.str.at_ i _ (getD_some (int_some g1))
    have r : RelS X.K H c v (.int k) := r
    have hk : v = .int k := RelF.int (c := c) (H := H) (K := X.K) (.inl r)
    subst hk
    refine ⟨.int k, hv', c, e, N.str, (PostS.ex N p).imp fun r e1 c1 H1 s1 f1 p v rv => ?_⟩
    obtain ⟨d, g2, p⟩ := p.get fetch_noEx
    obtain ⟨j, g3, p⟩ := p.get noEx_asI
    have rv' := s1.get rv g2
    rw [asI_some g3] at rv'
    have p : PostS xk X.K W pin b c H σ false false (if i < e1.length ∧ i ∉ pin then R.ok (Fl.nx, e1.set i (some ⟨false, .int (k + j)⟩)) else .no) D := p
    split at p
    · rename_i hc
      exact .inl ⟨k, j, rfl, rv'.int, p _ c1 H1 (fun z => absurd z Bool.false_ne_true) ⟨s1.put (x := ⟨false, .int (k + j)⟩) (.inl (.int _)), N.fm.trans f1, set_pn N.pn hc.2⟩ f1⟩
    · exact p.elim
  cases hl : lst? (e.getD i none) with
  | ok zs =>
    rw [hl] at h
    obtain ⟨a, vs, q1, _⟩ := N.own (lst_some hl)
    refine ⟨.ref a, q1, c, e, N.str, (PostS.ex (m := evE ft cl x e) N h).imp fun r e1 c1 H1 s1 f1 p v rv => ?_⟩
    have N1 := N.on s1 f1
    obtain ⟨d, g2, p⟩ := p.get fetch_noEx
    obtain ⟨ys, g3, p⟩ := p.get noEx_asL
    obtain ⟨xs, g4, p⟩ := p.get noEx_lst
    have rv' := s1.get rv g2
    rw [asL_some g3] at rv'
    obtain ⟨b', ws, rfl, hb, hz, hr⟩ := rv'.list
    have g4 := lst_some g4
    obtain ⟨a', us, w1, w2, w3, w4, w5⟩ := N1.own g4
    rw [q1] at w1
    cases w1
    have p : PostS xk X.K W pin b c H σ false false (if xs.length + ys.length ≤ sizeLine then R.ok (Fl.nx, e1.set i (some ⟨true, .list (xs ++ ys)⟩)) else .no) D := p
    split at p
    · rename_i hc
      refine .inr ⟨a, b', us, ws, rfl, rfl, w3, hb, by rw [w5.length, hr.length]; exact hc, ?_⟩
      show D.nx (List.set σ i (some (V.ref a))) _
      rw [set_same q1]
      obtain ⟨N5, f5⟩ := N1.write f1 (own_lt g4) q1 w2 w3 (w5.append hr) (by rw [List.length_append]; exact hc)
      exact p _ c1 _ (fun z => absurd z Bool.false_ne_true) N5 f5
    · exact p.elim
  | ex x => rw [hl] at h; exact int h
  | no => rw [hl] at h; exact int h
/-- name.append(..) -/
theorem ss_app {i : Nat} {n : Str} {pn pa pc : Pos} (ho : PE X (.Name n pn) (rdE xk X.K W ft cl (.var i))) (hv : PE X pe (rdE xk X.K W ft cl x)) (hp : plainArg pe = true) (hl : (pa.endLine == pc.line) = true) :
    PS X (.Expr (.Call (.Attribute (.Name n pn) "append" pa) [pe] [] pc) pos) (rdS xk X.K W ft cl pin (.app i x)) := by
  have h1 : starEach [pe] X.env = (false, eval pe X.env) :: starEach [] X.env := plainArg_star hp
  have few : ((backTo pc (starEach [pe] X.env)).all (fun x => !x.1) && (backToKw pc (keywordEach [] X.env)).all (fun x => x.1.isSome)
      && decide (([pe] : List Expr).length + ([] : List Keyword).length + (if ([] : List Keyword).isEmpty then 0 else 1) < 30)) = true := by rw [h1]; rfl
  refine (ps_expr (pe_bm PySem.F.plainAttrs_list PySem.F.slot_list_append PySem.F.type_list_append mt_append ho (pa_cons hv pa_nil h1) rfl few hl h1 rfl) rfl).wk fun D σ H ⟨b, c, e, P, N, h⟩ => ?_
  obtain ⟨ds, g1, p⟩ := h.get noEx_lst
  have g1 := lst_some g1
  refine rd_own N.str g1 fun c1 H1 s1 f1 o ho => ?_
  obtain ⟨a, vs, q1, q2, q3, q4, q5⟩ := (N.on s1 f1).own g1
  rw [ho] at q1
  cases q1
  refine ⟨.inl ⟨rfl, _, SqL.of q3⟩, c1, e, s1, (PostS.step N f1 p).imp fun r e2 c2 H2 s2 f2 ⟨g, p⟩ v rv => ?_⟩
  obtain ⟨⟨d, e3⟩, g2, p⟩ := p.get embed_noEx
  obtain ⟨xs, g3, p⟩ := p.get noEx_lst
  obtain ⟨c3, s3, r3, f3, F3⟩ := embed_ok s2 g (rv.up f1).rw_ g2
  have N3 := N.on s3 f3
  have g3 := lst_some g3
  obtain ⟨a', us, w1, w2, w3, w4, w5⟩ := N3.own g3
  rw [ho] at w1
  cases w1
  have p : PostS xk X.K W pin b c H σ false false (if xs.length < sizeLine then R.ok (Fl.nx, e3.set i (some ⟨true, .list (xs ++ [d])⟩)) else .no) D := p
  split at p
  · rename_i hc
    obtain ⟨N5, f5⟩ := N3.write f3 (own_lt g3) ho w2 w3 (w5.append (.cons r3 .nil)) (by rw [List.length_append]; exact hc)
    exact ⟨a, us, v, rfl, rfl, w3, by rw [w5.length]; exact hc, p _ c3 _ (fun z => absurd z Bool.false_ne_true) N5 f5⟩
  · exact p.elim
end
end Nm
set_option Elab.async false
set_option maxRecDepth 100000
set_option linter.all false
namespace Nm
open PySem L2 PyProof.Rows
section
variable {xk : ExK} {ft : Nat → Fd} {cl : Cl} {pin : List Nat} {G : Gi} {I : Info} {X : Cx} {W : WX} {pe pt ei : Expr} {x y : Ex} {pos p1 p2 : Pos}
mutual
theorem tgOk_out : ∀ {t : Tg} {pin : List Nat}, tgOk pin t = true → ∀ j, j ∈ pin → j ∉ tgNames t
  | .nm i, pin, h, j, hj => fun m => by
    have h : (!pin.contains i) = true := h
    cases List.mem_singleton.mp m
    simp [hj] at h
  | .tp ts, pin, h, j, hj => tgsOk_out h j hj
theorem tgsOk_out : ∀ {ts : List Tg} {pin : List Nat}, tgsOk pin ts = true → ∀ j, j ∈ pin → j ∉ tgsNames ts
  | [], _, _, _, _ => fun m => nomatch m
  | t :: ts, pin, h, j, hj => fun m => by
    obtain ⟨h1, h2⟩ := and2 (show (tgOk pin t && tgsOk pin ts) = true from h)
    rcases List.mem_append.mp (show j ∈ tgNames t ++ tgsNames ts from m) with m | m
    · exact tgOk_out h1 j hj m
    · exact tgsOk_out h2 j hj m
end
/-- (a, b, ..) = .. -/
theorem ss_asgT {ts : List Tg} {es : List Expr} {k : Nat} (hs : Hs I X) (ht : chkT I (.tp ts) (.Tuple es k p1) = true) (hv : PE X pe (rdE xk X.K W ft cl x)) (hn : swapsWithSole [.Tuple es k p1] pe pos.line X.env = pure false) (hw : swappedStores [.Tuple es k p1] pe X.env = pure none) :
    PS X (.Assign [.Tuple es k p1] pe pos) (rdS xk X.K W ft cl pin (.asg (.tp ts) x)) :=
  (ps_asg hv (pg_ok hs ht) hn hw).wk fun D σ H ⟨b, c, e, P, N, h⟩ => ⟨c, e, N.str, (PostS.ex N h).imp fun r e1 c1 H1 s1 f1 p v rv => by
    obtain ⟨⟨d, e2⟩, g1, p⟩ := p.get settle_noEx
    obtain ⟨c2, s2, r2, f2, F2⟩ := settle_ok s1 f1 rv.rw_ g1
    have p : PostS xk X.K W pin b c H σ false false (if tgsOk pin ts = true then (bindT (.tp ts) d e2 >>= fun e => R.ok (Fl.nx, e)) else .no) D := p
    split at p
    · rename_i ho
      obtain ⟨e3, g2, p⟩ := p.get noEx_bindT
      exact ⟨c2, e2, d, e3, s2, r2, g2, fun σ' s' l' k' => p σ' c2 H1 (fun z => absurd z Bool.false_ne_true) ⟨s', N.fm.trans f2, fun j hj => (k' j (tgsOk_out ho j hj)).trans (N.pn j hj)⟩ f2⟩
    · exact p.elim⟩
/-- a, b = .., .. -/
theorem ss_par {i j : Nat} {n m : Str} {ea eb : Expr} {kt k2 : Nat} {pa pb pt1 pt2 : Pos} (hs : Hs I X) (hi : I.N[i]? = some n) (hj : I.N[j]? = some m) (hn : I.sc.names.lookup n = some .local) (hm : I.sc.names.lookup m = some .local)
    (ha : PE X ea (rdE xk X.K W ft cl x)) (hb : PE X eb (rdE xk X.K W ft cl y)) (h1 : plainArg ea = true) (h2 : plainArg eb = true) (hij : i ≠ j)
    (hw : swappedStores [.Tuple [.Name n pa, .Name m pb] kt pt1] (.Tuple [ea, eb] k2 pt2) X.env = pure (some [n, m])) :
    PS X (.Assign [.Tuple [.Name n pa, .Name m pb] kt pt1] (.Tuple [ea, eb] k2 pt2) pos) (rdS xk X.K W ft cl pin (.par i j x y)) :=
  (ps_par hs.calm (by rw [hs.N]; exact hs.nd) (by rw [hs.N]; exact hi) (by rw [hs.N]; exact hj) hij (by rw [hs.sc]; exact hn) (by rw [hs.sc]; exact hm) (s_cons (xs := .cons y .nil) h1 ha (s_cons h2 hb s_nil)) hw).wk fun D σ H ⟨b, c, e, P, N, h⟩ => by
    have asc : ∀ {α β γ : Type} (m : R α) (g : α → R β) (k : β → R γ), (m >>= g) >>= k = m >>= fun a => g a >>= k := fun m g k => by cases m <;> rfl
    refine ⟨c, e, N.str, ?_⟩
    have h : PostS xk X.K W pin b c H σ false false (evEs ft cl (.cons x (.cons y .nil)) e >>= fun q => match q.1 with
      | [ra, rb] => stow q.2 ra >>= fun u => stow u.2 rb >>= fun w => if i < w.2.length ∧ j < w.2.length ∧ i ≠ j ∧ i ∉ pin ∧ j ∉ pin then R.ok (Fl.nx, (w.2.set i (some u.1)).set j (some w.1)) else .no
      | _ => .no) D := by
      show PostS xk X.K W pin b c H σ false false ((evE ft cl x e >>= fun p => (evE ft cl y p.2 >>= fun q => R.ok ([], q.2) >>= fun z => R.ok (q.1 :: z.1, z.2)) >>= fun q => R.ok (p.1 :: q.1, q.2)) >>= _) D
      simp only [asc]
      exact h
    refine (PostS.ex N h).known.imp fun rs e1 c1 H1 s1 f1 ⟨hk, p⟩ vs rv nd => ?_
    have hl : rs.length = 2 := evEs_len hk
    match rs, hl with
    | [ra, rb], _ =>
      cases rv with
      | cons rva rv => cases rv with
        | cons rvb rv =>
          cases rv
          rename_i v w
          refine ⟨v, w, rfl, ?_⟩
          have p : PostS xk X.K W pin b c H σ false false (stow e1 ra >>= fun u => stow u.2 rb >>= fun w => if i < w.2.length ∧ j < w.2.length ∧ i ≠ j ∧ i ∉ pin ∧ j ∉ pin then R.ok (Fl.nx, (w.2.set i (some u.1)).set j (some w.1)) else .no) D := p
          obtain ⟨⟨sa, e2⟩, g1, p⟩ := p.get noEx_stow
          obtain ⟨⟨sb, e3⟩, g2, p⟩ := p.get noEx_stow
          have p : PostS xk X.K W pin b c H σ false false (if i < e3.length ∧ j < e3.length ∧ i ≠ j ∧ i ∉ pin ∧ j ∉ pin then R.ok (Fl.nx, (e3.set i (some sa)).set j (some sb)) else .no) D := p
          split at p
          · rename_i hc
            obtain ⟨c2, s2, f2, F2, t2, r2⟩ := stow_ok s1 f1 rva g1
            have rvb2 : RR X.K H H1 c2 σ w rb := by
              match rb, rvb with
              | .v false d, q => exact F2.rel q
              | .v true d, ⟨a, q1, q2, q3, q4⟩ => exact ⟨a, q1, t2 a q2, q3, F2.top q4⟩
              | .p l, q => exact q
            obtain ⟨c3, s3, f3, F3, t3, r3⟩ := stow_ok s2 f2 rvb2 g2
            have r2' := SvR.shf F3 t3 r2
            obtain ⟨c4, s4, f4, sh4, k4⟩ := put_ok s3 f3 r2' (fun _ h => h) i
            have r4 : SvR X.K H H1 c4 w sb := by
              match sb, r3 with
              | ⟨false, d⟩, q => exact q.mono sh4
              | ⟨true, d⟩, ⟨a, q1, q2, q3, q4⟩ =>
                refine ⟨a, q1, ?_, q3, Top.mono sh4 q4⟩
                rw [k4 a ?_]
                · exact q2
                · -- both new: apart
                  intro ho hv
                  have h1 : ∃ d, ra = .v true d := by
                    cases ra with
                    | v o d => cases g1; cases (show o = true from ho); exact ⟨d, rfl⟩
                    | p l =>
                      have g1 : (settle e1 (.p l) >>= fun q => R.ok (⟨false, q.1⟩, q.2)) = R.ok (sa, e2) := g1
                      cases hq : settle e1 (.p l) with
                      | ok q => rw [hq] at g1; cases g1; cases ho
                      | ex _ => rw [hq] at g1; cases g1
                      | no => rw [hq] at g1; cases g1
                  have h2 : ∃ d, rb = .v true d := by
                    cases rb with
                    | v o d => cases g2; exact ⟨d, rfl⟩
                    | p l =>
                      have g2 : (settle e2 (.p l) >>= fun q => R.ok ((⟨false, q.1⟩ : Sv), q.2)) = R.ok ((⟨true, d⟩ : Sv), e3) := g2
                      cases hq : settle e2 (.p l) with
                      | ok q => rw [hq] at g2; cases g2
                      | ex _ => rw [hq] at g2; cases g2
                      | no => rw [hq] at g2; cases g2
                  obtain ⟨d1, rfl⟩ := h1
                  obtain ⟨d2, rfl⟩ := h2
                  subst hv; subst q1
                  exact absurd (show a ∈ [a] from List.mem_singleton.mpr rfl) (List.nodup_cons.mp nd).1
            obtain ⟨c5, s5, f5, _⟩ := put_ok s4 f4 r4 (fun _ h => h) j
            exact p _ c5 H1 (fun z => absurd z Bool.false_ne_true) ⟨s5, N.fm.trans f5, set_pn (set_pn N.pn hc.2.2.2.1) hc.2.2.2.2⟩ f5
          · exact p.elim
end
end Nm
set_option Elab.async false
set_option maxRecDepth 100000
set_option linter.all false
namespace Nm
open PySem L2 PyProof.Rows
section
variable {xk : ExK} {ft : Nat → Fd} {cl : Cl} {pin : List Nat} {G : Gi} {I : Info} {X : Cx} {W : WX} {pe pt ei : Expr} {x y : Ex} {pos p1 p2 : Pos}
theorem loopF_cons {body : En → R (Fl × En)} {t : Tg} {d : D} {ds : List D} {e : En} : loopF body t (d :: ds) e = (bindT t d e >>= fun e1 => thenF (body e1) (loopF body t ds)) := by
  show (bindT t d e >>= fun e1 => _) = _
  cases bindT t d e with
  | ok e1 =>
    show (body e1 >>= fun p => _) = (body e1 >>= fun p => _)
    cases body e1 with
    | ok p => obtain ⟨f, e2⟩ := p; cases f <;> rfl
    | ex x => rfl
    | no => rfl
  | ex x => rfl
  | no => rfl
theorem ss_for {t : Tg} {it : Wk} {bd : List Sm} {sb : List Stmt} (hs : Hs I X) (hp : PassesOwn (model X.prog X.w) X.A X.env X.xe) (ht : chkT I t pt = true) (hi : PI X pt ei (rdI xk X.K W ft cl it)) (hn : notSet ei = true) (hb : PSs X sb (rdSs xk X.K W ft cl pin bd)) :
    PS X (.For pt ei sb [] pos) (rdS xk X.K W ft cl pin (.for_ t it bd)) :=
  (ps_for hp hs.calm hi (pg_ok hs ht) hb (notSet_fold hn)).wk fun D σ H ⟨b, c, e, P, N, h⟩ => ⟨c, e, N.str, (PostS.ex N h).imp fun ds e1 c1 H1 s1 f1 p => by
    intro hlen J wk
    have p : PostS xk X.K W pin b c H σ false false (if tgOk pin t = true then loopF (fun e => evSs ft cl pin bd e) t ds e1 else .no) D := p
    split at p
    · rename_i ho
      have wlk : Walk J ds.length (fun H' => ∃ c', Fm c1 H1 c' H') (fun i H' x H'' => ∀ d, ds[i]? = some d → ∀ c', Fm c1 H1 c' H' → ∃ c3, Nw c' H' c3 H'' ∧ RelS X.K H'' c3 x d) :=
        ⟨fun i H' hi ⟨c', f⟩ => wk.goes i c' H' hi f.fs, fun H' ⟨c', f⟩ => wk.stops c' H' f.fs, fun i H' x H'' hi _ y d hd c' f => wk.yields i c' H' x H'' d hd f.fs y⟩
      refine for_it wlk (fun i σ' H' => ∃ c' e', Now X.K pin b c' H' e' σ' ∧ Fm c1 H1 c' H' ∧ PostS xk X.K W pin b c' H' σ' false false (loopF (fun e => evSs ft cl pin bd e) t (ds.drop i) e') D) ?_ ?_ ?_ ?_
      · exact ⟨c1, e1, N.on s1 f1, .refl, p.flag f1 (fun z => z) fun z => z⟩
      · rintro i σ' H' _ ⟨c', e', _, f', _⟩
        exact ⟨c', f'⟩
      · rintro i x σ' H' H'' hi ⟨c', e', N', f', p⟩ y
        have hx : ds[i]? = some ds[i] := List.getElem?_eq_getElem hi
        obtain ⟨c3, n3, r3⟩ := y _ hx c' f'
        rw [List.drop_eq_getElem_cons hi, loopF_cons] at p
        obtain ⟨e2, hb2, p⟩ := p.get noEx_bindT
        refine ⟨c3, e', ds[i], e2, n3.str N'.str, r3, hb2, fun σ2 s2 l2 k2 => ⟨b, c3, e2, P, ?_, ?_⟩⟩
        · exact ⟨s2, N'.fm.trans n3.fm, fun j hj => (k2 j (tgOk_out ho j hj)).trans (N'.pn j hj)⟩
        · have p := (p.move (kp' := false) (rq' := false) (σ1 := σ2) n3.fm (fun z => absurd z Bool.false_ne_true) (fun z => absurd z Bool.false_ne_true)).seq (kp1 := keepss bd) (rq1 := rqts bd) (kp' := false) (rq' := false) (fun z => absurd z Bool.false_ne_true) fun z => absurd z Bool.false_ne_true
          exact p.ends (fun _ σ4 c4 H4 _ _ ⟨c5, e5, N5, g5, q5⟩ => ⟨c5, e5, N5, f'.trans (n3.fm.trans g5), q5⟩) fun _ _ q => q
      · rintro σ' H' ⟨c', e', N', f', p⟩
        rw [List.drop_length] at p
        exact p σ' c' H' (fun _ => rfl) N' .refl
    · exact p.elim⟩
theorem loopW_succ {cnd : En → R (Bool × En)} {body : En → R (Fl × En)} {n : Nat} {e : En} : loopW cnd body (n + 1) e = (cnd e >>= fun p => if p.1 = true then thenF (body p.2) (loopW cnd body n) else R.ok (.nx, p.2)) := by
  show (cnd e >>= fun p => _) = _
  cases cnd e with
  | ok p =>
    obtain ⟨q, e1⟩ := p
    show (if q = true then (body e1 >>= fun p => _) else _) = (if q = true then (body e1 >>= fun p => _) else _)
    cases q with
    | true =>
      simp only [if_true]
      cases body e1 with
      | ok p => obtain ⟨f, e2⟩ := p; cases f <;> rfl
      | ex x => rfl
      | no => rfl
    | false => rfl
  | ex x => rfl
  | no => rfl
theorem ss_whl {bd : List Sm} {sb : List Stmt} (hp : PassesOwn (model X.prog X.w) X.A X.env X.xe) (hc : PT X pe (rdT xk X.K W ft cl x)) (hb : PSs X sb (rdSs xk X.K W ft cl pin bd)) : PS X (.While pe sb [] pos) (rdS xk X.K W ft cl pin (.whl x bd)) :=
  (ps_while hp hc hb).wk fun D σ H ⟨b, c, e, P, N, h⟩ => by
    have h : PostS xk X.K W pin b c H σ false false (loopW (fun e => asTest (evE ft cl x e)) (fun e => evSs ft cl pin bd e) wfuel e) D := h
    generalize wfuel = n at h
    refine ⟨fun m σ' H' => ∃ c' e', Now X.K pin b c' H' e' σ' ∧ PostS xk X.K W pin b c' H' σ' false false (loopW (fun e => asTest (evE ft cl x e)) (fun e => evSs ft cl pin bd e) m e') D, ⟨n, c, e, N, h⟩, ?_⟩
    rintro m σ' H' ⟨c', e', N', p⟩
    cases m with
    | zero => exact p.elim
    | succ m =>
      rw [loopW_succ] at p
      refine ⟨c', e', N'.str, (PostS.ex N' p).imp fun t e1 c1 H1 s1 f1 p => ?_⟩
      cases t with
      | true =>
        refine iteT ⟨_, fun σ2 H2 h2 => ⟨m, Nat.lt_succ_self m, h2⟩, b, c1, e1, P, N'.on s1 f1, ?_⟩
        have p : PostS xk X.K W pin b c' H' σ' false false (thenF (evSs ft cl pin bd e1) (loopW (fun e => asTest (evE ft cl x e)) (fun e => evSs ft cl pin bd e) m)) D := p
        have p := (p.flag (kp' := false) (rq' := false) f1 (fun z => z) (fun z => z)).seq (kp1 := keepss bd) (rq1 := rqts bd) (kp' := false) (rq' := false) (fun z => absurd z Bool.false_ne_true) fun z => absurd z Bool.false_ne_true
        exact p.ends (fun _ σ4 c4 H4 _ _ ⟨c5, e5, N5, g5, q5⟩ => ⟨c5, e5, N5, q5⟩) fun _ _ q => q
      | false => exact iteF (p σ' c1 H1 (fun z => rfl) (N'.on s1 f1) f1)
theorem ss_retN : PS X (.Return none pos) (rdS xk X.K W ft cl pin (.ret none)) := ps_retN.wk fun D σ H ⟨b, c, e, P, N, h⟩ => h σ .non c H N (.inl .none)
theorem ss_ret (he : PE X pe (rdE xk X.K W ft cl x)) : PS X (.Return (some pe) pos) (rdS xk X.K W ft cl pin (.ret (some x))) :=
  (ps_ret he).wk fun D σ H ⟨b, c, e, P, N, h⟩ => ⟨c, e, N.str, (PostS.ex N h).imp fun r e1 c1 H1 s1 f1 p v rv => by
    match r, rv, p with
    | .v false d, rv, p => exact p σ v c1 H1 (N.on s1 f1) rv
    | .v true d, ⟨a, q1, q2, q3, q4⟩, p => exact p σ v c1 H1 (N.on s1 f1) ⟨a, q1, q2, N.free q3, q4⟩
    | .p i, rv, p =>
      have rv : σ[i]? = some (some v) := rv
      have p : PostS xk X.K W pin b c H σ true true (if pin.contains i = true then (settle e1 (.p i) >>= fun q => R.ok (Fl.rt false q.1, q.2)) else (R.ofO (e1.getD i none) >>= fun s => R.ok (Fl.rt s.own s.d, e1.set i none))) D := p
      split at p
      · obtain ⟨⟨d, e2⟩, g1, p⟩ := p.get settle_noEx
        obtain ⟨c2, s2, r2, f2, F2⟩ := settle_ok (v := v) (H0 := H) s1 f1 (r := .p i) rv g1
        exact p σ v c2 H1 (N.on s2 f2) r2
      · rename_i hi
        obtain ⟨sv, g1, p⟩ := p.get noEx_ofO
        obtain ⟨w, hw, q⟩ := s1.at_ i sv (getD_some (ofO_ok g1))
        rw [rv] at hw
        cases hw
        match sv, q, p with
        | ⟨false, d⟩, q, p =>
          refine p σ v c1 H1 ⟨⟨by rw [List.length_set]; exact s1.len, fun j y hy => ?_⟩, N.fm.trans f1, N.pn⟩ q
          rcases getE_set hy with ⟨_, z⟩ | ⟨_, z⟩
          · cases z
          · exact s1.at_ j y z
        | ⟨true, d⟩, ⟨a, q1, q2, q3⟩, p =>
          have F := N.fm.trans f1
          have new : b.H a = none := by
            cases z : b.H a with
            | none => rfl
            | some o =>
              rcases F.col a (by rw [z]; simp) with k | ⟨j, _, k⟩
              · rw [q2] at k
                exact absurd (List.contains_iff_mem.mpr (P a i (by rw [z]; simp) k.symm)) hi
              · rw [q2] at k; cases k
          have sh : ∀ p, c1 p = .sh → cset c1 a .tmp p = .sh := fun p hp => by
            rw [cset_ne]
            · exact hp
            · rintro rfl; rw [q2] at hp; cases hp
          refine p σ v (cset c1 a .tmp) H1 ⟨⟨by rw [List.length_set]; exact s1.len, fun j y hy => ?_⟩, ⟨F.keep, F.keepI, F.there, fun p hp => ?_⟩, N.pn⟩ ⟨a, q1, cset_at, new, Top.mono sh q3⟩
          · rcases getE_set hy with ⟨_, z⟩ | ⟨hn, z⟩
            · cases z
            · obtain ⟨u, g2, g3⟩ := s1.at_ j y z
              refine ⟨u, g2, ?_⟩
              match y, g3 with
              | ⟨false, d⟩, g3 => exact g3.mono sh
              | ⟨true, d⟩, ⟨p, w1, w2, w3⟩ =>
                refine ⟨p, w1, ?_, Top.mono sh w3⟩
                rw [cset_ne]
                · exact w2
                · rintro rfl; rw [q2] at w2; cases w2; exact hn rfl
          · rw [cset_ne]
            · exact F.col p hp
            · rintro rfl; exact hp new⟩
end
end Nm
set_option Elab.async false
set_option maxRecDepth 100000
set_option linter.all false
/-! The check of statements, and that it suffices. -/
namespace Nm
open PySem L2 PyProof.Rows

def notComp : Expr → Bool
  | .ListComp _ _ _ _ => false
  | .SetComp _ _ _ _ => false
  | .DictComp _ _ _ _ _ => false
  | _ => true
def notTup : Expr → Bool
  | .Tuple _ _ _ => false
  | _ => true
/-- how many targets are the function's own names, on the first one's line -/
def swNames (I : Info) (es : List Expr) : Nat := (es.filterMap fun | .Name id pos => if I.sc.names.lookup id == some .local && pos.line == (es.head?.map (·.pos.line)).getD 0 then some id else none | _ => none).length
def isFnS (sc : Scope) : Bool := match sc.kind with
  | .function => true
  | _ => false
/-- name = [..], the store within the comprehension -/
def swp (I : Info) (n : Str) (pn : Pos) : Expr → Bool
  | .ListComp _ _ sc lp => isFnS I.sc && I.sc.names.lookup n == some .local && pn.line == lp.line && !(sc.names.any fun (m, k) => m == n && (k == .local || k == .cell))
  | _ => false
def notSD : Expr → Bool
  | .SetComp _ _ _ _ => false
  | .DictComp _ _ _ _ _ => false
  | _ => true
/-- one text, as an exception's argument -/
def msg1 : Exs → Bool
  | .cons (.cst (.str _)) .nil => true
  | _ => false
def strC : Expr → Bool
  | .Constant (.str _) _ _ => true
  | _ => false
def nameIs (p : Str → Bool) : Expr → Bool
  | .Name x _ => p x
  | _ => false
def one1 (p : Expr → Bool) : List Expr → Bool
  | [a] => p a
  | _ => false
/-- try: .. except C as n: m = n2 -/
def tryS (f : List Stmt → Str → Str → Str → Str → Bool) : Stmt → Bool
  | .Try body [.ExceptHandler (some (.Name cn _)) (some n) [.Assign [.Name m _] (.Name n2 _) _] _] [] [] _ => f body cn n m n2
  | _ => false
theorem tryS_of {f : List Stmt → Str → Str → Str → Str → Bool} {st : Stmt} (h : tryS f st = true) :
    ∃ body cn p1 n m p2 n2 p3 p4 p5 p6, st = .Try body [.ExceptHandler (some (.Name cn p1)) (some n) [.Assign [.Name m p2] (.Name n2 p3) p4] p5] [] [] p6 ∧ f body cn n m n2 = true := by
  unfold tryS at h
  split at h
  · exact ⟨_, _, _, _, _, _, _, _, _, _, _, rfl, h⟩
  · cases h
section
variable (G : Gi)
/-- C('..') -/
def chkR (k : Nat) (I : Info) : Expr → Bool
  | .Call f l [] _ => nameIs (fun x => G.excs.contains (x, k) && I.glb x && !(x == ("__debug__" : Str))) f && one1 strC l
  | _ => false
mutual
def chkS : Sm → Info → Stmt → Bool
  | .asg (.nm i) x, I, .Assign [.Name n _] e _ => I.tslot i n && chkE G x I e && notSD e && isFnS I.sc
  | .asg (.tp ts) x, I, .Assign [.Tuple es k p] e _ => chkT I (.tp ts) (.Tuple es k p) && chkE G x I e && (notTup e || decide (swNames I es ≠ es.length))
  | .par i j x y, I, .Assign [.Tuple [.Name n pa, .Name m pb] _ _] (.Tuple [ea, eb] _ _) _ =>
    decide (I.N[i]? = some n) && decide (I.N[j]? = some m) && I.sc.names.lookup n == some .local && I.sc.names.lookup m == some .local && chkE G x I ea && chkE G y I eb && plainArg ea && plainArg eb && decide (i ≠ j) && decide (n ≠ m) && decide (pb.line = pa.line) && isFnS I.sc
      && !([ea, eb].all (foldedForSure 8)) && !([ea, eb].all (constantsAlone 8))
  | .setix i xi x, I, .Assign [.Subscript (.Name n _) ei _] e _ => I.slot i n && chkE G xi I ei && notSlice ei && chkE G x I e
  | .aug i .add x, I, .AugAssign (.Name n _) .Add e _ => I.tslot i n && chkE G x I e
  | .app i x, I, .Expr (.Call (.Attribute (.Name n _) m pa) [e] [] pc) _ => I.slot i n && chkE G x I e && plainArg e && pa.endLine == pc.line && decide (m = "append")
  | .drop x, I, .Expr e _ => chkE G x I e && notComp e
  | .ife c a b, I, .If e sa sb _ => chkE G c I e && chkSs a I sa && chkSs b I sb
  | .for_ t it b, I, .For tg e sb [] _ => chkT I t tg && chkI G it t I tg e && notSet e && chkSs b I sb
  | .whl c b, I, .While e sb [] _ => chkE G c I e && chkSs b I sb
  | .ret none, _, .Return none _ => true
  | .ret (some x), I, .Return (some e) _ => chkE G x I e
  | .rse k es, I, .Raise (some e) none _ => msg1 es && plainX k && chkR G k I e
  | .try_ b x y c, I, st => tryS (fun body cn n m n2 => decide (c = 0) && G.excs.contains (cn, 0) && I.glb cn && !(cn == ("__debug__" : Str)) && I.sc.names.lookup n == some .local && I.slot x n && I.tslot y m && decide (n2 = n) && rqts b && decide (x ≠ y) && chkSs b I body) st
  | .pass, _, .Pass _ => true
  | _, _, _ => false
termination_by structural x => x
def chkSs : List Sm → Info → List Stmt → Bool
  | [], _, [] => true
  | s :: r, I, st :: sts => chkS s I st && chkSs r I sts
  | _, _, _ => false
end
end
/-- what statements need, beyond expressions -/
structure HyS (xk : ExK) (ft : Nat → Fd) (cl : Cl) (G : Gi) (I : Info) (X : Cx) (W : WX) : Prop extends Hy xk ft cl G I X W where
  pa : PassesOwn (model X.prog X.w) X.A X.env X.xe
  ex : ∀ x k, G.excs.contains (x, k) = true → plainX k = true → PySem.W.excIn X.K (excCl X.K k) He.veBase "ValueError.__new__" = true ∧ PySem.W.keepIn X.K (.ref (excCl X.K k)) = true ∧
    PySem.W.subIn X.K (.ref (excCl X.K k)) (.type "BaseException") = some true ∧ PySem.W.typeIn X.K (.ref (excCl X.K k)) = some (.type "type")
  fx : ∀ k, plainX k = true → xk.field k = none
  st : X.stack = X.env :: X.outer
  fr : X.env.frame = some X.env.locals
theorem HyS.tr {xk : ExK} {ft : Nat → Fd} {cl : Cl} {G : Gi} {I : Info} {X : Cx} {W W' : WX} {pn : List (Addr × Obj)} {xe : Value → Shared → Prop} (hy : HyS xk ft cl G I X W) (tk : Takes (X.tr pn xe) W') (pa : PassesOwn (model X.prog X.w) X.A X.env xe) : HyS xk ft cl G I (X.tr pn xe) W' :=
  { gl := ⟨hy.gl.fns, hy.gl.bl, hy.gl.np, hy.gl.cs, hy.gl.xs, hy.gl.xb⟩, N := hy.N, nd := hy.nd, sc := hy.sc, fn := hy.fn, calm := hy.calm, gd := hy.gd, un := hy.un, tk := tk, pa := pa, ex := hy.ex, fx := hy.fx, st := hy.st, fr := hy.fr }
section
variable {xk : ExK} {ft : Nat → Fd} {cl : Cl} {pin : List Nat} {G : Gi} {I : Info} {X : Cx} {W : WX} {pe pt ei : Expr} {x y : Ex} {pos p1 p2 : Pos}
theorem fnS_kind {sc : Scope} (h : isFnS sc = true) : sc.kind = .function := by
  unfold isFnS at h
  split at h
  · assumption
  · cases h
theorem block_fn {env : Env} (h : env.scope.kind = .function) : env.blockKind = .function := by unfold Env.blockKind; rw [h]; rfl
theorem drop_sw {e : Expr} {l : Nat} {env : Env} (h : notComp e = true) : swapsWith e none l env = pure false := by
  cases e <;> first | rfl | exact absurd h Bool.false_ne_true
theorem tup_sw {e : Expr} {es : List Expr} {k l : Nat} {p : Pos} {env : Env} : swapsWithSole [.Tuple es k p] e l env = pure false := by cases e <;> rfl
theorem tup_st {e : Expr} {es : List Expr} {k : Nat} {p : Pos} {env : Env} (h : notTup e = true) : swappedStores [.Tuple es k p] e env = pure none := by
  cases e <;> first | rfl | exact absurd h Bool.false_ne_true
theorem tup_stC {e : Expr} {es : List Expr} {k : Nat} {p : Pos} {env : Env} (hsc : env.scope = I.sc) (h : swNames I es ≠ es.length) : swappedStores [.Tuple es k p] e env = pure none := by
  cases e <;> try rfl
  rename_i vs k2 p2
  unfold swappedStores
  have hk : ∀ id, env.kindOf id = I.sc.names.lookup id := fun id => by rw [← hsc]; rfl
  have hn : (es.filterMap fun | .Name id pos => if env.kindOf id == some .local && pos.line == (es.head?.map (·.pos.line)).getD 0 then some id else none | _ => none).length ≠ es.length := by
    intro z
    refine h ?_
    unfold swNames
    rw [← z]
    congr 2
    funext x
    cases x <;> first | rfl | simp only [hk]
  simp only []
  split
  · rfl
  · split
    · rfl
    · rw [if_pos (by simp only [Bool.or_eq_true, bne_iff_ne, ne_eq]; exact .inl hn)]
theorem par_st {ea eb : Expr} {n m : Str} {pa pb q1 q2 : Pos} {k k2 : Nat} {env : Env} (hk : env.scope.kind = .function) (hn : env.scope.names.lookup n = some .local) (hm : env.scope.names.lookup m = some .local) (hl : pb.line = pa.line) (hne : n ≠ m)
    (h1 : plainArg ea = true) (h2 : plainArg eb = true) (h3 : [ea, eb].all (foldedForSure 8) = false) (h4 : [ea, eb].all (constantsAlone 8) = false) :
    swappedStores [.Tuple [.Name n pa, .Name m pb] k q1] (.Tuple [ea, eb] k2 q2) env = pure (some [n, m]) := by
  have b := block_fn hk
  have kn : env.kindOf n = some .local := hn
  have km : env.kindOf m = some .local := hm
  have e2 : ([n, m] : List Str).eraseDups.length = 2 := by
    have : (m == n) = false := by simpa using fun z => hne z.symm
    simp [List.eraseDups, List.eraseDupsBy, List.eraseDupsBy.loop, this]
  unfold swappedStores
  simp only [List.length_cons, List.length_nil, b, List.head?_cons, Option.map_some, Option.getD_some, List.filterMap_cons, List.filterMap_nil, kn, km, hl, Expr.pos, beq_self_eq_true, Bool.and_self, if_true, e2, h3, h4]
  refine (if_neg (by decide)).trans ((if_neg ?_).trans ?_)
  · simp only [List.any_cons, List.any_nil, Bool.or_false, Bool.or_eq_true, not_or]
    constructor
    · cases ea <;> first | exact Bool.false_ne_true | exact absurd h1 Bool.false_ne_true
    · cases eb <;> first | exact Bool.false_ne_true | exact absurd h2 Bool.false_ne_true
  · rfl
theorem ss_rse {k j : Nat} {n m m' : Str} {q1 q2 q3 : Pos} (hy : HyS xk ft cl G I X W) (hp : plainX k = true) (h : G.excs.contains (n, k) = true) (hg : I.glb n = true) (hd : (n == ("__debug__" : Str)) = false) :
    PS X (.Raise (some (.Call (.Name n q1) [.Constant (.str m) j q2] [] q3)) none pos) (rdS xk X.K W ft cl pin (.rse k (.cons (.cst (.str m')) .nil))) := by
  have h1 := hy.fx k hp
  obtain ⟨h2, h4, h5, h6⟩ := hy.ex n k h hp
  obtain ⟨hk, h3⟩ := hy.gl.xs n k h
  exact (ps_raise hy.calm hy.tk (pmk_own PySem.F.excBase_ValueError h2 h3 h4 (raises_own h5 h6) (hy.toHy.glob (glb_of hg)) hd)).wk fun D σ H ⟨b, c, e, P, N, h⟩ => h _ none σ c H (fun _ => rfl) N.fm .refl ⟨k, _, rfl, hk, rfl, by rw [h1]⟩
/-- behind what was raised -/
theorem calm_get {e : En} {i : Nat} {s : Sv} (h : (calmE e)[i]? = some (some s)) : s.own = false ∧ e[i]? = some (some s) := by
  unfold calmE at h
  rw [List.getElem?_map] at h
  cases q : e[i]? with
  | none => rw [q] at h; cases h
  | some o =>
    rw [q] at h
    match o, h with
    | some ⟨false, d⟩, h => cases h; exact ⟨rfl, rfl⟩
    | some ⟨true, d⟩, h => cases h
    | none, h => cases h
theorem ss_try {bd : List Sm} {i j : Nat} {body : List Stmt} {cn n m : Str} {q1 q2 q3 q4 q5 q6 : Pos} (hy : HyS xk ft cl G I X W) (hc : G.excs.contains (cn, 0) = true) (hg : I.glb cn = true) (hd : (cn == ("__debug__" : Str)) = false) (hl : I.sc.names.lookup n = some .local) (hs : I.slot i n = true) (ht : I.tslot j m = true) (hq : rqts bd = true) (hij : i ≠ j)
    (hb : ∀ (W' : WX) (pn : List (Addr × Obj)) (xe : Value → Shared → Prop), Takes (X.tr pn xe) W' → PassesOwn (model X.prog X.w) X.A X.env xe → PSs (X.tr pn xe) body (rdSs xk X.K W' ft cl pin bd)) :
    PS X (.Try body [.ExceptHandler (some (.Name cn q1)) (some n) [.Assign [.Name m q2] (.Name n q3) q4] q5] [] [] q6) (rdS xk X.K W ft cl pin (.try_ bd i j 0)) := by
  obtain ⟨s1, s2, s3, s4⟩ := slot_of hs
  obtain ⟨t1, t2, t3⟩ := tslot_of ht
  obtain ⟨k0, m0⟩ := hy.gl.xs cn 0 hc
  have hN : X.N[i]? = some n := by rw [hy.N]; exact s1
  have hM : X.N[j]? = some m := by rw [hy.N]; exact t1
  have nd : X.N.Nodup := by rw [hy.N]; exact hy.nd
  have hk : X.env.kindOf n = some .local := by show X.env.scope.names.lookup n = _; rw [hy.sc]; exact hl
  refine (ps_tryK (ts := fun _ => tAsg (tVar i) (gName j)) (x := cn) (c := .ref (excCl X.K 0)) hy.st hy.fr nd hN hk ⟨hy.toHy.glob (glb_of hg), hd, .inl m0⟩ hb fun a o pn hf => pss_one (ps_set (X := X.suite a ((a, o) :: pn)) nd hM (by show Loc X.env.scope m; rw [hy.sc]; exact t2) (pe_var hN (hy.vis s2) s3 s4) rfl (by show X.fn m = true ∨ X.env.scope.names.lookup m = some .local; rw [hy.fn, hy.sc]; exact t3))).wk ?_
  rintro D σ H ⟨b, c, e, P, N, h⟩
  refine ⟨b, c, e, P, N, ?_⟩
  have h : PostS xk X.K W pin b c H σ false false (match evSs ft cl pin bd e with
    | .ok p => .ok p
    | .ex v => if 0 = 0 ∧ plainV v = true ∧ i < e.length ∧ j < e.length ∧ i ≠ j ∧ i ∉ pin ∧ j ∉ pin then .ok (.nx, ((calmE e).set j (some ⟨false, v⟩)).set i none) else .no
    | .no => .no) D := h
  cases hm : evSs ft cl pin bd e with
  | no => rw [hm] at h; exact h
  | ok p =>
    rw [hm] at h
    obtain ⟨f, e1⟩ := p
    cases f with
    | nx => exact fun σ' c' H' _ N' f' => h σ' c' H' (fun z => absurd z Bool.false_ne_true) N' f'
    | rt o d => exact h
  | ex v =>
    rw [hm] at h
    dsimp only at h
    split at h
    · rename_i hh
      obtain ⟨_, hpl, hi, hj, _, hpi, hpj⟩ := hh
      intro cls dd σ' c' H' hσ f0 f1 hx
      cases hσ hq
      obtain ⟨k, fs, rfl, hk2, rfl, hf⟩ := hx
      have hpl : plainX k = true := hpl
      rw [hy.fx k hpl] at hf
      have hf : dd = none := hf
      subst hf
      refine ⟨(excB_ok hy.gl.xb hk2).exm k0, fun a ha => ⟨.ref a, ?_, ?_⟩⟩
      · rw [List.getElem?_set_self (by rw [← N.str.len]; exact hi)]
      · have n1 : Nw c' H' (cset c' a .sh) (upd H' a (ExH (.ref (excCl X.K k)) none a)) := .new ha
        refine h _ (cset c' a .sh) _ (fun z => absurd z Bool.false_ne_true) ⟨⟨?_, fun l s hs => ?_⟩, f0.trans n1.fm, set_pn (set_pn (set_pn N.pn hpi) hpj) hpi⟩ (f1.trans n1.fm)
        · simp [calmE, N.str.len]
        · by_cases hl : i = l
          · subst hl
            rw [List.getElem?_set_self (by simpa [calmE] using hi)] at hs
            cases hs
          · rw [List.getElem?_set_ne hl] at hs
            by_cases hl2 : j = l
            · subst hl2
              rw [List.getElem?_set_self (by simpa [calmE] using hj)] at hs
              cases hs
              refine ⟨.ref a, ?_, .inr (.inr ⟨k, fs, a, rfl, rfl, hk2, cset_at, upd_same⟩)⟩
              rw [List.getElem?_set_ne hl, List.getElem?_set_self (by rw [List.length_set, ← N.str.len]; exact hj)]
            · rw [List.getElem?_set_ne hl2] at hs
              obtain ⟨ho, hs⟩ := calm_get hs
              obtain ⟨w, hw, r⟩ := N.str.at_ l s hs
              refine ⟨w, ?_, ?_⟩
              · rw [List.getElem?_set_ne hl, List.getElem?_set_ne hl2, List.getElem?_set_ne hl, hw]
              · match s, ho, r with
                | ⟨false, d⟩, _, r => exact RelA.fm (f1.trans n1.fm) r
    · exact h.elim
end
end Nm
set_option Elab.async false
set_option maxRecDepth 100000
set_option linter.all false
/-! Every statement that the check lets through. -/
namespace Nm
open PySem L2 PyProof.Rows
section
variable {xk : ExK} {ft : Nat → Fd} {cl : Cl} {pin : List Nat} {G : Gi}
theorem sw_false {I : Info} {X : Cx} (hsc : X.env.scope = I.sc) (hf : isFnS I.sc = true) {n : Str} {pn : Pos} {l : Nat} {e : Expr} (h1 : notSD e = true) (h2 : swp I n pn e = false) : swapsWith e (some (.Name n pn)) l X.env = pure false := by
  cases e <;> first | rfl | exact absurd h1 Bool.false_ne_true | skip
  rename_i ee gs sc lp
  have hk : X.env.scope.kind = .function := by rw [hsc]; exact fnS_kind hf
  have b := block_fn hk
  have h2 : (isFnS I.sc && I.sc.names.lookup n == some .local && pn.line == lp.line && !(sc.names.any fun (m, k) => m == n && (k == .local || k == .cell))) = false := h2
  rw [hf, Bool.true_and] at h2
  have kn : X.env.kindOf n = I.sc.names.lookup n := by show X.env.scope.names.lookup n = _; rw [hsc]
  unfold swapsWith
  simp only [b, kn, Expr.pos]
  show pure _ = pure false
  congr 1
theorem sw_true_ {I : Info} {X : Cx} (hsc : X.env.scope = I.sc) {n : Str} {pn lp : Pos} {l : Nat} {ee : Expr} {gs : List Comprehension} {sc : Scope} (h : swp I n pn (.ListComp ee gs sc lp) = true) : swapsWith (.ListComp ee gs sc lp) (some (.Name n pn)) l X.env = pure true ∧ I.sc.names.lookup n = some .local := by
  have h : (isFnS I.sc && I.sc.names.lookup n == some .local && pn.line == lp.line && !(sc.names.any fun (m, k) => m == n && (k == .local || k == .cell))) = true := h
  obtain ⟨h, h4⟩ := and2 h
  obtain ⟨h, h3⟩ := and2 h
  obtain ⟨h1, h2⟩ := and2 h
  have h2 : I.sc.names.lookup n = some .local := by simpa using h2
  exact ⟨sw_true (by rw [hsc]; exact fnS_kind h1) (by rw [hsc]; exact h2) h3 (notb h4), h2⟩
/-- name = .. -/
theorem ss_asgN {I : Info} {X : Cx} {W : WX} (hy : HyS xk ft cl G I X W) {i : Nat} {n : Str} {pn pos : Pos} {x : Ex} {e : Expr} (ht : I.tslot i n = true) (hv : chkE G x I e = true) (h1 : notSD e = true) (hf : isFnS I.sc = true) :
    PS X (.Assign [.Name n pn] e pos) (rdS xk X.K W ft cl pin (.asg (.nm i) x)) := by
  obtain ⟨t1, t2, t3⟩ := tslot_of ht
  cases hs : swp I n pn e with
  | false => exact ss_set_ (ps_set (i := i) (by rw [hy.N]; exact hy.nd) (by rw [hy.N]; exact t1) (by rw [hy.sc]; exact t2) (snd x hv hy.toHy).1 (sw_false hy.sc hf h1 hs) (by rw [hy.fn, hy.sc]; exact t3)) fun _ _ _ q => q
  | true =>
    cases e <;> try exact absurd hs Bool.false_ne_true
    rename_i ee gs scope lp
    obtain ⟨w1, w2⟩ := sw_true_ (l := pos.line) hy.sc hs
    cases x <;> try exact absurd hv Bool.false_ne_true
    case mth m o es => cases es with
      | nil => exact absurd hv Bool.false_ne_true
      | cons y r => cases r <;> exact absurd hv Bool.false_ne_true
    case mk l it => cases it <;> first | exact absurd hv Bool.false_ne_true | (rename_i es; cases es <;> first | exact absurd hv Bool.false_ne_true | (rename_i es; cases es <;> first | exact absurd hv Bool.false_ne_true | (rename_i es; cases es <;> exact absurd hv Bool.false_ne_true)))
    case comp2 el tg it tg1 it1 cs own own1 =>
      obtain ⟨et, ei, et1, ei1, ec, hgs, g0⟩ := chkG2_of (show chkG2 _ gs = true from hv)
      subst hgs
      obtain ⟨g, h14⟩ := and2 g0
      obtain ⟨g, h13⟩ := and2 g
      obtain ⟨g, h12⟩ := and2 g
      obtain ⟨g, h11⟩ := and2 g
      obtain ⟨g, h10⟩ := and2 g
      obtain ⟨g, h9⟩ := and2 g
      obtain ⟨g, h8⟩ := and2 g
      obtain ⟨g, h7⟩ := and2 g
      obtain ⟨g, h6⟩ := and2 g
      obtain ⟨g, h5⟩ := and2 g
      obtain ⟨g, h4⟩ := and2 g
      obtain ⟨g, h3⟩ := and2 g
      obtain ⟨h1, h2⟩ := and2 g
      obtain ⟨te, q1, q2⟩ := s_setLc2 (pn := pn) (spos := pos) hy.toHy h1 h2 h3 (sndI it h4 hy.toHy) h5 h6 h11 h12 h13 (fun X' e hy' => e ▸ sndI it1 h7 hy') (fun X' e hy' => e ▸ (snd el h8 hy').1) (fun X' e hy' => e ▸ sndT cs h9 (dec h10) hy') t1 w2 w1
      exact ss_set_ q1 q2
    rename_i el tg it cs own
    match gs, hv, w1 with
    | [⟨et, ei, ec, k⟩], hv, w1 =>
      have g0 : (blkC I.N I.sc scope (ownP I.N own) && notSet ei && chkI G it tg I et ei && chkT (blkI I scope) tg et && chkE G el (blkI I scope) ee && chkEs G cs (blkI I scope) ec && decide (ec.length ≤ 1) && (tgNames tg).all own.contains && own.all (fun i => decide (i < I.N.length)) && decide (k = 0)) = true := hv
      obtain ⟨g, h10⟩ := and2 g0
      cases dec h10
      obtain ⟨g, h9⟩ := and2 g
      obtain ⟨g, h8⟩ := and2 g
      obtain ⟨g, h7⟩ := and2 g
      obtain ⟨g, h6⟩ := and2 g
      obtain ⟨g, h5⟩ := and2 g
      obtain ⟨g, h4⟩ := and2 g
      obtain ⟨g, h3⟩ := and2 g
      obtain ⟨h1, h2⟩ := and2 g
      obtain ⟨te, q1, q2⟩ := s_setLc (pn := pn) (spos := pos) hy.toHy h1 h2 (sndI it h3 hy.toHy) h4 h8 (fun X' e hy' => e ▸ (snd el h5 hy').1) (fun X' e hy' => e ▸ sndT cs h6 (dec h7) hy') t1 w2 w1
      exact ss_set_ q1 q2
    | [], hv, _ => exact absurd hv Bool.false_ne_true
    | ⟨_, _, _, _⟩ :: _ :: _, hv, _ => exact absurd hv Bool.false_ne_true
theorem msg1_of {es : Exs} (h : msg1 es = true) : ∃ m, es = .cons (.cst (.str m)) .nil := by
  unfold msg1 at h
  split at h
  · exact ⟨_, rfl⟩
  · cases h
theorem strC_of {e : Expr} (h : strC e = true) : ∃ m j p, e = .Constant (.str m) j p := by
  unfold strC at h
  split at h
  · exact ⟨_, _, _, rfl⟩
  · cases h
theorem one1_of {p : Expr → Bool} {l : List Expr} (h : one1 p l = true) : ∃ a, l = [a] ∧ p a = true := by
  unfold one1 at h
  split at h
  · exact ⟨_, rfl, h⟩
  · cases h
theorem nameIs_of {p : Str → Bool} {e : Expr} (h : nameIs p e = true) : ∃ x q, e = .Name x q ∧ p x = true := by
  unfold nameIs at h
  split at h
  · exact ⟨_, _, rfl, h⟩
  · cases h
theorem chkR_of {k : Nat} {I : Info} {e : Expr} (h : chkR G k I e = true) : ∃ n q1 m j q2 q3, e = .Call (.Name n q1) [.Constant (.str m) j q2] [] q3 ∧ (G.excs.contains (n, k) && I.glb n && !(n == ("__debug__" : Str))) = true := by
  unfold chkR at h
  split at h
  · obtain ⟨h1, h2⟩ := and2 h
    obtain ⟨n, q1, rfl, h1⟩ := nameIs_of h1
    obtain ⟨a, rfl, h2⟩ := one1_of h2
    obtain ⟨m, j, q2, rfl⟩ := strC_of h2
    exact ⟨n, q1, m, j, q2, _, rfl, h1⟩
  · cases h
mutual
theorem sst : ∀ (s : Sm) {I : Info} {X : Cx} {W : WX} {st : Stmt}, chkS G s I st = true → HyS xk ft cl G I X W → PS X st (rdS xk X.K W ft cl pin s)
  | .asg (.nm i) x, I, X, W, st, h, hy => by
    cases st <;> try exact absurd h Bool.false_ne_true
    rename_i tgs e pos
    match tgs, h with
    | [.Name n pn], h =>
      obtain ⟨h, h4⟩ := and2 (show (I.tslot i n && chkE G x I e && notSD e && isFnS I.sc) = true from h)
      obtain ⟨h, h3⟩ := and2 h
      obtain ⟨h1, h2⟩ := and2 h
      exact ss_asgN hy h1 h2 h3 h4
  | .ife c a b, I, X, W, st, h, hy => by
    cases st <;> try exact absurd h Bool.false_ne_true
    rename_i e sa sb pos
    obtain ⟨h, h3⟩ := and2 (show (chkE G c I e && chkSs G a I sa && chkSs G b I sb) = true from h)
    obtain ⟨h1, h2⟩ := and2 h
    exact ss_if (snd c h1 hy.toHy).2 (ssts a h2 hy) (ssts b h3 hy)
  | .asg (.tp ts) x, I, X, W, st, h, hy => by
    cases st <;> try exact absurd h Bool.false_ne_true
    rename_i tgs e pos
    match tgs, h with
    | [.Tuple es k p], h =>
      obtain ⟨h, h3⟩ := and2 (show (chkT I (.tp ts) (.Tuple es k p) && chkE G x I e && (notTup e || decide (swNames I es ≠ es.length))) = true from h)
      obtain ⟨h1, h2⟩ := and2 h
      refine ss_asgT hy.hs h1 (snd x h2 hy.toHy).1 tup_sw ?_
      rcases (Bool.or_eq_true _ _).mp h3 with h3 | h3
      · exact tup_st h3
      · exact tup_stC hy.sc (dec h3)
  | .par i j x y, I, X, W, st, h, hy => by
    cases st <;> try exact absurd h Bool.false_ne_true
    rename_i tgs e pos
    match tgs, e, h with
    | [.Tuple [.Name n pa, .Name m pb] _ _], .Tuple [ea, eb] _ _, h =>
      have h : (decide (I.N[i]? = some n) && decide (I.N[j]? = some m) && I.sc.names.lookup n == some .local && I.sc.names.lookup m == some .local && chkE G x I ea && chkE G y I eb && plainArg ea && plainArg eb && decide (i ≠ j) && decide (n ≠ m) && decide (pb.line = pa.line) && isFnS I.sc
        && !([ea, eb].all (foldedForSure 8)) && !([ea, eb].all (constantsAlone 8))) = true := h
      obtain ⟨h, h14⟩ := and2 h
      obtain ⟨h, h13⟩ := and2 h
      obtain ⟨h, h12⟩ := and2 h
      obtain ⟨h, h11⟩ := and2 h
      obtain ⟨h, h10⟩ := and2 h
      obtain ⟨h, h9⟩ := and2 h
      obtain ⟨h, h8⟩ := and2 h
      obtain ⟨h, h7⟩ := and2 h
      obtain ⟨h, h6⟩ := and2 h
      obtain ⟨h, h5⟩ := and2 h
      obtain ⟨h, h4⟩ := and2 h
      obtain ⟨h, h3⟩ := and2 h
      obtain ⟨h1, h2⟩ := and2 h
      have h3 : I.sc.names.lookup n = some .local := by simpa using h3
      have h4 : I.sc.names.lookup m = some .local := by simpa using h4
      exact ss_par hy.hs (dec h1) (dec h2) h3 h4 (snd x h5 hy.toHy).1 (snd y h6 hy.toHy).1 h7 h8 (dec h9) (par_st (by rw [hy.sc]; exact fnS_kind h12) (by rw [hy.sc]; exact h3) (by rw [hy.sc]; exact h4) (dec h11) (dec h10) h7 h8 (notb h13) (notb h14))
  | .setix i xi x, I, X, W, st, h, hy => by
    cases st <;> try exact absurd h Bool.false_ne_true
    rename_i tgs e pos
    match tgs, h with
    | [.Subscript (.Name n _) ei _], h =>
      obtain ⟨h, h4⟩ := and2 (show (I.slot i n && chkE G xi I ei && notSlice ei && chkE G x I e) = true from h)
      obtain ⟨h, h3⟩ := and2 h
      obtain ⟨h1, h2⟩ := and2 h
      exact ss_setix (s_var hy.toHy h1) (snd xi h2 hy.toHy).1 (snd x h4 hy.toHy).1 h3
  | .aug i o x, I, X, W, st, h, hy => by
    cases o <;> try (cases st <;> exact absurd h Bool.false_ne_true)
    cases st <;> try exact absurd h Bool.false_ne_true
    rename_i tg op e pos
    cases tg <;> try exact absurd h Bool.false_ne_true
    cases op <;> try exact absurd h Bool.false_ne_true
    rename_i n p
    obtain ⟨h1, h2⟩ := and2 (show (I.tslot i n && chkE G x I e) = true from h)
    exact ss_aug hy.hs h1 (snd x h2 hy.toHy).1
  | .app i x, I, X, W, st, h, hy => by
    cases st <;> try exact absurd h Bool.false_ne_true
    rename_i e pos
    cases e <;> try exact absurd h Bool.false_ne_true
    rename_i ef l ks pc
    cases ef <;> try exact absurd h Bool.false_ne_true
    rename_i en m pa
    cases en <;> try exact absurd h Bool.false_ne_true
    rename_i n pn
    match l, ks, h with
    | [], _, h => exact absurd h Bool.false_ne_true
    | _ :: _ :: _, _, h => exact absurd h Bool.false_ne_true
    | [_], _ :: _, h => exact absurd h Bool.false_ne_true
    | [e], [], h =>
      obtain ⟨h, h5⟩ := and2 (show (I.slot i n && chkE G x I e && plainArg e && pa.endLine == pc.line && decide (m = "append")) = true from h)
      obtain ⟨h, h4⟩ := and2 h
      obtain ⟨h, h3⟩ := and2 h
      obtain ⟨h1, h2⟩ := and2 h
      cases dec h5
      exact ss_app (s_var hy.toHy h1) (snd x h2 hy.toHy).1 h3 h4
  | .ins _ _ _, I, X, W, st, h, hy => by cases st <;> exact absurd h Bool.false_ne_true
  | .rmv _ _, I, X, W, st, h, hy => by cases st <;> exact absurd h Bool.false_ne_true
  | .pop _, I, X, W, st, h, hy => by cases st <;> exact absurd h Bool.false_ne_true
  | .try_ b x y c, I, X, W, st, h, hy => by
    obtain ⟨body, cn, q1, n, m, q2, n2, q3, q4, q5, q6, rfl, h⟩ := tryS_of (show tryS (fun body cn n m n2 => decide (c = 0) && G.excs.contains (cn, 0) && I.glb cn && !(cn == ("__debug__" : Str)) && I.sc.names.lookup n == some .local && I.slot x n && I.tslot y m && decide (n2 = n) && rqts b && decide (x ≠ y) && chkSs G b I body) st = true from h)
    obtain ⟨h, hb⟩ := and2 h
    obtain ⟨h, h10⟩ := and2 h
    obtain ⟨h, h9⟩ := and2 h
    obtain ⟨h, h8⟩ := and2 h
    obtain ⟨h, h7⟩ := and2 h
    obtain ⟨h, h6⟩ := and2 h
    obtain ⟨h, h5⟩ := and2 h
    obtain ⟨h, h4⟩ := and2 h
    obtain ⟨h, h3⟩ := and2 h
    obtain ⟨h1, h2⟩ := and2 h
    cases dec h1
    cases dec h8
    exact ss_try hy h2 h3 (notb h4) (by simpa using h5) h6 h7 h9 (dec h10) fun W' pn xe tk pa => ssts b hb (hy.tr tk pa)
  | .drop x, I, X, W, st, h, hy => by
    cases st <;> try exact absurd h Bool.false_ne_true
    rename_i e pos
    obtain ⟨h1, h2⟩ := and2 (show (chkE G x I e && notComp e) = true from h)
    exact ss_drop (snd x h1 hy.toHy).1 (drop_sw h2)
  | .for_ t it b, I, X, W, st, h, hy => by
    cases st <;> try exact absurd h Bool.false_ne_true
    rename_i tg e sb oe pos
    cases oe <;> try exact absurd h Bool.false_ne_true
    obtain ⟨h, h4⟩ := and2 (show (chkT I t tg && chkI G it t I tg e && notSet e && chkSs G b I sb) = true from h)
    obtain ⟨h, h3⟩ := and2 h
    obtain ⟨h1, h2⟩ := and2 h
    exact ss_for hy.hs hy.pa h1 (sndI it h2 hy.toHy) h3 (ssts b h4 hy)
  | .whl c b, I, X, W, st, h, hy => by
    cases st <;> try exact absurd h Bool.false_ne_true
    rename_i e sb oe pos
    cases oe <;> try exact absurd h Bool.false_ne_true
    obtain ⟨h1, h2⟩ := and2 (show (chkE G c I e && chkSs G b I sb) = true from h)
    exact ss_whl hy.pa (snd c h1 hy.toHy).2 (ssts b h2 hy)
  | .ret none, I, X, W, st, h, hy => by
    cases st <;> try exact absurd h Bool.false_ne_true
    rename_i eo pos
    cases eo <;> first | exact ss_retN | exact absurd h Bool.false_ne_true
  | .ret (some x), I, X, W, st, h, hy => by
    cases st <;> try exact absurd h Bool.false_ne_true
    rename_i eo pos
    cases eo <;> first | exact absurd h Bool.false_ne_true | exact ss_ret (snd x h hy.toHy).1
  | .rse k es, I, X, W, st, h, hy => by
    cases st <;> try exact absurd h Bool.false_ne_true
    rename_i ex ca pos
    cases ca <;> try (cases ex <;> exact absurd h Bool.false_ne_true)
    cases ex <;> try exact absurd h Bool.false_ne_true
    rename_i ex
    obtain ⟨h0, hr⟩ := and2 (show (msg1 es && plainX k && chkR G k I ex) = true from h)
    obtain ⟨h1, hp⟩ := and2 h0
    obtain ⟨m', rfl⟩ := msg1_of h1
    obtain ⟨n, q1, m, j, q2, q3, rfl, hh⟩ := chkR_of hr
    obtain ⟨hh, h3⟩ := and2 hh
    obtain ⟨h1, h2⟩ := and2 hh
    exact ss_rse hy hp h1 h2 (notb h3)
  | .pass, I, X, W, st, h, hy => by
    cases st <;> first | exact ss_pass | exact absurd h Bool.false_ne_true
termination_by structural s => s
theorem ssts : ∀ (l : List Sm) {I : Info} {X : Cx} {W : WX} {sts : List Stmt}, chkSs G l I sts = true → HyS xk ft cl G I X W → PSs X sts (rdSs xk X.K W ft cl pin l)
  | [], I, X, W, [], h, hy => ss_nil
  | [], I, X, W, _ :: _, h, hy => absurd h Bool.false_ne_true
  | _ :: _, I, X, W, [], h, hy => absurd h Bool.false_ne_true
  | s :: r, I, X, W, st :: sts, h, hy => by
    obtain ⟨h1, h2⟩ := and2 (show (chkS G s I st && chkSs G r I sts) = true from h)
    match r, sts, h2 with
    | [], [], _ => exact ss_one (sst s h1 hy)
    | [], _ :: _, h2 => exact absurd h2 Bool.false_ne_true
    | _ :: _, [], h2 => exact absurd h2 Bool.false_ne_true
    | s2 :: r2, st2 :: sts2, h2 => exact ss_cons (sst s h1 hy) (ssts (s2 :: r2) h2 hy)
end
end
end Nm
set_option Elab.async false
set_option maxRecDepth 100000
set_option linter.all false
/-! A def of the text does what the evaluator says; all defs of the text, calls n deep. -/
namespace Nm
open PySem L2 PyProof.Rows

/-- a def by its body, where no repr goes on -/
theorem fnG_by {P : Program} {w : World} {K : PySem.W.Frag} {mg : Str → Option Value} {base : Heap} {k : Nat} {f : Addr} {nm qn : Str} {pr : Arguments} {bd : List Stmt} {sc : Scope} {fd : FuncData} {N ps : List Str} {sp : Sp}
    (F : FunD K nm qn pr bd sc [] [] f fd) (S : FnScope N ps sc) (len : ∀ vs H Q E, sp vs H Q E → vs.length = ps.length)
    (hb : ∀ (cv : Value) (A : Around) (outer : List Env) (s : Shared) (H : Hp) (vs : List V) (Q : VK) (E : XK), Room k (A.deeper (envOfC qn sc s.heap.objs.size f cv)) → A.guards = some [] → sp vs H Q E →
      ∃ t, PSs (cxOf (L2.CX P w) P w K mg base N qn sc f cv A outer s H E) bd t ∧ t { nx := fun _ H' => Q .non H', rt := Q } (start N vs) H) : FnG P w K mg base (k + 1) f fd ps sp := by
  obtain ⟨oc, od, dV, kV, doc, pm, an, cv, ct, osl, rfl, lk, hcd, _, _⟩ := F.ex
  constructor
  · exact len
  intro A outer s H args us vs Q E hr hg env0 bnd rv hsp
  have KX : K.In s.heap := env0.mod.kin.keeps (fun b o q => (env0.bs b o q).1)
  have lim := env0.mod.nolimit.keeps (fun b o q => (env0.bs b o q).1)
  have kinds : ∀ y ∈ ps.zip us, sc.names.lookup y.1 = some .local ∨ (sc.names.lookup y.1 = some .cell ∧ ((cellsFrom (s.heap.objs.size + 1) sc.names []).lookup y.1).isSome = true) := by
    rintro ⟨n, v⟩ hy
    have m := (List.of_mem_zip hy).1
    cases S.par n m with
    | inl q => left; exact q
    | inr q => right; exact ⟨q, PySem.W.cellsFrom_some _ _ _ (Or.inl q)⟩
  refine codeAny_call_function hr.depth (KX _ _ lk) rfl S.co S.gen rfl (PySem.W.codeRec_of KX hcd)
    (bnd _ _ _ _ ?_)
  refine wpAny_newFunctionEnv_cells S.kind kinds
    (fun env he s1 x => ?_)
  subst he
  refine ⟨lim.keeps x.toInCall.keep, codeAny_func ?_⟩
  obtain ⟨t, ht, hq⟩ := hb cv A outer s H vs Q E (hr.deeper _) hg hsp
  have I := inv_start (CX := L2.CX P w) (E := E) S hr.hd env0 (len _ _ _ _ hsp) rv x
  refine wpAny_mono (ht.run [] s1 (start N vs) H _ I hq) (fun fl s' hs => ?_) (fun e s' hs => hs)
  cases fl with
  | next =>
    obtain ⟨σ', H', J, q⟩ := hs
    exact ⟨V.non, H', J.os, J.bare, J.base, J.hok, rfl, q⟩
  | ret u =>
    obtain ⟨v, σ', H', J, rw_, q⟩ := hs
    exact ⟨v, H', J.os, J.bare, J.base, J.hok, rw_, q⟩
  | brk => obtain ⟨_, _, _, q⟩ := hs; exact q.elim
  | cont => obtain ⟨_, _, _, q⟩ := hs; exact q.elim

section
variable {ft : Nat → Fd}
theorem callN_np : ∀ (n k : Nat) (ss : List Sv), callN ft n k ss ≠ .no → ss.length = (ft k).np
  | 0, k, ss, h => absurd rfl h
  | n + 1, k, ss, h => by
    have h : runF ft (callN ft n) (ft k) ss ≠ .no := h
    unfold runF at h
    split at h
    · assumption
    · exact absurd rfl h
end
theorem start_get {N : List Str} {vs : List V} {j : Nat} (h : j < vs.length) : (L2.start N vs)[j]? = some vs[j]? := by
  unfold L2.start
  rw [List.getElem?_append_left (by simpa using h), List.getElem?_map, List.getElem?_eq_getElem h]
  rfl
theorem enter_get {fd : Fd} {ss : List Sv} {j : Nat} {s : Sv} (h : (enter fd ss)[j]? = some (some s)) : ss[j]? = some s := by
  unfold enter at h
  by_cases hj : j < ss.length
  · rw [List.getElem?_append_left (by simpa using hj), List.getElem?_map] at h
    cases q : ss[j]? with
    | none => rw [q] at h; cases h
    | some x => rw [q] at h; cases h; rfl
  · rw [List.getElem?_append_right (by simpa using hj), List.getElem?_replicate] at h
    split at h <;> cases h
/-- the evaluator's word about a run is the promise -/
theorem reads_of {xk : ExK} {K : PySem.W.Frag} {ft : Nat → Fd} {cl : Cl} {k : Nat} {N : List Str} {vs : List V} {H : Hp} {Q : VK} {E : XK} {c : Clr} {ss : List Sv} (hN : N.length = (ft k).ns) (hle : (ft k).np ≤ (ft k).ns) (hl : vs.length = (ft k).np) (hio : ∀ j ∈ (ft k).io, j < (ft k).np)
    (ar : ArgR K H c (ft k).io vs ss) (h : match runF ft cl (ft k) ss with
      | .ok o => ∀ v c' H', Fm c H c' H' → OutR K H H' c' (ft k).io vs o v → Q v H'
      | .ex x => ∀ cls dd c' H', Fm c H c' H' → ExR xk K H' c' x cls dd → E cls dd H'
      | .no => False) :
    rdSs xk K (fun cls d _ H' => E cls d H') ft cl (ft k).io (ft k).body { nx := fun _ H' => Q .non H', rt := Q } (start N vs) H := by
  have hsl : ss.length = (ft k).np := ar.len.symm.trans hl
  have s0 : StR K H c (enter (ft k) ss) (start N vs) := by
    refine ⟨?_, fun i s hs => ?_⟩
    · unfold enter L2.start
      simp only [List.length_append, List.length_map, List.length_replicate]
      omega
    · have hs := enter_get hs
      obtain ⟨v, hv, r⟩ := ar.at_ i s hs
      refine ⟨v, ?_, r⟩
      rw [start_get (List.getElem?_eq_some_iff.mp hv).1, hv]
  refine ⟨⟨c, H, start N vs⟩, c, enter (ft k) ss, fun a i _ q => ar.pn a i q, ⟨s0, .refl, fun _ _ => rfl⟩, ?_⟩
  unfold runF at h
  rw [if_pos hsl] at h
  have outs : ∀ (fo : Bool) (fdd : D) {σ' : L2.St} {c' : Clr} {H' : Hp} {e' : En}, Now K (ft k).io ⟨c, H, start N vs⟩ c' H' e' σ' → ∀ j, j ∈ (ft k).io → ∀ s, (outsOf (ft k) e').getD j none = some s → ∃ u, vs[j]? = some u ∧ SlR K H' c' j u s := by
    intro fo fdd σ' c' H' e' N' j hj s hs
    have hjn := hio j hj
    have e1 : e'[j]? = some (some s) := by
      unfold outsOf at hs
      rw [List.getD_eq_getElem?_getD, List.getElem?_map, List.getElem?_range hjn] at hs
      have hs : (if (ft k).io.contains j = true then e'.getD j none else none) = some s := hs
      rw [if_pos (by simpa using hj)] at hs
      exact getD_some hs
    obtain ⟨u, hu, r⟩ := N'.str.at_ j s e1
    rw [N'.pn j hj, start_get (by omega)] at hu
    cases q : vs[j]? with
    | none => rw [q] at hu; cases hu
    | some x => rw [q] at hu; cases hu; exact ⟨_, rfl, r⟩
  cases m : evSs ft cl (ft k).io (ft k).body (enter (ft k) ss) with
  | no => rw [m] at h; exact h
  | ex x =>
    rw [m] at h
    exact fun cls dd σ' c' H' _ g _ z => h cls dd c' H' g z
  | ok p =>
    obtain ⟨f, e'⟩ := p
    rw [m] at h
    cases f with
    | nx => exact fun σ' c' H' _ N' _ => h .non c' H' N'.fm ⟨.inl .none, outs false .none N'⟩
    | rt o d => exact fun σ' v c' H' N' r => h v c' H' N'.fm ⟨r, outs o d N'⟩

/-- a def of the text: its number in the table, its names, its parameters' names -/
structure Ent where
  k : Nat
  N : List Str
  d : He.DefD
  ps : List Str
def scopeB (N ps : List Str) (sc : Scope) : Bool := isFnS sc && !sc.isCoroutine && !sc.isGenerator && decide N.Nodup && decide (N.take ps.length = ps) && (ps.all fun x => sc.names.lookup x == some .local || sc.names.lookup x == some .cell) && sc.names.all fun y => !(y.2 == .free)
theorem scopeB_ok {N ps : List Str} {sc : Scope} (h : scopeB N ps sc = true) : FnScope N ps sc := by
  unfold scopeB at h
  simp only [Bool.and_eq_true, Bool.not_eq_true', decide_eq_true_eq, List.all_eq_true, Bool.or_eq_true, beq_iff_eq] at h
  obtain ⟨⟨⟨⟨⟨⟨h1, h2⟩, h3⟩, h4⟩, h5⟩, h6⟩, h7⟩ := h
  exact ⟨fnS_kind h1, h2, h3, h4, h5, h6, fun y hy q => by have := h7 y hy; rw [q] at this; exact absurd this (by decide)⟩
/-- what is asked of a def: its text is what the table says -/
def Ent.ok (ft : Nat → Fd) (G : Gi) (e : Ent) : Bool := scopeB e.N e.ps e.d.scope && chkSs G (ft e.k).body ⟨e.N, e.d.scope, fun _ => true⟩ e.d.body && decide (e.ps.length = (ft e.k).np) && decide (e.N.length = (ft e.k).ns) && decide ((ft e.k).np ≤ (ft e.k).ns) && (ft e.k).io.all (fun j => decide (j < (ft e.k).np)) && e.d.dfl.isEmpty && e.d.kwd.isEmpty
/-- every parameter is given -/
def Ent.binds (e : Ent) : Prop := ∀ (kV doc pm : Value) (an : Option Addr) (cdv ct : Value) (us : List Value), us.length = e.ps.length → bindArgs (PySem.W.fnOf e.d.name e.d.qual e.d.params e.d.body e.d.scope .none kV doc pm an cdv ct) ⟨us, []⟩ = pure (e.ps.zip us)
/-- the text's world: where its names stand -/
structure Wd (xk : ExK) (G : Gi) (K : PySem.W.Frag) (mg : Str → Option Value) (ents : List Ent) (ft : Nat → Fd) : Prop where
  fns : ∀ x k, G.fns.contains (x, k) = true → ∃ e ∈ ents, e.k = k ∧ e.ok ft G = true ∧ e.binds ∧ ∃ f fd, mg x = some (.ref f) ∧ FunD K e.d.name e.d.qual e.d.params e.d.body e.d.scope [] [] f fd
  bl : ∀ x, G.blt.contains x = true → mg x = none
  cs : ∀ x d v, G.isC x d = true → cv d = some v → ∃ u, mg x = some u ∧ RelV v u
  xs : ∀ x k, G.excs.contains (x, k) = true → Known K k = true ∧ mg x = some (.ref (excCl K k))
  xb : excB K = true
  ex : ∀ x k, G.excs.contains (x, k) = true → plainX k = true → PySem.W.excIn K (excCl K k) He.veBase "ValueError.__new__" = true ∧ PySem.W.keepIn K (.ref (excCl K k)) = true ∧
    PySem.W.subIn K (.ref (excCl K k)) (.type "BaseException") = some true ∧ PySem.W.typeIn K (.ref (excCl K k)) = some (.type "type")
  fx : ∀ k, plainX k = true → xk.field k = none
theorem fn_all {xk : ExK} {G : Gi} {P : Program} {w : World} {K : PySem.W.Frag} {mg : Str → Option Value} {base : Heap} {ents : List Ent} {ft : Nat → Fd} (wd : Wd xk G K mg ents ft) :
    ∀ (n : Nat) (e : Ent) (f : Addr) (fd : FuncData), e.ok ft G = true → FunD K e.d.name e.d.qual e.d.params e.d.body e.d.scope [] [] f fd → FnG P w K mg base n f fd e.ps (spF xk K ft (callN ft n) e.k)
  | 0, e, f, fd, ok, F => ⟨fun vs H Q E ⟨_, _, _, _, q⟩ => q.elim, fun A outer s H args us vs Q E _ _ _ _ _ ⟨_, _, _, _, q⟩ => q.elim⟩
  | n + 1, e, f, fd, ok, F => by
    unfold Ent.ok at ok
    simp only [Bool.and_eq_true, decide_eq_true_eq, List.all_eq_true] at ok
    obtain ⟨⟨⟨⟨⟨⟨⟨o1, o2⟩, o3⟩, o4⟩, o5⟩, o6⟩, _⟩, _⟩ := ok
    have S := scopeB_ok o1
    refine fnG_by F S (fun vs H Q E q => ?_) fun cv A outer s H vs Q E hr hg hsp => ?_
    · rw [o3]; exact q.1
    obtain ⟨hl, c, ss, ar, q⟩ := hsp
    refine ⟨rdSs xk K (fun cls d _ H' => E cls d H') ft (callN ft n) (ft e.k).io (ft e.k).body, ?_, reads_of o4 o5 hl o6 ar q⟩
    refine ssts (X := cxOf (L2.CX P w) P w K mg base e.N e.d.qual e.d.scope f cv A outer s H E) _ o2 ?_
    refine { gl := ⟨fun x k hx => ?_, wd.bl, callN_np n, wd.cs, wd.xs, wd.xb⟩, N := rfl, nd := S.nd, sc := rfl, fn := rfl, calm := rfl, gd := hg, un := ?_, tk := takes_of rfl rfl rfl rfl, pa := passes_of rfl, ex := wd.ex, fx := wd.fx, st := rfl, fr := rfl }
    · obtain ⟨e', _, hk, ok', hb', f', fd', hm, F'⟩ := wd.fns x k hx
      subst hk
      exact ⟨f', fd', e'.ps, n, hm, F'.kp, F'.bindsN hb', hr, fn_all wd n e' f' fd' ok' F'⟩
    · have := hr.un
      show (A.deeper (envOfC e.d.qual e.d.scope s.heap.objs.size f cv)).units + 100 < cLine
      omega
end Nm
set_option Elab.async false
set_option maxRecDepth 100000
set_option linter.all false
/-! The end: a law's statement from the evaluator's word. -/
namespace Nm
open PySem L2 PyProof.Rows

section
variable {P : Program} {w : World} {K : PySem.W.Frag} {mg mb : Str → Option Value} {k : Nat} {fa a : Addr} {fd : FuncData} {x : Str} {sp : Sp} {s₁ : Shared} {vs : List Value} {ns : List Int}
/-- the law's def is called with the script -/
theorem law_callG (KX : K.In s₁.heap) (hns : s₁.heap.Ns mainGlobals mg) (hb : s₁.heap.Ns builtinsNs mb) (hbb : ∀ x : Str, x ≠ "__name__" → mb x = bootBuiltins x) (hlim : s₁.heap.NoLimit) (hg : s₁.gens = #[])
    (ha : s₁.heap.get? a = some { cls := .type "list", data := .seq vs.toArray })
    (hi : IntsAre vs ns) (hl : ns.length ≤ sizeLine) (hr : Room k callerA)
    (F : ∀ base : Heap, K.In base → base.Ns mainGlobals mg → FnG P w K mg base k fa fd [x] sp)
    (hbd : ∀ (s : Shared) (u : Value), BindsTo s fd ⟨[u], []⟩ [(x, u)])
    (hsp : ∀ H : Hp, Only H → SqL K H a (ns.map V.int) →
      sp [.ref a] H (fun v _ => v = .bl true) fun _ _ _ => False) :
    codeAny (model P w) callerA (.call (.ref fa) ⟨[.ref a], []⟩)
      (fun r s' => r = .ok (.ret (.bool true)) ∧ OldK s₁.heap s'.heap ∧ s'.os = s₁.os ∧ AllBare s'.gens) s₁ := by
  have rv := vals_ints hi
  have lenV := hi.length
  have go : ∀ H : Hp, Only H → SqL K H a (ns.map V.int) → HOk P w H s₁.heap → (∀ b, H b ≠ none → b = a) → (H a ≠ none → K.lookup a = none) →
      codeAny (model P w) callerA (.call (.ref fa) ⟨[.ref a], []⟩)
        (fun r s' => r = .ok (.ret (.bool true)) ∧ OldK s₁.heap s'.heap ∧ s'.os = s₁.os ∧ AllBare s'.gens) s₁ := by
    intro H hO hS hok hA hK
    have free : ∀ {b : Addr} {o : Obj}, s₁.heap.get? b = some o → (b = a → False) → (hidT s₁.heap H).get? b = some o := by
      intro b o e n
      refine hidT_get e ?_
      cases q : H b with
      | none => rfl
      | some u => exact (n (hA b (by rw [q]; simp))).elim
    have notA : ∀ {b : Addr} {o : Obj} {es : Array DictEntry} {ep : Nat}, s₁.heap.get? b = some o → o.data = .dict es ep → b = a → False := by
      rintro b o es ep e d rfl
      rw [ha] at e
      cases e
      have d : Data.seq vs.toArray _ = Data.dict es ep := d
      cases d
    have nsK : ∀ {b : Addr} {m : Str → Option Value}, s₁.heap.Ns b m → (hidT s₁.heap H).Ns b m := by
      rintro b m ⟨o, es, ep, e, d, r⟩
      exact ⟨o, es, ep, free e (notA e d), d, r⟩
    have inK : K.In (hidT s₁.heap H) := by
      intro b o e
      refine hidT_get (KX b o e) ?_
      cases q : H b with
      | none => rfl
      | some u =>
        have e' : b = a := hA b (by rw [q]; simp)
        subst e'
        rw [hK (by rw [q]; simp)] at e
        cases e
    have hM : Mod K mg (hidT s₁.heap H) := by
      obtain ⟨mc, h1, h2⟩ := hlim
      exact ⟨inK, nsK hns, ⟨mb, nsK hb, hbb⟩, mc, nsK h1, h2⟩
    have env0 : Env0 P w K mg (hidT s₁.heap H) callerA [] s₁ H :=
      { frames := rfl, mod := hM, bs := fun b o e => of_hidT e, bsz := Nat.le_of_eq (hidT_size _ _), funs := trivial
        frf := fun b hb => absurd (show b ∈ ([] : List Addr) from hb) (by simp), hok := hok, bare := .of_eq hg }
    have run := (F _ inK (nsK hns)).run callerA [] s₁ H ⟨[.ref a], []⟩ [.ref a] [.ref a] _ _ hr rfl env0 (hbd s₁ (.ref a)) (.cons rfl .nil) (hsp H hO hS)
    refine codeAny_mono run (fun r s' h => ?_)
    rcases r with e | fl
    · obtain ⟨_, _, _, _, _, _, _, _, _, _, _, _, h⟩ := h
      exact h.elim
    cases fl <;> try exact False.elim h
    rename_i u
    obtain ⟨v, H', os, bare, un, hok', r', q⟩ := h
    have q : v = .bl true := q
    subst q
    obtain rfl : u = Value.bool true := r'
    refine ⟨rfl, OldK.of_keep (fun b o e => ?_), os, bare⟩
    cases q : H b with
    | none => exact un.keep b o e q (fun z => absurd (show b ∈ ([] : List Addr) from z) (by simp)) (by simp)
    | some u =>
      rcases hO b with z | ⟨ob, xs, z⟩
      · rw [q] at z; cases z
      · obtain ⟨e1, _⟩ := hok b _ z
        obtain ⟨e2, _⟩ := hok' b _ (un.frzs b ob _ z)
        rw [e] at e1
        cases e1
        exact e2
  cases hk : K.lookup a with
  | some o =>
    have e := KX a o hk
    rw [ha] at e
    cases e
    exact go (fun _ => none) (fun _ => .inl rfl) (.inr ⟨_, vs.toArray, _, hk, rfl, rfl, rfl, by rw [List.size_toArray, lenV]; exact hl, by simpa using rv⟩) (fun b u z => by cases z) (fun b z => absurd rfl z) fun z => absurd rfl z
  | none =>
    let S : HO := .frz { cls := .type "list", data := .seq vs.toArray } (.lst (ns.map V.int))
    have at_ : ∀ {b : Addr} {u : HO}, (if b = a then some S else none) = some u → b = a ∧ u = S := by
      intro b u z
      split at z
      · rename_i hb; cases z; exact ⟨hb, rfl⟩
      · cases z
    refine go (fun b => if b = a then some S else none) (fun b => ?_) (.inl (.inr ⟨_, if_pos rfl⟩)) (fun b u z => ?_) (fun b z => ?_) fun _ => hk
    · by_cases hb : b = a
      · right; exact ⟨_, _, if_pos hb⟩
      · left; exact if_neg hb
    · obtain ⟨rfl, rfl⟩ := at_ z
      exact ⟨ha, by rw [List.length_map]; exact hl, vs, _, rv, ha⟩
    · by_cases hb : b = a
      · exact hb
      · exact absurd (if_neg hb) z
end
/-- the goal that the head leaves -/
theorem walk_ofG {l : PySem.W.OpenLaw} {n k : Nat} {q : Program} {loose : List Str} {XP : (Str → Option Value) → Heap → Prop} {YP : World → Heap → Prop} {d : DefRec}
    (hn : l.most = some n) (hn2 : n ≤ sizeLine) (hdf : d.params.defaults = []) (hr : Room k callerA)
    (F : ∀ (w : World) (mg : Str → Option Value) (fa : Addr) (h : Heap), YP w h → h.Ns mainGlobals mg → mg d.name = some (.ref fa) →
      ∃ (K : PySem.W.Frag) (x : Str) (fd : FuncData) (sp : Sp), K.In h ∧ (∀ (s : Shared) (u : Value), BindsTo s fd ⟨[u], []⟩ [(x, u)]) ∧
        (∀ (H : Hp) (a : Addr) (ns : List Int), ns.length ≤ n → Only H → SqL K H a (ns.map V.int) → sp [.ref a] H (fun v _ => v = .bl true) fun _ _ _ => False) ∧
        ∀ base : Heap, K.In base → base.Ns mainGlobals mg → FnG l.prog w K mg base k fa fd [x] sp) :
    PySem.W.WalkO q loose XP YP l.row.toRowW d [] (fun f vs => PySem.call f vs) := by
  refine Att.attach_call hn hdf ?_
  intro w s₀ s₁ mg mb fa o pm cd doc a vs ns G Y ho hd hcd hmg hobj hints hlen hg
  obtain ⟨K, x, fd, sp, KX, hb, hsp, hF⟩ := F w mg fa _ Y G.T.g hmg
  exact law_callG KX G.T.g G.T.b G.T.builtins G.T.nolimit hg hobj hints (Nat.le_trans hlen hn2) hr hF hb fun H hO hS => hsp H a ns hlen hO hS

/-! ### from facts by names -/
theorem says_mem {fa : List He.Fa} {fn : List He.DefD} {K : PySem.W.Frag} (c : He.SaysD fa fn K) {f : He.Fa} (h : f ∈ fa) : f.ok K = true := by
  obtain ⟨i, hi, e⟩ := List.getElem_of_mem h
  exact c.fact i (by rw [List.getElem?_eq_getElem hi, e])
theorem says_def {fa : List He.Fa} {fn : List He.DefD} {K : PySem.W.Frag} (c : He.SaysD fa fn K) {d : He.DefD} (h : d ∈ fn) : ∃ fd, FunD K d.name d.qual d.params d.body d.scope (d.dvs K) (d.kws K) (He.fAd K d.at_) fd := by
  obtain ⟨i, hi, e⟩ := List.getElem_of_mem h
  exact c.def_ i (by rw [List.getElem?_eq_getElem hi, e])
/-- the facts that a table wants -/
def faOf (G : Gi) : List He.Fa := G.fns.map (fun p => .glo p.1) ++ G.blt.map .free ++ G.csts.filterMap (fun p => match p.2 with | .int i => some (.int p.1 i) | .str z => some (.str p.1 z) | _ => none) ++ G.excs.flatMap fun p => .glo p.1 :: if plainX p.2 = true then [.exc p.1] else []
/-- the classes have the numbers that are known -/
def excsOk (G : Gi) : Bool := G.excs.all fun p => decide (p.2 < 15) && decide (excNm p.2 = p.1)
def xk0 : ExK := ⟨fun k => if plainX k = true then none else some ""⟩
/-- what is looked at, when the text has run -/
def obsE (n : Nat) (fa : List He.Fa) (fn : List He.DefD) (g : Addr → Option Obj) : He.AlD × Bool := (He.obsD fa fn (He.frG g (He.asD g n)), excB (He.frG g (He.asD g n)))
def hookE (n : Nat) (fa : List He.Fa) (fn : List He.DefD) : PySem.W.Hook where
  α := He.AlD × Bool
  obs := fun s => obsE n fa fn s.heap.get?
  val := fun _ => (He.valD fn, true)
  says := fun _ h => ∃ K : PySem.W.Frag, K.In h ∧ He.SaysD fa fn K ∧ excB K = true
  of := fun _ _ e => ⟨_, He.frG_in, congrArg Prod.fst e, congrArg Prod.snd e⟩
  keeps := fun _ _ _ ⟨K, hK, c⟩ k => ⟨K, PySem.W.Frag.In.keeps hK k, c⟩
theorem obsE_eq {n : Nat} {fa : List He.Fa} {fn : List He.DefD} {g : Addr → Option Obj} {s : Shared} (h : ∀ a, g a = s.heap.get? a) : obsE n fa fn g = (hookE n fa fn).obs s := by
  have e : g = s.heap.get? := funext h
  subst e
  rfl
theorem wd_of {G : Gi} {K : PySem.W.Frag} {mg : Str → Option Value} {h : Heap} {ents : List Ent} {ft : Nat → Fd} {fn : List He.DefD} (KX : K.In h) (hns : h.Ns mainGlobals mg) (c : He.SaysD (faOf G) fn K) (xb : excB K = true)
    (h1 : ∀ e ∈ ents, e.d ∈ fn ∧ e.ok ft G = true ∧ e.d.at_ = (e.d.name, none) ∧ e.binds) (h2 : ∀ x k, G.fns.contains (x, k) = true → ∃ e ∈ ents, e.k = k ∧ e.d.name = x)
    (h3 : excsOk G = true) : Wd xk0 G K mg ents ft where
  fns := fun x k hx => by
    obtain ⟨e, he, rfl, rfl⟩ := h2 x k hx
    obtain ⟨m, ok, hat, hb⟩ := h1 e he
    obtain ⟨fd, F⟩ := says_def c m
    have hd : e.d.dvs K = [] ∧ e.d.kws K = [] := by
      unfold Ent.ok at ok
      simp only [Bool.and_eq_true, List.isEmpty_iff] at ok
      exact ⟨by unfold He.DefD.dvs; rw [ok.1.2]; rfl, by unfold He.DefD.kws; rw [ok.2]; rfl⟩
    rw [hd.1, hd.2] at F
    have g := says_mem c (f := .glo e.d.name) (List.mem_append_left _ (List.mem_append_left _ (List.mem_append_left _ (List.mem_map.mpr ⟨(e.d.name, e.k), by simpa using hx, rfl⟩))))
    rw [hat] at F
    exact ⟨e, he, rfl, ok, hb, _, fd, He.glo_ok KX hns g, F⟩
  bl := fun x hx => He.free_ok KX hns (says_mem c (f := .free x) (List.mem_append_left _ (List.mem_append_left _ (List.mem_append_right _ (List.mem_map.mpr ⟨x, by simpa using hx, rfl⟩)))))
  cs := fun x d v hx hv => by
    unfold Gi.isC at hx
    rw [List.any_eq_true] at hx
    obtain ⟨⟨y, d'⟩, hm, hx⟩ := hx
    simp only [Bool.and_eq_true, decide_eq_true_eq] at hx
    obtain ⟨⟨rfl, q⟩, _⟩ := hx
    match d, d', q, hv with
    | .int i, .int j, q, hv =>
      have q : j = i := of_decide_eq_true (show decide (j = i) = true from q)
      subst q
      cases hv
      obtain ⟨t, e⟩ := He.int_ok KX hns (says_mem c (f := .int y j) (List.mem_append_left _ (List.mem_append_right _ (List.mem_filterMap.mpr ⟨_, hm, rfl⟩))))
      exact ⟨_, e, t, rfl⟩
    | .str i, .str j, q, hv =>
      have q : j = i := of_decide_eq_true (show decide (j = i) = true from q)
      subst q
      have hv : (if j.length ≤ 100000 then some (V.str j) else none) = some v := hv
      split at hv
      · cases hv
        obtain ⟨t, e⟩ := He.str_ok KX hns (says_mem c (f := .str y j) (List.mem_append_left _ (List.mem_append_right _ (List.mem_filterMap.mpr ⟨_, hm, rfl⟩))))
        exact ⟨_, e, t, rfl⟩
      · cases hv
  xs := fun x k hx => by
    have hm : (x, k) ∈ G.excs := by simpa using hx
    have q := List.all_eq_true.mp h3 _ hm
    simp only [Bool.and_eq_true, decide_eq_true_eq] at q
    obtain ⟨q1, q2⟩ := q
    subst q2
    have g := says_mem c (f := .glo (excNm k)) (List.mem_append_right _ (List.mem_flatMap.mpr ⟨(excNm k, k), hm, by simp⟩))
    exact ⟨by unfold Known; rw [g]; simpa using q1, He.glo_ok KX hns g⟩
  xb := xb
  fx := fun k h => by show (if plainX k = true then none else some _) = none; rw [if_pos h]
  ex := fun x k hx hp => by
    have hm : (x, k) ∈ G.excs := by simpa using hx
    have q := List.all_eq_true.mp h3 _ hm
    simp only [Bool.and_eq_true, decide_eq_true_eq] at q
    obtain ⟨q1, q2⟩ := q
    subst q2
    have g := says_mem c (f := .exc (excNm k)) (List.mem_append_right _ (List.mem_flatMap.mpr ⟨(excNm k, k), hm, by dsimp only; rw [if_pos hp]; simp⟩))
    exact He.exc_ok g
theorem sq_only {K : PySem.W.Frag} {H : Hp} {a : Addr} {xs : List V} (hO : Only H) (h : SqL K H a xs) : RoL K H a xs := by
  rcases sqL_two h with h | h
  · rcases h with h | h
    · rcases hO a with z | ⟨o, ys, z⟩
      · rw [h] at z; cases z
      · rw [h] at z; cases z
    · exact .inr h
  · exact .inl h
/-- what the walk wants of a law -/
theorem law_of {xk : ExK} {G : Gi} {P : Program} {w : World} {K : PySem.W.Frag} {mg : Str → Option Value} {ents : List Ent} {ft : Nat → Fd} {k N : Nat} {fa : Addr} (wd : Wd xk G K mg ents ft) (hl : G.fns.contains ("law", k) = true) (hnp : (ft k).np = 1) (hfa : mg "law" = some (.ref fa))
    (ev : ∀ ns : List Int, ns.length ≤ 63 → ∃ outs, callN ft N k [⟨false, scrD ns⟩] = .ok ⟨false, .bool true, outs⟩) :
    ∃ (x : Str) (fd : FuncData) (sp : Sp), (∀ (s : Shared) (u : Value), BindsTo s fd ⟨[u], []⟩ [(x, u)]) ∧
      (∀ (H : Hp) (a : Addr) (ns : List Int), ns.length ≤ 63 → Only H → SqL K H a (ns.map V.int) → sp [.ref a] H (fun v _ => v = .bl true) fun _ _ _ => False) ∧
      ∀ base : Heap, K.In base → base.Ns mainGlobals mg → FnG P w K mg base N fa fd [x] sp := by
  obtain ⟨e, _, hk, ok, hb, f, fd, hm, F⟩ := wd.fns "law" k hl
  have e1 := hfa.symm.trans hm
  cases e1
  subst hk
  have hps : e.ps.length = 1 := by
    unfold Ent.ok at ok
    simp only [Bool.and_eq_true, decide_eq_true_eq] at ok
    exact ok.1.1.1.1.1.2.trans hnp
  obtain ⟨x, hx⟩ : ∃ x, e.ps = [x] := by
    match h : e.ps, hps with
    | [x], _ => exact ⟨x, rfl⟩
  refine ⟨x, fd, spF xk K ft (callN ft N) e.k, fun s u => ?_, fun H a ns hlen hO hS => ?_, fun base _ _ => ?_⟩
  · have q := F.bindsA hb s [u] (by rw [hx]; rfl)
    rw [hx] at q
    exact q
  · obtain ⟨outs, q⟩ := ev ns hlen
    refine ⟨hnp.symm, fun _ => .out, [⟨false, scrD ns⟩], ⟨rfl, (fun _ _ z => nomatch z), fun j s hs => ?_⟩, ?_⟩
    · match j, hs with
      | 0, hs =>
        cases hs
        refine ⟨.ref a, rfl, .inr (.inl ⟨ns, a, rfl, rfl, Nat.le_trans hlen (by rw [sizeLine_eq]; decide), sq_only hO hS⟩)⟩
      | j + 1, hs => simp at hs
    · rw [q]
      intro v c' H' _ r
      have r : RelS K H' c' v (.bool true) := r.res
      cases r.pl rfl
      rfl
  · have q := fn_all (P := P) (w := w) (base := base) wd N e fa fd ok F
    rw [hx] at q
    exact q
end Nm
set_option Elab.async false
set_option maxRecDepth 100000
set_option linter.all false
/-! Running the evaluator by simp. -/
namespace Nm
open PySem L2

theorem bindC {α β : Type} {m m' : R α} {f : α → R β} (h : m = m') : (m >>= f) = (m' >>= f) := by rw [h]
theorem bind_asc {α β γ : Type} (m : R α) (f : α → R β) (g : β → R γ) : (m >>= f) >>= g = m >>= fun a => f a >>= g := by cases m <;> rfl
section
variable {ft : Nat → Fd} {cl : Cl} {e : En} {pin : List Nat}
theorem callN_succ (n k : Nat) (ss : List Sv) : callN ft (n + 1) k ss = runF ft (callN ft n) (ft k) ss := rfl
@[simp] theorem evE_cst {d : D} : evE ft cl (.cst d) e = .ok (.v false d, e) := rfl
@[simp] theorem evE_var {i : Nat} : evE ft cl (.var i) e = (match e[i]? with
    | some (some ⟨false, d⟩) => .ok (.v false d, e)
    | some (some ⟨true, _⟩) => .ok (.p i, e)
    | _ => .no) := rfl
@[simp] theorem evE_bin {o : BOp} {a b : Ex} : evE ft cl (.bin o a b) e = (evE ft cl a e >>= fun p => evE ft cl b p.2 >>= fun q => fetch q.2 p.1 >>= fun da => fetch q.2 q.1 >>= fun db => binop o da db >>= fun r => .ok (r, q.2)) := rfl
def negR (e : En) : D → R (Res × En)
  | .int i => .ok (.v false (.int (-i)), e)
  | _ => .no
@[simp] theorem negR_int {i : Int} : negR e (.int i) = .ok (.v false (.int (-i)), e) := rfl
@[simp] theorem evE_neg {a : Ex} : evE ft cl (.neg a) e = (evE ft cl a e >>= fun p => fetch p.2 p.1 >>= negR p.2) := rfl
@[simp] theorem evE_not {a : Ex} : evE ft cl (.not_ a) e = (asTest (evE ft cl a e) >>= fun p => .ok (.v false (.bool (!p.1)), p.2)) := rfl
@[simp] theorem evE_and {a b : Ex} : evE ft cl (.and_ a b) e = (asTest (evE ft cl a e) >>= fun p => if p.1 = true then evE ft cl b p.2 else .ok (.v false (.bool false), p.2)) := rfl
@[simp] theorem evE_or {a b : Ex} : evE ft cl (.or_ a b) e = (asTest (evE ft cl a e) >>= fun p => if p.1 = true then .ok (.v false (.bool true), p.2) else evE ft cl b p.2) := rfl
@[simp] theorem evE_cmp {o : COp} {a b : Ex} : evE ft cl (.cmp o a b) e = (evE ft cl a e >>= fun p => evE ft cl b p.2 >>= fun q => fetch q.2 p.1 >>= fun da => fetch q.2 q.1 >>= fun db => cmpop o da db >>= fun r => .ok (.v false (.bool r), q.2)) := rfl
@[simp] theorem evE_chn {o o' : COp} {a b c : Ex} : evE ft cl (.chn o o' a b c) e = (evE ft cl a e >>= fun p => evE ft cl b p.2 >>= fun q => fetch q.2 p.1 >>= fun da => fetch q.2 q.1 >>= fun db => cmpop o da db >>= fun t =>
    if t = true then (evE ft cl c q.2 >>= fun u => fetch u.2 q.1 >>= fun db => fetch u.2 u.1 >>= fun dc => cmpop o' db dc >>= fun r => .ok (.v false (.bool r), u.2)) else .ok (.v false (.bool false), q.2)) := rfl
@[simp] theorem evE_ite {c a b : Ex} : evE ft cl (.ite c a b) e = (asTest (evE ft cl c e) >>= fun p => if p.1 = true then evE ft cl a p.2 else evE ft cl b p.2) := rfl
@[simp] theorem evE_tup {es : Exs} : evE ft cl (.tup es) e = (evEs ft cl es e >>= fun p => embeds p.2 p.1 >>= fun q => .ok (.v false (.tuple q.1), q.2)) := rfl
@[simp] theorem evE_lst {es : Exs} : evE ft cl (.lst es) e = (evEs ft cl es e >>= fun p => embeds p.2 p.1 >>= fun q => .ok (.v true (.list q.1), q.2)) := rfl
@[simp] theorem evE_comp2 {el : Ex} {tg tg1 : Tg} {it it1 : Wk} {cs : Exs} {own own1 : List Nat} : evE ft cl (.comp2 el tg it tg1 it1 cs own own1) e = (evI ft cl it e >>= fun p => loopC2 (fun e => (evE ft cl el e).quiet) (fun e => (evT ft cl cs e).quiet) (fun e => (evI ft cl it1 e).quiet) tg own tg1 own1 0 p.1 p.2 >>= fun q => .ok (.v true (.list q.1), back p.2 q.2 own)) := rfl
@[simp] theorem evE_mk {l : Bool} {it : Wk} : evE ft cl (.mk l it) e = (evI ft cl it e >>= fun p => .ok (if l = true then .v true (.list p.1) else .v false (.tuple p.1), p.2)) := rfl
@[simp] theorem evE_call {f : Nat} {es : Exs} : evE ft cl (.call f es) e = (evEs ft cl es e >>= fun p => callR ft cl f p.1 p.2) := rfl
@[simp] theorem evE_bi {b : Bi} {es : Exs} : evE ft cl (.bi b es) e = (evEs ft cl es e >>= fun p => fetchs p.2 p.1 >>= fun ds => biop b ds >>= fun r => .ok (r, p.2)) := rfl
@[simp] theorem evE_ix {a i : Ex} : evE ft cl (.ix a i) e = (evE ft cl a e >>= fun p => evE ft cl i p.2 >>= fun q => fetch q.2 p.1 >>= fun da => fetch q.2 q.1 >>= fun di => getix da di >>= fun r => .ok (r, q.2)) := rfl
@[simp] theorem evE_sl {a : Ex} {lo hi : ExO} : evE ft cl (.sl a lo hi) e = (evE ft cl a e >>= fun p => evO ft cl lo p.2 >>= fun q => evO ft cl hi q.2 >>= fun u => fetch u.2 p.1 >>= fun da => getsl da q.1 u.1 >>= fun r => .ok (r, u.2)) := rfl
@[simp] theorem evE_isi {a : Ex} {t : Ty} : evE ft cl (.isi a t) e = (evE ft cl a e >>= fun p => fetch p.2 p.1 >>= fun d => isTy t d >>= fun b => .ok (.v false (.bool b), p.2)) := rfl
@[simp] theorem evEs_nil : evEs ft cl .nil e = .ok ([], e) := rfl
@[simp] theorem evEs_cons {x : Ex} {xs : Exs} : evEs ft cl (.cons x xs) e = (evE ft cl x e >>= fun p => evEs ft cl xs p.2 >>= fun q => .ok (p.1 :: q.1, q.2)) := rfl
def optI (e : En) : D → R (Option Int × En)
  | .int i => .ok (some i, e)
  | _ => .no
@[simp] theorem optI_int {i : Int} : optI e (.int i) = .ok (some i, e) := rfl
@[simp] theorem evO_none : evO ft cl .none e = .ok (none, e) := rfl
@[simp] theorem evO_some {x : Ex} : evO ft cl (.some x) e = (evE ft cl x e >>= fun p => fetch p.2 p.1 >>= optI p.2) := rfl
/-- the items of a sequence -/
def itemsR : D → R (List D)
  | .list xs => .ok xs
  | .tuple xs => .ok xs
  | _ => .no
@[simp] theorem itemsR_list {xs : List D} : itemsR (.list xs) = .ok xs := rfl
@[simp] theorem itemsR_tuple {xs : List D} : itemsR (.tuple xs) = .ok xs := rfl
@[simp] theorem evI_seq {x : Ex} : evI ft cl (.seq x) e = (evE ft cl x e >>= fun p => settle p.2 p.1 >>= fun q => itemsR q.1 >>= fun xs => .ok (xs, q.2)) := by
  show (evE ft cl x e >>= fun p => settle p.2 p.1 >>= fun q => _) = _
  congr 1
  funext p
  congr 1
  funext q
  obtain ⟨d, e1⟩ := q
  cases d <;> rfl
@[simp] theorem evI_rng {es : Exs} : evI ft cl (.rng es) e = (evEs ft cl es e >>= fun p => fetchs p.2 p.1 >>= fun ds => rng ds >>= fun xs => .ok (xs, p.2)) := rfl
@[simp] theorem evI_enum {x : Ex} {k : Nat} : evI ft cl (.enum x k) e = (evE ft cl x e >>= fun p => settle p.2 p.1 >>= fun q => itemsR q.1 >>= fun xs => .ok (enumL k xs, q.2)) := by
  show (evE ft cl x e >>= fun p => settle p.2 p.1 >>= fun q => _) = _
  congr 1
  funext p
  congr 1
  funext q
  obtain ⟨d, e1⟩ := q
  cases d <;> rfl
@[simp] theorem evI_zip {es : Exs} : evI ft cl (.zip es) e = (evEs ft cl es e >>= fun p => embeds p.2 p.1 >>= fun q => zips q.1 >>= fun xs => .ok (xs, q.2)) := rfl
@[simp] theorem evT_nil : evT ft cl .nil e = .ok (true, e) := rfl
@[simp] theorem evT_cons {c : Ex} {cs : Exs} : evT ft cl (.cons c cs) e = (asTest (evE ft cl c e) >>= fun p => if p.1 = true then evT ft cl cs p.2 else .ok (false, p.2)) := rfl
@[simp] theorem asTest_ok {r : Res} : asTest (.ok (r, e)) = (fetch e r >>= fun d => asB d >>= fun b => .ok (b, e)) := rfl
@[simp] theorem asTest_ex {x : D} : asTest (.ex x : R (Res × En)) = .ex x := rfl
@[simp] theorem asB_bool {b : Bool} : asB (.bool b) = .ok b := rfl
@[simp] theorem fetch_v {o : Bool} {d : D} : fetch e (.v o d) = .ok d := rfl
/-- what slot i holds -/
def slotD : Option (Option Sv) → R D
  | some (some s) => .ok s.d
  | _ => .no
@[simp] theorem slotD_some {s : Sv} : slotD (some (some s)) = .ok s.d := rfl
@[simp] theorem fetch_p {i : Nat} : fetch e (.p i) = slotD e[i]? := by
  show (match e[i]? with | some (some s) => R.ok s.d | _ => R.no) = _
  rcases e[i]? with _ | _ | s <;> rfl
@[simp] theorem settle_v {o : Bool} {d : D} : settle e (.v o d) = .ok (d, e) := rfl
@[simp] theorem settle_p {i : Nat} : settle e (.p i) = (slotD e[i]? >>= fun d => .ok (d, e.set i (some ⟨false, d⟩))) := by
  show (match e[i]? with | some (some s) => R.ok (s.d, e.set i (some ⟨false, s.d⟩)) | _ => R.no) = _
  rcases e[i]? with _ | _ | s <;> rfl
@[simp] theorem fetchs_nil : fetchs e [] = .ok [] := rfl
@[simp] theorem fetchs_cons {r : Res} {rs : List Res} : fetchs e (r :: rs) = (fetch e r >>= fun d => fetchs e rs >>= fun ds => .ok (d :: ds)) := rfl
@[simp] theorem embed_eq {r : Res} : embed e r = (settle e r >>= fun p => if notD p.1 = true then .ok p else .no) := rfl
@[simp] theorem embeds_nil : embeds e [] = .ok ([], e) := rfl
@[simp] theorem embeds_cons {r : Res} {rs : List Res} : embeds e (r :: rs) = (embed e r >>= fun p => embeds p.2 rs >>= fun q => .ok (p.1 :: q.1, q.2)) := rfl
@[simp] theorem notD_int {i : Int} : notD (.int i) = true := rfl
@[simp] theorem notD_bool {i : Bool} : notD (.bool i) = true := rfl
@[simp] theorem notD_str {i : Str} : notD (.str i) = true := rfl
@[simp] theorem notD_none : notD .none = true := rfl
@[simp] theorem notD_list {l : List D} : notD (.list l) = true := rfl
@[simp] theorem notD_tuple {l : List D} : notD (.tuple l) = true := rfl
@[simp] theorem imm_int {i : Int} : imm (.int i) = true := rfl
@[simp] theorem imm_bool {i : Bool} : imm (.bool i) = true := rfl
@[simp] theorem imm_str {i : Str} : imm (.str i) = true := rfl
@[simp] theorem imm_none : imm .none = true := rfl
@[simp] theorem imm_list {l : List D} : imm (.list l) = false := rfl
@[simp] theorem imm_tuple {l : List D} : imm (.tuple l) = imms l := rfl
@[simp] theorem imms_nil : imms [] = true := rfl
@[simp] theorem imms_cons {d : D} {l : List D} : imms (d :: l) = (imm d && imms l) := rfl
theorem imms_all {l : List D} : imms l = l.all imm := by
  induction l with
  | nil => rfl
  | cons d l h => simp [h]
@[simp] theorem immTop_list {l : List D} : immTop (.list l) = imms l := rfl
@[simp] theorem keepSv_none : keepSv none = true := rfl
@[simp] theorem keepSv_t {d : D} : keepSv (some ⟨true, d⟩) = immTop d := rfl
@[simp] theorem keepSv_f {d : D} : keepSv (some ⟨false, d⟩) = imm d := rfl
@[simp] theorem outsOk_nil : outsOk [] = true := rfl
@[simp] theorem outsOk_cons {s : Option Sv} {l : List (Option Sv)} : outsOk (s :: l) = (keepSv s && outsOk l) := rfl
@[simp] theorem keepOk_t {d : D} {l : List (Option Sv)} : keepOk ⟨true, d, l⟩ = immTop d := rfl
@[simp] theorem keepOk_f {d : D} {l : List (Option Sv)} : keepOk ⟨false, d, l⟩ = imm d := rfl
/-! operators -/
@[simp] theorem add_int {i j : Int} : binop .add (.int i) (.int j) = .ok (.v false (.int (i + j))) := rfl
@[simp] theorem sub_int {i j : Int} : binop .sub (.int i) (.int j) = .ok (.v false (.int (i - j))) := rfl
@[simp] theorem mul_int {i j : Int} : binop .mul (.int i) (.int j) = if i.natAbs < bigN ∧ j.natAbs < bigN then .ok (.v false (.int (i * j))) else .no := rfl
@[simp] theorem fdiv_int {i j : Int} : binop .fdiv (.int i) (.int j) = if 0 < j ∧ j.natAbs < bigN then .ok (.v false (.int (i / j))) else .no := rfl
@[simp] theorem mod_int {i j : Int} : binop .mod (.int i) (.int j) = if 0 < j then .ok (.v false (.int (i % j))) else .no := rfl
@[simp] theorem pow_int {i j : Int} : binop .pow (.int i) (.int j) = if 0 ≤ j ∧ j ≤ 1000000 ∧ i.natAbs < 2 ^ 64 then .ok (.v false (.int (i ^ j.toNat))) else .no := rfl
@[simp] theorem add_list {x y : List D} : binop .add (.list x) (.list y) = if x.length + y.length ≤ sizeLine then .ok (.v true (.list (x ++ y))) else .no := rfl
@[simp] theorem add_tuple {x y : List D} : binop .add (.tuple x) (.tuple y) = if x.length + y.length ≤ sizeLine then .ok (.v false (.tuple (x ++ y))) else .no := rfl
@[simp] theorem mul_list {x : List D} {k : Int} : binop .mul (.list x) (.int k) = if -(2 ^ 62) ≤ k ∧ k < 2 ^ 62 ∧ x.length * k.toNat ≤ sizeLine then .ok (.v true (.list (List.replicate k.toNat x).flatten)) else .no := rfl
@[simp] theorem mul_tuple {x : List D} {k : Int} : binop .mul (.tuple x) (.int k) = if -1000 ≤ k ∧ k ≤ 1000 ∧ x.length ≤ 1000 then .ok (.v false (.tuple (List.replicate k.toNat x).flatten)) else .no := rfl
@[simp] theorem shl_int {i j : Int} : binop .shl (.int i) (.int j) = if 0 ≤ j ∧ j ≤ 1000000 ∧ i.natAbs < 2 ^ 64 then .ok (.v false (.int (i * 2 ^ j.toNat))) else .no := rfl
@[simp] theorem band_int {i j : Int} : binop .band (.int i) (.int j) = .ok (.v false (.int (Builtin.bitAnd i j))) := rfl
@[simp] theorem cmp_lt {i j : Int} : cmpop .lt (.int i) (.int j) = .ok (decide (i < j)) := rfl
@[simp] theorem cmp_le {i j : Int} : cmpop .le (.int i) (.int j) = .ok (decide (i ≤ j)) := rfl
@[simp] theorem cmp_gt {i j : Int} : cmpop .gt (.int i) (.int j) = .ok (decide (j < i)) := rfl
@[simp] theorem cmp_ge {i j : Int} : cmpop .ge (.int i) (.int j) = .ok (decide (j ≤ i)) := rfl
@[simp] theorem cmp_is {d f : D} : cmpop .is_ d f = isSame d f := rfl
@[simp] theorem cmp_isnot {d f : D} : cmpop .isnot d f = (isSame d f >>= fun b => .ok (!b)) := rfl
@[simp] theorem isSame_none {d : D} : isSame d .none = .ok (isNone d) := by cases d <;> rfl
@[simp] theorem isSame_bool {b c : Bool} : isSame (.bool c) (.bool b) = .ok (c == b) := rfl
@[simp] theorem isNone_none : isNone .none = true := rfl
@[simp] theorem isNone_int {i : Int} : isNone (.int i) = false := rfl
@[simp] theorem isNone_tuple {l : List D} : isNone (.tuple l) = false := rfl
@[simp] theorem isNone_list {l : List D} : isNone (.list l) = false := rfl
@[simp] theorem isNone_bool {i : Bool} : isNone (.bool i) = false := rfl
@[simp] theorem isNone_str {i : Str} : isNone (.str i) = false := rfl
theorem cmp_eq {d f : D} : cmpop .eq d f = if eqOk d f = true then .ok (PyData.eqv d f) else .no := rfl
theorem cmp_ne {d f : D} : cmpop .ne d f = if eqOk d f = true then .ok (!PyData.eqv d f) else .no := rfl
@[simp] theorem eq_int {i j : Int} : cmpop .eq (.int i) (.int j) = .ok (decide (i = j)) := by
  show R.ok (PyData.eqv (.int i) (.int j)) = _
  simp [PyData.eqv]
  rfl
@[simp] theorem ne_int {i j : Int} : cmpop .ne (.int i) (.int j) = .ok (!decide (i = j)) := by
  show R.ok (!PyData.eqv (.int i) (.int j)) = _
  simp [PyData.eqv]
  rfl
end
end Nm
set_option Elab.async false
set_option maxRecDepth 100000
set_option linter.all false
namespace Nm
open PySem L2
section
variable {e : En}
/-! built-in functions -/
@[simp] theorem boolsOf_map {α : Type} {l : List α} {f : α → Bool} : boolsOf (l.map fun a => .bool (f a)) = .ok (l.map f) := by
  induction l with
  | nil => rfl
  | cons a l h =>
    show (boolsOf (l.map fun a => .bool (f a)) >>= fun bs => R.ok (f a :: bs)) = _
    rw [h]; rfl
@[simp] theorem intsOf_map {α : Type} {l : List α} {f : α → Int} : intsOf (l.map fun a => .int (f a)) = .ok (l.map f) := by
  induction l with
  | nil => rfl
  | cons a l h =>
    show (intsOf (l.map fun a => .int (f a)) >>= fun bs => R.ok (f a :: bs)) = _
    rw [h]; rfl
@[simp] theorem intsOf_map' {l : List Int} : intsOf (l.map PyData.int) = .ok l := by
  have := intsOf_map (l := l) (f := fun a => a)
  simpa using this
@[simp] theorem boolsOf_map' {l : List Bool} : boolsOf (l.map PyData.bool) = .ok l := by
  have := boolsOf_map (l := l) (f := fun a => a)
  simpa using this
@[simp] theorem intsOf_nil : intsOf [] = .ok [] := rfl
@[simp] theorem intsOf_cons {i : Int} {l : List D} : intsOf (.int i :: l) = (intsOf l >>= fun is => .ok (i :: is)) := rfl
@[simp] theorem boolsOf_nil : boolsOf [] = .ok [] := rfl
@[simp] theorem boolsOf_cons {i : Bool} {l : List D} : boolsOf (.bool i :: l) = (boolsOf l >>= fun is => .ok (i :: is)) := rfl
@[simp] theorem bi_abs {i : Int} : biop .abs [.int i] = .ok (.v false (.int (if i < 0 then -i else i))) := rfl
@[simp] theorem bi_all {xs : List D} : biop .all [.list xs] = (boolsOf xs >>= fun bs => .ok (.v false (.bool (bs.all id)))) := rfl
@[simp] theorem bi_any {xs : List D} : biop .any [.list xs] = (boolsOf xs >>= fun bs => .ok (.v false (.bool (bs.any id)))) := rfl
@[simp] theorem bi_allT {xs : List D} : biop .all [.tuple xs] = (boolsOf xs >>= fun bs => .ok (.v false (.bool (bs.all id)))) := rfl
@[simp] theorem bi_int {i : Int} : biop .int [.int i] = .ok (.v false (.int i)) := rfl
@[simp] theorem bi_intb {b : Bool} : biop .int [.bool b] = .ok (.v false (.int (if b = true then 1 else 0))) := rfl
@[simp] theorem bi_len {xs : List D} : biop .len [.list xs] = .ok (.v false (.int xs.length)) := rfl
@[simp] theorem bi_lenT {xs : List D} : biop .len [.tuple xs] = .ok (.v false (.int xs.length)) := rfl
@[simp] theorem bi_lenS {x : Str} : biop .len [.str x] = .ok (.v false (.int x.length)) := rfl
@[simp] theorem bi_lenScr {ns : List Int} : biop .len [scrD ns] = .ok (.v false (.int ns.length)) := by
  show (match scr? (scrD ns) with | some ns => R.ok (Res.v false (.int ns.length)) | none => .no) = _
  rw [scr_scrD]
@[simp] theorem bi_list {xs : List D} : biop .list [.list xs] = .ok (.v true (.list xs)) := rfl
@[simp] theorem bi_listT {xs : List D} : biop .list [.tuple xs] = .ok (.v true (.list xs)) := rfl
@[simp] theorem bi_tuple {xs : List D} : biop .tuple [.list xs] = .ok (.v false (.tuple xs)) := rfl
@[simp] theorem bi_tupleT {xs : List D} : biop .tuple [.tuple xs] = .ok (.v false (.tuple xs)) := rfl
@[simp] theorem bi_max2 {i j : Int} : biop .max2 [.int i, .int j] = .ok (.v false (.int (if j > i then j else i))) := rfl
@[simp] theorem bi_min2 {i j : Int} : biop .min2 [.int i, .int j] = .ok (.v false (.int (if j < i then j else i))) := rfl
@[simp] theorem bi_sum {xs : List D} : biop .sum [.list xs] = (intsOf xs >>= fun is => .ok (.v false (.int is.sum))) := rfl
def maxR : List Int → R Res
  | [] => .no
  | m :: r => .ok (.v false (.int (maxI m r)))
def minR : List Int → R Res
  | [] => .no
  | m :: r => .ok (.v false (.int (minI m r)))
@[simp] theorem maxR_cons {m : Int} {r : List Int} : maxR (m :: r) = .ok (.v false (.int (maxI m r))) := rfl
@[simp] theorem minR_cons {m : Int} {r : List Int} : minR (m :: r) = .ok (.v false (.int (minI m r))) := rfl
@[simp] theorem bi_max {xs : List D} : biop .max [.list xs] = (intsOf xs >>= maxR) := rfl
@[simp] theorem bi_maxT {xs : List D} : biop .max [.tuple xs] = (intsOf xs >>= maxR) := rfl
@[simp] theorem bi_min {xs : List D} : biop .min [.list xs] = (intsOf xs >>= minR) := rfl
theorem bi_repr {d : D} : biop .repr [d] = if reprOk d = true then .ok (.v false (.str d.shown)) else .no := rfl
theorem bi_str {i : Int} : biop .str [.int i] = if i.natAbs.log2 < 1920 then .ok (.v false (.str (toString i))) else .no := rfl
/-! items, slices -/
def valR : Option D → R Res
  | some d => .ok (.v false d)
  | none => .no
@[simp] theorem valR_some {d : D} : valR (some d) = .ok (.v false d) := rfl
@[simp] theorem getix_list {xs : List D} {i : Int} : getix (.list xs) (.int i) = valR (atI xs i) := by
  show (match atI xs i with | some d => R.ok (Res.v false d) | none => .no) = _
  cases atI xs i <;> rfl
@[simp] theorem getix_tuple {xs : List D} {i : Int} : getix (.tuple xs) (.int i) = valR (atI xs i) := by
  show (match atI xs i with | some d => R.ok (Res.v false d) | none => .no) = _
  cases atI xs i <;> rfl
@[simp] theorem getix_scr {ns : List Int} {i : Int} : getix (scrD ns) (.int i) = valR ((atI ns i).map PyData.int) := by
  show (match scr? (scrD ns) with | some ns => (match atI ns i with | some n => R.ok (Res.v false (.int n)) | none => .no) | none => .no) = _
  rw [scr_scrD]
  show (match atI ns i with | some n => R.ok (Res.v false (.int n)) | none => .no) = _
  cases atI ns i <;> rfl
@[simp] theorem getsl_list {xs : List D} {lo hi : Option Int} : getsl (.list xs) lo hi = .ok (.v true (.list (cutD xs lo hi))) := rfl
@[simp] theorem getsl_tuple {xs : List D} {lo hi : Option Int} : getsl (.tuple xs) lo hi = .ok (.v false (.tuple (cutD xs lo hi))) := rfl
@[simp] theorem atI_0 {α : Type} {x : α} {xs : List α} : atI (x :: xs) 0 = some x := by simp [atI, ixN]
@[simp] theorem atI_1 {α : Type} {x y : α} {xs : List α} : atI (x :: y :: xs) 1 = some y := atI_nat (j := 1) rfl
@[simp] theorem atI_2 {α : Type} {x y z : α} {xs : List α} : atI (x :: y :: z :: xs) 2 = some z := atI_nat (j := 2) rfl
theorem atI_lt {α : Type} {xs : List α} {i : Nat} (h : i < xs.length) : atI xs (i : Int) = some xs[i] := atI_nat (List.getElem?_eq_getElem h)
/-! isinstance -/
@[simp] theorem ty_int_int {i : Int} : isTy .int (.int i) = .ok true := rfl
@[simp] theorem ty_int_bool {b : Bool} : isTy .int (.bool b) = .ok true := rfl
@[simp] theorem ty_bool_bool {b : Bool} : isTy .bool (.bool b) = .ok true := rfl
@[simp] theorem ty_bool_int {i : Int} : isTy .bool (.int i) = .ok false := rfl
@[simp] theorem ty_tuple_tuple {l : List D} : isTy .tuple (.tuple l) = .ok true := rfl
@[simp] theorem ty_list_list {l : List D} : isTy .list (.list l) = .ok true := rfl
@[simp] theorem ty_str_str {l : Str} : isTy .str (.str l) = .ok true := rfl
@[simp] theorem ty_seq_list {l : List D} : isTy .seq (.list l) = .ok true := rfl
@[simp] theorem ty_seq_tuple {l : List D} : isTy .seq (.tuple l) = .ok true := rfl
/-! walks -/
@[simp] theorem rngS1 {j : Int} : rng [.int j] = if (small62 j && decide (j ≤ 16777216)) = true then .ok (rangeL 0 j) else .no := rfl
@[simp] theorem rngS2 {i j : Int} : rng [.int i, .int j] = if (small62 i && small62 j && decide (j - i ≤ 16777216)) = true then .ok (rangeL i j) else .no := rfl
@[simp] theorem small62_iff {i : Int} : small62 i = true ↔ -(2 ^ 62) ≤ i ∧ i < 2 ^ 62 := by unfold small62; simp
theorem rangeL_map (lo hi : Int) : rangeL lo hi = (List.range (hi - lo).toNat).map fun (k : Nat) => PyData.int (lo + (k : Int)) := rfl
@[simp] theorem rangeL_0 (n : Nat) : rangeL 0 (n : Int) = (List.range n).map fun (k : Nat) => PyData.int (k : Int) := by simp [rangeL]
theorem enumL_map {α : Type} {f : α → D} : ∀ {l : List α} {k : Nat}, enumL (k : Int) (l.map f) = (l.zipIdx k).map fun p => .tuple [.int (p.2 : Int), f p.1]
  | [], _ => rfl
  | a :: l, k => by
    show PyData.tuple [.int k, f a] :: enumL ((k : Int) + 1) (l.map f) = _
    rw [show ((k : Int) + 1) = ((k + 1 : Nat) : Int) by omega, enumL_map]
    rfl
theorem enumL_map0 {α : Type} {f : α → D} {l : List α} : enumL 0 (l.map f) = (l.zipIdx).map fun p => .tuple [.int (p.2 : Int), f p.1] := enumL_map (k := 0)
theorem zip2_map {α β : Type} {f : α → D} {g : β → D} : ∀ {l : List α} {m : List β}, zip2 (l.map f) (m.map g) = (l.zip m).map fun p => .tuple [f p.1, g p.2]
  | [], _ => by simp [zip2]
  | _ :: _, [] => by simp [zip2]
  | a :: l, b :: m => by
    show PyData.tuple [f a, g b] :: zip2 (l.map f) (m.map g) = _
    rw [zip2_map]; rfl
theorem zip3_map {α β γ : Type} {f : α → D} {g : β → D} {h : γ → D} : ∀ {l : List α} {m : List β} {n : List γ}, zip3 (l.map f) (m.map g) (n.map h) = (l.zip (m.zip n)).map fun p => .tuple [f p.1, g p.2.1, h p.2.2]
  | [], _, _ => by simp [zip3]
  | _ :: _, [], _ => by simp [zip3]
  | _ :: _, _ :: _, [] => by simp [zip3]
  | a :: l, b :: m, c :: n => by
    show PyData.tuple [f a, g b, h c] :: zip3 (l.map f) (m.map g) (n.map h) = _
    rw [zip3_map]; rfl
def zips2 : D → D → R (List D)
  | .list xs, .list ys => .ok (zip2 xs ys)
  | .list xs, .tuple ys => .ok (zip2 xs ys)
  | .tuple xs, .list ys => .ok (zip2 xs ys)
  | .tuple xs, .tuple ys => .ok (zip2 xs ys)
  | _, _ => .no
@[simp] theorem zips_ll {x y : List D} : zips [.list x, .list y] = .ok (zip2 x y) := rfl
@[simp] theorem zips_lt {x y : List D} : zips [.list x, .tuple y] = .ok (zip2 x y) := rfl
@[simp] theorem zips_tl {x y : List D} : zips [.tuple x, .list y] = .ok (zip2 x y) := rfl
@[simp] theorem zips_tt {x y : List D} : zips [.tuple x, .tuple y] = .ok (zip2 x y) := rfl
@[simp] theorem zips_ttt {x y z : List D} : zips [.tuple x, .tuple y, .tuple z] = .ok (zip3 x y z) := rfl
end
section
variable {ft : Nat → Fd} {cl : Cl} {e : En} {pin : List Nat}
/-! targets -/
@[simp] theorem bindT_nm {i : Nat} {d : D} : bindT (.nm i) d e = if i < e.length then .ok (e.set i (some ⟨false, d⟩)) else .no := rfl
@[simp] theorem bindT_tp {ts : List Tg} {ds : List D} : bindT (.tp ts) (.tuple ds) e = if ds.length = ts.length then bindTs ts ds e else .no := rfl
@[simp] theorem bindTs_nil {ds : List D} : bindTs [] ds e = .ok e := rfl
@[simp] theorem bindTs_cons {t : Tg} {ts : List Tg} {d : D} {ds : List D} : bindTs (t :: ts) (d :: ds) e = (bindT t d e >>= fun e => bindTs ts ds e) := rfl
@[simp] theorem tgOk_nm {i : Nat} : tgOk pin (.nm i) = !pin.contains i := rfl
@[simp] theorem tgOk_tp {ts : List Tg} : tgOk pin (.tp ts) = tgsOk pin ts := rfl
@[simp] theorem tgsOk_nil : tgsOk pin [] = true := rfl
@[simp] theorem tgsOk_cons {t : Tg} {ts : List Tg} : tgsOk pin (t :: ts) = (tgOk pin t && tgsOk pin ts) := rfl
@[simp] theorem wipeE_nil : wipeE e [] = e := rfl
@[simp] theorem wipeE_cons {v : Nat} {vs : List Nat} : wipeE e (v :: vs) = (wipeE e vs).set v none := rfl
@[simp] theorem back_nil {e0 : En} : back e0 e [] = e := rfl
@[simp] theorem back_cons {e0 : En} {v : Nat} {vs : List Nat} : back e0 e (v :: vs) = (back e0 e vs).set v (unown (e0.getD v none)) := rfl
@[simp] theorem unown_none : unown none = none := rfl
@[simp] theorem unown_f {d : D} : unown (some ⟨false, d⟩) = some ⟨false, d⟩ := rfl
@[simp] theorem unown_t {d : D} : unown (some ⟨true, d⟩) = none := rfl
/-! comprehensions -/
/-- one turn, from the wiped slots to the wiped slots -/
def turnC (el : En → R (Res × En)) (ts : En → R (Bool × En)) (tg : Tg) (own : List Nat) (x : D) (w : En) : R (Option D × En) :=
  bindT tg x w >>= fun e1 => ts e1 >>= fun p => if p.1 = true then (el p.2 >>= fun q => embed q.2 q.1 >>= fun u => .ok (some u.1, wipeE u.2 own)) else .ok (none, wipeE p.2 own)
def consO : Option D → List D → List D
  | some d, l => d :: l
  | none, l => l
def runC (t : D → En → R (Option D × En)) : List D → En → R (List D × En)
  | [], w => .ok ([], w)
  | x :: xs, w => t x w >>= fun p => runC t xs p.2 >>= fun q => .ok (consO p.1 q.1, q.2)
theorem loopC_run {β : Type} {el : En → R (Res × En)} {ts : En → R (Bool × En)} {tg : Tg} {own : List Nat} : ∀ {xs : List D} {e : En} {k : List D → En → R β}, (loopC el ts tg own xs e >>= fun q => k q.1 (wipeE q.2 own)) = (runC (turnC el ts tg own) xs (wipeE e own) >>= fun q => k q.1 q.2)
  | [], e, k => rfl
  | x :: xs, e, k => by
    show ((bindT tg x (wipeE e own) >>= fun e1 => ts e1 >>= fun p => if p.1 = true then (el p.2 >>= fun q => embed q.2 q.1 >>= fun u => loopC el ts tg own xs u.2 >>= fun v => R.ok (u.1 :: v.1, v.2)) else loopC el ts tg own xs p.2) >>= fun q => k q.1 (wipeE q.2 own)) = ((turnC el ts tg own x (wipeE e own) >>= fun p => runC (turnC el ts tg own) xs p.2 >>= fun q => R.ok (consO p.1 q.1, q.2)) >>= fun q => k q.1 q.2)
    unfold turnC
    simp only [bind_asc]
    congr 1
    funext e1
    congr 1
    funext p
    obtain ⟨b, e2⟩ := p
    cases b with
    | false => exact loopC_run (k := k)
    | true =>
      simp only [if_true, bind_asc]
      congr 1
      funext q
      congr 1
      funext u
      exact loopC_run (k := fun l w => k (u.1 :: l) w)
theorem back_set_same {e0 : En} {u : Nat} {o x : Option Sv} : ∀ {us : List Nat} {e : En}, (back e0 (e.set u o) us).set u x = (back e0 e us).set u x
  | [], e => by simp
  | w :: us, e => by
    unfold back
    by_cases h : w = u
    · subst h
      rw [List.set_set, List.set_set, back_set_same]
    · rw [List.set_comm _ _ h, List.set_comm _ _ h, back_set_same]
theorem back_set_mem {e0 : En} {u : Nat} {o : Option Sv} : ∀ {us : List Nat} {e : En}, u ∈ us → back e0 (e.set u o) us = back e0 e us
  | w :: us, e, h => by
    unfold back
    by_cases q : w = u
    · subst q; exact back_set_same
    · rw [back_set_mem (by simpa [Ne.symm q] using h)]
theorem back_wipe' {e0 : En} {us : List Nat} : ∀ {vs : List Nat} {e : En}, (∀ v ∈ vs, v ∈ us) → back e0 (wipeE e vs) us = back e0 e us
  | [], e, _ => rfl
  | v :: vs, e, h => by
    unfold wipeE
    rw [back_set_mem (h v (by simp)), back_wipe' fun w hw => h w (by simp [hw])]
theorem back_wipe {e0 : En} {us : List Nat} {e : En} : back e0 (wipeE e us) us = back e0 e us := back_wipe' fun _ h => h
@[simp] theorem evE_comp {el : Ex} {tg : Tg} {it : Wk} {cs : Exs} {own : List Nat} : evE ft cl (.comp el tg it cs own) e = (evI ft cl it e >>= fun p =>
    runC (turnC (fun e => (evE ft cl el e).quiet) (fun e => (evT ft cl cs e).quiet) tg own) p.1 (wipeE p.2 own) >>= fun q => .ok (.v true (.list q.1), thawW it e q.1 (back p.2 q.2 own))) := by
  show (evI ft cl it e >>= fun p => loopC (fun e => (evE ft cl el e).quiet) (fun e => (evT ft cl cs e).quiet) tg own p.1 p.2 >>= fun q => R.ok (Res.v true (.list q.1), thawW it e q.1 (back p.2 q.2 own))) = _
  congr 1
  funext p
  rw [← loopC_run (k := fun l w => R.ok (Res.v true (.list l), thawW it e l (back p.2 w own)))]
  congr 1
  funext q
  rw [back_wipe]
/-! what is walked -/
@[simp] theorem thawW_rng {es : Exs} {ys : List D} {eF : En} : thawW (.rng es) e ys eF = eF := rfl
@[simp] theorem thawW_zip {es : Exs} {ys : List D} {eF : En} : thawW (.zip es) e ys eF = eF := rfl
@[simp] theorem thawW_seq_cst {d : D} {ys : List D} {eF : En} : thawW (.seq (.cst d)) e ys eF = eF := rfl
@[simp] theorem thawW_enum_cst {d : D} {k : Nat} {ys : List D} {eF : En} : thawW (.enum (.cst d) k) e ys eF = eF := rfl
@[simp] theorem thawW_seq_call {f : Nat} {es : Exs} {ys : List D} {eF : En} : thawW (.seq (.call f es)) e ys eF = eF := rfl
@[simp] theorem thawW_enum_call {f : Nat} {es : Exs} {k : Nat} {ys : List D} {eF : En} : thawW (.enum (.call f es) k) e ys eF = eF := rfl
@[simp] theorem thawW_seq_comp {el : Ex} {tg : Tg} {it : Wk} {cs : Exs} {own : List Nat} {ys : List D} {eF : En} : thawW (.seq (.comp el tg it cs own)) e ys eF = eF := rfl
@[simp] theorem thawW_enum_comp {el : Ex} {tg : Tg} {it : Wk} {cs : Exs} {own : List Nat} {k : Nat} {ys : List D} {eF : En} : thawW (.enum (.comp el tg it cs own) k) e ys eF = eF := rfl
@[simp] theorem thawW_seq_ix {a i : Ex} {ys : List D} {eF : En} : thawW (.seq (.ix a i)) e ys eF = eF := rfl
@[simp] theorem thawW_enum_ix {a i : Ex} {k : Nat} {ys : List D} {eF : En} : thawW (.enum (.ix a i) k) e ys eF = eF := rfl
@[simp] theorem thawW_seq_bi {b : Bi} {es : Exs} {ys : List D} {eF : En} : thawW (.seq (.bi b es)) e ys eF = eF := rfl
@[simp] theorem thawW_enum_bi {b : Bi} {es : Exs} {k : Nat} {ys : List D} {eF : En} : thawW (.enum (.bi b es) k) e ys eF = eF := rfl
@[simp] theorem thawW_seq_sl {a : Ex} {lo hi : ExO} {ys : List D} {eF : En} : thawW (.seq (.sl a lo hi)) e ys eF = eF := rfl
@[simp] theorem thawW_enum_sl {a : Ex} {lo hi : ExO} {k : Nat} {ys : List D} {eF : En} : thawW (.enum (.sl a lo hi) k) e ys eF = eF := rfl
@[simp] theorem thawW_seq_lst {es : Exs} {ys : List D} {eF : En} : thawW (.seq (.lst es)) e ys eF = eF := rfl
@[simp] theorem thawW_enum_lst {es : Exs} {k : Nat} {ys : List D} {eF : En} : thawW (.enum (.lst es) k) e ys eF = eF := rfl
@[simp] theorem thawW_seq_tup {es : Exs} {ys : List D} {eF : En} : thawW (.seq (.tup es)) e ys eF = eF := rfl
@[simp] theorem thawW_enum_tup {es : Exs} {k : Nat} {ys : List D} {eF : En} : thawW (.enum (.tup es) k) e ys eF = eF := rfl
@[simp] theorem thawW_seq_bin {o : BOp} {a b : Ex} {ys : List D} {eF : En} : thawW (.seq (.bin o a b)) e ys eF = eF := rfl
@[simp] theorem thawW_enum_bin {o : BOp} {a b : Ex} {k : Nat} {ys : List D} {eF : En} : thawW (.enum (.bin o a b) k) e ys eF = eF := rfl
@[simp] theorem thawW_seq_mk {l : Bool} {it : Wk} {ys : List D} {eF : En} : thawW (.seq (.mk l it)) e ys eF = eF := rfl
@[simp] theorem thawW_enum_mk {l : Bool} {it : Wk} {k : Nat} {ys : List D} {eF : En} : thawW (.enum (.mk l it) k) e ys eF = eF := rfl
@[simp] theorem thawW_seq_comp2 {el : Ex} {tg : Tg} {it : Wk} {tg1 : Tg} {it1 : Wk} {cs : Exs} {own own1 : List Nat} {ys : List D} {eF : En} : thawW (.seq (.comp2 el tg it tg1 it1 cs own own1)) e ys eF = eF := rfl
@[simp] theorem thawW_enum_comp2 {el : Ex} {tg : Tg} {it : Wk} {tg1 : Tg} {it1 : Wk} {cs : Exs} {own own1 : List Nat} {k : Nat} {ys : List D} {eF : En} : thawW (.enum (.comp2 el tg it tg1 it1 cs own own1) k) e ys eF = eF := rfl
def thawO (o : Option (Option Sv)) (e : En) (ys : List D) (eF : En) : En := if (ownO o && imms ys && (List.zipWith okT e eF).all id) = true then thawE e eF else eF
@[simp] theorem thawW_seq_var {i : Nat} {ys : List D} {eF : En} : thawW (.seq (.var i)) e ys eF = thawO e[i]? e ys eF := by
  show (if ((ownO e[i]? || false) && imms ys && _) = true then _ else _) = _
  rw [Bool.or_false]; rfl
@[simp] theorem thawW_enum_var {i : Nat} {k : Nat} {ys : List D} {eF : En} : thawW (.enum (.var i) k) e ys eF = thawO e[i]? e ys eF := by
  show (if ((ownO e[i]? || false) && imms ys && _) = true then _ else _) = _
  rw [Bool.or_false]; rfl
@[simp] theorem thawO_f {d : D} {ys : List D} {eF : En} : thawO (some (some ⟨false, d⟩)) e ys eF = eF := rfl
@[simp] theorem thawO_t {d : D} {ys : List D} {eF : En} : thawO (some (some ⟨true, d⟩)) e ys eF = if (imms ys && (List.zipWith okT e eF).all id) = true then thawE e eF else eF := rfl
@[simp] theorem thawE_nil {eF : En} : thawE [] eF = [] := rfl
@[simp] theorem thawE_cons {s t : Option Sv} {eF : En} : thawE (s :: e) (t :: eF) = thaw1 s t :: thawE e eF := rfl
@[simp] theorem thaw1_f {d : D} {t : Option Sv} : thaw1 (some ⟨false, d⟩) t = some ⟨false, d⟩ := rfl
@[simp] theorem thaw1_t {d : D} {t : Option Sv} : thaw1 (some ⟨true, d⟩) t = t.map fun s => ⟨true, s.d⟩ := rfl
@[simp] theorem thaw1_n {t : Option Sv} : thaw1 none t = none := rfl
@[simp] theorem okT_t {d : D} {o : Bool} {xs : List D} : okT (some ⟨true, d⟩) (some ⟨o, .list xs⟩) = imms xs := rfl
@[simp] theorem okT_tn {d : D} : okT (some ⟨true, d⟩) none = false := rfl
@[simp] theorem okT_f {d : D} {t : Option Sv} : okT (some ⟨false, d⟩) t = true := rfl
@[simp] theorem okT_n {t : Option Sv} : okT none t = true := rfl
@[simp] theorem imms_ints {l : List Int} : imms (l.map PyData.int) = true := by induction l with
  | nil => rfl
  | cons a l h => exact h
/-- the same slots in each turn: a map -/
theorem runC_map {α : Type} {t : D → En → R (Option D × En)} {w : En} {f : α → D} (g : α → D) {l : List α} (h : ∀ a ∈ l, t (f a) w = .ok (some (g a), w)) : runC t (l.map f) w = .ok (l.map g, w) := by
  induction l with
  | nil => rfl
  | cons a l ih =>
    show (t (f a) w >>= fun p => runC t (l.map f) p.2 >>= fun q => R.ok (consO p.1 q.1, q.2)) = _
    rw [h a (by simp)]
    simp only [bind_ok]
    rw [ih fun b hb => h b (by simp [hb])]
    rfl
/-- .. with a test -/
theorem runC_filter {α : Type} {t : D → En → R (Option D × En)} {w : En} {f : α → D} (c : α → Bool) (g : α → D) {l : List α} (h : ∀ a ∈ l, t (f a) w = .ok (if c a = true then some (g a) else none, w)) : runC t (l.map f) w = .ok ((l.filter c).map g, w) := by
  induction l with
  | nil => rfl
  | cons a l ih =>
    show (t (f a) w >>= fun p => runC t (l.map f) p.2 >>= fun q => R.ok (consO p.1 q.1, q.2)) = _
    rw [h a (by simp)]
    simp only [bind_ok]
    rw [ih fun b hb => h b (by simp [hb])]
    cases hc : c a <;> simp [hc, consO]
/-! statements -/
@[simp] theorem evSs_nil : evSs ft cl pin [] e = .ok (.nx, e) := rfl
@[simp] theorem evSs_cons' {s : Sm} {r : List Sm} : evSs ft cl pin (s :: r) e = thenF (evS ft cl pin s e) (evSs ft cl pin r) := evSs_cons
@[simp] theorem thenF_nx {k : En → R (Fl × En)} : thenF (.ok (.nx, e)) k = k e := rfl
@[simp] theorem thenF_rt {o : Bool} {d : D} {k : En → R (Fl × En)} : thenF (.ok (.rt o d, e)) k = .ok (.rt o d, e) := rfl
@[simp] theorem thenF_ex {x : D} {k : En → R (Fl × En)} : thenF (.ex x) k = .ex x := rfl
theorem thenF_congr {m m' : R (Fl × En)} {k : En → R (Fl × En)} (h : m = m') : thenF m k = thenF m' k := by rw [h]
@[simp] theorem stow_v {o : Bool} {d : D} : stow e (.v o d) = .ok (⟨o, d⟩, e) := rfl
@[simp] theorem stow_p {j : Nat} : stow e (.p j) = (settle e (.p j) >>= fun p => .ok (⟨false, p.1⟩, p.2)) := rfl
@[simp] theorem setR_eq {i : Nat} {r : Res} : setR pin i r e = (stow e r >>= fun p => if i < p.2.length ∧ i ∉ pin then .ok (p.2.set i (some p.1)) else .no) := rfl
@[simp] theorem evS_asg {i : Nat} {x : Ex} : evS ft cl pin (.asg (.nm i) x) e = (evE ft cl x e >>= fun p => setR pin i p.1 p.2 >>= fun e => .ok (.nx, e)) := rfl
@[simp] theorem evS_asgT {ts : List Tg} {x : Ex} : evS ft cl pin (.asg (.tp ts) x) e = (evE ft cl x e >>= fun p => settle p.2 p.1 >>= fun q => if tgsOk pin ts = true then (bindT (.tp ts) q.1 q.2 >>= fun e => .ok (.nx, e)) else .no) := rfl
@[simp] theorem evS_par {i j : Nat} {a b : Ex} : evS ft cl pin (.par i j a b) e = (evE ft cl a e >>= fun p => evE ft cl b p.2 >>= fun q => stow q.2 p.1 >>= fun u => stow u.2 q.1 >>= fun v =>
    if i < v.2.length ∧ j < v.2.length ∧ i ≠ j ∧ i ∉ pin ∧ j ∉ pin then .ok (.nx, (v.2.set i (some u.1)).set j (some v.1)) else .no) := rfl
@[simp] theorem lst_t {xs : List D} : lst? (some ⟨true, .list xs⟩) = .ok xs := rfl
@[simp] theorem lst_f {d : D} : lst? (some ⟨false, d⟩) = .no := by cases d <;> rfl
@[simp] theorem int_f {i : Int} : int? (some ⟨false, .int i⟩) = .ok i := rfl
@[simp] theorem asI_int {i : Int} : asI (.int i) = .ok i := rfl
@[simp] theorem asL_list {xs : List D} : asL (.list xs) = .ok xs := rfl
@[simp] theorem evS_setix {x : Nat} {i v : Ex} : evS ft cl pin (.setix x i v) e = (evE ft cl v e >>= fun p => lst? (p.2.getD x none) >>= fun _ => evE ft cl i p.2 >>= fun q => embed q.2 p.1 >>= fun u => fetch u.2 q.1 >>= fun di => asI di >>= fun k =>
    lst? (u.2.getD x none) >>= fun xs => R.ofO (ixN xs.length k) >>= fun j => .ok (.nx, u.2.set x (some ⟨true, .list (xs.set j u.1)⟩))) := rfl
/-- x += .., by what x holds -/
def augR (m : R (Res × En)) (x : Nat) (pin : List Nat) (e : En) : R (Fl × En) := match lst? (e.getD x none) with
  | .ok _ => m >>= fun p => fetch p.2 p.1 >>= fun d => asL d >>= fun ys => lst? (p.2.getD x none) >>= fun xs => if xs.length + ys.length ≤ sizeLine then .ok (.nx, p.2.set x (some ⟨true, .list (xs ++ ys)⟩)) else .no
  | _ => int? (e.getD x none) >>= fun i => m >>= fun p => fetch p.2 p.1 >>= fun d => asI d >>= fun j => if x < p.2.length ∧ x ∉ pin then .ok (.nx, p.2.set x (some ⟨false, .int (i + j)⟩)) else .no
@[simp] theorem evS_aug {x : Nat} {v : Ex} : evS ft cl pin (.aug x .add v) e = augR (evE ft cl v e) x pin e := rfl
theorem augR_l {m : R (Res × En)} {x : Nat} {xs : List D} (h : e.getD x none = some ⟨true, .list xs⟩) : augR m x pin e = (m >>= fun p => fetch p.2 p.1 >>= fun d => asL d >>= fun ys => lst? (p.2.getD x none) >>= fun xs => if xs.length + ys.length ≤ sizeLine then .ok (.nx, p.2.set x (some ⟨true, .list (xs ++ ys)⟩)) else .no) := by
  unfold augR; rw [h]; rfl
theorem augR_i {m : R (Res × En)} {x : Nat} {i : Int} (h : e.getD x none = some ⟨false, .int i⟩) : augR m x pin e = (m >>= fun p => fetch p.2 p.1 >>= fun d => asI d >>= fun j => if x < p.2.length ∧ x ∉ pin then .ok (.nx, p.2.set x (some ⟨false, .int (i + j)⟩)) else .no) := by
  unfold augR; rw [h]; rfl
@[simp] theorem evS_app {x : Nat} {v : Ex} : evS ft cl pin (.app x v) e = (lst? (e.getD x none) >>= fun _ => evE ft cl v e >>= fun p => embed p.2 p.1 >>= fun q => lst? (q.2.getD x none) >>= fun xs => if xs.length < sizeLine then .ok (.nx, q.2.set x (some ⟨true, .list (xs ++ [q.1])⟩)) else .no) := rfl
@[simp] theorem evS_drop {x : Ex} : evS ft cl pin (.drop x) e = (evE ft cl x e >>= fun p => .ok (.nx, p.2)) := rfl
@[simp] theorem evS_ife {c : Ex} {a b : List Sm} : evS ft cl pin (.ife c a b) e = (asTest (evE ft cl c e) >>= fun p => if p.1 = true then evSs ft cl pin a p.2 else evSs ft cl pin b p.2) := rfl
@[simp] theorem evS_for {t : Tg} {it : Wk} {b : List Sm} : evS ft cl pin (.for_ t it b) e = (evI ft cl it e >>= fun p => if tgOk pin t = true then loopF (fun e => evSs ft cl pin b e) t p.1 p.2 else .no) := rfl
@[simp] theorem evS_whl {c : Ex} {b : List Sm} : evS ft cl pin (.whl c b) e = loopW (fun e => asTest (evE ft cl c e)) (fun e => evSs ft cl pin b e) wfuel e := rfl
@[simp] theorem evS_ret0 : evS ft cl pin (.ret none) e = .ok (.rt false .none, e) := rfl
def retR (pin : List Nat) (e : En) : Res → R (Fl × En)
  | .v o d => .ok (.rt o d, e)
  | .p i => if pin.contains i = true then (settle e (.p i) >>= fun q => .ok (.rt false q.1, q.2)) else (R.ofO (e.getD i none) >>= fun s => .ok (.rt s.own s.d, e.set i none))
@[simp] theorem retR_v {o : Bool} {d : D} : retR pin e (.v o d) = .ok (.rt o d, e) := rfl
@[simp] theorem retR_p {i : Nat} : retR pin e (.p i) = if pin.contains i = true then (settle e (.p i) >>= fun q => .ok (.rt false q.1, q.2)) else (R.ofO (e.getD i none) >>= fun s => .ok (.rt s.own s.d, e.set i none)) := rfl
@[simp] theorem evS_ret {x : Ex} : evS ft cl pin (.ret (some x)) e = (evE ft cl x e >>= fun p => retR pin p.2 p.1) := rfl
@[simp] theorem evS_rse {c : Nat} {es : Exs} : evS ft cl pin (.rse c es) e = (evEs ft cl es e >>= fun p => embeds p.2 p.1 >>= fun q => .ex (excD c q.1)) := rfl
@[simp] theorem evS_pass : evS ft cl pin .pass e = .ok (.nx, e) := rfl
/-! calls -/
def argV (io : Bool) : Option (Option Sv) → R Sv
  | some (some s) => if io = true then (if s.own = true then .ok ⟨true, s.d⟩ else .no) else .ok ⟨false, s.d⟩
  | _ => .no
@[simp] theorem argV_some {io : Bool} {s : Sv} : argV io (some (some s)) = if io = true then (if s.own = true then .ok ⟨true, s.d⟩ else .no) else .ok ⟨false, s.d⟩ := rfl
@[simp] theorem argIn_v {io o : Bool} {d : D} : argIn e io (.v o d) = if io = true then (if o = true then .ok ⟨true, d⟩ else .no) else .ok ⟨false, d⟩ := rfl
@[simp] theorem argIn_p {io : Bool} {i : Nat} : argIn e io (.p i) = argV io e[i]? := by
  show (match e[i]? with | some (some s) => if io = true then (if s.own = true then R.ok (Sv.mk true s.d) else .no) else .ok ⟨false, s.d⟩ | _ => R.no) = _
  rcases e[i]? with _ | _ | s <;> rfl
@[simp] theorem argsIn_nil {io : List Nat} {j : Nat} : argsIn e io j [] = .ok [] := rfl
@[simp] theorem argsIn_cons {io : List Nat} {j : Nat} {r : Res} {rs : List Res} : argsIn e io j (r :: rs) = (argIn e (io.contains j) r >>= fun s => argsIn e io (j + 1) rs >>= fun ss => .ok (s :: ss)) := rfl
@[simp] theorem inouts_nil {io : List Nat} {j : Nat} : inouts io j [] = [] := rfl
@[simp] theorem inouts_v {io : List Nat} {j : Nat} {o : Bool} {d : D} {rs : List Res} : inouts io j (.v o d :: rs) = inouts io (j + 1) rs := rfl
@[simp] theorem inouts_p {io : List Nat} {j i : Nat} {rs : List Res} : inouts io j (.p i :: rs) = if io.contains j = true then i :: inouts io (j + 1) rs else inouts io (j + 1) rs := rfl
@[simp] theorem lents_nil' {io : List Nat} {j : Nat} : lents io j [] = [] := rfl
@[simp] theorem lents_v {io : List Nat} {j : Nat} {o : Bool} {d : D} {rs : List Res} : lents io j (.v o d :: rs) = lents io (j + 1) rs := rfl
@[simp] theorem lents_p {io : List Nat} {j i : Nat} {rs : List Res} : lents io j (.p i :: rs) = if io.contains j = true then lents io (j + 1) rs else i :: lents io (j + 1) rs := rfl
@[simp] theorem ioAt_nil {io : List Nat} {j i : Nat} : ioAt io j [] i = none := rfl
@[simp] theorem ioAt_v {io : List Nat} {j i : Nat} {o : Bool} {d : D} {rs : List Res} : ioAt io j (.v o d :: rs) i = ioAt io (j + 1) rs i := rfl
@[simp] theorem ioAt_p {io : List Nat} {j i k : Nat} {rs : List Res} : ioAt io j (.p k :: rs) i = if (io.contains j && k == i) = true then some j else ioAt io (j + 1) rs i := rfl
@[simp] theorem updE_nil {g : Nat → Option Sv → Option Sv} {i : Nat} : updE g i [] = [] := rfl
@[simp] theorem updE_cons {g : Nat → Option Sv → Option Sv} {i : Nat} {s : Option Sv} {r : En} : updE g i (s :: r) = g i s :: updE g (i + 1) r := rfl
/-- a slot behind a call -/
def aftO (o : Option Nat) (b : Bool) (outs : List (Option Sv)) (s : Option Sv) : Option Sv := match o with
  | some j => outs.getD j none
  | none => if b = true then s.map fun s => ⟨false, s.d⟩ else s
@[simp] theorem aftO_some {j : Nat} {b : Bool} {outs : List (Option Sv)} {s : Option Sv} : aftO (some j) b outs s = outs.getD j none := rfl
@[simp] theorem aftO_none {b : Bool} {outs : List (Option Sv)} {s : Option Sv} : aftO none b outs s = if b = true then s.map fun s => ⟨false, s.d⟩ else s := rfl
@[simp] theorem aft_eq {io : List Nat} {rs : List Res} {ls : List Nat} {fz : Bool} {outs : List (Option Sv)} {i : Nat} {s : Option Sv} : aft io rs ls fz outs i s = aftO (ioAt io 0 rs i) (fz && ls.contains i) outs s := by
  unfold aft aftO; rfl
/-- what is done with a call's answer -/
def ansR (io : List Nat) (rs : List Res) (e : En) : R Out → R (Res × En)
  | .ok o => if ((inouts io 0 rs).isEmpty && ((lents io 0 rs).isEmpty || (keepOk o && ((inouts io 0 rs).isEmpty || outsOk o.outs)))) = true then .ok (.v o.own o.d, e)
      else .ok (.v o.own o.d, updE (aft io rs (lents io 0 rs) (!((lents io 0 rs).isEmpty || (keepOk o && ((inouts io 0 rs).isEmpty || outsOk o.outs)))) o.outs) 0 e)
  | .ex x => if (inouts io 0 rs).isEmpty = true then .ex x else .no
  | .no => .no
@[simp] theorem ansR_ok {io : List Nat} {rs : List Res} {o : Out} : ansR io rs e (.ok o) = if ((inouts io 0 rs).isEmpty && ((lents io 0 rs).isEmpty || (keepOk o && ((inouts io 0 rs).isEmpty || outsOk o.outs)))) = true then .ok (.v o.own o.d, e)
      else .ok (.v o.own o.d, updE (aft io rs (lents io 0 rs) (!((lents io 0 rs).isEmpty || (keepOk o && ((inouts io 0 rs).isEmpty || outsOk o.outs)))) o.outs) 0 e) := rfl
@[simp] theorem ansR_ex {io : List Nat} {rs : List Res} {x : D} : ansR io rs e (.ex x) = if (inouts io 0 rs).isEmpty = true then .ex x else .no := rfl
theorem ansR_congr {io : List Nat} {rs : List Res} {m m' : R Out} (h : m = m') : ansR io rs e m = ansR io rs e m' := by rw [h]
theorem callR_io {f : Nat} {rs : List Res} {io : List Nat} (h : (ft f).io = io) : callR ft cl f rs e = if ((inouts io 0 rs).Nodup && (inouts io 0 rs).all fun i => !(lents io 0 rs).contains i) = true then (argsIn e io 0 rs >>= fun ss => ansR io rs e (cl f ss)) else .no := by
  subst h
  unfold callR
  simp only []
  congr 1
  congr 1
  funext ss
  cases cl f ss with
  | ok o => simp only [Bool.not_not]; rfl
  | ex x => rfl
  | no => rfl
/-- what the in-out parameters hold at the end -/
def outsIO (io : List Nat) (e : En) : Nat → Nat → List (Option Sv)
  | _, 0 => []
  | j, n + 1 => (if io.contains j = true then e.getD j none else none) :: outsIO io e (j + 1) n
@[simp] theorem outsIO_0 {io : List Nat} {j : Nat} : outsIO io e j 0 = [] := rfl
@[simp] theorem outsIO_s {io : List Nat} {j n : Nat} : outsIO io e j (n + 1) = (if io.contains j = true then e.getD j none else none) :: outsIO io e (j + 1) n := rfl
theorem outsIO_eq {io : List Nat} : ∀ {n j : Nat}, (List.range' j n).map (fun j => if io.contains j = true then e.getD j none else none) = outsIO io e j n
  | 0, j => rfl
  | n + 1, j => by rw [List.range'_succ, List.map_cons, outsIO_eq]; rfl
theorem outsOf_io {fd : Fd} : outsOf fd e = outsIO fd.io e 0 fd.np := by
  unfold outsOf
  rw [List.range_eq_range', outsIO_eq]
/-- the end of a run -/
def outR (io : List Nat) (np : Nat) (p : Fl × En) : R Out := match p.1 with
  | .nx => .ok ⟨false, .none, outsIO io p.2 0 np⟩
  | .rt o d => .ok ⟨o, d, outsIO io p.2 0 np⟩
@[simp] theorem outR_nx {io : List Nat} {np : Nat} : outR io np (.nx, e) = .ok ⟨false, .none, outsIO io e 0 np⟩ := rfl
@[simp] theorem outR_rt {io : List Nat} {np : Nat} {o : Bool} {d : D} : outR io np (.rt o d, e) = .ok ⟨o, d, outsIO io e 0 np⟩ := rfl
def slotsN : Nat → En
  | 0 => []
  | n + 1 => none :: slotsN n
@[simp] theorem slotsN_0 : slotsN 0 = [] := rfl
@[simp] theorem slotsN_s {n : Nat} : slotsN (n + 1) = none :: slotsN n := rfl
theorem slotsN_eq : ∀ {n : Nat}, List.replicate n none = slotsN n
  | 0 => rfl
  | n + 1 => by rw [List.replicate_succ, slotsN_eq]; rfl
def enterN (n : Nat) (ss : List Sv) : En := ss.map some ++ slotsN n
@[simp] theorem enterN_nil {n : Nat} : enterN n [] = slotsN n := rfl
@[simp] theorem enterN_cons {n : Nat} {s : Sv} {ss : List Sv} : enterN n (s :: ss) = some s :: enterN n ss := rfl
/-- a function's own run -/
theorem run_eq {fd : Fd} {ss : List Sv} {np n : Nat} {io : List Nat} {body : List Sm} (h : fd = ⟨np, np + n, io, body⟩) : runF ft cl fd ss = if ss.length = np then (evSs ft cl io body (enterN n ss) >>= outR io np) else .no := by
  subst h
  show (if ss.length = np then (evSs ft cl io body (enter ⟨np, np + n, io, body⟩ ss) >>= fun p => _) else R.no) = _
  have e1 : enter ⟨np, np + n, io, body⟩ ss = enterN n ss := by
    unfold enter enterN
    rw [← slotsN_eq]
    show ss.map some ++ List.replicate (np + n - np) none = _
    rw [Nat.add_sub_cancel_left]
  rw [e1]
  congr 1
  congr 1
  funext p
  obtain ⟨f, e2⟩ := p
  cases f <;> simp [outR, outsOf_io]
end
end Nm
set_option Elab.async false
set_option maxRecDepth 100000
set_option linter.all false
/-! The functions of the text, as the evaluator has them. -/
namespace Nm
/-- _law_mixed -/
def fd1 : Fd := { np := 2, ns := 3, io := [], body := [(.asg (.nm 2) (.bin .mod (.bi .int (.cons (.bin .add (.bin .add (.bin .mul (.bin .mod (.bi .int (.cons (.var 0) .nil)) (.cst (.int 2147483647))) (.cst (.int 48271))) (.bin .mul (.var 1) (.cst (.int 69621)))) (.cst (.int 1048583))) .nil)) (.cst (.int 2147483629)))), (.asg (.nm 2) (.bin .mod (.bi .int (.cons (.bin .mul (.var 2) (.var 2)) .nil)) (.cst (.int 2147483587)))), (.ret (some (.bin .mod (.bi .int (.cons (.bin .mul (.var 2) (.bin .add (.var 2) (.cst (.int 2)))) .nil)) (.cst (.int 2147483579)))))] }
/-- _law_pile -/
def fd2 : Fd := { np := 2, ns := 5, io := [], body := [(.asg (.nm 2) (.cst (.int 0))), (.ife (.cmp .lt (.var 1) (.bi .len (.cons (.var 0) .nil))) [(.asg (.nm 2) (.ix (.var 0) (.var 1)))] []), (.ife (.cmp .ge (.var 2) (.bin .pow (.cst (.int 10)) (.cst (.int 18)))) [(.ret (some (.lst (.cons (.bin .mod (.bi .int (.cons (.bin .sub (.var 2) (.bin .pow (.cst (.int 10)) (.cst (.int 18)))) .nil)) (.bin .mul (.bin .mul (.bin .mul (.bin .pow (.cst (.int 10)) (.cst (.int 60))) (.bin .pow (.cst (.int 10)) (.cst (.int 60)))) (.bin .pow (.cst (.int 10)) (.cst (.int 60)))) (.bin .pow (.cst (.int 10)) (.cst (.int 60))))) .nil))))] []), (.asg (.nm 3) (.cst (.int 0))), (.for_ (.nm 4) (.rng (.cons (.cst (.int 24)) .nil)) [(.asg (.nm 3) (.bin .add (.bin .mul (.var 3) (.cst (.int 2147483579))) (.call 1 (.cons (.var 2) (.cons (.bin .add (.bin .add (.bin .mul (.cst (.int 7)) (.var 1)) (.bin .mul (.cst (.int 100)) (.var 4))) (.bin .mul (.var 4) (.var 4))) .nil)))))]), (.ret (some (.lst (.cons (.var 3) .nil))))] }
/-- _law_take -/
def fd3 : Fd := { np := 2, ns := 3, io := [0], body := [(.asg (.nm 2) (.bin .mod (.bi .int (.cons (.ix (.var 0) (.cst (.int 0))) .nil)) (.var 1))), (.setix 0 (.cst (.int 0)) (.bin .fdiv (.ix (.var 0) (.cst (.int 0))) (.var 1))), (.ret (some (.var 2)))] }
/-- _law_sizes -/
def fd4 : Fd := { np := 3, ns := 7, io := [0], body := [(.asg (.nm 3) (.lst (.cons (.lst (.cons (.cst (.int 1)) (.cons (.cst (.int 2)) (.cons (.cst (.int 3)) (.cons (.cst (.int 4)) (.cons (.cst (.int 6)) (.cons (.cst (.int 12)) .nil))))))) (.cons (.lst (.cons (.cst (.int 2)) (.cons (.cst (.int 4)) (.cons (.cst (.int 8)) .nil)))) (.cons (.lst (.cons (.cst (.int 3)) (.cons (.cst (.int 6)) (.cons (.cst (.int 9)) .nil)))) (.cons (.lst (.cons (.cst (.int 2)) (.cons (.cst (.int 3)) (.cons (.cst (.int 5)) .nil)))) (.cons (.lst (.cons (.cst (.int 5)) (.cons (.cst (.int 10)) .nil))) (.cons (.lst (.cons (.cst (.int 7)) .nil)) (.cons (.lst (.cons (.cst (.int 4)) (.cons (.cst (.int 6)) .nil))) (.cons (.lst (.cons (.cst (.int 10)) (.cons (.cst (.int 5)) (.cons (.cst (.int 2)) .nil)))) .nil)))))))))), (.ife (.cmp .eq (.var 1) (.cst (.int 1))) [(.asg (.nm 3) (.bin .add (.var 3) (.lst (.cons (.lst (.cons (.cst (.int 12)) (.cons (.cst (.int 24)) (.cons (.cst (.int 60)) .nil)))) (.cons (.lst (.cons (.cst (.int 16)) (.cons (.cst (.int 48)) .nil))) (.cons (.lst (.cons (.cst (.int 15)) (.cons (.cst (.int 20)) (.cons (.cst (.int 30)) .nil)))) (.cons (.lst (.cons (.cst (.int 11)) .nil)) (.cons (.lst (.cons (.cst (.int 40)) (.cons (.cst (.int 60)) .nil))) (.cons (.lst (.cons (.cst (.int 36)) (.cons (.cst (.int 9)) (.cons (.cst (.int 60)) .nil)))) (.cons (.lst (.cons (.cst (.int 1)) .nil)) (.cons (.lst (.cons (.cst (.int 50)) (.cons (.cst (.int 25)) .nil))) .nil)))))))))))] [(.asg (.nm 3) (.lst (.cons (.lst (.cons (.cst (.int 1)) (.cons (.cst (.int 2)) (.cons (.cst (.int 3)) (.cons (.cst (.int 4)) (.cons (.cst (.int 6)) (.cons (.cst (.int 12)) .nil))))))) (.cons (.lst (.cons (.cst (.int 2)) (.cons (.cst (.int 4)) (.cons (.cst (.int 8)) .nil)))) (.cons (.lst (.cons (.cst (.int 3)) (.cons (.cst (.int 6)) (.cons (.cst (.int 9)) .nil)))) (.cons (.lst (.cons (.cst (.int 2)) (.cons (.cst (.int 3)) .nil))) (.cons (.lst (.cons (.cst (.int 5)) (.cons (.cst (.int 10)) .nil))) (.cons (.lst (.cons (.cst (.int 7)) .nil)) (.cons (.lst (.cons (.cst (.int 4)) (.cons (.cst (.int 6)) .nil))) (.cons (.lst (.cons (.cst (.int 2)) (.cons (.cst (.int 5)) .nil))) .nil))))))))))]), (.asg (.nm 4) (.ix (.var 3) (.call 3 (.cons (.var 0) (.cons (.bi .len (.cons (.var 3) .nil)) .nil))))), (.asg (.nm 5) (.ix (.var 4) (.call 3 (.cons (.var 0) (.cons (.bi .len (.cons (.var 4) .nil)) .nil))))), (.ife (.cmp .gt (.call 3 (.cons (.var 0) (.cons (.cst (.int 3)) .nil))) (.cst (.int 0))) [(.ret (some (.comp (.var 5) (.nm 6) (.rng (.cons (.var 2) .nil)) .nil [6])))] []), (.ret (some (.comp (.ix (.var 4) (.call 3 (.cons (.var 0) (.cons (.bi .len (.cons (.var 4) .nil)) .nil)))) (.nm 6) (.rng (.cons (.var 2) .nil)) .nil [6])))] }
/-- _law_rule -/
def fd5 : Fd := { np := 3, ns := 15, io := [0], body := [(.asg (.nm 3) (.bin .add (.cst (.int 1)) (.call 3 (.cons (.var 0) (.cons (.var 2) .nil))))), (.asg (.nm 4) (.ix (.lst (.cons (.cst (.int 0)) (.cons (.cst (.int 0)) (.cons (.cst (.int 0)) (.cons (.cst (.int 1)) (.cons (.cst (.int 1)) (.cons (.cst (.int 2)) (.cons (.cst (.int 3)) .nil)))))))) (.call 3 (.cons (.var 0) (.cons (.cst (.int 7)) .nil))))), (.asg (.nm 5) (.call 3 (.cons (.var 0) (.cons (.cst (.int 3)) .nil)))), (.asg (.nm 6) (.comp (.call 4 (.cons (.var 0) (.cons (.var 1) (.cons (.var 3) .nil)))) (.nm 12) (.rng (.cons (.var 1) .nil)) .nil [12])), (.asg (.nm 7) (.lst .nil)), (.for_ (.nm 8) (.rng (.cons (.var 3) .nil)) [(.asg (.nm 9) (.bi .tuple (.cons (.comp (.ix (.var 14) (.var 8)) (.nm 14) (.seq (.var 6)) .nil [14]) .nil))), (.asg (.nm 10) (.comp (.bin .sub (.call 3 (.cons (.var 0) (.cons (.cst (.int 40)) .nil))) (.cst (.int 20))) (.nm 12) (.rng (.cons (.var 1) .nil)) .nil [12])), (.ife (.cmp .gt (.var 5) (.cst (.int 0))) [(.asg (.nm 13) (.comp (.bin .mul (.bi .int (.cons (.cmp .eq (.var 5) (.cst (.int 2))) .nil)) (.call 3 (.cons (.var 0) (.cons (.cst (.int 2)) .nil)))) (.nm 12) (.rng (.cons (.var 1) .nil)) .nil [12])), (.asg (.nm 10) (.comp (.bin .add (.bin .fdiv (.bi .int (.cons (.bin .mul (.var 8) (.ix (.var 9) (.var 12))) .nil)) (.var 3)) (.ix (.var 13) (.var 12))) (.nm 12) (.rng (.cons (.var 1) .nil)) .nil [12]))] []), (.asg (.nm 11) (.ix (.lst (.cons (.var 4) (.cons (.call 3 (.cons (.var 0) (.cons (.cst (.int 4)) .nil))) .nil))) (.bi .int (.cons (.cmp .eq (.call 3 (.cons (.var 0) (.cons (.cst (.int 6)) .nil))) (.cst (.int 0))) .nil)))), (.whl (.and_ (.cmp .eq (.var 1) (.cst (.int 2))) (.and_ (.cmp .gt (.var 11) (.cst (.int 0))) (.cmp .gt (.bin .mul (.bin .add (.var 11) (.cst (.int 1))) (.bi .max (.cons (.var 9) .nil))) (.cst (.int 16))))) [(.asg (.nm 11) (.bin .sub (.var 11) (.cst (.int 1))))]), (.app 7 (.tup (.cons (.var 9) (.cons (.bi .tuple (.cons (.var 10) .nil)) (.cons (.var 11) .nil)))))]), (.ret (some (.tup (.cons (.var 1) (.cons (.bi .tuple (.cons (.var 7) .nil)) .nil)))))] }
/-- _law_bad_rules -/
def fd6 : Fd := { np := 1, ns := 9, io := [], body := [(.asg (.tp [(.nm 4), (.nm 5)]) (.var 0)), (.asg (.tp [(.nm 6), (.nm 7), (.nm 8)]) (.ix (.var 5) (.cst (.int 0)))), (.asg (.nm 1) (.lst (.cons (.cst .none) (.cons (.cst (.int 0)) (.cons (.cst (.str "")) (.cons (.tup .nil) (.cons (.lst .nil) (.cons (.bi .list (.cons (.var 0) .nil)) (.cons (.tup (.cons (.var 4) .nil)) (.cons (.tup (.cons (.var 4) (.cons (.var 5) (.cons (.cst (.int 0)) .nil)))) (.cons (.tup (.cons (.var 4) (.cons (.bi .list (.cons (.var 5) .nil)) .nil))) (.cons (.tup (.cons (.cst (.int 0)) (.cons (.var 5) .nil))) .nil)))))))))))), (.asg (.nm 1) (.bin .add (.var 1) (.lst (.cons (.tup (.cons (.cst (.int 3)) (.cons (.var 5) .nil))) (.cons (.tup (.cons (.var 4) (.cons (.tup .nil) .nil))) (.cons (.tup (.cons (.cst (.bool true)) (.cons (.var 5) .nil))) (.cons (.tup (.cons (.cst (.str "1")) (.cons (.var 5) .nil))) (.cons (.tup (.cons (.var 4) (.cons (.ix (.var 5) (.cst (.int 0))) .nil))) (.cons (.tup (.cons (.bin .sub (.cst (.int 3)) (.var 4)) (.cons (.var 5) .nil))) .nil))))))))), (.app 1 (.tup (.cons (.var 4) (.cons (.bin .mul (.var 5) (.cst (.int 13))) .nil)))), (.asg (.nm 1) (.bin .add (.var 1) (.lst (.cons (.tup (.cons (.cst .none) (.cons (.var 5) .nil))) (.cons (.tup (.cons (.var 4) (.cons (.bin .add (.var 5) (.tup (.cons (.cst .none) .nil))) .nil))) (.cons (.tup (.cons (.var 5) (.cons (.var 4) .nil))) (.cons (.tup (.cons (.neg (.cst (.int 1))) (.cons (.var 5) .nil))) .nil))))))), (.asg (.nm 2) (.lst (.cons (.tup (.cons (.var 6) (.cons (.var 7) .nil))) (.cons (.tup (.cons (.var 6) (.cons (.var 7) (.cons (.var 8) (.cons (.cst (.int 0)) .nil))))) (.cons (.lst (.cons (.var 6) (.cons (.var 7) (.cons (.var 8) .nil)))) (.cons (.tup (.cons (.bi .list (.cons (.var 6) .nil)) (.cons (.var 7) (.cons (.var 8) .nil)))) .nil)))))), (.asg (.nm 2) (.bin .add (.var 2) (.lst (.cons (.tup (.cons (.var 6) (.cons (.bi .list (.cons (.var 7) .nil)) (.cons (.var 8) .nil)))) (.cons (.tup (.cons (.var 6) (.cons (.var 7) (.cons (.neg (.cst (.int 1))) .nil)))) (.cons (.tup (.cons (.var 6) (.cons (.var 7) (.cons (.cst (.int 4)) .nil)))) (.cons (.tup (.cons (.var 6) (.cons (.var 7) (.cons (.cst (.bool true)) .nil)))) .nil))))))), (.asg (.nm 2) (.bin .add (.var 2) (.lst (.cons (.tup (.cons (.var 6) (.cons (.var 7) (.cons (.cst .none) .nil)))) (.cons (.tup (.cons (.sl (.var 6) (.some (.cst (.int 1))) .none) (.cons (.var 7) (.cons (.var 8) .nil)))) (.cons (.tup (.cons (.bin .add (.var 6) (.var 6)) (.cons (.var 7) (.cons (.var 8) .nil)))) .nil)))))), (.asg (.nm 2) (.bin .add (.var 2) (.lst (.cons (.tup (.cons (.var 6) (.cons (.sl (.var 7) (.some (.cst (.int 1))) .none) (.cons (.var 8) .nil)))) (.cons (.tup (.cons (.var 6) (.cons (.bin .add (.var 7) (.tup (.cons (.cst (.int 0)) .nil))) (.cons (.var 8) .nil)))) (.cons (.tup (.cons (.ix (.var 6) (.cst (.int 0))) (.cons (.var 7) (.cons (.var 8) .nil)))) (.cons (.cst .none) (.cons (.tup .nil) .nil)))))))), (.for_ (.nm 3) (.seq (.lst (.cons (.cst (.int 0)) (.cons (.cst (.int 61)) (.cons (.neg (.cst (.int 1))) (.cons (.cst (.bool true)) (.cons (.cst (.str "1")) (.cons (.cst .none) (.cons (.tup (.cons (.cst (.int 1)) .nil)) .nil))))))))) [(.app 2 (.tup (.cons (.bin .add (.sl (.var 6) .none (.some (.neg (.cst (.int 1))))) (.tup (.cons (.var 3) .nil))) (.cons (.var 7) (.cons (.var 8) .nil)))))]), (.for_ (.nm 3) (.seq (.lst (.cons (.cst (.bool true)) (.cons (.cst (.str "0")) (.cons (.cst .none) (.cons (.tup (.cons (.cst (.int 0)) .nil)) (.cons (.lst (.cons (.cst (.int 0)) .nil)) .nil))))))) [(.app 2 (.tup (.cons (.var 6) (.cons (.bin .add (.sl (.var 7) .none (.some (.neg (.cst (.int 1))))) (.tup (.cons (.var 3) .nil))) (.cons (.var 8) .nil)))))]), (.asg (.nm 2) (.bin .add (.var 2) (.lst (.cons (.tup (.cons (.bin .add (.var 6) (.var 6)) (.cons (.bin .add (.var 7) (.var 7)) (.cons (.var 8) .nil)))) (.cons (.tup (.cons (.sl (.var 6) .none (.some (.bin .sub (.var 4) (.cst (.int 1))))) (.cons (.sl (.var 7) .none (.some (.bin .sub (.var 4) (.cst (.int 1))))) (.cons (.var 8) .nil)))) .nil))))), (.for_ (.nm 3) (.seq (.var 2)) [(.asg (.nm 1) (.bin .add (.var 1) (.lst (.cons (.tup (.cons (.var 4) (.cons (.tup (.cons (.var 3) .nil)) .nil))) (.cons (.tup (.cons (.var 4) (.cons (.bin .add (.var 5) (.tup (.cons (.var 3) .nil))) .nil))) (.cons (.tup (.cons (.var 4) (.cons (.bin .add (.tup (.cons (.var 3) .nil)) (.var 5)) .nil))) .nil))))))]), (.ret (some (.var 1)))] }
/-- is_whole -/
def fd7 : Fd := { np := 1, ns := 1, io := [], body := [(.ret (some (.and_ (.isi (.var 0) .int) (.not_ (.isi (.var 0) .bool)))))] }
/-- is_within -/
def fd8 : Fd := { np := 3, ns := 3, io := [], body := [(.ret (some (.and_ (.call 7 (.cons (.var 0) .nil)) (.chn .le .le (.var 1) (.var 0) (.var 2)))))] }
/-- is_right_point -/
def fd9 : Fd := { np := 2, ns := 3, io := [], body := [(.ret (some (.and_ (.isi (.var 1) .tuple) (.and_ (.cmp .eq (.bi .len (.cons (.var 1) .nil)) (.var 0)) (.bi .all (.cons (.comp (.call 7 (.cons (.var 2) .nil)) (.nm 2) (.seq (.var 1)) .nil [2]) .nil))))))] }
/-- is_grid -/
def fd10 : Fd := { np := 2, ns := 3, io := [], body := [(.ife (.or_ (.not_ (.isi (.var 1) .tuple)) (.or_ (.cmp .ne (.bi .len (.cons (.var 1) .nil)) (.cst (.int 3))) (.not_ (.call 8 (.cons (.ix (.var 1) (.cst (.int 2))) (.cons (.cst (.int 0)) (.cons (.cst (.int 3)) .nil))))))) [(.ret (some (.cst (.bool false))))] []), (.ife (.or_ (.not_ (.call 9 (.cons (.var 0) (.cons (.ix (.var 1) (.cst (.int 0))) .nil)))) (.not_ (.call 9 (.cons (.var 0) (.cons (.ix (.var 1) (.cst (.int 1))) .nil))))) [(.ret (some (.cst (.bool false))))] []), (.ret (some (.bi .all (.cons (.comp (.call 8 (.cons (.var 2) (.cons (.cst (.int 1)) (.cons (.cst (.int 60)) .nil)))) (.nm 2) (.seq (.ix (.var 1) (.cst (.int 0)))) .nil [2]) .nil))))] }
/-- is_right_rule -/
def fd11 : Fd := { np := 1, ns := 2, io := [], body := [(.ife (.or_ (.not_ (.isi (.var 0) .tuple)) (.or_ (.cmp .ne (.bi .len (.cons (.var 0) .nil)) (.cst (.int 2))) (.not_ (.call 8 (.cons (.ix (.var 0) (.cst (.int 0))) (.cons (.cst (.int 1)) (.cons (.cst (.int 2)) .nil))))))) [(.ret (some (.cst (.bool false))))] []), (.ife (.or_ (.not_ (.isi (.ix (.var 0) (.cst (.int 1))) .tuple)) (.not_ (.call 8 (.cons (.bi .len (.cons (.ix (.var 0) (.cst (.int 1))) .nil)) (.cons (.cst (.int 1)) (.cons (.cst (.int 12)) .nil)))))) [(.ret (some (.cst (.bool false))))] []), (.ret (some (.bi .all (.cons (.comp (.call 10 (.cons (.ix (.var 0) (.cst (.int 0))) (.cons (.var 1) .nil))) (.nm 1) (.seq (.ix (.var 0) (.cst (.int 1)))) .nil [1]) .nil))))] }
/-- is_rule -/
def fd12 : Fd := { np := 1, ns := 1, io := [], body := [(.ret (some (.call 11 (.cons (.var 0) .nil))))] }
/-- look_at_rule -/
def fd13 : Fd := { np := 1, ns := 1, io := [], body := [(.ife (.not_ (.call 11 (.cons (.var 0) .nil))) [(.rse 1 (.cons (.cst (.str "not a rule")) .nil))] [])] }
/-- is_point -/
def fd14 : Fd := { np := 2, ns := 2, io := [], body := [(.drop (.call 13 (.cons (.var 0) .nil))), (.ret (some (.call 9 (.cons (.ix (.var 0) (.cst (.int 0))) (.cons (.var 1) .nil)))))] }
/-- _law_bad_points -/
def fd15 : Fd := { np := 1, ns := 2, io := [], body := [(.asg (.nm 1) (.lst (.cons (.cst .none) (.cons (.cst (.int 0)) (.cons (.cst (.str "")) (.cons (.tup .nil) (.cons (.bin .mul (.lst (.cons (.cst (.int 0)) .nil)) (.var 0)) (.cons (.bin .mul (.tup (.cons (.cst (.int 0)) .nil)) (.bin .sub (.cst (.int 3)) (.var 0))) (.cons (.bin .mul (.tup (.cons (.cst (.int 0)) .nil)) (.bin .add (.var 0) (.cst (.int 1)))) (.cons (.bin .add (.bin .mul (.tup (.cons (.cst (.int 0)) .nil)) (.bin .sub (.var 0) (.cst (.int 1)))) (.tup (.cons (.cst (.bool true)) .nil))) .nil)))))))))), (.asg (.nm 1) (.bin .add (.var 1) (.lst (.cons (.bin .add (.bin .mul (.tup (.cons (.cst (.int 0)) .nil)) (.bin .sub (.var 0) (.cst (.int 1)))) (.tup (.cons (.cst (.str "0")) .nil))) (.cons (.bin .mul (.tup (.cons (.cst .none) .nil)) (.var 0)) (.cons (.tup (.cons (.bin .mul (.tup (.cons (.cst (.int 0)) .nil)) (.var 0)) .nil)) (.cons (.bin .mul (.cst (.str "0")) (.var 0)) .nil))))))), (.ret (some (.bin .add (.var 1) (.lst (.cons (.bin .add (.bin .mul (.tup (.cons (.cst (.int 0)) .nil)) (.bin .sub (.var 0) (.cst (.int 1)))) (.tup (.cons (.lst (.cons (.cst (.int 0)) .nil)) .nil))) .nil)))))] }
/-- _law_point -/
def fd16 : Fd := { np := 3, ns := 4, io := [0], body := [(.ret (some (.bi .tuple (.cons (.comp (.bin .sub (.call 3 (.cons (.var 0) (.cons (.bin .add (.bin .mul (.cst (.int 2)) (.var 2)) (.cst (.int 1))) .nil))) (.var 2)) (.nm 3) (.rng (.cons (.var 1) .nil)) .nil [3]) .nil))))] }
/-- _law_is_point -/
def fd18 : Fd := { np := 2, ns := 3, io := [], body := [(.ife (.or_ (.not_ (.isi (.var 0) .tuple)) (.cmp .ne (.bi .len (.cons (.var 0) .nil)) (.var 1))) [(.ret (some (.cst (.bool false))))] []), (.ret (some (.cmp .eq (.comp (.var 2) (.nm 2) (.seq (.var 0)) (.cons (.not_ (.call 7 (.cons (.var 2) .nil))) .nil) [2]) (.lst .nil))))] }
/-- _law_is_grid -/
def fd21 : Fd := { np := 2, ns := 3, io := [], body := [(.ife (.or_ (.not_ (.isi (.var 0) .tuple)) (.cmp .ne (.bi .len (.cons (.var 0) .nil)) (.cst (.int 3)))) [(.ret (some (.cst (.bool false))))] []), (.ife (.or_ (.not_ (.call 18 (.cons (.ix (.var 0) (.cst (.int 0))) (.cons (.var 1) .nil)))) (.or_ (.not_ (.call 18 (.cons (.ix (.var 0) (.cst (.int 1))) (.cons (.var 1) .nil)))) (.not_ (.call 7 (.cons (.ix (.var 0) (.cst (.int 2))) .nil))))) [(.ret (some (.cst (.bool false))))] []), (.ret (some (.and_ (.cmp .eq (.comp (.var 2) (.nm 2) (.seq (.ix (.var 0) (.cst (.int 0)))) (.cons (.or_ (.cmp .lt (.var 2) (.cst (.int 1))) (.cmp .gt (.var 2) (.cst (.int 60)))) .nil) [2]) (.lst .nil)) (.and_ (.cmp .ge (.ix (.var 0) (.cst (.int 2))) (.cst (.int 0))) (.cmp .lt (.ix (.var 0) (.cst (.int 2))) (.cst (.int 4)))))))] }
/-- _law_is_rule -/
def fd22 : Fd := { np := 1, ns := 2, io := [], body := [(.ife (.or_ (.not_ (.isi (.var 0) .tuple)) (.or_ (.cmp .ne (.bi .len (.cons (.var 0) .nil)) (.cst (.int 2))) (.or_ (.not_ (.call 7 (.cons (.ix (.var 0) (.cst (.int 0))) .nil))) (.not_ (.isi (.ix (.var 0) (.cst (.int 1))) .tuple))))) [(.ret (some (.cst (.bool false))))] []), (.ife (.or_ (.cmp .lt (.ix (.var 0) (.cst (.int 0))) (.cst (.int 1))) (.or_ (.cmp .gt (.ix (.var 0) (.cst (.int 0))) (.cst (.int 2))) (.or_ (.cmp .lt (.bi .len (.cons (.ix (.var 0) (.cst (.int 1))) .nil)) (.cst (.int 1))) (.cmp .gt (.bi .len (.cons (.ix (.var 0) (.cst (.int 1))) .nil)) (.cst (.int 12)))))) [(.ret (some (.cst (.bool false))))] []), (.ret (some (.cmp .eq (.comp (.var 1) (.nm 1) (.seq (.ix (.var 0) (.cst (.int 1)))) (.cons (.not_ (.call 21 (.cons (.var 1) (.cons (.ix (.var 0) (.cst (.int 0))) .nil)))) .nil) [1]) (.lst .nil))))] }
/-- _law_good -/
def fd23 : Fd := { np := 1, ns := 3, io := [], body := [(.asg (.nm 1) (.bi .repr (.cons (.var 0) .nil))), (.asg (.nm 2) (.call 12 (.cons (.var 0) .nil))), (.ret (some (.and_ (.isi (.var 2) .bool) (.and_ (.cmp .eq (.var 2) (.call 22 (.cons (.var 0) .nil))) (.cmp .eq (.bi .repr (.cons (.var 0) .nil)) (.var 1))))))] }
/-- look_at_point -/
def fd27 : Fd := { np := 2, ns := 2, io := [], body := [(.ife (.not_ (.call 9 (.cons (.ix (.var 0) (.cst (.int 0))) (.cons (.var 1) .nil)))) [(.rse 2 (.cons (.cst (.str "not a point")) .nil))] [])] }
/-- cell_of -/
def fd28 : Fd := { np := 2, ns := 5, io := [], body := [(.ret (some (.bi .tuple (.cons (.comp (.bin .fdiv (.bin .sub (.var 2) (.var 4)) (.var 3)) (.tp [(.nm 2), (.nm 3), (.nm 4)]) (.zip (.cons (.var 1) (.cons (.ix (.var 0) (.cst (.int 0))) (.cons (.ix (.var 0) (.cst (.int 1))) .nil)))) .nil [2, 3, 4]) .nil))))] }
/-- meets_in -/
def fd29 : Fd := { np := 3, ns := 5, io := [], body := [(.ret (some (.bi .all (.cons (.comp (.cmp .le (.bi .abs (.cons (.bin .sub (.var 3) (.var 4)) .nil)) (.ix (.var 0) (.cst (.int 2)))) (.tp [(.nm 3), (.nm 4)]) (.zip (.cons (.call 28 (.cons (.var 0) (.cons (.var 1) .nil))) (.cons (.call 28 (.cons (.var 0) (.cons (.var 2) .nil))) .nil))) .nil [3, 4]) .nil))))] }
/-- all_meets -/
def fd30 : Fd := { np := 3, ns := 5, io := [], body := [(.ret (some (.comp (.var 3) (.tp [(.nm 3), (.nm 4)]) (.enum (.ix (.var 0) (.cst (.int 1))) 0) (.cons (.call 29 (.cons (.var 4) (.cons (.var 1) (.cons (.var 2) .nil)))) .nil) [3, 4])))] }
/-- meets -/
def fd31 : Fd := { np := 3, ns := 3, io := [], body := [(.drop (.call 13 (.cons (.var 0) .nil))), (.drop (.call 27 (.cons (.var 0) (.cons (.var 1) .nil)))), (.drop (.call 27 (.cons (.var 0) (.cons (.var 2) .nil)))), (.ret (some (.call 30 (.cons (.var 0) (.cons (.var 1) (.cons (.var 2) .nil))))))] }
/-- cells -/
def fd32 : Fd := { np := 2, ns := 3, io := [], body := [(.drop (.call 13 (.cons (.var 0) .nil))), (.drop (.call 27 (.cons (.var 0) (.cons (.var 1) .nil)))), (.ret (some (.comp (.call 28 (.cons (.var 2) (.cons (.var 1) .nil))) (.nm 2) (.seq (.ix (.var 0) (.cst (.int 1)))) .nil [2])))] }
/-- common -/
def fd33 : Fd := { np := 2, ns := 4, io := [], body := [(.par 2 3 (.var 0) (.var 1)), (.whl (.cmp .gt (.var 2) (.cst (.int 0))) [(.par 2 3 (.bin .mod (.var 3) (.var 2)) (.var 2))]), (.ret (some (.bin .fdiv (.bin .mul (.var 0) (.var 1)) (.var 3))))] }
/-- periods_of -/
def fd34 : Fd := { np := 1, ns := 7, io := [], body := [(.asg (.nm 1) (.bin .mul (.lst (.cons (.cst (.int 1)) .nil)) (.ix (.var 0) (.cst (.int 0))))), (.for_ (.tp [(.nm 2), (.nm 3), (.nm 4)]) (.seq (.ix (.var 0) (.cst (.int 1)))) [(.asg (.nm 1) (.comp (.call 33 (.cons (.var 5) (.cons (.var 6) .nil))) (.tp [(.nm 5), (.nm 6)]) (.zip (.cons (.var 1) (.cons (.var 2) .nil))) .nil [5, 6]))]), (.ret (some (.bi .tuple (.cons (.var 1) .nil))))] }
/-- periods -/
def fd35 : Fd := { np := 1, ns := 1, io := [], body := [(.drop (.call 13 (.cons (.var 0) .nil))), (.ret (some (.call 34 (.cons (.var 0) .nil))))] }
/-- _law_period -/
def fd36 : Fd := { np := 1, ns := 3, io := [], body := [(.asg (.nm 1) (.cst (.int 1))), (.whl (.cmp .ne (.comp (.var 2) (.nm 2) (.seq (.var 0)) (.cons (.cmp .ne (.bin .mod (.var 1) (.var 2)) (.cst (.int 0))) .nil) [2]) (.lst .nil)) [(.asg (.nm 1) (.bin .add (.var 1) (.cst (.int 1))))]), (.ret (some (.var 1)))] }
/-- _law_periods -/
def fd37 : Fd := { np := 1, ns := 3, io := [], body := [(.ret (some (.bi .tuple (.cons (.comp (.call 36 (.cons (.comp (.ix (.ix (.var 2) (.cst (.int 0))) (.var 1)) (.nm 2) (.seq (.ix (.var 0) (.cst (.int 1)))) .nil [2]) .nil)) (.nm 1) (.rng (.cons (.ix (.var 0) (.cst (.int 0))) .nil)) .nil [1]) .nil))))] }
/-- _law_cell -/
def fd38 : Fd := { np := 2, ns := 5, io := [], body := [(.asg (.nm 2) (.lst .nil)), (.for_ (.nm 3) (.rng (.cons (.bi .len (.cons (.var 1) .nil)) .nil)) [(.asg (.nm 4) (.bin .sub (.ix (.var 1) (.var 3)) (.ix (.ix (.var 0) (.cst (.int 1))) (.var 3)))), (.app 2 (.bin .fdiv (.bi .int (.cons (.bin .sub (.var 4) (.bin .mod (.var 4) (.ix (.ix (.var 0) (.cst (.int 0))) (.var 3)))) .nil)) (.ix (.ix (.var 0) (.cst (.int 0))) (.var 3))))]), (.ret (some (.bi .tuple (.cons (.var 2) .nil))))] }
/-- _law_meets -/
def fd39 : Fd := { np := 3, ns := 9, io := [], body := [(.asg (.nm 3) (.lst .nil)), (.for_ (.nm 4) (.rng (.cons (.bi .len (.cons (.ix (.var 0) (.cst (.int 1))) .nil)) .nil)) [(.asg (.nm 5) (.ix (.ix (.var 0) (.cst (.int 1))) (.var 4))), (.asg (.tp [(.nm 6), (.nm 7)]) (.tup (.cons (.call 38 (.cons (.var 5) (.cons (.var 1) .nil))) (.cons (.call 38 (.cons (.var 5) (.cons (.var 2) .nil))) .nil)))), (.ife (.cmp .eq (.comp (.var 8) (.nm 8) (.rng (.cons (.bi .len (.cons (.var 1) .nil)) .nil)) (.cons (.cmp .gt (.bi .abs (.cons (.bin .sub (.ix (.var 6) (.var 8)) (.ix (.var 7) (.var 8))) .nil)) (.ix (.var 5) (.cst (.int 2)))) .nil) [8]) (.lst .nil)) [(.app 3 (.var 4))] [])]), (.ret (some (.var 3)))] }
/-- cells_beside -/
def fd42 : Fd := { np := 2, ns := 6, io := [], body := [(.asg (.nm 2) (.lst (.cons (.tup .nil) .nil))), (.for_ (.nm 3) (.seq (.var 0)) [(.asg (.nm 2) (.comp2 (.bin .add (.var 4) (.tup (.cons (.bin .add (.var 3) (.var 5)) .nil))) (.nm 4) (.seq (.var 2)) (.nm 5) (.rng (.cons (.neg (.var 1)) (.cons (.bin .add (.var 1) (.cst (.int 1))) .nil))) .nil [4, 5] [5]))]), (.ret (some (.var 2)))] }
/-- looked -/
def fd43 : Fd := { np := 2, ns := 6, io := [], body := [(.drop (.call 13 (.cons (.var 0) .nil))), (.drop (.call 27 (.cons (.var 0) (.cons (.var 1) .nil)))), (.asg (.nm 2) (.lst .nil)), (.for_ (.tp [(.nm 3), (.nm 4)]) (.enum (.ix (.var 0) (.cst (.int 1))) 0) [(.aug 2 .add (.comp (.tup (.cons (.var 3) (.cons (.var 5) .nil))) (.nm 5) (.seq (.call 42 (.cons (.call 28 (.cons (.var 4) (.cons (.var 1) .nil))) (.cons (.ix (.var 4) (.cst (.int 2))) .nil)))) .nil [5]))]), (.ret (some (.var 2)))] }
/-- look_at_way -/
def fd50 : Fd := { np := 1, ns := 1, io := [], body := [(.ife (.or_ (.not_ (.isi (.var 0) .str)) (.cmp .notin (.var 0) (.tup (.cons (.cst (.str "side")) (.cons (.cst (.str "sum")) .nil))))) [(.rse 4 (.cons (.cst (.str "not a way")) .nil))] [])] }
/-- distance -/
def fd51 : Fd := { np := 3, ns := 6, io := [], body := [(.asg (.nm 3) (.comp (.bi .abs (.cons (.bin .sub (.var 4) (.var 5)) .nil)) (.tp [(.nm 4), (.nm 5)]) (.zip (.cons (.var 0) (.cons (.var 1) .nil))) .nil [4, 5])), (.ret (some (.ite (.cmp .eq (.var 2) (.cst (.str "sum"))) (.bi .sum (.cons (.var 3) .nil)) (.bi .max (.cons (.var 3) .nil)))))] }
/-- far -/
def fd52 : Fd := { np := 4, ns := 4, io := [], body := [(.drop (.call 13 (.cons (.var 0) .nil))), (.drop (.call 27 (.cons (.var 0) (.cons (.var 1) .nil)))), (.drop (.call 27 (.cons (.var 0) (.cons (.var 2) .nil)))), (.drop (.call 50 (.cons (.var 3) .nil))), (.ret (some (.call 51 (.cons (.var 1) (.cons (.var 2) (.cons (.var 3) .nil))))))] }
/-- _law_asked -/
def fd53 : Fd := { np := 5, ns := 5, io := [], body := [(.ife (.cmp .eq (.var 0) (.cst (.int 0))) [(.drop (.call 35 (.cons (.var 1) .nil)))] []), (.ife (.cmp .eq (.var 0) (.cst (.int 1))) [(.drop (.call 14 (.cons (.var 1) (.cons (.var 2) .nil))))] []), (.ife (.cmp .eq (.var 0) (.cst (.int 2))) [(.drop (.call 32 (.cons (.var 1) (.cons (.var 2) .nil))))] []), (.ife (.cmp .eq (.var 0) (.cst (.int 3))) [(.drop (.call 43 (.cons (.var 1) (.cons (.var 2) .nil))))] []), (.ife (.cmp .eq (.var 0) (.cst (.int 4))) [(.drop (.call 31 (.cons (.var 1) (.cons (.var 2) (.cons (.var 3) .nil)))))] []), (.ife (.cmp .eq (.var 0) (.cst (.int 5))) [(.drop (.call 52 (.cons (.var 1) (.cons (.var 2) (.cons (.var 3) (.cons (.var 4) .nil))))))] [])] }
/-- _law_due -/
def fd55 : Fd := { np := 2, ns := 2, io := [], body := [(.ife (.not_ (.ix (.var 1) (.cst (.int 0)))) [(.ret (some (.cst (.str "rule"))))] []), (.ife (.or_ (.and_ (.cmp .gt (.var 0) (.cst (.int 1))) (.not_ (.ix (.var 1) (.cst (.int 1))))) (.and_ (.cmp .gt (.var 0) (.cst (.int 3))) (.not_ (.ix (.var 1) (.cst (.int 2)))))) [(.ret (some (.cst (.str "point"))))] []), (.ret (some (.ix (.lst (.cons (.cst (.str "")) (.cons (.cst (.str "way")) .nil))) (.bi .int (.cons (.and_ (.cmp .eq (.var 0) (.cst (.int 5))) (.not_ (.ix (.var 1) (.cst (.int 3))))) .nil)))))] }
/-- _law_bad_ways -/
def fd56 : Fd := { np := 0, ns := 0, io := [], body := [(.ret (some (.lst (.cons (.cst .none) (.cons (.cst (.int 0)) (.cons (.cst (.str "")) (.cons (.cst (.str "Side")) (.cons (.cst (.str "sides")) (.cons (.cst (.str "sum ")) (.cons (.lst (.cons (.cst (.str "side")) .nil)) (.cons (.tup (.cons (.cst (.str "sum")) .nil)) (.cons (.cst (.bool true)) (.cons (.cst (.str "max")) .nil)))))))))))))] }
/-- _law_pick -/
def fd57 : Fd := { np := 2, ns := 2, io := [0], body := [(.ret (some (.ix (.var 1) (.call 3 (.cons (.var 0) (.cons (.bi .len (.cons (.var 1) .nil)) .nil))))))] }
/-- look_at_rules -/
def fd231 : Fd := { np := 1, ns := 2, io := [], body := [(.ife (.or_ (.not_ (.isi (.var 0) .seq)) (.or_ (.cmp .eq (.bi .len (.cons (.var 0) .nil)) (.cst (.int 0))) (.not_ (.bi .all (.cons (.comp (.call 11 (.cons (.var 1) .nil)) (.nm 1) (.seq (.var 0)) .nil [1]) .nil))))) [(.rse 10 (.cons (.cst (.str "not rules")) .nil))] []), (.ife (.not_ (.bi .all (.cons (.comp (.cmp .eq (.ix (.var 1) (.cst (.int 0))) (.ix (.ix (.var 0) (.cst (.int 0))) (.cst (.int 0)))) (.nm 1) (.seq (.var 0)) .nil [1]) .nil))) [(.rse 10 (.cons (.cst (.str "not as many sides each")) .nil))] [])] }
/-- is_told -/
def fd232 : Fd := { np := 2, ns := 2, io := [], body := [(.ife (.or_ (.not_ (.isi (.var 1) .tuple)) (.or_ (.cmp .ne (.bi .len (.cons (.var 1) .nil)) (.cst (.int 3))) (.not_ (.isi (.ix (.var 1) (.cst (.int 2))) .bool)))) [(.ret (some (.cst (.bool false))))] []), (.ret (some (.and_ (.call 9 (.cons (.var 0) (.cons (.ix (.var 1) (.cst (.int 0))) .nil))) (.call 9 (.cons (.var 0) (.cons (.ix (.var 1) (.cst (.int 1))) .nil))))))] }
/-- look_at_told -/
def fd233 : Fd := { np := 2, ns := 3, io := [], body := [(.ife (.or_ (.not_ (.isi (.var 1) .seq)) (.not_ (.bi .all (.cons (.comp (.call 232 (.cons (.ix (.ix (.var 0) (.cst (.int 0))) (.cst (.int 0))) (.cons (.var 2) .nil))) (.nm 2) (.seq (.var 1)) .nil [2]) .nil)))) [(.rse 11 (.cons (.cst (.str "not told pairs")) .nil))] [])] }
/-- tells -/
def fd234 : Fd := { np := 2, ns := 2, io := [], body := [(.ret (some (.cmp .eq (.cmp .ne (.call 30 (.cons (.var 0) (.cons (.ix (.var 1) (.cst (.int 0))) (.cons (.ix (.var 1) (.cst (.int 1))) .nil)))) (.lst .nil)) (.ix (.var 1) (.cst (.int 2))))))] }
/-- left_of -/
def fd235 : Fd := { np := 2, ns := 5, io := [], body := [(.ret (some (.comp (.var 2) (.tp [(.nm 2), (.nm 3)]) (.enum (.var 0) 0) (.cons (.bi .all (.cons (.comp (.call 234 (.cons (.var 3) (.cons (.var 4) .nil))) (.nm 4) (.seq (.var 1)) .nil [4]) .nil)) .nil) [2, 3])))] }
/-- left -/
def fd236 : Fd := { np := 2, ns := 2, io := [], body := [(.drop (.call 231 (.cons (.var 0) .nil))), (.drop (.call 233 (.cons (.var 0) (.cons (.var 1) .nil)))), (.ret (some (.call 235 (.cons (.var 0) (.cons (.var 1) .nil)))))] }
/-- _law_due -/
def fd237 : Fd := { np := 2, ns := 6, io := [], body := [(.asg (.nm 2) (.lst .nil)), (.for_ (.nm 3) (.rng (.cons (.bi .len (.cons (.var 0) .nil)) .nil)) [(.asg (.nm 4) (.comp (.var 5) (.nm 5) (.seq (.var 1)) (.cons (.cmp .ne (.cmp .ne (.call 39 (.cons (.ix (.var 0) (.var 3)) (.cons (.ix (.var 5) (.cst (.int 0))) (.cons (.ix (.var 5) (.cst (.int 1))) .nil)))) (.lst .nil)) (.ix (.var 5) (.cst (.int 2)))) .nil) [5])), (.ife (.cmp .eq (.var 4) (.lst .nil)) [(.app 2 (.var 3))] [])]), (.ret (some (.var 2)))] }
/-- _law_good -/
def fd238 : Fd := { np := 2, ns := 5, io := [], body := [(.asg (.nm 2) (.bi .repr (.cons (.lst (.cons (.var 0) (.cons (.var 1) .nil))) .nil))), (.asg (.nm 3) (.call 236 (.cons (.var 0) (.cons (.var 1) .nil)))), (.ife (.or_ (.not_ (.isi (.var 3) .list)) (.or_ (.cmp .ne (.var 3) (.call 237 (.cons (.var 0) (.cons (.var 1) .nil)))) (.cmp .ne (.bi .repr (.cons (.lst (.cons (.var 0) (.cons (.var 1) .nil))) .nil)) (.var 2)))) [(.ret (some (.cst (.bool false))))] []), (.ife (.cmp .ne (.comp (.var 4) (.nm 4) (.seq (.var 3)) (.cons (.not_ (.call 7 (.cons (.var 4) .nil))) .nil) [4]) (.lst .nil)) [(.ret (some (.cst (.bool false))))] []), (.app 3 (.cst .none)), (.ret (some (.cmp .eq (.call 236 (.cons (.bi .tuple (.cons (.var 0) .nil)) (.cons (.bi .tuple (.cons (.var 1) .nil)) .nil))) (.call 237 (.cons (.var 0) (.cons (.var 1) .nil))))))] }
/-- _law_pair -/
def fd239 : Fd := { np := 2, ns := 4, io := [0], body := [(.asg (.nm 2) (.call 16 (.cons (.var 0) (.cons (.var 1) (.cons (.cst (.int 30)) .nil))))), (.ife (.cmp .eq (.call 3 (.cons (.var 0) (.cons (.cst (.int 3)) .nil))) (.cst (.int 0))) [(.ret (some (.tup (.cons (.var 2) (.cons (.call 16 (.cons (.var 0) (.cons (.var 1) (.cons (.cst (.int 30)) .nil)))) .nil)))))] []), (.ret (some (.tup (.cons (.var 2) (.cons (.bi .tuple (.cons (.comp (.bin .sub (.bin .add (.var 3) (.call 3 (.cons (.var 0) (.cons (.cst (.int 13)) .nil)))) (.cst (.int 6))) (.nm 3) (.seq (.var 2)) .nil [3]) .nil)) .nil)))))] }
/-- _law_bent -/
def fd240 : Fd := { np := 2, ns := 11, io := [0], body := [(.asg (.tp [(.nm 4), (.nm 5)]) (.var 1)), (.asg (.nm 2) (.call 3 (.cons (.var 0) (.cons (.bi .len (.cons (.var 5) .nil)) .nil)))), (.asg (.tp [(.nm 6), (.nm 7), (.nm 8)]) (.ix (.var 5) (.var 2))), (.asg (.nm 3) (.call 3 (.cons (.var 0) (.cons (.cst (.int 3)) .nil)))), (.ife (.cmp .eq (.var 3) (.cst (.int 0))) [(.asg (.nm 9) (.tup (.cons (.var 6) (.cons (.bi .tuple (.cons (.comp (.bin .add (.var 10) (.call 3 (.cons (.var 0) (.cons (.cst (.int 3)) .nil)))) (.nm 10) (.seq (.var 7)) .nil [10]) .nil)) (.cons (.var 8) .nil)))))] [(.ife (.cmp .eq (.var 3) (.cst (.int 1))) [(.asg (.nm 9) (.tup (.cons (.var 6) (.cons (.var 7) (.cons (.call 3 (.cons (.var 0) (.cons (.cst (.int 4)) .nil))) .nil)))))] [(.ife (.cmp .lt (.bi .len (.cons (.var 5) .nil)) (.cst (.int 6))) [(.ret (some (.tup (.cons (.var 4) (.cons (.bin .add (.var 5) (.tup (.cons (.ix (.var 5) (.var 2)) .nil))) .nil)))))] [(.asg (.nm 9) (.tup (.cons (.var 6) (.cons (.var 7) (.cons (.cst (.int 0)) .nil)))))])])]), (.ret (some (.tup (.cons (.var 4) (.cons (.bin .add (.bin .add (.sl (.var 5) .none (.some (.var 2))) (.tup (.cons (.var 9) .nil))) (.sl (.var 5) (.some (.bin .add (.var 2) (.cst (.int 1)))) .none)) .nil)))))] }
/-- law -/
def fd241 : Fd := { np := 1, ns := 12, io := [], body := [(.for_ (.nm 1) (.rng (.cons (.bi .max2 (.cons (.cst (.int 2)) (.cons (.bi .min2 (.cons (.bi .len (.cons (.var 0) .nil)) (.cons (.cst (.int 8)) .nil))) .nil))) .nil)) [(.asg (.nm 4) (.call 2 (.cons (.var 0) (.cons (.var 1) .nil)))), (.asg (.nm 5) (.bin .add (.cst (.int 1)) (.call 3 (.cons (.var 4) (.cons (.cst (.int 2)) .nil))))), (.asg (.nm 6) (.lst (.cons (.call 5 (.cons (.var 4) (.cons (.var 5) (.cons (.cst (.int 3)) .nil)))) .nil))), (.for_ (.nm 7) (.rng (.cons (.call 3 (.cons (.var 4) (.cons (.cst (.int 5)) .nil))) .nil)) [(.app 6 (.ix (.lst (.cons (.call 240 (.cons (.var 4) (.cons (.call 57 (.cons (.var 4) (.cons (.var 6) .nil))) .nil))) (.cons (.call 5 (.cons (.var 4) (.cons (.var 5) (.cons (.cst (.int 3)) .nil)))) .nil))) (.call 3 (.cons (.var 4) (.cons (.cst (.int 2)) .nil)))))]), (.asg (.nm 8) (.call 57 (.cons (.var 4) (.cons (.var 6) .nil)))), (.asg (.nm 3) (.lst .nil)), (.for_ (.nm 7) (.rng (.cons (.call 3 (.cons (.var 4) (.cons (.cst (.int 7)) .nil))) .nil)) [(.asg (.tp [(.nm 10), (.nm 11)]) (.call 239 (.cons (.var 4) (.cons (.var 5) .nil)))), (.asg (.nm 9) (.ix (.lst (.cons (.cmp .ne (.call 39 (.cons (.var 8) (.cons (.var 10) (.cons (.var 11) .nil)))) (.lst .nil)) (.cons (.cmp .eq (.call 3 (.cons (.var 4) (.cons (.cst (.int 2)) .nil))) (.cst (.int 1))) .nil))) (.bi .int (.cons (.cmp .eq (.call 3 (.cons (.var 4) (.cons (.cst (.int 8)) .nil))) (.cst (.int 0))) .nil)))), (.app 3 (.tup (.cons (.var 10) (.cons (.var 11) (.cons (.var 9) .nil)))))]), (.ife (.or_ (.not_ (.call 238 (.cons (.var 6) (.cons (.var 3) .nil)))) (.or_ (.not_ (.call 238 (.cons (.var 6) (.cons (.sl (.var 3) .none (.some (.cst (.int 1)))) .nil)))) (.cmp .ne (.call 236 (.cons (.var 6) (.cons (.tup .nil) .nil))) (.mk true (.rng (.cons (.bi .len (.cons (.var 6) .nil)) .nil)))))) [(.ret (some (.cst (.bool false))))] [])]), (.asg (.nm 2) (.lst (.cons (.tup (.cons (.cst (.int 1)) (.cons (.tup (.cons (.tup (.cons (.tup (.cons (.cst (.int 5)) .nil)) (.cons (.tup (.cons (.cst (.int 0)) .nil)) (.cons (.cst (.int 0)) .nil)))) .nil)) .nil))) (.cons (.tup (.cons (.cst (.int 1)) (.cons (.tup (.cons (.tup (.cons (.tup (.cons (.cst (.int 5)) .nil)) (.cons (.tup (.cons (.cst (.int 0)) .nil)) (.cons (.cst (.int 0)) .nil)))) (.cons (.tup (.cons (.tup (.cons (.cst (.int 60)) .nil)) (.cons (.tup (.cons (.cst (.int 1)) .nil)) (.cons (.cst (.int 0)) .nil)))) .nil))) .nil))) .nil)))), (.asg (.nm 3) (.comp (.tup (.cons (.tup (.cons (.var 1) .nil)) (.cons (.tup (.cons (.bin .add (.var 1) (.cst (.int 1))) .nil)) (.cons (.cmp .ne (.call 39 (.cons (.ix (.var 2) (.cst (.int 1))) (.cons (.tup (.cons (.var 1) .nil)) (.cons (.tup (.cons (.bin .add (.var 1) (.cst (.int 1))) .nil)) .nil)))) (.lst .nil)) .nil)))) (.nm 1) (.rng (.cons (.cst (.int 59)) .nil)) .nil [1])), (.ret (some (.and_ (.call 238 (.cons (.var 2) (.cons (.var 3) .nil))) (.call 238 (.cons (.var 2) (.cons (.bin .add (.var 3) (.lst (.cons (.tup (.cons (.tup (.cons (.cst (.int 59)) .nil)) (.cons (.tup (.cons (.cst (.int 60)) .nil)) (.cons (.cst (.bool true)) .nil)))) .nil))) .nil))))))] }
/-- has_border -/
def fd257 : Fd := { np := 3, ns := 3, io := [], body := [(.ret (some (.cmp .eq (.bin .mod (.bin .sub (.var 2) (.ix (.ix (.var 0) (.cst (.int 1))) (.var 1))) (.ix (.ix (.var 0) (.cst (.int 0))) (.var 1))) (.cst (.int 0)))))] }
/-- never_together -/
def fd258 : Fd := { np := 2, ns := 9, io := [], body := [(.for_ (.tp [(.nm 2), (.nm 3)]) (.enum (.ix (.var 0) (.cst (.int 1))) 0) [(.for_ (.tp [(.nm 4), (.nm 5)]) (.enum (.sl (.ix (.var 0) (.cst (.int 1))) .none (.some (.var 2))) 0) [(.asg (.nm 6) (.comp (.bin .add (.ix (.ix (.var 5) (.cst (.int 1))) (.var 1)) (.bin .mul (.ix (.ix (.var 5) (.cst (.int 0))) (.var 1)) (.var 7))) (.nm 7) (.rng (.cons (.ix (.ix (.var 3) (.cst (.int 0))) (.var 1)) .nil)) .nil [7])), (.ife (.not_ (.bi .any (.cons (.comp (.call 257 (.cons (.var 3) (.cons (.var 1) (.cons (.var 8) .nil)))) (.nm 8) (.seq (.var 6)) .nil [8]) .nil))) [(.ret (some (.tup (.cons (.var 4) (.cons (.var 2) .nil)))))] [])])]), (.ret (some (.cst .none)))] }
/-- walls_on -/
def fd259 : Fd := { np := 2, ns := 7, io := [], body := [(.for_ (.tp [(.nm 5), (.nm 6)]) (.enum (.ix (.var 0) (.cst (.int 1))) 0) [(.ife (.cmp .gt (.ix (.var 6) (.cst (.int 2))) (.cst (.int 0))) [(.ret (some (.tup (.cons (.cst (.str "open")) (.cons (.tup (.cons (.cst (.str "reach")) (.cons (.var 5) .nil))) .nil)))))] [])]), (.asg (.nm 2) (.call 258 (.cons (.var 0) (.cons (.var 1) .nil)))), (.ife (.cmp .isnot (.var 2) (.cst .none)) [(.ret (some (.tup (.cons (.cst (.str "open")) (.cons (.tupS (.cons (.cst (.str "never")) .nil) (.var 2)) .nil)))))] []), (.asg (.nm 3) (.ix (.call 34 (.cons (.var 0) .nil)) (.var 1))), (.asg (.nm 4) (.comp (.var 5) (.nm 5) (.rng (.cons (.var 3) .nil)) (.cons (.bi .all (.cons (.comp (.call 257 (.cons (.var 6) (.cons (.var 1) (.cons (.var 5) .nil)))) (.nm 6) (.seq (.ix (.var 0) (.cst (.int 1)))) .nil [6]) .nil)) .nil) [5])), (.ret (some (.tup (.cons (.cst (.str "walls")) (.cons (.ix (.var 4) (.cst (.int 0))) (.cons (.var 3) .nil))))))] }
/-- walls -/
def fd260 : Fd := { np := 1, ns := 2, io := [], body := [(.drop (.call 13 (.cons (.var 0) .nil))), (.ret (some (.comp (.call 259 (.cons (.var 0) (.cons (.var 1) .nil))) (.nm 1) (.rng (.cons (.ix (.var 0) (.cst (.int 0))) .nil)) .nil [1])))] }
/-- _law_border -/
def fd261 : Fd := { np := 3, ns := 3, io := [], body := [(.ret (some (.cmp .eq (.bin .mod (.bi .int (.cons (.bin .sub (.var 2) (.ix (.ix (.var 0) (.cst (.int 1))) (.var 1))) .nil)) (.ix (.ix (.var 0) (.cst (.int 0))) (.var 1))) (.cst (.int 0)))))] }
/-- _law_shuts_at -/
def fd262 : Fd := { np := 3, ns := 6, io := [], body := [(.ife (.cmp .ne (.comp (.var 5) (.nm 5) (.seq (.ix (.var 0) (.cst (.int 1)))) (.cons (.cmp .gt (.ix (.var 5) (.cst (.int 2))) (.cst (.int 0))) .nil) [5]) (.lst .nil)) [(.ret (some (.lst .nil)))] []), (.asg (.nm 3) (.lst .nil)), (.for_ (.nm 4) (.seq (.var 2)) [(.ife (.cmp .eq (.comp (.var 5) (.nm 5) (.seq (.ix (.var 0) (.cst (.int 1)))) (.cons (.not_ (.call 261 (.cons (.var 5) (.cons (.var 1) (.cons (.var 4) .nil))))) .nil) [5]) (.lst .nil)) [(.app 3 (.var 4))] [])]), (.ret (some (.var 3)))] }
/-- _law_reason_good -/
def fd263 : Fd := { np := 3, ns := 7, io := [], body := [(.ife (.or_ (.not_ (.isi (.var 2) .tuple)) (.cmp .ne (.comp (.var 4) (.nm 4) (.seq (.sl (.var 2) (.some (.cst (.int 1))) .none)) (.cons (.or_ (.not_ (.call 7 (.cons (.var 4) .nil))) (.cmp .lt (.var 4) (.cst (.int 0)))) .nil) [4]) (.lst .nil))) [(.ret (some (.cst (.bool false))))] []), (.ife (.cmp .ne (.comp (.var 4) (.nm 4) (.seq (.sl (.var 2) (.some (.cst (.int 1))) .none)) (.cons (.cmp .ge (.var 4) (.bi .len (.cons (.ix (.var 0) (.cst (.int 1))) .nil))) .nil) [4]) (.lst .nil)) [(.ret (some (.cst (.bool false))))] []), (.ife (.and_ (.cmp .eq (.sl (.var 2) .none (.some (.cst (.int 1)))) (.tup (.cons (.cst (.str "reach")) .nil))) (.cmp .eq (.bi .len (.cons (.var 2) .nil)) (.cst (.int 2)))) [(.ret (some (.cmp .gt (.ix (.ix (.ix (.var 0) (.cst (.int 1))) (.ix (.var 2) (.cst (.int 1)))) (.cst (.int 2))) (.cst (.int 0)))))] []), (.ife (.or_ (.cmp .ne (.sl (.var 2) .none (.some (.cst (.int 1)))) (.tup (.cons (.cst (.str "never")) .nil))) (.or_ (.cmp .ne (.bi .len (.cons (.var 2) .nil)) (.cst (.int 3))) (.not_ (.cmp .lt (.ix (.var 2) (.cst (.int 1))) (.ix (.var 2) (.cst (.int 2))))))) [(.ret (some (.cst (.bool false))))] []), (.asg (.tp [(.nm 4), (.nm 5)]) (.tup (.cons (.ix (.ix (.var 0) (.cst (.int 1))) (.ix (.var 2) (.cst (.int 1)))) (.cons (.ix (.ix (.var 0) (.cst (.int 1))) (.ix (.var 2) (.cst (.int 2)))) .nil)))), (.asg (.nm 3) (.mk true (.rng (.cons (.cst (.int 3600)) .nil)))), (.ret (some (.cmp .eq (.comp (.var 6) (.nm 6) (.seq (.var 3)) (.cons (.and_ (.call 261 (.cons (.var 4) (.cons (.var 1) (.cons (.var 6) .nil)))) (.call 261 (.cons (.var 5) (.cons (.var 1) (.cons (.var 6) .nil))))) .nil) [6]) (.lst .nil))))] }
/-- _law_side_good -/
def fd264 : Fd := { np := 3, ns := 6, io := [], body := [(.ife (.or_ (.not_ (.isi (.var 2) .tuple)) (.cmp .eq (.var 2) (.tup .nil))) [(.ret (some (.cst (.bool false))))] []), (.asg (.nm 3) (.ix (.call 37 (.cons (.var 0) .nil)) (.var 1))), (.asg (.nm 4) (.call 262 (.cons (.var 0) (.cons (.var 1) (.cons (.mk true (.rng (.cons (.neg (.var 3)) (.cons (.bin .mul (.cst (.int 2)) (.var 3)) .nil)))) .nil))))), (.ife (.cmp .eq (.ix (.var 2) (.cst (.int 0))) (.cst (.str "open"))) [(.ret (some (.and_ (.cmp .eq (.bi .len (.cons (.var 2) .nil)) (.cst (.int 2))) (.and_ (.cmp .eq (.var 4) (.lst .nil)) (.call 263 (.cons (.var 0) (.cons (.var 1) (.cons (.ix (.var 2) (.cst (.int 1))) .nil))))))))] []), (.ife (.or_ (.cmp .ne (.ix (.var 2) (.cst (.int 0))) (.cst (.str "walls"))) (.or_ (.cmp .ne (.bi .len (.cons (.var 2) .nil)) (.cst (.int 3))) (.or_ (.not_ (.call 7 (.cons (.ix (.var 2) (.cst (.int 1))) .nil))) (.not_ (.call 7 (.cons (.ix (.var 2) (.cst (.int 2))) .nil)))))) [(.ret (some (.cst (.bool false))))] []), (.ife (.or_ (.cmp .lt (.ix (.var 2) (.cst (.int 2))) (.cst (.int 1))) (.or_ (.cmp .lt (.ix (.var 2) (.cst (.int 1))) (.cst (.int 0))) (.cmp .ge (.ix (.var 2) (.cst (.int 1))) (.ix (.var 2) (.cst (.int 2)))))) [(.ret (some (.cst (.bool false))))] []), (.ret (some (.cmp .eq (.var 4) (.comp (.var 5) (.nm 5) (.rng (.cons (.neg (.var 3)) (.cons (.bin .mul (.cst (.int 2)) (.var 3)) .nil))) (.cons (.cmp .eq (.bin .mod (.bi .int (.cons (.bin .sub (.var 5) (.ix (.var 2) (.cst (.int 1)))) .nil)) (.ix (.var 2) (.cst (.int 2)))) (.cst (.int 0))) .nil) [5]))))] }
/-- _law_good -/
def fd265 : Fd := { np := 1, ns := 5, io := [], body := [(.asg (.nm 1) (.bi .repr (.cons (.var 0) .nil))), (.asg (.nm 2) (.call 260 (.cons (.var 0) .nil))), (.ife (.or_ (.not_ (.isi (.var 2) .list)) (.or_ (.cmp .ne (.bi .len (.cons (.var 2) .nil)) (.ix (.var 0) (.cst (.int 0)))) (.cmp .ne (.bi .repr (.cons (.var 0) .nil)) (.var 1)))) [(.ret (some (.cst (.bool false))))] []), (.ife (.cmp .ne (.comp (.var 4) (.nm 4) (.rng (.cons (.ix (.var 0) (.cst (.int 0))) .nil)) (.cons (.not_ (.call 264 (.cons (.var 0) (.cons (.var 4) (.cons (.ix (.var 2) (.var 4)) .nil))))) .nil) [4]) (.lst .nil)) [(.ret (some (.cst (.bool false))))] []), (.asg (.nm 3) (.bi .repr (.cons (.var 2) .nil))), (.app 2 (.cst .none)), (.ret (some (.cmp .eq (.bi .repr (.cons (.call 260 (.cons (.var 0) .nil)) .nil)) (.var 3))))] }
/-- _law_flags -/
def fd416 : Fd := { np := 1, ns := 2, io := [], body := [(.asg (.nm 1) (.lst (.cons (.isi (.var 0) (.exc 1)) (.cons (.isi (.var 0) (.exc 2)) (.cons (.isi (.var 0) (.exc 3)) .nil))))), (.asg (.nm 1) (.bin .add (.var 1) (.lst (.cons (.isi (.var 0) (.exc 4)) (.cons (.isi (.var 0) (.exc 5)) (.cons (.isi (.var 0) (.exc 6)) .nil)))))), (.ret (some (.bin .add (.var 1) (.lst (.cons (.isi (.var 0) (.exc 7)) (.cons (.isi (.var 0) (.exc 8)) (.cons (.isi (.var 0) (.exc 9)) .nil)))))))] }
/-- _law_error -/
def fd417 : Fd := { np := 1, ns := 2, io := [], body := [(.ife (.cmp .is_ (.var 0) (.cst .none)) [(.ret (some (.cst (.str ""))))] []), (.asg (.nm 1) (.call 416 (.cons (.var 0) .nil))), (.ife (.or_ (.cmp .ne (.mth .count (.var 1) (.cons (.cst (.bool true)) .nil)) (.cst (.int 1))) (.or_ (.not_ (.isi (.var 0) (.exc 0))) (.not_ (.isi (.var 0) (.exc 100))))) [(.ret (some (.cst (.str "other"))))] []), (.ret (some (.ix (.lst (.cons (.cst (.str "rule")) (.cons (.cst (.str "point")) (.cons (.cst (.str "dist")) (.cons (.cst (.str "way")) (.cons (.cst (.str "size")) (.cons (.cst (.str "reach")) (.cons (.cst (.str "shifts")) (.cons (.cst (.str "unlike")) (.cons (.cst (.str "missed")) .nil)))))))))) (.mth .index (.var 1) (.cons (.cst (.bool true)) .nil)))))] }
/-- _law_word -/
def fd418 : Fd := { np := 2, ns := 5, io := [], body := [(.asg (.nm 2) (.bi .repr (.cons (.var 1) .nil))), (.asg (.nm 3) (.cst .none)), (.try_ [(.drop (.call 53 (.cons (.var 0) (.cons (.ix (.var 1) (.cst (.int 0))) (.cons (.ix (.var 1) (.cst (.int 1))) (.cons (.ix (.var 1) (.cst (.int 2))) (.cons (.ix (.var 1) (.cst (.int 3))) .nil)))))))] 4 3 0), (.ife (.cmp .ne (.bi .repr (.cons (.var 1) .nil)) (.var 2)) [(.ret (some (.cst (.str "changed"))))] []), (.ret (some (.call 417 (.cons (.var 3) .nil))))] }
/-- law -/
def fd419 : Fd := { np := 1, ns := 14, io := [], body := [(.for_ (.nm 1) (.rng (.cons (.bi .max2 (.cons (.cst (.int 2)) (.cons (.bi .min2 (.cons (.bi .len (.cons (.var 0) .nil)) (.cons (.cst (.int 4)) .nil))) .nil))) .nil)) [(.asg (.nm 2) (.call 2 (.cons (.var 0) (.cons (.var 1) .nil)))), (.asg (.nm 3) (.call 5 (.cons (.var 2) (.cons (.bin .add (.cst (.int 1)) (.bin .mod (.var 1) (.cst (.int 2)))) (.cons (.cst (.int 3)) .nil))))), (.asg (.tp [(.nm 7), (.nm 8)]) (.tup (.cons (.call 16 (.cons (.var 2) (.cons (.ix (.var 3) (.cst (.int 0))) (.cons (.cst (.int 30)) .nil)))) (.cons (.call 16 (.cons (.var 2) (.cons (.ix (.var 3) (.cst (.int 0))) (.cons (.cst (.int 30)) .nil)))) .nil)))), (.asg (.nm 4) (.ix (.lst (.cons (.cst (.str "side")) (.cons (.cst (.str "sum")) .nil))) (.call 3 (.cons (.var 2) (.cons (.cst (.int 2)) .nil))))), (.for_ (.nm 5) (.rng (.cons (.cst (.int 6)) .nil)) [(.for_ (.nm 9) (.rng (.cons (.cst (.int 16)) .nil)) [(.asg (.nm 11) (.comp (.cmp .eq (.bin .mod (.bin .fdiv (.var 9) (.var 13)) (.cst (.int 2))) (.cst (.int 1))) (.nm 13) (.seq (.lst (.cons (.cst (.int 1)) (.cons (.cst (.int 2)) (.cons (.cst (.int 4)) (.cons (.cst (.int 8)) .nil)))))) .nil [13])), (.asg (.nm 12) (.lst (.cons (.ix (.lst (.cons (.call 57 (.cons (.var 2) (.cons (.call 6 (.cons (.var 3) .nil)) .nil))) (.cons (.var 3) .nil))) (.bi .int (.cons (.ix (.var 11) (.cst (.int 0))) .nil))) .nil))), (.app 12 (.ix (.lst (.cons (.call 57 (.cons (.var 2) (.cons (.call 15 (.cons (.ix (.var 3) (.cst (.int 0))) .nil)) .nil))) (.cons (.var 7) .nil))) (.bi .int (.cons (.ix (.var 11) (.cst (.int 1))) .nil)))), (.app 12 (.ix (.lst (.cons (.call 57 (.cons (.var 2) (.cons (.call 15 (.cons (.ix (.var 3) (.cst (.int 0))) .nil)) .nil))) (.cons (.var 8) .nil))) (.bi .int (.cons (.ix (.var 11) (.cst (.int 2))) .nil)))), (.app 12 (.ix (.lst (.cons (.call 57 (.cons (.var 2) (.cons (.call 56 .nil) .nil))) (.cons (.var 4) .nil))) (.bi .int (.cons (.ix (.var 11) (.cst (.int 3))) .nil)))), (.ife (.cmp .ne (.call 418 (.cons (.var 5) (.cons (.var 12) .nil))) (.call 55 (.cons (.var 5) (.cons (.var 11) .nil)))) [(.ret (some (.cst (.bool false))))] [])]), (.ife (.cmp .ne (.comp (.var 6) (.nm 6) (.seq (.call 6 (.cons (.var 3) .nil))) (.cons (.cmp .ne (.call 418 (.cons (.var 5) (.cons (.lst (.cons (.var 6) (.cons (.var 7) (.cons (.var 8) (.cons (.var 4) .nil))))) .nil))) (.cst (.str "rule"))) .nil) [6]) (.lst .nil)) [(.ret (some (.cst (.bool false))))] [])]), (.for_ (.nm 6) (.seq (.call 15 (.cons (.ix (.var 3) (.cst (.int 0))) .nil))) [(.asg (.nm 10) (.comp (.call 418 (.cons (.var 5) (.cons (.lst (.cons (.var 3) (.cons (.var 6) (.cons (.cst .none) (.cons (.cst .none) .nil))))) .nil))) (.nm 5) (.seq (.lst (.cons (.cst (.int 2)) (.cons (.cst (.int 3)) (.cons (.cst (.int 4)) (.cons (.cst (.int 5)) .nil)))))) .nil [5])), (.ife (.cmp .ne (.bin .add (.var 10) (.comp (.call 418 (.cons (.var 5) (.cons (.lst (.cons (.var 3) (.cons (.var 7) (.cons (.var 6) (.cons (.cst .none) .nil))))) .nil))) (.nm 5) (.seq (.lst (.cons (.cst (.int 4)) (.cons (.cst (.int 5)) .nil)))) .nil [5])) (.bin .mul (.lst (.cons (.cst (.str "point")) .nil)) (.cst (.int 6)))) [(.ret (some (.cst (.bool false))))] [])]), (.ife (.cmp .ne (.comp (.var 6) (.nm 6) (.seq (.call 56 .nil)) (.cons (.cmp .ne (.call 418 (.cons (.cst (.int 5)) (.cons (.lst (.cons (.var 3) (.cons (.var 7) (.cons (.var 8) (.cons (.var 6) .nil))))) .nil))) (.cst (.str "way"))) .nil) [6]) (.lst .nil)) [(.ret (some (.cst (.bool false))))] [])]), (.ret (some (.cst (.bool true))))] }
/-- _law_kinds -/
def fd435 : Fd := { np := 1, ns := 5, io := [], body := [(.asg (.nm 1) (.lst (.cons (.isi (.var 0) (.exc 1)) (.cons (.isi (.var 0) (.exc 2)) (.cons (.isi (.var 0) (.exc 3)) .nil))))), (.asg (.nm 1) (.bin .add (.var 1) (.lst (.cons (.isi (.var 0) (.exc 4)) (.cons (.isi (.var 0) (.exc 5)) (.cons (.isi (.var 0) (.exc 6)) .nil)))))), (.asg (.nm 1) (.bin .add (.var 1) (.lst (.cons (.isi (.var 0) (.exc 7)) (.cons (.isi (.var 0) (.exc 10)) (.cons (.isi (.var 0) (.exc 11)) .nil)))))), (.asg (.nm 1) (.bin .add (.var 1) (.lst (.cons (.isi (.var 0) (.exc 12)) (.cons (.isi (.var 0) (.exc 13)) (.cons (.isi (.var 0) (.exc 8)) .nil)))))), (.asg (.nm 1) (.bin .add (.var 1) (.lst (.cons (.isi (.var 0) (.exc 9)) (.cons (.isi (.var 0) (.exc 14)) (.cons (.isi (.var 0) (.exc 100)) .nil)))))), (.app 1 (.isi (.var 0) (.exc 0))), (.asg (.nm 2) (.lst (.cons (.cst (.str "rule")) (.cons (.cst (.str "point")) (.cons (.cst (.str "dist")) (.cons (.cst (.str "way")) (.cons (.cst (.str "size")) (.cons (.cst (.str "reach")) (.cons (.cst (.str "shifts")) (.cons (.cst (.str "rules")) (.cons (.cst (.str "told")) (.cons (.cst (.str "points")) (.cons (.cst (.str "name")) (.cons (.cst (.str "unlike")) .nil)))))))))))))), (.asg (.nm 2) (.bin .add (.var 2) (.lst (.cons (.cst (.str "missed")) (.cons (.cst (.str "text")) (.cons (.cst (.str "value")) (.cons (.cst (.str "error")) .nil))))))), (.ret (some (.comp (.var 3) (.tp [(.nm 3), (.nm 4)]) (.zip (.cons (.var 2) (.cons (.var 1) .nil))) (.cons (.var 4) .nil) [3, 4])))] }
/-- _law_word -/
def fd436 : Fd := { np := 1, ns := 2, io := [], body := [(.asg (.nm 1) (.call 435 (.cons (.var 0) .nil))), (.ife (.cmp .eq (.var 1) (.lst .nil)) [(.ret (some (.cst (.str ""))))] []), (.ret (some (.ix (.lst (.cons (.ix (.var 1) (.cst (.int 0))) (.cons (.cst (.str "other")) .nil))) (.bi .int (.cons (.cmp .ne (.sl (.var 1) (.some (.cst (.int 1))) .none) (.lst (.cons (.cst (.str "value")) (.cons (.cst (.str "error")) .nil)))) .nil)))))] }
def fts : List (Nat × Fd) := [(1, fd1), (2, fd2), (3, fd3), (4, fd4), (5, fd5), (6, fd6), (7, fd7), (8, fd8), (9, fd9), (10, fd10), (11, fd11), (12, fd12), (13, fd13), (14, fd14), (15, fd15), (16, fd16), (18, fd18), (21, fd21), (22, fd22), (23, fd23), (27, fd27), (28, fd28), (29, fd29), (30, fd30), (31, fd31), (32, fd32), (33, fd33), (34, fd34), (35, fd35), (36, fd36), (37, fd37), (38, fd38), (39, fd39), (42, fd42), (43, fd43), (50, fd50), (51, fd51), (52, fd52), (53, fd53), (55, fd55), (56, fd56), (57, fd57), (231, fd231), (232, fd232), (233, fd233), (234, fd234), (235, fd235), (236, fd236), (237, fd237), (238, fd238), (239, fd239), (240, fd240), (241, fd241), (257, fd257), (258, fd258), (259, fd259), (260, fd260), (261, fd261), (262, fd262), (263, fd263), (264, fd264), (265, fd265), (416, fd416), (417, fd417), (418, fd418), (419, fd419), (435, fd435), (436, fd436)]
def ft (k : Nat) : Fd := (fts.lookup k).getD ⟨0, 0, [], []⟩
theorem ft1 : ft 1 = fd1 := rfl
@[simp] theorem call1 {cl : Cl} {e : En} {rs : List Res} : callR ft cl 1 rs e = if ((inouts [] 0 rs).Nodup && (inouts [] 0 rs).all fun i => !(lents [] 0 rs).contains i) = true then (argsIn e [] 0 rs >>= fun ss => ansR [] rs e (cl 1 ss)) else .no := callR_io rfl
theorem run1 (n : Nat) (ss : List Sv) : callN ft (n + 1) 1 ss = if ss.length = 2 then (evSs ft (callN ft n) [] fd1.body (enterN 1 ss) >>= outR [] 2) else .no := run_eq (n := 1) rfl
theorem ft2 : ft 2 = fd2 := rfl
@[simp] theorem call2 {cl : Cl} {e : En} {rs : List Res} : callR ft cl 2 rs e = if ((inouts [] 0 rs).Nodup && (inouts [] 0 rs).all fun i => !(lents [] 0 rs).contains i) = true then (argsIn e [] 0 rs >>= fun ss => ansR [] rs e (cl 2 ss)) else .no := callR_io rfl
theorem run2 (n : Nat) (ss : List Sv) : callN ft (n + 1) 2 ss = if ss.length = 2 then (evSs ft (callN ft n) [] fd2.body (enterN 3 ss) >>= outR [] 2) else .no := run_eq (n := 3) rfl
theorem ft3 : ft 3 = fd3 := rfl
@[simp] theorem call3 {cl : Cl} {e : En} {rs : List Res} : callR ft cl 3 rs e = if ((inouts [0] 0 rs).Nodup && (inouts [0] 0 rs).all fun i => !(lents [0] 0 rs).contains i) = true then (argsIn e [0] 0 rs >>= fun ss => ansR [0] rs e (cl 3 ss)) else .no := callR_io rfl
theorem run3 (n : Nat) (ss : List Sv) : callN ft (n + 1) 3 ss = if ss.length = 2 then (evSs ft (callN ft n) [0] fd3.body (enterN 1 ss) >>= outR [0] 2) else .no := run_eq (n := 1) rfl
theorem ft4 : ft 4 = fd4 := rfl
@[simp] theorem call4 {cl : Cl} {e : En} {rs : List Res} : callR ft cl 4 rs e = if ((inouts [0] 0 rs).Nodup && (inouts [0] 0 rs).all fun i => !(lents [0] 0 rs).contains i) = true then (argsIn e [0] 0 rs >>= fun ss => ansR [0] rs e (cl 4 ss)) else .no := callR_io rfl
theorem run4 (n : Nat) (ss : List Sv) : callN ft (n + 1) 4 ss = if ss.length = 3 then (evSs ft (callN ft n) [0] fd4.body (enterN 4 ss) >>= outR [0] 3) else .no := run_eq (n := 4) rfl
theorem ft5 : ft 5 = fd5 := rfl
@[simp] theorem call5 {cl : Cl} {e : En} {rs : List Res} : callR ft cl 5 rs e = if ((inouts [0] 0 rs).Nodup && (inouts [0] 0 rs).all fun i => !(lents [0] 0 rs).contains i) = true then (argsIn e [0] 0 rs >>= fun ss => ansR [0] rs e (cl 5 ss)) else .no := callR_io rfl
theorem run5 (n : Nat) (ss : List Sv) : callN ft (n + 1) 5 ss = if ss.length = 3 then (evSs ft (callN ft n) [0] fd5.body (enterN 12 ss) >>= outR [0] 3) else .no := run_eq (n := 12) rfl
theorem ft6 : ft 6 = fd6 := rfl
@[simp] theorem call6 {cl : Cl} {e : En} {rs : List Res} : callR ft cl 6 rs e = if ((inouts [] 0 rs).Nodup && (inouts [] 0 rs).all fun i => !(lents [] 0 rs).contains i) = true then (argsIn e [] 0 rs >>= fun ss => ansR [] rs e (cl 6 ss)) else .no := callR_io rfl
theorem run6 (n : Nat) (ss : List Sv) : callN ft (n + 1) 6 ss = if ss.length = 1 then (evSs ft (callN ft n) [] fd6.body (enterN 8 ss) >>= outR [] 1) else .no := run_eq (n := 8) rfl
theorem ft7 : ft 7 = fd7 := rfl
@[simp] theorem call7 {cl : Cl} {e : En} {rs : List Res} : callR ft cl 7 rs e = if ((inouts [] 0 rs).Nodup && (inouts [] 0 rs).all fun i => !(lents [] 0 rs).contains i) = true then (argsIn e [] 0 rs >>= fun ss => ansR [] rs e (cl 7 ss)) else .no := callR_io rfl
theorem run7 (n : Nat) (ss : List Sv) : callN ft (n + 1) 7 ss = if ss.length = 1 then (evSs ft (callN ft n) [] fd7.body (enterN 0 ss) >>= outR [] 1) else .no := run_eq (n := 0) rfl
theorem ft8 : ft 8 = fd8 := rfl
@[simp] theorem call8 {cl : Cl} {e : En} {rs : List Res} : callR ft cl 8 rs e = if ((inouts [] 0 rs).Nodup && (inouts [] 0 rs).all fun i => !(lents [] 0 rs).contains i) = true then (argsIn e [] 0 rs >>= fun ss => ansR [] rs e (cl 8 ss)) else .no := callR_io rfl
theorem run8 (n : Nat) (ss : List Sv) : callN ft (n + 1) 8 ss = if ss.length = 3 then (evSs ft (callN ft n) [] fd8.body (enterN 0 ss) >>= outR [] 3) else .no := run_eq (n := 0) rfl
theorem ft9 : ft 9 = fd9 := rfl
@[simp] theorem call9 {cl : Cl} {e : En} {rs : List Res} : callR ft cl 9 rs e = if ((inouts [] 0 rs).Nodup && (inouts [] 0 rs).all fun i => !(lents [] 0 rs).contains i) = true then (argsIn e [] 0 rs >>= fun ss => ansR [] rs e (cl 9 ss)) else .no := callR_io rfl
theorem run9 (n : Nat) (ss : List Sv) : callN ft (n + 1) 9 ss = if ss.length = 2 then (evSs ft (callN ft n) [] fd9.body (enterN 1 ss) >>= outR [] 2) else .no := run_eq (n := 1) rfl
theorem ft10 : ft 10 = fd10 := rfl
@[simp] theorem call10 {cl : Cl} {e : En} {rs : List Res} : callR ft cl 10 rs e = if ((inouts [] 0 rs).Nodup && (inouts [] 0 rs).all fun i => !(lents [] 0 rs).contains i) = true then (argsIn e [] 0 rs >>= fun ss => ansR [] rs e (cl 10 ss)) else .no := callR_io rfl
theorem run10 (n : Nat) (ss : List Sv) : callN ft (n + 1) 10 ss = if ss.length = 2 then (evSs ft (callN ft n) [] fd10.body (enterN 1 ss) >>= outR [] 2) else .no := run_eq (n := 1) rfl
theorem ft11 : ft 11 = fd11 := rfl
@[simp] theorem call11 {cl : Cl} {e : En} {rs : List Res} : callR ft cl 11 rs e = if ((inouts [] 0 rs).Nodup && (inouts [] 0 rs).all fun i => !(lents [] 0 rs).contains i) = true then (argsIn e [] 0 rs >>= fun ss => ansR [] rs e (cl 11 ss)) else .no := callR_io rfl
theorem run11 (n : Nat) (ss : List Sv) : callN ft (n + 1) 11 ss = if ss.length = 1 then (evSs ft (callN ft n) [] fd11.body (enterN 1 ss) >>= outR [] 1) else .no := run_eq (n := 1) rfl
theorem ft12 : ft 12 = fd12 := rfl
@[simp] theorem call12 {cl : Cl} {e : En} {rs : List Res} : callR ft cl 12 rs e = if ((inouts [] 0 rs).Nodup && (inouts [] 0 rs).all fun i => !(lents [] 0 rs).contains i) = true then (argsIn e [] 0 rs >>= fun ss => ansR [] rs e (cl 12 ss)) else .no := callR_io rfl
theorem run12 (n : Nat) (ss : List Sv) : callN ft (n + 1) 12 ss = if ss.length = 1 then (evSs ft (callN ft n) [] fd12.body (enterN 0 ss) >>= outR [] 1) else .no := run_eq (n := 0) rfl
theorem ft13 : ft 13 = fd13 := rfl
@[simp] theorem call13 {cl : Cl} {e : En} {rs : List Res} : callR ft cl 13 rs e = if ((inouts [] 0 rs).Nodup && (inouts [] 0 rs).all fun i => !(lents [] 0 rs).contains i) = true then (argsIn e [] 0 rs >>= fun ss => ansR [] rs e (cl 13 ss)) else .no := callR_io rfl
theorem run13 (n : Nat) (ss : List Sv) : callN ft (n + 1) 13 ss = if ss.length = 1 then (evSs ft (callN ft n) [] fd13.body (enterN 0 ss) >>= outR [] 1) else .no := run_eq (n := 0) rfl
theorem ft14 : ft 14 = fd14 := rfl
@[simp] theorem call14 {cl : Cl} {e : En} {rs : List Res} : callR ft cl 14 rs e = if ((inouts [] 0 rs).Nodup && (inouts [] 0 rs).all fun i => !(lents [] 0 rs).contains i) = true then (argsIn e [] 0 rs >>= fun ss => ansR [] rs e (cl 14 ss)) else .no := callR_io rfl
theorem run14 (n : Nat) (ss : List Sv) : callN ft (n + 1) 14 ss = if ss.length = 2 then (evSs ft (callN ft n) [] fd14.body (enterN 0 ss) >>= outR [] 2) else .no := run_eq (n := 0) rfl
theorem ft15 : ft 15 = fd15 := rfl
@[simp] theorem call15 {cl : Cl} {e : En} {rs : List Res} : callR ft cl 15 rs e = if ((inouts [] 0 rs).Nodup && (inouts [] 0 rs).all fun i => !(lents [] 0 rs).contains i) = true then (argsIn e [] 0 rs >>= fun ss => ansR [] rs e (cl 15 ss)) else .no := callR_io rfl
theorem run15 (n : Nat) (ss : List Sv) : callN ft (n + 1) 15 ss = if ss.length = 1 then (evSs ft (callN ft n) [] fd15.body (enterN 1 ss) >>= outR [] 1) else .no := run_eq (n := 1) rfl
theorem ft16 : ft 16 = fd16 := rfl
@[simp] theorem call16 {cl : Cl} {e : En} {rs : List Res} : callR ft cl 16 rs e = if ((inouts [0] 0 rs).Nodup && (inouts [0] 0 rs).all fun i => !(lents [0] 0 rs).contains i) = true then (argsIn e [0] 0 rs >>= fun ss => ansR [0] rs e (cl 16 ss)) else .no := callR_io rfl
theorem run16 (n : Nat) (ss : List Sv) : callN ft (n + 1) 16 ss = if ss.length = 3 then (evSs ft (callN ft n) [0] fd16.body (enterN 1 ss) >>= outR [0] 3) else .no := run_eq (n := 1) rfl
theorem ft18 : ft 18 = fd18 := rfl
@[simp] theorem call18 {cl : Cl} {e : En} {rs : List Res} : callR ft cl 18 rs e = if ((inouts [] 0 rs).Nodup && (inouts [] 0 rs).all fun i => !(lents [] 0 rs).contains i) = true then (argsIn e [] 0 rs >>= fun ss => ansR [] rs e (cl 18 ss)) else .no := callR_io rfl
theorem run18 (n : Nat) (ss : List Sv) : callN ft (n + 1) 18 ss = if ss.length = 2 then (evSs ft (callN ft n) [] fd18.body (enterN 1 ss) >>= outR [] 2) else .no := run_eq (n := 1) rfl
theorem ft21 : ft 21 = fd21 := rfl
@[simp] theorem call21 {cl : Cl} {e : En} {rs : List Res} : callR ft cl 21 rs e = if ((inouts [] 0 rs).Nodup && (inouts [] 0 rs).all fun i => !(lents [] 0 rs).contains i) = true then (argsIn e [] 0 rs >>= fun ss => ansR [] rs e (cl 21 ss)) else .no := callR_io rfl
theorem run21 (n : Nat) (ss : List Sv) : callN ft (n + 1) 21 ss = if ss.length = 2 then (evSs ft (callN ft n) [] fd21.body (enterN 1 ss) >>= outR [] 2) else .no := run_eq (n := 1) rfl
theorem ft22 : ft 22 = fd22 := rfl
@[simp] theorem call22 {cl : Cl} {e : En} {rs : List Res} : callR ft cl 22 rs e = if ((inouts [] 0 rs).Nodup && (inouts [] 0 rs).all fun i => !(lents [] 0 rs).contains i) = true then (argsIn e [] 0 rs >>= fun ss => ansR [] rs e (cl 22 ss)) else .no := callR_io rfl
theorem run22 (n : Nat) (ss : List Sv) : callN ft (n + 1) 22 ss = if ss.length = 1 then (evSs ft (callN ft n) [] fd22.body (enterN 1 ss) >>= outR [] 1) else .no := run_eq (n := 1) rfl
theorem ft23 : ft 23 = fd23 := rfl
@[simp] theorem call23 {cl : Cl} {e : En} {rs : List Res} : callR ft cl 23 rs e = if ((inouts [] 0 rs).Nodup && (inouts [] 0 rs).all fun i => !(lents [] 0 rs).contains i) = true then (argsIn e [] 0 rs >>= fun ss => ansR [] rs e (cl 23 ss)) else .no := callR_io rfl
theorem run23 (n : Nat) (ss : List Sv) : callN ft (n + 1) 23 ss = if ss.length = 1 then (evSs ft (callN ft n) [] fd23.body (enterN 2 ss) >>= outR [] 1) else .no := run_eq (n := 2) rfl
theorem ft27 : ft 27 = fd27 := rfl
@[simp] theorem call27 {cl : Cl} {e : En} {rs : List Res} : callR ft cl 27 rs e = if ((inouts [] 0 rs).Nodup && (inouts [] 0 rs).all fun i => !(lents [] 0 rs).contains i) = true then (argsIn e [] 0 rs >>= fun ss => ansR [] rs e (cl 27 ss)) else .no := callR_io rfl
theorem run27 (n : Nat) (ss : List Sv) : callN ft (n + 1) 27 ss = if ss.length = 2 then (evSs ft (callN ft n) [] fd27.body (enterN 0 ss) >>= outR [] 2) else .no := run_eq (n := 0) rfl
theorem ft28 : ft 28 = fd28 := rfl
@[simp] theorem call28 {cl : Cl} {e : En} {rs : List Res} : callR ft cl 28 rs e = if ((inouts [] 0 rs).Nodup && (inouts [] 0 rs).all fun i => !(lents [] 0 rs).contains i) = true then (argsIn e [] 0 rs >>= fun ss => ansR [] rs e (cl 28 ss)) else .no := callR_io rfl
theorem run28 (n : Nat) (ss : List Sv) : callN ft (n + 1) 28 ss = if ss.length = 2 then (evSs ft (callN ft n) [] fd28.body (enterN 3 ss) >>= outR [] 2) else .no := run_eq (n := 3) rfl
theorem ft29 : ft 29 = fd29 := rfl
@[simp] theorem call29 {cl : Cl} {e : En} {rs : List Res} : callR ft cl 29 rs e = if ((inouts [] 0 rs).Nodup && (inouts [] 0 rs).all fun i => !(lents [] 0 rs).contains i) = true then (argsIn e [] 0 rs >>= fun ss => ansR [] rs e (cl 29 ss)) else .no := callR_io rfl
theorem run29 (n : Nat) (ss : List Sv) : callN ft (n + 1) 29 ss = if ss.length = 3 then (evSs ft (callN ft n) [] fd29.body (enterN 2 ss) >>= outR [] 3) else .no := run_eq (n := 2) rfl
theorem ft30 : ft 30 = fd30 := rfl
@[simp] theorem call30 {cl : Cl} {e : En} {rs : List Res} : callR ft cl 30 rs e = if ((inouts [] 0 rs).Nodup && (inouts [] 0 rs).all fun i => !(lents [] 0 rs).contains i) = true then (argsIn e [] 0 rs >>= fun ss => ansR [] rs e (cl 30 ss)) else .no := callR_io rfl
theorem run30 (n : Nat) (ss : List Sv) : callN ft (n + 1) 30 ss = if ss.length = 3 then (evSs ft (callN ft n) [] fd30.body (enterN 2 ss) >>= outR [] 3) else .no := run_eq (n := 2) rfl
theorem ft31 : ft 31 = fd31 := rfl
@[simp] theorem call31 {cl : Cl} {e : En} {rs : List Res} : callR ft cl 31 rs e = if ((inouts [] 0 rs).Nodup && (inouts [] 0 rs).all fun i => !(lents [] 0 rs).contains i) = true then (argsIn e [] 0 rs >>= fun ss => ansR [] rs e (cl 31 ss)) else .no := callR_io rfl
theorem run31 (n : Nat) (ss : List Sv) : callN ft (n + 1) 31 ss = if ss.length = 3 then (evSs ft (callN ft n) [] fd31.body (enterN 0 ss) >>= outR [] 3) else .no := run_eq (n := 0) rfl
theorem ft32 : ft 32 = fd32 := rfl
@[simp] theorem call32 {cl : Cl} {e : En} {rs : List Res} : callR ft cl 32 rs e = if ((inouts [] 0 rs).Nodup && (inouts [] 0 rs).all fun i => !(lents [] 0 rs).contains i) = true then (argsIn e [] 0 rs >>= fun ss => ansR [] rs e (cl 32 ss)) else .no := callR_io rfl
theorem run32 (n : Nat) (ss : List Sv) : callN ft (n + 1) 32 ss = if ss.length = 2 then (evSs ft (callN ft n) [] fd32.body (enterN 1 ss) >>= outR [] 2) else .no := run_eq (n := 1) rfl
theorem ft33 : ft 33 = fd33 := rfl
@[simp] theorem call33 {cl : Cl} {e : En} {rs : List Res} : callR ft cl 33 rs e = if ((inouts [] 0 rs).Nodup && (inouts [] 0 rs).all fun i => !(lents [] 0 rs).contains i) = true then (argsIn e [] 0 rs >>= fun ss => ansR [] rs e (cl 33 ss)) else .no := callR_io rfl
theorem run33 (n : Nat) (ss : List Sv) : callN ft (n + 1) 33 ss = if ss.length = 2 then (evSs ft (callN ft n) [] fd33.body (enterN 2 ss) >>= outR [] 2) else .no := run_eq (n := 2) rfl
theorem ft34 : ft 34 = fd34 := rfl
@[simp] theorem call34 {cl : Cl} {e : En} {rs : List Res} : callR ft cl 34 rs e = if ((inouts [] 0 rs).Nodup && (inouts [] 0 rs).all fun i => !(lents [] 0 rs).contains i) = true then (argsIn e [] 0 rs >>= fun ss => ansR [] rs e (cl 34 ss)) else .no := callR_io rfl
theorem run34 (n : Nat) (ss : List Sv) : callN ft (n + 1) 34 ss = if ss.length = 1 then (evSs ft (callN ft n) [] fd34.body (enterN 6 ss) >>= outR [] 1) else .no := run_eq (n := 6) rfl
theorem ft35 : ft 35 = fd35 := rfl
@[simp] theorem call35 {cl : Cl} {e : En} {rs : List Res} : callR ft cl 35 rs e = if ((inouts [] 0 rs).Nodup && (inouts [] 0 rs).all fun i => !(lents [] 0 rs).contains i) = true then (argsIn e [] 0 rs >>= fun ss => ansR [] rs e (cl 35 ss)) else .no := callR_io rfl
theorem run35 (n : Nat) (ss : List Sv) : callN ft (n + 1) 35 ss = if ss.length = 1 then (evSs ft (callN ft n) [] fd35.body (enterN 0 ss) >>= outR [] 1) else .no := run_eq (n := 0) rfl
theorem ft36 : ft 36 = fd36 := rfl
@[simp] theorem call36 {cl : Cl} {e : En} {rs : List Res} : callR ft cl 36 rs e = if ((inouts [] 0 rs).Nodup && (inouts [] 0 rs).all fun i => !(lents [] 0 rs).contains i) = true then (argsIn e [] 0 rs >>= fun ss => ansR [] rs e (cl 36 ss)) else .no := callR_io rfl
theorem run36 (n : Nat) (ss : List Sv) : callN ft (n + 1) 36 ss = if ss.length = 1 then (evSs ft (callN ft n) [] fd36.body (enterN 2 ss) >>= outR [] 1) else .no := run_eq (n := 2) rfl
theorem ft37 : ft 37 = fd37 := rfl
@[simp] theorem call37 {cl : Cl} {e : En} {rs : List Res} : callR ft cl 37 rs e = if ((inouts [] 0 rs).Nodup && (inouts [] 0 rs).all fun i => !(lents [] 0 rs).contains i) = true then (argsIn e [] 0 rs >>= fun ss => ansR [] rs e (cl 37 ss)) else .no := callR_io rfl
theorem run37 (n : Nat) (ss : List Sv) : callN ft (n + 1) 37 ss = if ss.length = 1 then (evSs ft (callN ft n) [] fd37.body (enterN 2 ss) >>= outR [] 1) else .no := run_eq (n := 2) rfl
theorem ft38 : ft 38 = fd38 := rfl
@[simp] theorem call38 {cl : Cl} {e : En} {rs : List Res} : callR ft cl 38 rs e = if ((inouts [] 0 rs).Nodup && (inouts [] 0 rs).all fun i => !(lents [] 0 rs).contains i) = true then (argsIn e [] 0 rs >>= fun ss => ansR [] rs e (cl 38 ss)) else .no := callR_io rfl
theorem run38 (n : Nat) (ss : List Sv) : callN ft (n + 1) 38 ss = if ss.length = 2 then (evSs ft (callN ft n) [] fd38.body (enterN 3 ss) >>= outR [] 2) else .no := run_eq (n := 3) rfl
theorem ft39 : ft 39 = fd39 := rfl
@[simp] theorem call39 {cl : Cl} {e : En} {rs : List Res} : callR ft cl 39 rs e = if ((inouts [] 0 rs).Nodup && (inouts [] 0 rs).all fun i => !(lents [] 0 rs).contains i) = true then (argsIn e [] 0 rs >>= fun ss => ansR [] rs e (cl 39 ss)) else .no := callR_io rfl
theorem run39 (n : Nat) (ss : List Sv) : callN ft (n + 1) 39 ss = if ss.length = 3 then (evSs ft (callN ft n) [] fd39.body (enterN 6 ss) >>= outR [] 3) else .no := run_eq (n := 6) rfl
theorem ft42 : ft 42 = fd42 := rfl
@[simp] theorem call42 {cl : Cl} {e : En} {rs : List Res} : callR ft cl 42 rs e = if ((inouts [] 0 rs).Nodup && (inouts [] 0 rs).all fun i => !(lents [] 0 rs).contains i) = true then (argsIn e [] 0 rs >>= fun ss => ansR [] rs e (cl 42 ss)) else .no := callR_io rfl
theorem run42 (n : Nat) (ss : List Sv) : callN ft (n + 1) 42 ss = if ss.length = 2 then (evSs ft (callN ft n) [] fd42.body (enterN 4 ss) >>= outR [] 2) else .no := run_eq (n := 4) rfl
theorem ft43 : ft 43 = fd43 := rfl
@[simp] theorem call43 {cl : Cl} {e : En} {rs : List Res} : callR ft cl 43 rs e = if ((inouts [] 0 rs).Nodup && (inouts [] 0 rs).all fun i => !(lents [] 0 rs).contains i) = true then (argsIn e [] 0 rs >>= fun ss => ansR [] rs e (cl 43 ss)) else .no := callR_io rfl
theorem run43 (n : Nat) (ss : List Sv) : callN ft (n + 1) 43 ss = if ss.length = 2 then (evSs ft (callN ft n) [] fd43.body (enterN 4 ss) >>= outR [] 2) else .no := run_eq (n := 4) rfl
theorem ft50 : ft 50 = fd50 := rfl
@[simp] theorem call50 {cl : Cl} {e : En} {rs : List Res} : callR ft cl 50 rs e = if ((inouts [] 0 rs).Nodup && (inouts [] 0 rs).all fun i => !(lents [] 0 rs).contains i) = true then (argsIn e [] 0 rs >>= fun ss => ansR [] rs e (cl 50 ss)) else .no := callR_io rfl
theorem run50 (n : Nat) (ss : List Sv) : callN ft (n + 1) 50 ss = if ss.length = 1 then (evSs ft (callN ft n) [] fd50.body (enterN 0 ss) >>= outR [] 1) else .no := run_eq (n := 0) rfl
theorem ft51 : ft 51 = fd51 := rfl
@[simp] theorem call51 {cl : Cl} {e : En} {rs : List Res} : callR ft cl 51 rs e = if ((inouts [] 0 rs).Nodup && (inouts [] 0 rs).all fun i => !(lents [] 0 rs).contains i) = true then (argsIn e [] 0 rs >>= fun ss => ansR [] rs e (cl 51 ss)) else .no := callR_io rfl
theorem run51 (n : Nat) (ss : List Sv) : callN ft (n + 1) 51 ss = if ss.length = 3 then (evSs ft (callN ft n) [] fd51.body (enterN 3 ss) >>= outR [] 3) else .no := run_eq (n := 3) rfl
theorem ft52 : ft 52 = fd52 := rfl
@[simp] theorem call52 {cl : Cl} {e : En} {rs : List Res} : callR ft cl 52 rs e = if ((inouts [] 0 rs).Nodup && (inouts [] 0 rs).all fun i => !(lents [] 0 rs).contains i) = true then (argsIn e [] 0 rs >>= fun ss => ansR [] rs e (cl 52 ss)) else .no := callR_io rfl
theorem run52 (n : Nat) (ss : List Sv) : callN ft (n + 1) 52 ss = if ss.length = 4 then (evSs ft (callN ft n) [] fd52.body (enterN 0 ss) >>= outR [] 4) else .no := run_eq (n := 0) rfl
theorem ft53 : ft 53 = fd53 := rfl
@[simp] theorem call53 {cl : Cl} {e : En} {rs : List Res} : callR ft cl 53 rs e = if ((inouts [] 0 rs).Nodup && (inouts [] 0 rs).all fun i => !(lents [] 0 rs).contains i) = true then (argsIn e [] 0 rs >>= fun ss => ansR [] rs e (cl 53 ss)) else .no := callR_io rfl
theorem run53 (n : Nat) (ss : List Sv) : callN ft (n + 1) 53 ss = if ss.length = 5 then (evSs ft (callN ft n) [] fd53.body (enterN 0 ss) >>= outR [] 5) else .no := run_eq (n := 0) rfl
theorem ft55 : ft 55 = fd55 := rfl
@[simp] theorem call55 {cl : Cl} {e : En} {rs : List Res} : callR ft cl 55 rs e = if ((inouts [] 0 rs).Nodup && (inouts [] 0 rs).all fun i => !(lents [] 0 rs).contains i) = true then (argsIn e [] 0 rs >>= fun ss => ansR [] rs e (cl 55 ss)) else .no := callR_io rfl
theorem run55 (n : Nat) (ss : List Sv) : callN ft (n + 1) 55 ss = if ss.length = 2 then (evSs ft (callN ft n) [] fd55.body (enterN 0 ss) >>= outR [] 2) else .no := run_eq (n := 0) rfl
theorem ft56 : ft 56 = fd56 := rfl
@[simp] theorem call56 {cl : Cl} {e : En} {rs : List Res} : callR ft cl 56 rs e = if ((inouts [] 0 rs).Nodup && (inouts [] 0 rs).all fun i => !(lents [] 0 rs).contains i) = true then (argsIn e [] 0 rs >>= fun ss => ansR [] rs e (cl 56 ss)) else .no := callR_io rfl
theorem run56 (n : Nat) (ss : List Sv) : callN ft (n + 1) 56 ss = if ss.length = 0 then (evSs ft (callN ft n) [] fd56.body (enterN 0 ss) >>= outR [] 0) else .no := run_eq (n := 0) rfl
theorem ft57 : ft 57 = fd57 := rfl
@[simp] theorem call57 {cl : Cl} {e : En} {rs : List Res} : callR ft cl 57 rs e = if ((inouts [0] 0 rs).Nodup && (inouts [0] 0 rs).all fun i => !(lents [0] 0 rs).contains i) = true then (argsIn e [0] 0 rs >>= fun ss => ansR [0] rs e (cl 57 ss)) else .no := callR_io rfl
theorem run57 (n : Nat) (ss : List Sv) : callN ft (n + 1) 57 ss = if ss.length = 2 then (evSs ft (callN ft n) [0] fd57.body (enterN 0 ss) >>= outR [0] 2) else .no := run_eq (n := 0) rfl
theorem ft231 : ft 231 = fd231 := rfl
@[simp] theorem call231 {cl : Cl} {e : En} {rs : List Res} : callR ft cl 231 rs e = if ((inouts [] 0 rs).Nodup && (inouts [] 0 rs).all fun i => !(lents [] 0 rs).contains i) = true then (argsIn e [] 0 rs >>= fun ss => ansR [] rs e (cl 231 ss)) else .no := callR_io rfl
theorem run231 (n : Nat) (ss : List Sv) : callN ft (n + 1) 231 ss = if ss.length = 1 then (evSs ft (callN ft n) [] fd231.body (enterN 1 ss) >>= outR [] 1) else .no := run_eq (n := 1) rfl
theorem ft232 : ft 232 = fd232 := rfl
@[simp] theorem call232 {cl : Cl} {e : En} {rs : List Res} : callR ft cl 232 rs e = if ((inouts [] 0 rs).Nodup && (inouts [] 0 rs).all fun i => !(lents [] 0 rs).contains i) = true then (argsIn e [] 0 rs >>= fun ss => ansR [] rs e (cl 232 ss)) else .no := callR_io rfl
theorem run232 (n : Nat) (ss : List Sv) : callN ft (n + 1) 232 ss = if ss.length = 2 then (evSs ft (callN ft n) [] fd232.body (enterN 0 ss) >>= outR [] 2) else .no := run_eq (n := 0) rfl
theorem ft233 : ft 233 = fd233 := rfl
@[simp] theorem call233 {cl : Cl} {e : En} {rs : List Res} : callR ft cl 233 rs e = if ((inouts [] 0 rs).Nodup && (inouts [] 0 rs).all fun i => !(lents [] 0 rs).contains i) = true then (argsIn e [] 0 rs >>= fun ss => ansR [] rs e (cl 233 ss)) else .no := callR_io rfl
theorem run233 (n : Nat) (ss : List Sv) : callN ft (n + 1) 233 ss = if ss.length = 2 then (evSs ft (callN ft n) [] fd233.body (enterN 1 ss) >>= outR [] 2) else .no := run_eq (n := 1) rfl
theorem ft234 : ft 234 = fd234 := rfl
@[simp] theorem call234 {cl : Cl} {e : En} {rs : List Res} : callR ft cl 234 rs e = if ((inouts [] 0 rs).Nodup && (inouts [] 0 rs).all fun i => !(lents [] 0 rs).contains i) = true then (argsIn e [] 0 rs >>= fun ss => ansR [] rs e (cl 234 ss)) else .no := callR_io rfl
theorem run234 (n : Nat) (ss : List Sv) : callN ft (n + 1) 234 ss = if ss.length = 2 then (evSs ft (callN ft n) [] fd234.body (enterN 0 ss) >>= outR [] 2) else .no := run_eq (n := 0) rfl
theorem ft235 : ft 235 = fd235 := rfl
@[simp] theorem call235 {cl : Cl} {e : En} {rs : List Res} : callR ft cl 235 rs e = if ((inouts [] 0 rs).Nodup && (inouts [] 0 rs).all fun i => !(lents [] 0 rs).contains i) = true then (argsIn e [] 0 rs >>= fun ss => ansR [] rs e (cl 235 ss)) else .no := callR_io rfl
theorem run235 (n : Nat) (ss : List Sv) : callN ft (n + 1) 235 ss = if ss.length = 2 then (evSs ft (callN ft n) [] fd235.body (enterN 3 ss) >>= outR [] 2) else .no := run_eq (n := 3) rfl
theorem ft236 : ft 236 = fd236 := rfl
@[simp] theorem call236 {cl : Cl} {e : En} {rs : List Res} : callR ft cl 236 rs e = if ((inouts [] 0 rs).Nodup && (inouts [] 0 rs).all fun i => !(lents [] 0 rs).contains i) = true then (argsIn e [] 0 rs >>= fun ss => ansR [] rs e (cl 236 ss)) else .no := callR_io rfl
theorem run236 (n : Nat) (ss : List Sv) : callN ft (n + 1) 236 ss = if ss.length = 2 then (evSs ft (callN ft n) [] fd236.body (enterN 0 ss) >>= outR [] 2) else .no := run_eq (n := 0) rfl
theorem ft237 : ft 237 = fd237 := rfl
@[simp] theorem call237 {cl : Cl} {e : En} {rs : List Res} : callR ft cl 237 rs e = if ((inouts [] 0 rs).Nodup && (inouts [] 0 rs).all fun i => !(lents [] 0 rs).contains i) = true then (argsIn e [] 0 rs >>= fun ss => ansR [] rs e (cl 237 ss)) else .no := callR_io rfl
theorem run237 (n : Nat) (ss : List Sv) : callN ft (n + 1) 237 ss = if ss.length = 2 then (evSs ft (callN ft n) [] fd237.body (enterN 4 ss) >>= outR [] 2) else .no := run_eq (n := 4) rfl
theorem ft238 : ft 238 = fd238 := rfl
@[simp] theorem call238 {cl : Cl} {e : En} {rs : List Res} : callR ft cl 238 rs e = if ((inouts [] 0 rs).Nodup && (inouts [] 0 rs).all fun i => !(lents [] 0 rs).contains i) = true then (argsIn e [] 0 rs >>= fun ss => ansR [] rs e (cl 238 ss)) else .no := callR_io rfl
theorem run238 (n : Nat) (ss : List Sv) : callN ft (n + 1) 238 ss = if ss.length = 2 then (evSs ft (callN ft n) [] fd238.body (enterN 3 ss) >>= outR [] 2) else .no := run_eq (n := 3) rfl
theorem ft239 : ft 239 = fd239 := rfl
@[simp] theorem call239 {cl : Cl} {e : En} {rs : List Res} : callR ft cl 239 rs e = if ((inouts [0] 0 rs).Nodup && (inouts [0] 0 rs).all fun i => !(lents [0] 0 rs).contains i) = true then (argsIn e [0] 0 rs >>= fun ss => ansR [0] rs e (cl 239 ss)) else .no := callR_io rfl
theorem run239 (n : Nat) (ss : List Sv) : callN ft (n + 1) 239 ss = if ss.length = 2 then (evSs ft (callN ft n) [0] fd239.body (enterN 2 ss) >>= outR [0] 2) else .no := run_eq (n := 2) rfl
theorem ft240 : ft 240 = fd240 := rfl
@[simp] theorem call240 {cl : Cl} {e : En} {rs : List Res} : callR ft cl 240 rs e = if ((inouts [0] 0 rs).Nodup && (inouts [0] 0 rs).all fun i => !(lents [0] 0 rs).contains i) = true then (argsIn e [0] 0 rs >>= fun ss => ansR [0] rs e (cl 240 ss)) else .no := callR_io rfl
theorem run240 (n : Nat) (ss : List Sv) : callN ft (n + 1) 240 ss = if ss.length = 2 then (evSs ft (callN ft n) [0] fd240.body (enterN 9 ss) >>= outR [0] 2) else .no := run_eq (n := 9) rfl
theorem ft241 : ft 241 = fd241 := rfl
@[simp] theorem call241 {cl : Cl} {e : En} {rs : List Res} : callR ft cl 241 rs e = if ((inouts [] 0 rs).Nodup && (inouts [] 0 rs).all fun i => !(lents [] 0 rs).contains i) = true then (argsIn e [] 0 rs >>= fun ss => ansR [] rs e (cl 241 ss)) else .no := callR_io rfl
theorem run241 (n : Nat) (ss : List Sv) : callN ft (n + 1) 241 ss = if ss.length = 1 then (evSs ft (callN ft n) [] fd241.body (enterN 11 ss) >>= outR [] 1) else .no := run_eq (n := 11) rfl
theorem ft257 : ft 257 = fd257 := rfl
@[simp] theorem call257 {cl : Cl} {e : En} {rs : List Res} : callR ft cl 257 rs e = if ((inouts [] 0 rs).Nodup && (inouts [] 0 rs).all fun i => !(lents [] 0 rs).contains i) = true then (argsIn e [] 0 rs >>= fun ss => ansR [] rs e (cl 257 ss)) else .no := callR_io rfl
theorem run257 (n : Nat) (ss : List Sv) : callN ft (n + 1) 257 ss = if ss.length = 3 then (evSs ft (callN ft n) [] fd257.body (enterN 0 ss) >>= outR [] 3) else .no := run_eq (n := 0) rfl
theorem ft258 : ft 258 = fd258 := rfl
@[simp] theorem call258 {cl : Cl} {e : En} {rs : List Res} : callR ft cl 258 rs e = if ((inouts [] 0 rs).Nodup && (inouts [] 0 rs).all fun i => !(lents [] 0 rs).contains i) = true then (argsIn e [] 0 rs >>= fun ss => ansR [] rs e (cl 258 ss)) else .no := callR_io rfl
theorem run258 (n : Nat) (ss : List Sv) : callN ft (n + 1) 258 ss = if ss.length = 2 then (evSs ft (callN ft n) [] fd258.body (enterN 7 ss) >>= outR [] 2) else .no := run_eq (n := 7) rfl
theorem ft259 : ft 259 = fd259 := rfl
@[simp] theorem call259 {cl : Cl} {e : En} {rs : List Res} : callR ft cl 259 rs e = if ((inouts [] 0 rs).Nodup && (inouts [] 0 rs).all fun i => !(lents [] 0 rs).contains i) = true then (argsIn e [] 0 rs >>= fun ss => ansR [] rs e (cl 259 ss)) else .no := callR_io rfl
theorem run259 (n : Nat) (ss : List Sv) : callN ft (n + 1) 259 ss = if ss.length = 2 then (evSs ft (callN ft n) [] fd259.body (enterN 5 ss) >>= outR [] 2) else .no := run_eq (n := 5) rfl
theorem ft260 : ft 260 = fd260 := rfl
@[simp] theorem call260 {cl : Cl} {e : En} {rs : List Res} : callR ft cl 260 rs e = if ((inouts [] 0 rs).Nodup && (inouts [] 0 rs).all fun i => !(lents [] 0 rs).contains i) = true then (argsIn e [] 0 rs >>= fun ss => ansR [] rs e (cl 260 ss)) else .no := callR_io rfl
theorem run260 (n : Nat) (ss : List Sv) : callN ft (n + 1) 260 ss = if ss.length = 1 then (evSs ft (callN ft n) [] fd260.body (enterN 1 ss) >>= outR [] 1) else .no := run_eq (n := 1) rfl
theorem ft261 : ft 261 = fd261 := rfl
@[simp] theorem call261 {cl : Cl} {e : En} {rs : List Res} : callR ft cl 261 rs e = if ((inouts [] 0 rs).Nodup && (inouts [] 0 rs).all fun i => !(lents [] 0 rs).contains i) = true then (argsIn e [] 0 rs >>= fun ss => ansR [] rs e (cl 261 ss)) else .no := callR_io rfl
theorem run261 (n : Nat) (ss : List Sv) : callN ft (n + 1) 261 ss = if ss.length = 3 then (evSs ft (callN ft n) [] fd261.body (enterN 0 ss) >>= outR [] 3) else .no := run_eq (n := 0) rfl
theorem ft262 : ft 262 = fd262 := rfl
@[simp] theorem call262 {cl : Cl} {e : En} {rs : List Res} : callR ft cl 262 rs e = if ((inouts [] 0 rs).Nodup && (inouts [] 0 rs).all fun i => !(lents [] 0 rs).contains i) = true then (argsIn e [] 0 rs >>= fun ss => ansR [] rs e (cl 262 ss)) else .no := callR_io rfl
theorem run262 (n : Nat) (ss : List Sv) : callN ft (n + 1) 262 ss = if ss.length = 3 then (evSs ft (callN ft n) [] fd262.body (enterN 3 ss) >>= outR [] 3) else .no := run_eq (n := 3) rfl
theorem ft263 : ft 263 = fd263 := rfl
@[simp] theorem call263 {cl : Cl} {e : En} {rs : List Res} : callR ft cl 263 rs e = if ((inouts [] 0 rs).Nodup && (inouts [] 0 rs).all fun i => !(lents [] 0 rs).contains i) = true then (argsIn e [] 0 rs >>= fun ss => ansR [] rs e (cl 263 ss)) else .no := callR_io rfl
theorem run263 (n : Nat) (ss : List Sv) : callN ft (n + 1) 263 ss = if ss.length = 3 then (evSs ft (callN ft n) [] fd263.body (enterN 4 ss) >>= outR [] 3) else .no := run_eq (n := 4) rfl
theorem ft264 : ft 264 = fd264 := rfl
@[simp] theorem call264 {cl : Cl} {e : En} {rs : List Res} : callR ft cl 264 rs e = if ((inouts [] 0 rs).Nodup && (inouts [] 0 rs).all fun i => !(lents [] 0 rs).contains i) = true then (argsIn e [] 0 rs >>= fun ss => ansR [] rs e (cl 264 ss)) else .no := callR_io rfl
theorem run264 (n : Nat) (ss : List Sv) : callN ft (n + 1) 264 ss = if ss.length = 3 then (evSs ft (callN ft n) [] fd264.body (enterN 3 ss) >>= outR [] 3) else .no := run_eq (n := 3) rfl
theorem ft265 : ft 265 = fd265 := rfl
@[simp] theorem call265 {cl : Cl} {e : En} {rs : List Res} : callR ft cl 265 rs e = if ((inouts [] 0 rs).Nodup && (inouts [] 0 rs).all fun i => !(lents [] 0 rs).contains i) = true then (argsIn e [] 0 rs >>= fun ss => ansR [] rs e (cl 265 ss)) else .no := callR_io rfl
theorem run265 (n : Nat) (ss : List Sv) : callN ft (n + 1) 265 ss = if ss.length = 1 then (evSs ft (callN ft n) [] fd265.body (enterN 4 ss) >>= outR [] 1) else .no := run_eq (n := 4) rfl
theorem ft416 : ft 416 = fd416 := rfl
@[simp] theorem call416 {cl : Cl} {e : En} {rs : List Res} : callR ft cl 416 rs e = if ((inouts [] 0 rs).Nodup && (inouts [] 0 rs).all fun i => !(lents [] 0 rs).contains i) = true then (argsIn e [] 0 rs >>= fun ss => ansR [] rs e (cl 416 ss)) else .no := callR_io rfl
theorem run416 (n : Nat) (ss : List Sv) : callN ft (n + 1) 416 ss = if ss.length = 1 then (evSs ft (callN ft n) [] fd416.body (enterN 1 ss) >>= outR [] 1) else .no := run_eq (n := 1) rfl
theorem ft417 : ft 417 = fd417 := rfl
@[simp] theorem call417 {cl : Cl} {e : En} {rs : List Res} : callR ft cl 417 rs e = if ((inouts [] 0 rs).Nodup && (inouts [] 0 rs).all fun i => !(lents [] 0 rs).contains i) = true then (argsIn e [] 0 rs >>= fun ss => ansR [] rs e (cl 417 ss)) else .no := callR_io rfl
theorem run417 (n : Nat) (ss : List Sv) : callN ft (n + 1) 417 ss = if ss.length = 1 then (evSs ft (callN ft n) [] fd417.body (enterN 1 ss) >>= outR [] 1) else .no := run_eq (n := 1) rfl
theorem ft418 : ft 418 = fd418 := rfl
@[simp] theorem call418 {cl : Cl} {e : En} {rs : List Res} : callR ft cl 418 rs e = if ((inouts [] 0 rs).Nodup && (inouts [] 0 rs).all fun i => !(lents [] 0 rs).contains i) = true then (argsIn e [] 0 rs >>= fun ss => ansR [] rs e (cl 418 ss)) else .no := callR_io rfl
theorem run418 (n : Nat) (ss : List Sv) : callN ft (n + 1) 418 ss = if ss.length = 2 then (evSs ft (callN ft n) [] fd418.body (enterN 3 ss) >>= outR [] 2) else .no := run_eq (n := 3) rfl
theorem ft419 : ft 419 = fd419 := rfl
@[simp] theorem call419 {cl : Cl} {e : En} {rs : List Res} : callR ft cl 419 rs e = if ((inouts [] 0 rs).Nodup && (inouts [] 0 rs).all fun i => !(lents [] 0 rs).contains i) = true then (argsIn e [] 0 rs >>= fun ss => ansR [] rs e (cl 419 ss)) else .no := callR_io rfl
theorem run419 (n : Nat) (ss : List Sv) : callN ft (n + 1) 419 ss = if ss.length = 1 then (evSs ft (callN ft n) [] fd419.body (enterN 13 ss) >>= outR [] 1) else .no := run_eq (n := 13) rfl
theorem ft435 : ft 435 = fd435 := rfl
@[simp] theorem call435 {cl : Cl} {e : En} {rs : List Res} : callR ft cl 435 rs e = if ((inouts [] 0 rs).Nodup && (inouts [] 0 rs).all fun i => !(lents [] 0 rs).contains i) = true then (argsIn e [] 0 rs >>= fun ss => ansR [] rs e (cl 435 ss)) else .no := callR_io rfl
theorem run435 (n : Nat) (ss : List Sv) : callN ft (n + 1) 435 ss = if ss.length = 1 then (evSs ft (callN ft n) [] fd435.body (enterN 4 ss) >>= outR [] 1) else .no := run_eq (n := 4) rfl
theorem ft436 : ft 436 = fd436 := rfl
@[simp] theorem call436 {cl : Cl} {e : En} {rs : List Res} : callR ft cl 436 rs e = if ((inouts [] 0 rs).Nodup && (inouts [] 0 rs).all fun i => !(lents [] 0 rs).contains i) = true then (argsIn e [] 0 rs >>= fun ss => ansR [] rs e (cl 436 ss)) else .no := callR_io rfl
theorem run436 (n : Nat) (ss : List Sv) : callN ft (n + 1) 436 ss = if ss.length = 1 then (evSs ft (callN ft n) [] fd436.body (enterN 1 ss) >>= outR [] 1) else .no := run_eq (n := 1) rfl
end Nm
set_option Elab.async false
set_option maxRecDepth 100000
set_option linter.all false
/-! Plain helpers for contracts. -/
namespace Nm
open PySem L2

/-- succeeds, and .. -/
def Ok {α : Type} (m : R α) (Q : α → Prop) : Prop := ∃ a, m = .ok a ∧ Q a
theorem Ok.ok {α : Type} {a : α} {Q : α → Prop} (h : Q a) : Ok (.ok a) Q := ⟨a, rfl, h⟩
theorem Ok.bind {α β : Type} {m : R α} {f : α → R β} {P : α → Prop} {Q : β → Prop} (h : Ok m P) (g : ∀ a, P a → Ok (f a) Q) : Ok (m >>= f) Q := by
  obtain ⟨a, rfl, p⟩ := h
  exact g a p
theorem Ok.imp {α : Type} {m : R α} {P Q : α → Prop} (h : Ok m P) (g : ∀ a, P a → Q a) : Ok m Q := let ⟨a, e, p⟩ := h; ⟨a, e, g a p⟩
/-- to be shown of any wish -/
theorem Ok.by_ {α : Type} {m : R α} {P : α → Prop} (h : ∀ Q : α → Prop, (∀ a, P a → Q a) → Ok m Q) : Ok m P := h P fun _ h => h
theorem Ok.of_eq {α : Type} {m : R α} {a : α} {Q : α → Prop} (e : m = .ok a) (h : Q a) : Ok m Q := ⟨a, e, h⟩
theorem ok_then {k : En → R (Fl × En)} {Q : Fl × En → Prop} {m : R (Fl × En)} {P : Fl × En → Prop} (h : Ok m P) (g : ∀ p, P p → match p.1 with | .nx => Ok (k p.2) Q | .rt o d => Q (.rt o d, p.2)) : Ok (thenF m k) Q := by
  obtain ⟨⟨f, e⟩, rfl, p⟩ := h
  have := g _ p
  cases f with
  | nx => exact this
  | rt o d => exact ⟨_, rfl, this⟩
theorem bigN_of {i : Int} (h1 : -(2 ^ 250) < i) (h2 : i < 2 ^ 250) : i.natAbs < bigN := by
  have : i.natAbs < 2 ^ 250 := by omega
  exact Nat.lt_of_lt_of_le this (Nat.pow_le_pow_right (by decide) (by decide))
theorem sz (n : Nat) (h : n ≤ 16777216) : n ≤ sizeLine := by rw [sizeLine_eq]; exact h
theorem sz' (n : Nat) (h : n < 16777216) : n < sizeLine := by rw [sizeLine_eq]; exact h
@[simp] theorem le_sz {n : Nat} : n ≤ sizeLine ↔ n ≤ 16777216 := by rw [sizeLine_eq]
@[simp] theorem lt_sz {n : Nat} : n < sizeLine ↔ n < 16777216 := by rw [sizeLine_eq]
abbrev intsD (l : List Int) : List D := l.map PyData.int
/-! loops of statements -/
section
variable {body : En → R (Fl × En)} {tg : Tg}
/-- a loop that runs through: what holds ahead of each turn -/
theorem loopF_ok {α : Type} {f : α → D} {Q : Fl × En → Prop} (I : Nat → En → Prop) {l : List α} {e : En} (h0 : I 0 e)
    (hs : ∀ i (hi : i < l.length) e, I i e → Ok (bindT tg (f l[i]) e >>= body) fun p => match p.1 with | .nx => I (i + 1) p.2 | .rt o d => Q (.rt o d, p.2))
    (hE : ∀ e, I l.length e → Q (.nx, e)) : Ok (loopF body tg (l.map f) e) Q := by
  suffices h : ∀ (m : List α) (k : Nat) (e : En), l = l.take k ++ m → k + m.length = l.length → I k e → Ok (loopF body tg (m.map f) e) Q from h l 0 e (by simp) (by simp) h0
  intro m
  induction m with
  | nil =>
    intro k e _ hk hI
    have : k = l.length := by simpa using hk
    subst this
    exact ⟨_, rfl, hE e hI⟩
  | cons a m ih =>
    intro k e hl hk hI
    have hk' : k < l.length := by simp only [List.length_cons] at hk; omega
    have ha : l[k] = a := by
      have h1 : l[k]? = (l.take k ++ a :: m)[k]? := by rw [← hl]
      rw [List.getElem?_append_right (by simp; omega)] at h1
      have : k - (l.take k).length = 0 := by simp; omega
      rw [this] at h1
      rw [List.getElem?_eq_getElem hk'] at h1
      simpa using h1
    have q := hs k hk' e hI
    rw [ha] at q
    rw [List.map_cons, loopF_cons]
    obtain ⟨⟨fl, e2⟩, q1, q2⟩ := q
    cases hb : bindT tg (f a) e with
    | no => rw [hb] at q1; cases q1
    | ex x => rw [hb] at q1; cases q1
    | ok e1 =>
      rw [hb] at q1
      have q1 : body e1 = .ok (fl, e2) := q1
      simp only [bind_ok]
      rw [q1]
      cases fl with
      | nx =>
        rw [thenF_nx]
        refine ih (k + 1) e2 ?_ (by simp only [List.length_cons] at hk; omega) q2
        rw [List.take_add_one, List.getElem?_eq_getElem hk', ha]
        simpa using hl
      | rt o d =>
        rw [thenF_rt]
        exact ⟨_, rfl, q2⟩
/-- a while loop: a measure falls -/
theorem loopW_ok {c : En → R (Bool × En)} {Q : Fl × En → Prop} (I : Nat → En → Prop)
    (hs : ∀ n e, I n e → Ok (c e) fun p => if p.1 = true then Ok (body p.2) (fun q => match q.1 with | .nx => ∃ m, m < n ∧ I m q.2 | .rt o d => Q (.rt o d, q.2)) else Q (.nx, p.2)) :
    ∀ (n : Nat) (fuel : Nat) (e : En), n < fuel → I n e → Ok (loopW c body fuel e) Q := by
  intro n
  induction n using Nat.strongRecOn with
  | ind n ih =>
    intro fuel e hf hI
    obtain ⟨fuel, rfl⟩ : ∃ k, fuel = k + 1 := ⟨fuel - 1, by omega⟩
    rw [loopW_succ]
    refine (hs n e hI).bind ?_
    rintro ⟨b, e1⟩ hb
    cases b with
    | false => exact ⟨_, rfl, by simpa using hb⟩
    | true =>
      have hb : Ok (body e1) (fun q => match q.1 with | .nx => ∃ m, m < n ∧ I m q.2 | .rt o d => Q (.rt o d, q.2)) := by simpa using hb
      rw [if_pos rfl]
      refine ok_then hb ?_
      rintro ⟨f, e2⟩ hq
      cases f with
      | nx =>
        obtain ⟨m, hm, hI⟩ := hq
        exact ih m hm fuel e2 (by omega) hI
      | rt o d => exact hq
end
/-- side by side -/
inductive F2 {α β : Type} (P : α → β → Prop) : List α → List β → Prop
  | nil : F2 P [] []
  | cons {a : α} {b : β} {l : List α} {m : List β} : P a b → F2 P l m → F2 P (a :: l) (b :: m)
theorem F2.len {α β : Type} {P : α → β → Prop} {l : List α} {m : List β} (h : F2 P l m) : l.length = m.length := by
  induction h with
  | nil => rfl
  | cons _ _ ih => simp [ih]
/-- values of a kind, chosen -/
theorem F2.choose {α β γ : Type} {P : α → β → Prop} {Q : α → γ → Prop} {f : γ → β} (h : ∀ a b, P a b → ∃ c, b = f c ∧ Q a c) {l : List α} {m : List β} (r : F2 P l m) : ∃ n : List γ, m = n.map f ∧ F2 Q l n := by
  induction r with
  | nil => exact ⟨[], rfl, .nil⟩
  | cons p _ ih =>
    obtain ⟨c, rfl, q⟩ := h _ _ p
    obtain ⟨n, rfl, q'⟩ := ih
    exact ⟨c :: n, rfl, .cons q q'⟩
theorem F2.all {α β : Type} {P : α → β → Prop} {Q : β → Prop} {l : List α} {m : List β} (r : F2 P l m) (h : ∀ a b, P a b → Q b) : ∀ b ∈ m, Q b := by
  induction r with
  | nil => intro b hb; cases hb
  | cons p _ ih =>
    intro b hb
    rcases List.mem_cons.mp hb with rfl | hb
    · exact h _ _ p
    · exact ih b hb
theorem F2.get {α β : Type} {P : α → β → Prop} {l : List α} {m : List β} (r : F2 P l m) : ∀ i (h1 : i < l.length) (h2 : i < m.length), P l[i] m[i] := by
  induction r with
  | nil => intro i h1; simp at h1
  | cons p _ ih =>
    intro i h1 h2
    cases i with
    | zero => exact p
    | succ i => exact ih i (by simpa using h1) (by simpa using h2)
/-- a comprehension whose turns draw from a state -/
theorem runC_ok {α S : Type} {t : D → En → R (Option D × En)} {f : α → D} (W : S → En) (P : α → D → Prop) {l : List α} (h : ∀ a ∈ l, ∀ s, Ok (t (f a) (W s)) fun q => ∃ s' d, q = (some d, W s') ∧ P a d) :
    ∀ s, Ok (runC t (l.map f) (W s)) fun q => ∃ ds s', q = (ds, W s') ∧ F2 P l ds := by
  induction l with
  | nil => exact fun s => ⟨_, rfl, [], s, rfl, .nil⟩
  | cons a l ih =>
    intro s
    obtain ⟨_, h1, s1, d, rfl, p1⟩ := h a (by simp) s
    obtain ⟨_, h2, ds, s2, rfl, p2⟩ := ih (fun b hb => h b (by simp [hb])) s1
    refine ⟨(d :: ds, W s2), ?_, _, _, rfl, .cons p1 p2⟩
    show (t (f a) (W s) >>= fun p => runC t (l.map f) p.2 >>= fun q => R.ok (consO p.1 q.1, q.2)) = _
    rw [h1]
    simp only [bind_ok]
    rw [h2]
    rfl
theorem runC_list {t : D → En → R (Option D × En)} {w : En} (g : D → D) {l : List D} (h : ∀ a ∈ l, t a w = .ok (some (g a), w)) : runC t l w = .ok (l.map g, w) := by
  have := runC_map (t := t) (w := w) (f := fun a => a) g h
  rwa [List.map_id'] at this
theorem runC_listF {t : D → En → R (Option D × En)} {w : En} (c : D → Bool) (g : D → D) {l : List D} (h : ∀ a ∈ l, t a w = .ok (if c a = true then some (g a) else none, w)) : runC t l w = .ok ((l.filter c).map g, w) := by
  have := runC_filter (t := t) (w := w) (f := fun a => a) c g h
  rwa [List.map_id'] at this
/-! what is stuck comes to the head -/
@[simp] theorem bind_asc' {α β γ : Type} {m : R α} {f : α → R β} {g : β → R γ} : (m >>= f) >>= g = m >>= fun a => f a >>= g := bind_asc m f g
@[simp] theorem thenF_bind {α : Type} {m : R α} {f : α → R (Fl × En)} {k : En → R (Fl × En)} : thenF (m >>= f) k = m >>= fun a => thenF (f a) k := by cases m <;> rfl
@[simp] theorem asTest_bind2 {α : Type} {m : R α} {f : α → R (Res × En)} : asTest (m >>= f) = m >>= fun a => asTest (f a) := by cases m <;> rfl
@[simp] theorem quiet_bind {α β : Type} {m : R α} {f : α → R β} : (m >>= f).quiet = m.quiet >>= fun a => (f a).quiet := by cases m <;> rfl
theorem asTest_congr {m m' : R (Res × En)} (h : m = m') : asTest m = asTest m' := by rw [h]
theorem Ok_congr {α : Type} {m m' : R α} {Q : α → Prop} (h : m = m') : Ok m Q = Ok m' Q := by rw [h]
theorem Ok_ok {α : Type} {a : α} {Q : α → Prop} : Ok (.ok a) Q ↔ Q a := ⟨fun ⟨_, e, q⟩ => by cases e; exact q, Ok.ok⟩
theorem Ok.quiet {α : Type} {m : R α} {Q : α → Prop} (h : Ok m Q) : Ok m.quiet Q := let ⟨a, e, q⟩ := h; ⟨a, by rw [e]; rfl, q⟩
/-- a call whose answer is known in part -/
theorem Ok_call {β : Type} {io : List Nat} {rs : List Res} {e : En} {m : R Out} {f : Res × En → R β} {P : Out → Prop} {Q : β → Prop} (h : Ok m P) (k : ∀ o, P o → Ok (ansR io rs e (.ok o) >>= f) Q) : Ok (ansR io rs e m >>= f) Q := by
  obtain ⟨o, rfl, p⟩ := h
  exact k o p
theorem Ok_callQ {β : Type} {io : List Nat} {rs : List Res} {e : En} {m : R Out} {f : Res × En → R β} {P : Out → Prop} {Q : β → Prop} (h : Ok m P) (k : ∀ o, P o → Ok ((ansR io rs e (.ok o)).quiet >>= f) Q) : Ok ((ansR io rs e m).quiet >>= f) Q := by
  obtain ⟨o, rfl, p⟩ := h
  exact k o p
theorem evSs_append {ft : Nat → Fd} {cl : Cl} {pin : List Nat} : ∀ {a b : List Sm} {e : En}, evSs ft cl pin (a ++ b) e = thenF (evSs ft cl pin a e) (evSs ft cl pin b)
  | [], b, e => rfl
  | s :: a, b, e => by
    rw [List.cons_append, evSs_cons, evSs_cons]
    cases evS ft cl pin s e with
    | ok p =>
      obtain ⟨f, e1⟩ := p
      cases f with
      | nx => rw [thenF_nx, thenF_nx, evSs_append]
      | rt o d => rfl
    | ex x => rfl
    | no => rfl
abbrev pileD (p : Int) : D := .list [.int p]
theorem atI_map' {α β : Type} {f : α → β} {xs : List α} {i : Int} : atI (xs.map f) i = (atI xs i).map f := by
  unfold atI
  rw [List.length_map]
  cases ixN xs.length i <;> simp
theorem pick_at {α : Type} (xs : List α) (p k : Int) (hk : k = xs.length) (h : 0 < k) : ∃ a, a ∈ xs ∧ atI xs (p % k) = some a := by
  have h1 := Int.emod_nonneg p (show k ≠ 0 by omega)
  have h2 := Int.emod_lt_of_pos p h
  obtain ⟨j, hj⟩ : ∃ j : Nat, p % k = j := ⟨(p % k).toNat, by omega⟩
  have hl : j < xs.length := by omega
  exact ⟨xs[j], List.getElem_mem hl, by rw [hj]; exact atI_nat (List.getElem?_eq_getElem hl)⟩
/-- an item picked by a digit -/
theorem Ok_pick {β : Type} {xs : List D} {p k : Int} {f : Res → R β} {Q : β → Prop} (hk : k = xs.length) (h : 0 < k) (g : ∀ d ∈ xs, Ok (f (.v false d)) Q) : Ok (valR (atI xs (p % k)) >>= f) Q := by
  obtain ⟨d, hd, e⟩ := pick_at xs p k hk h
  rw [e]
  exact g d hd
@[simp] theorem quiet_valR {o : Option D} : (valR o).quiet = valR o := by cases o <;> rfl
@[simp] theorem quiet_ite {α : Type} {c : Prop} [Decidable c] {a b : R α} : (if c then a else b).quiet = if c then a.quiet else b.quiet := by split <;> rfl
theorem rangeL_0' {m : Int} (h : 0 ≤ m) : rangeL 0 m = (List.range m.toNat).map fun (k : Nat) => PyData.int (k : Int) := by
  obtain ⟨n, rfl⟩ := Int.eq_ofNat_of_zero_le h
  simp
end Nm
set_option Elab.async false
set_option maxRecDepth 100000
set_option linter.all false
/-! What the laws draw from a pile of digits. -/
namespace Nm
open PySem L2
structure Grid where
  sizes : List Int
  shifts : List Int
  reach : Int
structure Rule where
  sides : Int
  grids : List Grid
abbrev ptD (p : List Int) : D := .tuple (intsD p)
def gridD (g : Grid) : D := .tuple [ptD g.sizes, ptD g.shifts, .int g.reach]
def ruleD (r : Rule) : D := .tuple [.int r.sides, .tuple (r.grids.map gridD)]
theorem c3 (n : Nat) (p k : Int) (h : 0 < k) (h2 : k < 2 ^ 250) : callN ft (n + 1) 3 [⟨true, pileD p⟩, ⟨false, .int k⟩] = .ok ⟨false, .int (p % k), [some ⟨true, pileD (p / k)⟩, none]⟩ := by
  have hb : k.natAbs < bigN := bigN_of (by omega) h2
  rw [run3]
  simp [fd3, h, hb, ixN]
def lots1 : List (List Int) := [[1, 2, 3, 4, 6, 12], [2, 4, 8], [3, 6, 9], [2, 3, 5], [5, 10], [7], [4, 6], [10, 5, 2], [12, 24, 60], [16, 48], [15, 20, 30], [11], [40, 60], [36, 9, 60], [1], [50, 25]]
def lots2 : List (List Int) := [[1, 2, 3, 4, 6, 12], [2, 4, 8], [3, 6, 9], [2, 3], [5, 10], [7], [4, 6], [2, 5]]
def lots (s : Int) : List (List Int) := if s = 1 then lots1 else lots2
theorem lot_of {s : Int} {L : List D} {d : D} (hL : L = (lots s).map fun l => PyData.list (intsD l)) (h : d ∈ L) : ∃ l, d = .list (intsD l) ∧ l ∈ lots s ∧ 0 < (l.length : Int) ∧ (l.length : Int) < 2 ^ 250 := by
  subst hL
  obtain ⟨l, hl, rfl⟩ := List.mem_map.mp h
  have t : ∀ l ∈ lots1 ++ lots2, 0 < l.length ∧ l.length < 100 := by decide
  have : l ∈ lots1 ++ lots2 := by
    unfold lots at hl
    split at hl
    · exact List.mem_append_left _ hl
    · exact List.mem_append_right _ hl
  have := t l this
  exact ⟨l, rfl, hl, by omega, by omega⟩
/-- the turns of the sizes -/
theorem c4_tail (n : Nat) (p s m : Int) (h0 : 0 ≤ m) (hm : m ≤ 1000) (lot : List Int) (hl : lot ∈ lots s) (n1 : 0 < (lot.length : Int)) (n2 : (lot.length : Int) < 2 ^ 250) (L : D) :
   Ok (evSs ft (callN ft (n + 1)) [0] (fd4.body.drop 3) [some ⟨true, pileD p⟩, some ⟨false, .int s⟩, some ⟨false, .int m⟩, some ⟨true, L⟩, some ⟨false, .list (intsD lot)⟩, none, none] >>= outR [0] 3) fun o => ∃ (lot l : List Int) (p' : Int), o = ⟨true, .list (intsD l), [some ⟨true, pileD p'⟩, none, none]⟩ ∧ l.length = m.toNat ∧ lot ∈ lots s ∧ ∀ x ∈ l, x ∈ lot := by
  refine Ok.by_ fun Q hQ => ?_
  have e3 := fun p => c3 n p lot.length n1 n2
  simp [fd4, c3, e3]
  refine Ok_pick (by simp) n1 fun d hd => ?_
  obtain ⟨v, hv, rfl⟩ := List.mem_map.mp hd
  have hr : -4611686018427387904 ≤ m ∧ m < 4611686018427387904 ∧ m ≤ 16777216 := by omega
  simp [c3]
  by_cases hq : 0 < p / (lot.length : Int) % 3
  · simp [hq, hr, rangeL_0' h0]
    rw [runC_map (fun _ => .int v) (fun a _ => by simp [turnC])]
    simp
    exact Ok.ok (hQ _ ⟨lot, (List.range m.toNat).map fun _ => v, _, by rw [intsD, List.map_map]; rfl, by simp, hl, fun x hx => by obtain ⟨_, _, rfl⟩ := List.mem_map.mp hx; exact hv⟩)
  · simp [hq, hr, rangeL_0' h0]
    refine Ok.bind (runC_ok (fun (p : Int) => [some ⟨true, pileD p⟩, some ⟨false, .int s⟩, some ⟨false, .int m⟩, some ⟨true, L⟩, some ⟨false, .list (intsD lot)⟩, some ⟨false, .int v⟩, none]) (fun _ d => ∃ x, d = .int x ∧ x ∈ lot) (fun a _ p => Ok.by_ fun Q hQ => ?_) _) ?_
    · simp [turnC, e3]
      refine Ok_pick (by simp) n1 fun d hd => ?_
      obtain ⟨v, hv, rfl⟩ := List.mem_map.mp hd
      simp
      exact Ok.ok (hQ _ ⟨_, _, rfl, v, rfl, hv⟩)
    · rintro _ ⟨ds, p', rfl, h⟩
      obtain ⟨l, rfl, h'⟩ := h.choose (f := PyData.int) (Q := fun _ x => x ∈ lot) fun _ b ⟨x, e, q⟩ => ⟨x, e, q⟩
      simp
      exact Ok.ok (hQ _ ⟨lot, l, _, rfl, by rw [← h'.len]; simp, hl, h'.all fun _ _ q => q⟩)
theorem c4 (n : Nat) (p s m : Int) (h0 : 0 ≤ m) (hm : m ≤ 1000) : Ok (callN ft (n + 2) 4 [⟨true, pileD p⟩, ⟨false, .int s⟩, ⟨false, .int m⟩]) fun o => ∃ (lot l : List Int) (p' : Int), o = ⟨true, .list (intsD l), [some ⟨true, pileD p'⟩, none, none]⟩ ∧ l.length = m.toNat ∧ lot ∈ lots s ∧ ∀ x ∈ l, x ∈ lot := by
  refine Ok.by_ fun Q hQ => ?_
  rw [run4, show fd4.body = fd4.body.take 3 ++ fd4.body.drop 3 from rfl, evSs_append]
  have tail := fun p lot hl n1 n2 L => (c4_tail n p s m h0 hm lot hl n1 n2 L).imp hQ
  generalize fd4.body.drop 3 = T at tail ⊢
  by_cases hs : s = 1
  · subst hs
    simp [fd4, c3]
    refine Ok_pick (by simp) (by decide) fun d hd => ?_
    obtain ⟨lot, rfl, hl, n1, n2⟩ := lot_of (s := 1) rfl hd
    simp
    exact tail _ _ hl n1 n2 _
  · simp [fd4, c3, hs]
    refine Ok_pick (by simp) (by decide) fun d hd => ?_
    obtain ⟨lot, rfl, hl, n1, n2⟩ := lot_of (s := s) (by unfold lots; rw [if_neg hs]; rfl) hd
    simp
    exact tail _ _ hl n1 n2 _
/-- what is drawn for one grid -/
structure GoodG (s : Int) (L : List (List Int)) (g : Grid) : Prop where
  sizes : F2 (fun lot x => x ∈ lot) L g.sizes
  shifts : g.shifts.length = s.toNat
  near : ∀ x ∈ g.shifts, -20 ≤ x ∧ x ≤ 100
  reach : 0 ≤ g.reach ∧ g.reach ≤ 3
  small : s = 2 → 0 < g.reach → ∀ x ∈ g.sizes, (g.reach + 1) * x ≤ 16
structure Drawn (s most : Int) (r : Rule) : Prop where
  sides : r.sides = s
  some_ : 1 ≤ (r.grids.length : Int) ∧ (r.grids.length : Int) ≤ most
  grids : ∃ L : List (List Int), L.length = s.toNat ∧ (∀ lot ∈ L, lot ∈ lots s) ∧ ∀ g ∈ r.grids, GoodG s L g
/-- the a-th number -/
def nth (l : List Int) (a : Nat) : Int := l.getD a 0
theorem nth_get {l : List Int} {a : Nat} (h : a < l.length) : nth l a = l[a] := by
  unfold nth
  rw [List.getD_eq_getElem?_getD, List.getElem?_eq_getElem h]
  rfl
theorem nth_mem {l : List Int} {a : Nat} (h : a < l.length) : nth l a ∈ l := by rw [nth_get h]; exact List.getElem_mem h
theorem atI_nth {l : List Int} {a : Nat} (h : a < l.length) : atI (intsD l) (a : Int) = some (.int (nth l a)) := by
  rw [atI_map', atI_lt h, nth_get h]; rfl
theorem F2.mapR {α β γ : Type} {P : α → β → Prop} {Q : α → γ → Prop} {f : β → γ} {l : List α} {m : List β} (r : F2 P l m) (h : ∀ a b, P a b → Q a (f b)) : F2 Q l (m.map f) := by
  induction r with
  | nil => exact .nil
  | cons p _ ih => exact .cons (h _ _ p) ih
theorem F2.and_ {α β γ : Type} {P : α → β → Prop} {Q : α → γ → Prop} {l : List α} {m : List β} {k : List γ} (r : F2 P l m) (r' : F2 Q l k) : F2 (fun a c => (∃ b, P a b) ∧ Q a c) l k := by
  induction r generalizing k with
  | nil => cases r'; exact .nil
  | cons p _ ih => cases r' with | cons q t => exact .cons ⟨⟨_, p⟩, q⟩ (ih t)
theorem F2.left {α β : Type} {P : α → β → Prop} {Q : α → Prop} {l : List α} {m : List β} (r : F2 P l m) (h : ∀ a b, P a b → Q a) : ∀ a ∈ l, Q a := by
  induction r with
  | nil => intro a ha; cases ha
  | cons p _ ih =>
    intro a ha
    rcases List.mem_cons.mp ha with rfl | ha
    · exact h _ _ p
    · exact ih a ha
theorem thenF_bindR {m : R (Fl × En)} {k : En → R (Fl × En)} {β : Type} {f : Fl × En → R β} : thenF m k >>= f = m >>= fun p => thenF (.ok p) k >>= f := by
  cases m with
  | ok p => rfl
  | ex x => rfl
  | no => rfl
theorem maxI_ge : ∀ (m : Int) (l : List Int), m ≤ maxI m l ∧ ∀ x ∈ l, x ≤ maxI m l
  | m, [] => ⟨by show m ≤ m; omega, fun x h => by cases h⟩
  | m, y :: l => by
    obtain ⟨h1, h2⟩ := maxI_ge (if y > m then y else m) l
    show m ≤ maxI (if y > m then y else m) l ∧ ∀ x ∈ y :: l, x ≤ maxI (if y > m then y else m) l
    have h3 : m ≤ (if y > m then y else m) ∧ y ≤ (if y > m then y else m) := by split <;> omega
    refine ⟨by omega, fun x hx => ?_⟩
    rcases List.mem_cons.mp hx with rfl | hx
    · omega
    · exact h2 x hx
theorem maxI_le : ∀ {b m : Int} {l : List Int}, m ≤ b → (∀ x ∈ l, x ≤ b) → maxI m l ≤ b
  | b, m, [], h, _ => h
  | b, m, y :: l, h, g => by
    show maxI (if y > m then y else m) l ≤ b
    exact maxI_le (by have := g y (by simp); split <;> omega) fun x hx => g x (by simp [hx])
theorem lots_le {s : Int} {lot : List Int} (h : lot ∈ lots s) : ∀ x ∈ lot, 1 ≤ x ∧ x ≤ 60 := by
  have t : ∀ l ∈ lots1 ++ lots2, ∀ x ∈ l, 1 ≤ x ∧ x ≤ 60 := by decide
  refine t lot ?_
  unfold lots at h
  split at h
  · exact List.mem_append_left _ h
  · exact List.mem_append_right _ h
abbrev e5 (p s most many reach way : Int) (b6 : Bool) (rows : List (List Int)) (gs : List Grid) (v8 v9 v10 v11 v13 : Option Sv) : En := [some ⟨true, pileD p⟩, some ⟨false, .int s⟩, some ⟨false, .int most⟩, some ⟨false, .int many⟩, some ⟨false, .int reach⟩, some ⟨false, .int way⟩,
  some ⟨b6, .list (rows.map fun l => .list (intsD l))⟩, some ⟨true, .list (gs.map gridD)⟩, v8, v9, v10, v11, none, v13, none]
def body5 : List Sm := match fd5.body.getD 5 .pass with
  | .for_ _ _ b => b
  | _ => []
/-- one grid is drawn -/
theorem c5_turn (n : Nat) (p s most many reach way : Int) (b6 : Bool) (rows : List (List Int)) (gs : List Grid) (v8 v9 v10 v11 v13 : Option Sv) (i : Nat) (hs : s = 1 ∨ s = 2) (hm : many ≤ 12) (hi : (i : Int) < many) (hr : 0 ≤ reach ∧ reach ≤ 3) (hl : rows.length = s.toNat) (L : List (List Int))
    (hR : F2 (fun lot l => lot ∈ lots s ∧ l.length = many.toNat ∧ ∀ x ∈ l, x ∈ lot) L rows) (hg : gs.length ≤ 12) :
    Ok (bindT (.nm 8) (.int (i : Int)) (e5 p s most many reach way b6 rows gs v8 v9 v10 v11 v13) >>= fun e => evSs ft (callN ft (n + 2)) [0] body5 e) fun q => ∃ p' g b6' w8 w9 w10 w11 w13, q = (.nx, e5 p' s most many reach way b6' rows (gs ++ [g]) w8 w9 w10 w11 w13) ∧ GoodG s L g := by
  refine Ok.by_ fun Q hQ => ?_
  have hsr : -4611686018427387904 ≤ s ∧ s < 4611686018427387904 ∧ s ≤ 16777216 := by omega
  have hs0 := rangeL_0' (show 0 ≤ s by omega)
  generalize hB : (fun e => evSs ft (callN ft (n + 2)) [0] body5 e) = B
  simp
  subst hB
  simp only [body5, fd5, List.getD_cons_succ, List.getD_cons_zero]
  -- sizes
  have hsz : ∀ l ∈ rows, atI (intsD l) (i : Int) = some (.int (nth l i)) := by
    intro l h
    have : l.length = many.toNat := hR.all (fun _ _ q => q.2.1) l h
    exact atI_nth (by omega)
  obtain ⟨sizes, hsizes⟩ : ∃ sizes, sizes = rows.map fun l => nth l i := ⟨_, rfl⟩
  have e9 : rows.map (fun l => PyData.int (nth l i)) = intsD sizes := by rw [hsizes, intsD, List.map_map]; rfl
  have h9 : F2 (fun lot x => x ∈ lot) L sizes := by
    rw [hsizes]
    refine hR.mapR fun lot l ⟨_, q2, q3⟩ => ?_
    exact q3 _ (nth_mem (by omega))
  have h9' : ∀ x ∈ sizes, 1 ≤ x ∧ x ≤ 60 := (hR.and_ h9).all fun lot x ⟨⟨_, q1⟩, q2⟩ => lots_le q1.1 _ q2
  have hlen : sizes.length = s.toNat := by rw [hsizes, List.length_map, hl]
  have hR0 : imms (rows.map fun l => PyData.list (intsD l)) = false := by
    cases rows with
    | nil => simp at hl; omega
    | cons l r => rfl
  suffices tail : Ok (evSs ft (callN ft (n + 2)) [0] (body5.drop 1) [some ⟨true, pileD p⟩, some ⟨false, .int s⟩, some ⟨false, .int most⟩, some ⟨false, .int many⟩, some ⟨false, .int reach⟩, some ⟨false, .int way⟩,
    some ⟨false, .list (rows.map fun l => .list (intsD l))⟩, some ⟨true, .list (gs.map gridD)⟩, some ⟨false, .int i⟩, some ⟨false, ptD sizes⟩, v10, v11, none, v13, none]) Q by
    rw [evSs_cons']; generalize hK : evSs ft _ _ _ = K
    cases b6 <;> simp
    all_goals
      rw [runC_map (fun l => .int (nth l i)) (fun l hl => by simp [turnC, hsz l hl]), e9]
      simp [hR0]
      subst hK
      exact tail
  clear hsz e9
  simp only [body5, fd5, List.getD_cons_succ, List.getD_cons_zero, List.drop_succ_cons, List.drop_zero]
  -- shifts
  rw [evSs_cons']; generalize hK : evSs ft _ _ _ = K
  simp [hsr, hs0]
  refine Ok.bind (runC_ok (fun (p : Int) => [some ⟨true, pileD p⟩, some ⟨false, .int s⟩, some ⟨false, .int most⟩, some ⟨false, .int many⟩, some ⟨false, .int reach⟩, some ⟨false, .int way⟩,
    some ⟨false, .list (rows.map fun l => .list (intsD l))⟩, some ⟨true, .list (gs.map gridD)⟩, some ⟨false, .int i⟩, some ⟨false, ptD sizes⟩, v10, v11, none, v13, none])
    (fun _ d => ∃ x, d = .int x ∧ -20 ≤ x ∧ x ≤ 100) (fun a _ p => Ok.by_ fun Q hQ => ?_) _) ?_
  · simp [turnC, c3]
    exact Ok.ok (hQ _ ⟨_, _, rfl, _, rfl, by omega, by omega⟩)
  rintro _ ⟨ds, p', rfl, hds⟩
  obtain ⟨sh, rfl, hsh⟩ := hds.choose (f := PyData.int) (Q := fun _ x => -20 ≤ x ∧ x ≤ 100) fun _ b ⟨x, e, q⟩ => ⟨x, e, q⟩
  clear hds
  simp; subst hK
  have hshl : sh.length = s.toNat := by rw [← hsh.len]; simp
  have hshb := hsh.all (Q := fun x => -20 ≤ x ∧ x ≤ 100) fun _ _ q => q
  clear hsh
  generalize p' = p
  -- the rest, whatever the shifts
  suffices tail : ∀ (p : Int) (sh : List Int) (v13 : Option Sv), sh.length = s.toNat → (∀ x ∈ sh, -20 ≤ x ∧ x ≤ 100) → Ok (evSs ft (callN ft (n + 2)) [0] (body5.drop 3) [some ⟨true, pileD p⟩, some ⟨false, .int s⟩, some ⟨false, .int most⟩, some ⟨false, .int many⟩, some ⟨false, .int reach⟩, some ⟨false, .int way⟩,
    some ⟨false, .list (rows.map fun l => .list (intsD l))⟩, some ⟨true, .list (gs.map gridD)⟩, some ⟨false, .int i⟩, some ⟨false, ptD sizes⟩, some ⟨true, .list (intsD sh)⟩, v11, none, v13, none]) Q by
    rw [evSs_cons']; generalize hK : evSs ft _ _ _ = K
    by_cases hw : 0 < way
    · simp [hw, hsr, hs0]
      refine Ok.bind (runC_ok (fun (p : Int) => [some ⟨true, pileD p⟩, some ⟨false, .int s⟩, some ⟨false, .int most⟩, some ⟨false, .int many⟩, some ⟨false, .int reach⟩, some ⟨false, .int way⟩,
        some ⟨false, .list (rows.map fun l => .list (intsD l))⟩, some ⟨true, .list (gs.map gridD)⟩, some ⟨false, .int i⟩, some ⟨false, ptD sizes⟩, some ⟨true, .list (intsD sh)⟩, v11, none, v13, none])
        (fun _ d => ∃ x, d = .int x ∧ 0 ≤ x ∧ x ≤ 1) (fun a _ p => Ok.by_ fun Q hQ => ?_) _) ?_
      · simp [turnC, c3]
        have b1 : (p % 2).natAbs < bigN := bigN_of (i := p % 2) (by omega) (by omega)
        by_cases h2 : way = 2
        · have b2 : Int.natAbs 1 < bigN := bigN_of (by decide) (by decide)
          simp [eq_true h2, b1, b2]
          exact Ok.ok (hQ _ ⟨_, _, rfl, p % 2, rfl, by omega, by omega⟩)
        · have b2 : Int.natAbs 0 < bigN := bigN_of (by decide) (by decide)
          simp [h2, b1, b2]
          exact Ok.ok (hQ _ ⟨_, _, rfl, _, rfl, by omega, by omega⟩)
      rintro _ ⟨ds, p', rfl, hds⟩
      obtain ⟨more, rfl, hmore⟩ := hds.choose (f := PyData.int) (Q := fun _ x => 0 ≤ x ∧ x ≤ 1) fun _ b ⟨x, e, q⟩ => ⟨x, e, q⟩
      clear hds
      have hml : more.length = s.toNat := by rw [← hmore.len]; simp
      have hmb := hmore.all (Q := fun x => 0 ≤ x ∧ x ≤ 1) fun _ _ q => q
      have hit : ∀ a, a < s.toNat → atI (intsD sizes) (a : Int) = some (.int (nth sizes a)) ∧ atI (intsD more) (a : Int) = some (.int (nth more a)) := by
        intro a ha
        exact ⟨atI_nth (by omega), atI_nth (by omega)⟩
      have hval : ∀ a, a < s.toNat → 1 ≤ nth sizes a ∧ nth sizes a ≤ 60 ∧ 0 ≤ nth more a ∧ nth more a ≤ 1 := by
        intro a ha
        have q1 := h9' _ (nth_mem (show a < sizes.length by omega))
        have q2 := hmb _ (nth_mem (show a < more.length by omega))
        exact ⟨q1.1, q1.2, q2.1, q2.2⟩
      simp [hsr, hs0]
      have hb1 : (i : Int).natAbs < bigN := bigN_of (by omega) (by omega)
      have hb2 : many.natAbs < bigN := bigN_of (by omega) (by omega)
      have hb3 : 0 < many := by omega
      rw [runC_map (fun a => .int ((i : Int) * nth sizes a / many + nth more a)) (fun a ha => by
        have ha : a < s.toNat := by simpa using ha
        obtain ⟨q1, q2⟩ := hit a ha
        obtain ⟨q3, q4, _⟩ := hval a ha
        have hb4 : (nth sizes a).natAbs < bigN := bigN_of (by omega) (by omega)
        simp at hb1
        simp [turnC, q1, q2, hb1, hb2, hb3, hb4])]
      simp; subst hK
      have e10 : (List.range s.toNat).map (fun (a : Nat) => PyData.int ((i : Int) * nth sizes a / many + nth more a)) = intsD ((List.range s.toNat).map fun a => (i : Int) * nth sizes a / many + nth more a) := by rw [intsD, List.map_map]; rfl
      rw [e10]
      refine tail _ _ _ (by simp) fun x hx => ?_
      obtain ⟨a, ha, rfl⟩ := List.mem_map.mp hx
      have ha : a < s.toNat := by simpa using ha
      obtain ⟨q3, q4, q5, q6⟩ := hval a ha
      generalize nth sizes a = u at q3 q4
      have : 0 ≤ (i : Int) * u / many := Int.ediv_nonneg (Int.mul_nonneg (by omega) (by omega)) (by omega)
      have : (i : Int) * u / many ≤ 60 := by
        have h1 : (i : Int) * u ≤ many * 60 := Int.mul_le_mul (by omega) (by omega) (by omega) (by omega)
        calc (i : Int) * u / many ≤ many * 60 / many := Int.ediv_le_ediv (by omega) h1
          _ = 60 := Int.mul_ediv_cancel_left _ (by omega)
      omega
    · simp [hw]; subst hK
      exact tail _ _ _ hshl hshb
  clear hshl hshb
  intro p sh v13 hshl hshb
  simp only [body5, fd5, List.getD_cons_succ, List.getD_cons_zero, List.drop_succ_cons, List.drop_zero]
  -- the reach
  suffices tail : ∀ (p own : Int), 0 ≤ own → own ≤ 3 → Ok (evSs ft (callN ft (n + 2)) [0] (body5.drop 4) [some ⟨true, pileD p⟩, some ⟨false, .int s⟩, some ⟨false, .int most⟩, some ⟨false, .int many⟩, some ⟨false, .int reach⟩, some ⟨false, .int way⟩,
    some ⟨false, .list (rows.map fun l => .list (intsD l))⟩, some ⟨true, .list (gs.map gridD)⟩, some ⟨false, .int i⟩, some ⟨false, ptD sizes⟩, some ⟨true, .list (intsD sh)⟩, some ⟨false, .int own⟩, none, v13, none]) Q by
    rw [evSs_cons']; generalize hK : evSs ft _ _ _ = K
    simp [c3]
    by_cases hz : p / 4 % 6 = 0
    · simp [hz]; subst hK
      exact tail _ _ (by omega) (by omega)
    · simp [hz]; subst hK
      exact tail _ _ (by omega) (by omega)
  intro p own ho1 ho2
  simp only [body5, fd5, List.getD_cons_succ, List.getD_cons_zero, List.drop_succ_cons, List.drop_zero]
  obtain ⟨x0, xs, hx⟩ : ∃ x0 xs, sizes = x0 :: xs := by
    cases sizes with
    | nil => simp at hlen; omega
    | cons x0 xs => exact ⟨x0, xs, rfl⟩
  have hmx := maxI_ge x0 xs
  have hmb : maxI x0 xs ≤ 60 := maxI_le (by have := h9' x0 (by simp [hx]); omega) fun x h => (h9' x (by simp [hx, h])).2
  have hmp : 1 ≤ maxI x0 xs := by have := h9' x0 (by simp [hx]); omega
  have himx : intsOf (intsD sizes) = .ok (x0 :: xs) := by rw [hx]; exact intsOf_map'
  rw [evSs_cons', evS_whl]; generalize hK : evSs ft _ _ [Sm.app _ _] = K
  refine ok_then (P := fun q => ∃ own', q = (.nx, [some ⟨true, pileD p⟩, some ⟨false, .int s⟩, some ⟨false, .int most⟩, some ⟨false, .int many⟩, some ⟨false, .int reach⟩, some ⟨false, .int way⟩,
    some ⟨false, .list (rows.map fun l => .list (intsD l))⟩, some ⟨true, .list (gs.map gridD)⟩, some ⟨false, .int i⟩, some ⟨false, ptD sizes⟩, some ⟨true, .list (intsD sh)⟩, some ⟨false, .int own'⟩, none, v13, none]) ∧ 0 ≤ own' ∧ own' ≤ 3 ∧ (s = 2 → 0 < own' → (own' + 1) * maxI x0 xs ≤ 16))
    (loopW_ok (fun m e => ∃ own' : Int, e = [some ⟨true, pileD p⟩, some ⟨false, .int s⟩, some ⟨false, .int most⟩, some ⟨false, .int many⟩, some ⟨false, .int reach⟩, some ⟨false, .int way⟩,
    some ⟨false, .list (rows.map fun l => .list (intsD l))⟩, some ⟨true, .list (gs.map gridD)⟩, some ⟨false, .int i⟩, some ⟨false, ptD sizes⟩, some ⟨true, .list (intsD sh)⟩, some ⟨false, .int own'⟩, none, v13, none] ∧ own' = m ∧ own' ≤ 3) ?_ own.toNat wfuel _ (by unfold wfuel; omega) ⟨own, rfl, by omega, ho2⟩) ?_
  · rintro m _ ⟨own', rfl, hm1, hm2⟩
    refine Ok.by_ fun Q hQ => ?_
    have b1 : (own' + 1).natAbs < bigN := bigN_of (i := own' + 1) (by omega) (by omega)
    have b2 : (maxI x0 xs).natAbs < bigN := bigN_of (i := maxI x0 xs) (by omega) (by omega)
    by_cases c1 : s = 2
    · by_cases c2 : 0 < own'
      · by_cases c3 : 16 < (own' + 1) * maxI x0 xs
        · simp [eq_true c1, c2, himx, b1, b2, c3]
          exact Ok.ok (hQ _ (Ok.ok ⟨m - 1, by omega, own' - 1, rfl, by omega, by omega⟩))
        · simp [eq_true c1, c2, himx, b1, b2, c3]
          exact Ok.ok (hQ _ ⟨own', rfl, by omega, by omega, fun _ _ => by omega⟩)
      · simp [eq_true c1, c2]
        exact Ok.ok (hQ _ ⟨own', rfl, by omega, by omega, fun _ _ => by omega⟩)
    · simp [c1]
      exact Ok.ok (hQ _ ⟨own', rfl, by omega, by omega, fun q _ => absurd q c1⟩)
  rintro _ ⟨own', rfl, g1, g2, g3⟩
  simp only
  subst hK
  have hgl : gs.length < 16777216 := by omega
  simp [hgl]
  refine Ok.ok (hQ _ ⟨p, ⟨sizes, sh, own'⟩, false, _, _, _, _, _, by simp [gridD]; exact ⟨rfl, rfl, rfl, rfl, rfl⟩, ⟨h9, hshl, hshb, ⟨g1, g2⟩, fun h2 h3 x hx' => ?_⟩⟩)
  have q := g3 h2 h3
  have q2 : x ≤ maxI x0 xs := by
    rw [hx] at hx'
    rcases List.mem_cons.mp hx' with rfl | h
    · exact hmx.1
    · exact hmx.2 x h
  have q3 : (own' + 1) * x ≤ (own' + 1) * maxI x0 xs := Int.mul_le_mul_of_nonneg_left q2 (by omega)
  show (own' + 1) * x ≤ 16
  omega
theorem c5 (n : Nat) (p s most : Int) (hs : s = 1 ∨ s = 2) (h1 : 1 ≤ most) (h2 : most ≤ 12) : Ok (callN ft (n + 3) 5 [⟨true, pileD p⟩, ⟨false, .int s⟩, ⟨false, .int most⟩]) fun o => ∃ (r : Rule) (p' : Int), o = ⟨false, ruleD r, [some ⟨true, pileD p'⟩, none, none]⟩ ∧ Drawn s most r := by
  refine Ok.by_ fun Q hQ => ?_
  have e3 := fun p => c3 (n + 1) p most (by omega) (by omega)
  rw [run5]
  simp only [fd5, enterN_cons, enterN_nil, slotsN_s, slotsN_0, List.length_cons, List.length_nil, Nat.reduceAdd, if_true]
  -- many
  rw [evSs_cons']; generalize hK : evSs ft _ _ _ = K; simp [e3]; subst hK
  have hm1 := Int.emod_nonneg p (show most ≠ 0 by omega)
  have hm2 := Int.emod_lt_of_pos p (show 0 < most by omega)
  generalize hmany : 1 + p % most = many
  generalize p / most = p
  -- reach
  rw [evSs_cons']; generalize hK : evSs ft _ _ _ = K; simp [c3]
  refine Ok_pick (by simp) (by decide) fun d hd => ?_
  obtain ⟨reach, rfl, hr⟩ : ∃ r, d = .int r ∧ 0 ≤ r ∧ r ≤ 3 := by
    simp at hd
    rcases hd with h | h | h | h <;> subst h <;> exact ⟨_, rfl, by decide⟩
  clear hd
  simp; subst hK
  generalize p / 7 = p
  -- way
  rw [evSs_cons']; generalize hK : evSs ft _ _ _ = K; simp [c3]; subst hK
  generalize p % 3 = way
  generalize p / 3 = p
  -- rows
  have hsr : -4611686018427387904 ≤ s ∧ s < 4611686018427387904 ∧ s ≤ 16777216 := by omega
  have hmr : -4611686018427387904 ≤ many ∧ many < 4611686018427387904 ∧ many ≤ 16777216 := by omega
  rw [evSs_cons']; generalize hK : evSs ft _ _ _ = K; simp [hsr, rangeL_0' (show 0 ≤ s by omega)]
  refine Ok.bind (runC_ok (fun (p : Int) => [some ⟨true, pileD p⟩, some ⟨false, .int s⟩, some ⟨false, .int most⟩, some ⟨false, .int many⟩, some ⟨false, .int reach⟩, some ⟨false, .int way⟩, none, none, none, none, none, none, none, none, none])
    (fun _ d => ∃ lot l : List Int, d = .list (intsD l) ∧ l.length = many.toNat ∧ lot ∈ lots s ∧ ∀ x ∈ l, x ∈ lot) (fun a _ p => Ok.by_ fun Q hQ => ?_) _) ?_
  · simp [turnC]
    refine Ok_callQ (c4 n p s many (by omega) (by omega)) ?_
    rintro o ⟨lot, l, p', rfl, g1, g2, g3⟩
    simp
    exact Ok.ok (hQ _ ⟨_, _, rfl, lot, l, rfl, g1, g2, g3⟩)
  rintro _ ⟨ds, p', rfl, hrows⟩
  simp; subst hK
  obtain ⟨L, rows, rfl, hL, hR⟩ : ∃ (L rows : List (List Int)), ds = rows.map (fun l => .list (intsD l)) ∧ L.length = s.toNat ∧ F2 (fun lot l => lot ∈ lots s ∧ l.length = many.toNat ∧ ∀ x ∈ l, x ∈ lot) L rows := by
    have hlen := hrows.len
    rw [List.length_range] at hlen
    clear hQ
    generalize List.range s.toNat = R at hrows
    generalize s.toNat = k at hlen
    induction hrows generalizing k with
    | nil => exact ⟨[], [], rfl, by simpa using hlen.symm, .nil⟩
    | cons q _ ih =>
      obtain ⟨lot, l, rfl, q1, q2, q3⟩ := q
      obtain ⟨L, rows, rfl, e, h⟩ := ih (k - 1) (by simp at hlen; omega)
      exact ⟨lot :: L, l :: rows, rfl, by simp at hlen ⊢; omega, .cons ⟨q2, q1, q3⟩ h⟩
  clear hrows
  rw [evSs_cons']; generalize hK : evSs ft _ _ _ = K; simp; subst hK
  generalize p' = p
  -- the loop
  rw [evSs_cons']; generalize hK : evSs ft _ _ [Sm.ret _] = K
  simp only [evS_for, evI_rng, evEs_cons, evEs_nil, evE_var, List.getElem?_cons_succ, List.getElem?_cons_zero, bind_ok, fetchs_cons, fetchs_nil, fetch_v, rngS1, tgOk_nm, List.contains_eq_mem]
  rw [if_pos (by simp; omega)]
  simp only [bind_ok]
  rw [if_pos (by decide), rangeL_0' (show 0 ≤ many by omega), thenF_bindR]
  refine Ok.bind (loopF_ok (Q := fun q => ∃ p b6 gs v8 v9 v10 v11 v13, q = (.nx, e5 p s most many reach way b6 rows gs v8 v9 v10 v11 v13) ∧ gs.length = many.toNat ∧ ∀ g ∈ gs, GoodG s L g) (fun i e => ∃ p b6 gs v8 v9 v10 v11 v13, e = e5 p s most many reach way b6 rows gs v8 v9 v10 v11 v13 ∧ gs.length = i ∧ ∀ g ∈ gs, GoodG s L g)
    ⟨p, true, [], none, none, none, none, none, rfl, rfl, fun g h => by cases h⟩ ?_ ?_) ?_
  · rintro i hi _ ⟨p, b6, gs, v8, v9, v10, v11, v13, rfl, hg, hG⟩
    have hi' : i < many.toNat := by simpa using hi
    rw [List.getElem_range]
    refine (c5_turn n p s most many reach way b6 rows gs v8 v9 v10 v11 v13 i hs (by omega) (by omega) hr (by rw [← hR.len, hL]) L hR (by omega)).imp ?_
    rintro _ ⟨p', g, b6', w8, w9, w10, w11, w13, rfl, hgood⟩
    refine ⟨p', b6', gs ++ [g], w8, w9, w10, w11, w13, rfl, by simp [hg], fun g' h => ?_⟩
    rcases List.mem_append.mp h with h | h
    · exact hG g' h
    · rw [List.mem_singleton.mp h]; exact hgood
  · rintro _ ⟨p, b6, gs, v8, v9, v10, v11, v13, rfl, hg, hG⟩
    exact ⟨p, b6, gs, v8, v9, v10, v11, v13, rfl, by simpa using hg, hG⟩
  rintro _ ⟨p, b6, gs, v8, v9, v10, v11, v13, rfl, hg, hG⟩
  simp only [thenF_nx, bind_ok]
  subst hK
  simp
  exact Ok.ok (hQ _ ⟨⟨s, gs⟩, p, rfl, rfl, ⟨by show 1 ≤ (gs.length : Int); omega, by show (gs.length : Int) ≤ most; omega⟩, L, hL, fun lot h => (hR.left fun _ _ q => q.1) lot h, hG⟩)
end Nm
set_option Elab.async false
set_option maxRecDepth 100000
set_option linter.all false
/-! The pile, points. -/
namespace Nm
open PySem L2
theorem mulB {i j : Int} (h1 : -(2 ^ 250) < i) (h2 : i < 2 ^ 250) (h3 : -(2 ^ 250) < j) (h4 : j < 2 ^ 250) : binop .mul (.int i) (.int j) = .ok (.v false (.int (i * j))) := by
  rw [mul_int, if_pos ⟨bigN_of h1 h2, bigN_of h3 h4⟩]
theorem mulN {i j : Int} (h1 : i.natAbs < bigN) (h2 : j.natAbs < bigN) : binop .mul (.int i) (.int j) = .ok (.v false (.int (i * j))) := by
  rw [mul_int, if_pos ⟨h1, h2⟩]
theorem bigP {i : Int} {k : Nat} (hk : k ≤ 2000) (h : i.natAbs < 2 ^ k) : i.natAbs < bigN := Nat.lt_of_lt_of_le h (Nat.pow_le_pow_right (by decide) hk)
theorem mulP {i j : Int} {a b : Nat} (h1 : i.natAbs < 2 ^ a) (h2 : j.natAbs < 2 ^ b) : (i * j).natAbs < 2 ^ (a + b) := by
  rw [Int.natAbs_mul, Nat.pow_add]
  exact Nat.mul_lt_mul'' h1 h2
theorem c1 (n : Nat) (c k : Int) (h1 : 0 ≤ k) (h2 : k ≤ 2 ^ 60) : Ok (callN ft (n + 1) 1 [⟨false, .int c⟩, ⟨false, .int k⟩]) fun o => ∃ r : Int, o = ⟨false, .int r, [none, none]⟩ ∧ 0 ≤ r ∧ r < 2147483579 := by
  refine Ok.by_ fun Q hQ => ?_
  have b1 := mulB (i := c % 2147483647) (j := 48271) (by omega) (by omega) (by decide) (by decide)
  have b3 := mulB (i := k) (j := 69621) (by omega) (by omega) (by decide) (by decide)
  have b4 : ∀ u : Int, binop .mul (.int (u % 2147483629)) (.int (u % 2147483629)) = .ok (.v false (.int (u % 2147483629 * (u % 2147483629)))) := fun u => mulB (by omega) (by omega) (by omega) (by omega)
  have b5 : ∀ u : Int, binop .mul (.int (u % 2147483587)) (.int (u % 2147483587 + 2)) = .ok (.v false (.int (u % 2147483587 * (u % 2147483587 + 2)))) := fun u => mulB (by omega) (by omega) (by omega) (by omega)
  rw [run1]
  simp [fd1, b1, b3, b4, b5, -mul_int]
  exact Ok.ok (hQ _ ⟨_, rfl, by omega, by omega⟩)
theorem pow10 {j : Nat} (h : j ≤ 1000) : binop .pow (.int 10) (.int (j : Int)) = .ok (.v false (.int (10 ^ j))) := by
  have : (0 : Int) ≤ (j : Int) ∧ (j : Int) ≤ 1000000 ∧ (10 : Int).natAbs < 2 ^ 64 := ⟨by omega, by omega, by decide⟩
  rw [pow_int, if_pos this]
  rfl
/-- the law's pile: one number -/
theorem c2 (n : Nat) (ns : List Int) (k : Nat) (hk : k ≤ 1000) : Ok (callN ft (n + 2) 2 [⟨false, scrD ns⟩, ⟨false, .int k⟩]) fun o => ∃ p : Int, o = ⟨true, pileD p, [none, none]⟩ := by
  refine Ok.by_ fun Q hQ => ?_
  rw [run2]
  simp only [fd2, enterN_cons, enterN_nil, slotsN_s, slotsN_0, List.length_cons, List.length_nil, Nat.reduceAdd, if_true]
  rw [evSs_cons']; generalize hK : evSs ft _ _ _ = K; simp; subst hK
  suffices tail : ∀ c : Int, Ok (evSs ft (callN ft (n + 1)) [] (fd2.body.drop 2) [some ⟨false, scrD ns⟩, some ⟨false, .int k⟩, some ⟨false, .int c⟩, none, none] >>= outR [] 2) Q by
    rw [evSs_cons']; generalize hK : evSs ft _ _ _ = K
    simp
    by_cases hl : k < ns.length
    · simp [hl, atI_lt hl]; subst hK
      exact tail _
    · simp [hl]; subst hK
      exact tail _
  intro c
  simp only [fd2, List.drop_succ_cons, List.drop_zero]
  rw [evSs_cons']; generalize hK : evSs ft _ _ _ = K
  have p18 := pow10 (j := 18) (by decide)
  have p60 := pow10 (j := 60) (by decide)
  have q1 : ((10 : Int) ^ 60).natAbs < 2 ^ 200 := by decide
  have q2 := mulP q1 q1
  have q3 := mulP q2 q1
  have m1 := mulN (bigP (by decide) q1) (bigP (by decide) q1)
  have m2 := mulN (bigP (by decide) q2) (bigP (by decide) q1)
  have m3 := mulN (bigP (by decide) q3) (bigP (by decide) q1)
  have hp1 : (0 : Int) < 10 ^ 60 := by decide
  have hp : (0 : Int) < 10 ^ 60 * 10 ^ 60 * 10 ^ 60 * 10 ^ 60 := Int.mul_pos (Int.mul_pos (Int.mul_pos hp1 hp1) hp1) hp1
  clear q1 q2 q3
  generalize (10 : Int) ^ 60 = W at p60 m1 m2 m3 hp
  have p18' : binop .pow (.int 10) (.int 18) = .ok (.v false (.int (10 ^ 18))) := p18
  have p60' : binop .pow (.int 10) (.int 60) = .ok (.v false (.int W)) := p60
  by_cases hc : (10 : Int) ^ 18 ≤ c
  · simp [p18', p60', m1, m2, m3, hp, -mul_int, -pow_int]
    have hc' : 1000000000000000000 ≤ c := hc
    simp [hc']
    exact Ok.ok (hQ _ ⟨_, rfl⟩)
  · have hc' : ¬ 1000000000000000000 ≤ c := hc
    simp [p18', -mul_int, -pow_int, hc']
    subst hK
    clear p18 p60 m1 m2 m3 hp p18' p60' hc hc' hp1
    rw [evSs_cons']; generalize hK : evSs ft _ _ _ = K; simp; subst hK
    rw [evSs_cons']; generalize hK : evSs ft _ _ [Sm.ret _] = K
    simp only [evS_for, evI_rng, evEs_cons, evEs_nil, evE_cst, bind_ok, fetchs_cons, fetchs_nil, fetch_v, rngS1]
    rw [if_pos (by decide)]
    simp only [bind_ok]
    rw [if_pos (by decide), rangeL_0' (by decide), thenF_bindR]
    refine Ok.bind (loopF_ok (Q := fun q => ∃ (u : Nat) (v : Option Sv), q = (.nx, [some ⟨false, scrD ns⟩, some ⟨false, .int k⟩, some ⟨false, .int c⟩, some ⟨false, .int (u : Int)⟩, v]))
      (fun i e => ∃ (u : Nat) (v : Option Sv), e = [some ⟨false, scrD ns⟩, some ⟨false, .int k⟩, some ⟨false, .int c⟩, some ⟨false, .int (u : Int)⟩, v] ∧ u + 1 ≤ 2147483579 ^ i)
      ⟨0, none, rfl, by decide⟩ ?_ ?_) ?_
    · rintro i hi _ ⟨u, v, rfl, hu⟩
      have hi' : i < 24 := by simpa using hi
      rw [List.getElem_range]
      refine Ok.by_ fun Q hQ => ?_
      have b1 : binop .mul (.int (u : Int)) (.int 2147483579) = .ok (.v false (.int ((u : Int) * 2147483579))) := by
        refine mulN (bigP (k := 744) (by decide) ?_) (bigP (k := 32) (by decide) (by decide))
        have h1 : u < 2147483579 ^ i := hu
        have h2 : 2147483579 ^ i ≤ (2 ^ 31) ^ i := Nat.pow_le_pow_left (by decide) i
        rw [← Nat.pow_mul] at h2
        have h3 : 2 ^ (31 * i) ≤ 2 ^ 744 := Nat.pow_le_pow_right (by decide) (by omega)
        show u < 2 ^ 744
        omega
      have b2 : binop .mul (.int 7) (.int (k : Int)) = .ok (.v false (.int (7 * (k : Int)))) := mulB (by decide) (by decide) (by omega) (by omega)
      have b3 : binop .mul (.int 100) (.int (i : Int)) = .ok (.v false (.int (100 * (i : Int)))) := mulB (by decide) (by decide) (by omega) (by omega)
      have b4 : binop .mul (.int (i : Int)) (.int (i : Int)) = .ok (.v false (.int ((i : Int) * (i : Int)))) := mulB (by omega) (by omega) (by omega) (by omega)
      simp [b1, b2, b3, b4, -mul_int]
      have hii : 0 ≤ (i : Int) * (i : Int) ∧ (i : Int) * (i : Int) ≤ 24 * 24 := ⟨Int.mul_nonneg (by omega) (by omega), Int.mul_le_mul (by omega) (by omega) (by omega) (by omega)⟩
      refine Ok_call (c1 n c (7 * (k : Int) + 100 * (i : Int) + (i : Int) * (i : Int)) (by omega) (by omega)) ?_
      rintro _ ⟨r, rfl, hr1, hr2⟩
      obtain ⟨r', rfl⟩ := Int.eq_ofNat_of_zero_le hr1
      simp
      refine Ok.ok (hQ _ ⟨u * 2147483579 + r', some ⟨false, .int (i : Int)⟩, by simp, ?_⟩)
      rw [Nat.pow_succ]
      have : (u + 1) * 2147483579 ≤ 2147483579 ^ i * 2147483579 := Nat.mul_le_mul_right _ hu
      omega
    · rintro _ ⟨u, v, rfl, _⟩
      exact ⟨u, v, rfl⟩
    rintro _ ⟨u, v, rfl⟩
    simp only [thenF_nx, bind_ok]
    subst hK
    simp
    exact Ok.ok (hQ _ ⟨_, rfl⟩)
/-- a drawn point -/
theorem c16 (n : Nat) (p s m : Int) (hs : 0 ≤ s ∧ s ≤ 100) (hm : 0 ≤ m ∧ m ≤ 2 ^ 200) : Ok (callN ft (n + 2) 16 [⟨true, pileD p⟩, ⟨false, .int s⟩, ⟨false, .int m⟩]) fun o => ∃ (l : List Int) (p' : Int), o = ⟨false, ptD l, [some ⟨true, pileD p'⟩, none, none]⟩ ∧ l.length = s.toNat ∧ ∀ x ∈ l, -m ≤ x ∧ x ≤ m := by
  refine Ok.by_ fun Q hQ => ?_
  have hsr : -4611686018427387904 ≤ s ∧ s < 4611686018427387904 ∧ s ≤ 16777216 := by omega
  have b1 := mulB (i := 2) (j := m) (by decide) (by decide) (by omega) (by omega)
  rw [run16]
  simp [fd16, hsr, rangeL_0' hs.1]
  refine Ok.bind (runC_ok (fun (p : Int) => [some ⟨true, pileD p⟩, some ⟨false, .int s⟩, some ⟨false, .int m⟩, none]) (fun _ d => ∃ x, d = .int x ∧ -m ≤ x ∧ x ≤ m) (fun a _ p => Ok.by_ fun Q hQ => ?_) _) ?_
  · have e3 := c3 n p (2 * m + 1) (by omega) (by omega)
    simp [turnC, b1, e3, -mul_int]
    have h1 := Int.emod_nonneg p (show 2 * m + 1 ≠ 0 by omega)
    have h2 := Int.emod_lt_of_pos p (show 0 < 2 * m + 1 by omega)
    exact Ok.ok (hQ _ ⟨_, _, rfl, p % (2 * m + 1) - m, rfl, by omega, by omega⟩)
  rintro _ ⟨ds, p', rfl, hds⟩
  obtain ⟨l, rfl, hl⟩ := hds.choose (f := PyData.int) (Q := fun _ x => -m ≤ x ∧ x ≤ m) fun _ b ⟨x, e, q⟩ => ⟨x, e, q⟩
  simp
  exact Ok.ok (hQ _ ⟨l, p', rfl, by rw [← hl.len]; simp, hl.all fun _ _ q => q⟩)
end Nm
set_option Elab.async false
set_option maxRecDepth 100000
set_option linter.all false
/-! rules.py: what each def returns. -/
namespace Nm
open PySem L2
def isWhole : D → Bool
  | .int _ => true
  | _ => false
@[simp] theorem isWhole_int {i : Int} : isWhole (.int i) = true := rfl
def within (lo hi : Int) : D → Bool
  | .int i => decide (lo ≤ i) && decide (i ≤ hi)
  | _ => false
@[simp] theorem within_int {lo hi i : Int} : within lo hi (.int i) = (decide (lo ≤ i) && decide (i ≤ hi)) := rfl
/-- a point with so many sides -/
def isPt (s : Int) : D → Bool
  | .tuple l => decide ((l.length : Int) = s) && l.all isWhole
  | _ => false
@[simp] theorem isPt_tuple {s : Int} {l : List D} : isPt s (.tuple l) = (decide ((l.length : Int) = s) && l.all isWhole) := rfl
def sizesOk : D → Bool
  | .tuple l => l.all (within 1 60)
  | _ => false
@[simp] theorem sizesOk_tuple {l : List D} : sizesOk (.tuple l) = l.all (within 1 60) := rfl
def isGrid (s : Int) : D → Bool
  | .tuple [a, b, c] => within 0 3 c && (isPt s a && isPt s b) && sizesOk a
  | _ => false
@[simp] theorem isGrid_3 {s : Int} {a b c : D} : isGrid s (.tuple [a, b, c]) = (within 0 3 c && (isPt s a && isPt s b) && sizesOk a) := rfl
def gridsOk (a : D) : D → Bool
  | .tuple gs => decide (1 ≤ gs.length) && decide (gs.length ≤ 12) && (match a with | .int s => gs.all (isGrid s) | _ => false)
  | _ => false
def isRule : D → Bool
  | .tuple [a, b] => within 1 2 a && gridsOk a b
  | _ => false
@[simp] theorem isRule_2 {a b : D} : isRule (.tuple [a, b]) = (within 1 2 a && gridsOk a b) := rfl
/-! data without dicts -/
abbrev nd (d : D) : Prop := d.hasDict = false
theorem nd_dict {kvs : List (D × D)} (h : nd (.dict kvs)) : False := by
  have h : PyData.hasDict (.dict kvs) = false := h
  rw [PyData.hasDict] at h
  cases h
theorem nd_notD {d : D} (h : nd d) : notD d = true := by
  cases d <;> first | rfl | exact (nd_dict h).elim
theorem ndAll {l : List D} : PyData.hasDictAll l = false ↔ ∀ x ∈ l, nd x := by
  induction l with
  | nil => simp [PyData.hasDictAll]
  | cons a l ih => simp [PyData.hasDictAll, ih]
theorem nd_tuple {l : List D} : nd (.tuple l) ↔ ∀ x ∈ l, nd x := by
  show PyData.hasDict (.tuple l) = false ↔ _
  rw [PyData.hasDict, ndAll]
theorem nd_list {l : List D} : nd (.list l) ↔ ∀ x ∈ l, nd x := by
  show PyData.hasDict (.list l) = false ↔ _
  rw [PyData.hasDict, ndAll]
theorem c7 (n : Nat) (d : D) (h : notD d = true) : callN ft (n + 1) 7 [⟨false, d⟩] = .ok ⟨false, .bool (isWhole d), [none]⟩ := by
  rw [run7]
  cases d <;> first | simp [fd7]; done | (simp [fd7, isWhole]; rfl) | rfl | cases h
theorem c8 (n : Nat) (d : D) (lo hi : Int) (h : notD d = true) : callN ft (n + 2) 8 [⟨false, d⟩, ⟨false, .int lo⟩, ⟨false, .int hi⟩] = .ok ⟨false, .bool (within lo hi d), [none, none, none]⟩ := by
  have e7 := c7 n d h
  rw [run8]
  cases d <;> first | cases h | skip
  case int i =>
    by_cases h1 : lo ≤ i <;> simp [fd8, e7, h1]
  all_goals simp [fd8, e7, isWhole, within]
theorem c9 (n : Nat) (d : D) (s : Int) (h : nd d) : callN ft (n + 2) 9 [⟨false, .int s⟩, ⟨false, d⟩] = .ok ⟨false, .bool (isPt s d), [none, none]⟩ := by
  rw [run9]
  cases d
  case tuple l =>
    have hl := nd_tuple.mp h
    by_cases hs : (l.length : Int) = s
    · simp [fd9, hs]
      rw [runC_list (fun d => .bool (isWhole d)) (fun a ha => by simp [turnC, c7 n a (nd_notD (hl a ha))])]
      simp
    · simp [fd9, hs]
  case dict => exact (nd_dict h).elim
  all_goals (simp [fd9, isTy, isPt])
theorem c10 (n : Nat) (d : D) (s : Int) (h : nd d) : callN ft (n + 3) 10 [⟨false, .int s⟩, ⟨false, d⟩] = .ok ⟨false, .bool (isGrid s d), [none, none]⟩ := by
  rw [run10]
  cases d
  case tuple l =>
    have hl := nd_tuple.mp h
    by_cases hs : l.length = 3
    · obtain ⟨a, b, c, rfl⟩ : ∃ a b c, l = [a, b, c] := by
        match l, hs with
        | [a, b, c], _ => exact ⟨a, b, c, rfl⟩
      have ha := hl a (by simp)
      have hb := hl b (by simp)
      have hc := hl c (by simp)
      have e8 := c8 n c 0 3 (nd_notD hc)
      have e9 := c9 n a s ha
      have e9' := c9 n b s hb
      cases q1 : within 0 3 c
      · simp [fd10, e8, q1]
      · cases q2 : isPt s a
        · simp [fd10, e8, q1, e9, q2]
        · cases q3 : isPt s b
          · simp [fd10, e8, q1, e9, q2, e9', q3]
          · simp [fd10, e8, q1, e9, q2, e9', q3]
            cases a <;> try (simp [isPt] at q2; done)
            rename_i la
            have hla := nd_tuple.mp ha
            simp
            rw [runC_list (fun d => .bool (within 1 60 d)) (fun x hx => by simp [turnC, c8 n x 1 60 (nd_notD (hla x hx))])]
            simp
    · have hs' : ¬ (l.length : Int) = 3 := by omega
      have : isGrid s (.tuple l) = false := by
        unfold isGrid
        split
        · rename_i heq; cases heq; exact absurd rfl hs
        · rfl
      simp [fd10, hs', this]
  case dict => exact (nd_dict h).elim
  all_goals (simp [fd10, isTy, isGrid])
theorem c11 (n : Nat) (d : D) (h : nd d) : callN ft (n + 4) 11 [⟨false, d⟩] = .ok ⟨false, .bool (isRule d), [none]⟩ := by
  rw [run11]
  cases d
  case tuple l =>
    have hl := nd_tuple.mp h
    by_cases hs : l.length = 2
    · obtain ⟨a, b, rfl⟩ : ∃ a b, l = [a, b] := by
        match l, hs with
        | [a, b], _ => exact ⟨a, b, rfl⟩
      have ha := hl a (by simp)
      have hb := hl b (by simp)
      have e8 := c8 (n + 1) a 1 2 (nd_notD ha)
      cases q1 : within 1 2 a
      · simp [fd11, e8, q1]
      · cases b
        case tuple gs =>
          have hgs := nd_tuple.mp hb
          have e8' := c8 (n + 1) (.int gs.length) 1 12 rfl
          simp at e8'
          cases a <;> try (simp [within] at q1; done)
          rename_i s
          by_cases q2 : 1 ≤ gs.length
          · by_cases q3 : gs.length ≤ 12
            · have q2' : (1 : Int) ≤ gs.length := by omega
              have q3' : (gs.length : Int) ≤ 12 := by omega
              simp [fd11, e8, q1, e8', q2, q3, q2', q3', gridsOk]
              rw [runC_list (fun d => .bool (isGrid s d)) (fun x hx => by simp [turnC, c10 n x s (hgs x hx)])]
              simp
            · have q3' : ¬ (gs.length : Int) ≤ 12 := by omega
              simp [fd11, e8, q1, e8', q3, q3', gridsOk]
          · have q2' : ¬ (1 : Int) ≤ gs.length := by omega
            simp [fd11, e8, q1, e8', q2, q2', gridsOk]
        case dict => exact (nd_dict hb).elim
        all_goals simp [fd11, e8, q1, isTy, gridsOk]
    · have hs' : ¬ (l.length : Int) = 2 := by omega
      have : isRule (.tuple l) = false := by
        unfold isRule
        split
        · rename_i heq; cases heq; exact absurd rfl hs
        · rfl
      simp [fd11, hs', this]
  case dict => exact (nd_dict h).elim
  all_goals (simp [fd11, isTy, isRule])
end Nm
set_option Elab.async false
set_option maxRecDepth 100000
set_option linter.all false
/-! rules.py: rules that are rules, cells, meetings. -/
namespace Nm
open PySem L2
structure GridOk (s : Int) (g : Grid) : Prop where
  sizes : (g.sizes.length : Int) = s
  shifts : (g.shifts.length : Int) = s
  size : ∀ x ∈ g.sizes, 1 ≤ x ∧ x ≤ 60
  reach : 0 ≤ g.reach ∧ g.reach ≤ 3
structure RuleOk (r : Rule) : Prop where
  sides : r.sides = 1 ∨ r.sides = 2
  some_ : 1 ≤ r.grids.length ∧ r.grids.length ≤ 12
  grids : ∀ g ∈ r.grids, GridOk r.sides g
theorem isPt_pt {s : Int} {p : List Int} : isPt s (ptD p) = decide ((p.length : Int) = s) := by simp [isPt, List.all_map, Function.comp_def]
theorem isGrid_ok {s : Int} {g : Grid} (h : GridOk s g) : isGrid s (gridD g) = true := by
  have h1 := h.size
  have h2 := h.reach
  simp only [gridD, isGrid_3, within_int, isPt_pt, h.sizes, h.shifts, decide_true, Bool.and_true, Bool.and_eq_true, decide_eq_true_eq, sizesOk_tuple]
  refine ⟨h2, ?_⟩
  simp only [List.all_map, List.all_eq_true, Function.comp_def, within_int, Bool.and_eq_true, decide_eq_true_eq]
  exact h1
theorem isRule_ok {r : Rule} (h : RuleOk r) : isRule (ruleD r) = true := by
  have h1 := h.sides
  have h2 := h.some_
  simp only [ruleD, isRule_2, within_int, gridsOk, List.length_map, Bool.and_eq_true, decide_eq_true_eq, List.all_map, List.all_eq_true, Function.comp_def]
  exact ⟨by omega, h2, fun g hg => isGrid_ok (h.grids g hg)⟩
theorem nd_ints {p : List Int} : ∀ x ∈ intsD p, nd x := by
  intro x hx
  obtain ⟨i, _, rfl⟩ := List.mem_map.mp hx
  rfl
theorem nd_pt {p : List Int} : nd (ptD p) := nd_tuple.mpr nd_ints
theorem nd_grid {g : Grid} : nd (gridD g) := nd_tuple.mpr (by simp [nd_pt]; exact ⟨nd_pt, nd_pt, rfl⟩)
theorem nd_rule {r : Rule} : nd (ruleD r) := nd_tuple.mpr (by
  simp only [List.mem_cons, List.not_mem_nil, or_false, forall_eq_or_imp, forall_eq]
  refine ⟨rfl, nd_tuple.mpr fun x hx => ?_⟩
  obtain ⟨g, _, rfl⟩ := List.mem_map.mp hx
  exact nd_grid)
/-- a rule is let by, else refused -/
theorem c13 (n : Nat) (d : D) (h : nd d) : callN ft (n + 5) 13 [⟨false, d⟩] = if isRule d = true then .ok ⟨false, .none, [none]⟩ else .ex (excD 1 [.str "not a rule"]) := by
  have e := c11 n d h
  rw [run13]
  cases q : isRule d <;> simp [fd13, e, q]
theorem c13r (n : Nat) {r : Rule} (h : RuleOk r) : callN ft (n + 5) 13 [⟨false, ruleD r⟩] = .ok ⟨false, .none, [none]⟩ := by rw [c13 n _ nd_rule, if_pos (isRule_ok h)]
theorem c12 (n : Nat) (d : D) (h : nd d) : callN ft (n + 5) 12 [⟨false, d⟩] = .ok ⟨false, .bool (isRule d), [none]⟩ := by
  have e := c11 n d h
  rw [run12]
  simp [fd12, e]
theorem rule_ix0 {r : Rule} : getix (ruleD r) (.int 0) = .ok (.v false (.int r.sides)) := by simp [ruleD]
theorem rule_ix1 {r : Rule} : getix (ruleD r) (.int 1) = .ok (.v false (.tuple (r.grids.map gridD))) := by simp [ruleD]
theorem grid_ix0 {g : Grid} : getix (gridD g) (.int 0) = .ok (.v false (ptD g.sizes)) := by simp [gridD]
theorem grid_ix1 {g : Grid} : getix (gridD g) (.int 1) = .ok (.v false (ptD g.shifts)) := by simp [gridD]
theorem grid_ix2 {g : Grid} : getix (gridD g) (.int 2) = .ok (.v false (.int g.reach)) := by simp [gridD]
/-- a point is let by, else refused -/
theorem c27 (n : Nat) (r : Rule) (d : D) (h : nd d) : callN ft (n + 3) 27 [⟨false, ruleD r⟩, ⟨false, d⟩] = if isPt r.sides d = true then .ok ⟨false, .none, [none, none]⟩ else .ex (excD 2 [.str "not a point"]) := by
  have e := c9 n d r.sides h
  rw [run27]
  cases q : isPt r.sides d <;> simp [fd27, rule_ix0, e, q]
theorem c27p (n : Nat) {r : Rule} {p : List Int} (h : (p.length : Int) = r.sides) : callN ft (n + 3) 27 [⟨false, ruleD r⟩, ⟨false, ptD p⟩] = .ok ⟨false, .none, [none, none]⟩ := by
  rw [c27 n r _ nd_pt, isPt_pt, if_pos (by simpa using h)]
/-- the cell of a point -/
def cellOf (g : Grid) (p : List Int) : List Int := (p.zip (g.sizes.zip g.shifts)).map fun t => (t.1 - t.2.2) / t.2.1
theorem c28 (n : Nat) {g : Grid} (p : List Int) (h : ∀ x ∈ g.sizes, 1 ≤ x ∧ x ≤ 60) : callN ft (n + 1) 28 [⟨false, gridD g⟩, ⟨false, ptD p⟩] = .ok ⟨false, ptD (cellOf g p), [none, none]⟩ := by
  rw [run28]
  simp [fd28, grid_ix0, grid_ix1]
  rw [show zip3 (intsD p) (intsD g.sizes) (intsD g.shifts) = _ from zip3_map (f := PyData.int) (g := PyData.int) (h := PyData.int), runC_map (fun t => .int ((t.1 - t.2.2) / t.2.1)) (fun t ht => by
    have q := h t.2.1 (List.of_mem_zip (List.of_mem_zip ht).2).1
    have q1 : 0 < t.2.1 := by omega
    have q2 : t.2.1.natAbs < bigN := bigN_of (i := t.2.1) (by omega) (by omega)
    simp [turnC, q1, q2])]
  simp [cellOf, intsD]
/-- whether two points meet in a grid -/
def meetsIn (g : Grid) (p q : List Int) : Bool := ((cellOf g p).zip (cellOf g q)).all fun t => decide ((if t.1 - t.2 < 0 then -(t.1 - t.2) else t.1 - t.2) ≤ g.reach)
theorem c29 (n : Nat) {g : Grid} (p q : List Int) (h : ∀ x ∈ g.sizes, 1 ≤ x ∧ x ≤ 60) : callN ft (n + 2) 29 [⟨false, gridD g⟩, ⟨false, ptD p⟩, ⟨false, ptD q⟩] = .ok ⟨false, .bool (meetsIn g p q), [none, none, none]⟩ := by
  have e := fun p => c28 n p h
  rw [run29]
  simp [fd29, e]
  rw [show zip2 (intsD (cellOf g p)) (intsD (cellOf g q)) = _ from zip2_map (f := PyData.int) (g := PyData.int), runC_map (fun t => .bool (decide ((if t.1 - t.2 < 0 then -(t.1 - t.2) else t.1 - t.2) ≤ g.reach))) (fun t ht => by simp [turnC, grid_ix2])]
  simp [meetsIn, List.all_map, Function.comp_def]
/-- the numbers of the grids in which two points meet -/
def meetsL (r : Rule) (p q : List Int) : List Int := ((r.grids.zipIdx).filter fun t => meetsIn t.1 p q).map fun t => (t.2 : Int)
theorem c30 (n : Nat) {r : Rule} (p q : List Int) (h : RuleOk r) : callN ft (n + 3) 30 [⟨false, ruleD r⟩, ⟨false, ptD p⟩, ⟨false, ptD q⟩] = .ok ⟨true, .list (intsD (meetsL r p q)), [none, none, none]⟩ := by
  rw [run30]
  simp [fd30, rule_ix1]
  rw [enumL_map0, runC_filter (fun t => meetsIn t.1 p q) (fun t => .int (t.2 : Int)) (fun t ht => by
    have hg : t.1 ∈ r.grids := by
      have := List.mem_zipIdx ht
      simp at this
      exact List.mem_iff_getElem.mpr ⟨t.2, this.1, this.2.symm⟩
    have e := c29 n p q (h.grids t.1 hg).size
    cases hm : meetsIn t.1 p q <;> simp [turnC, e, hm])]
  simp [meetsL, intsD, List.map_map, Function.comp_def]
theorem c31 (n : Nat) {r : Rule} {p q : List Int} (h : RuleOk r) (hp : (p.length : Int) = r.sides) (hq : (q.length : Int) = r.sides) : callN ft (n + 6) 31 [⟨false, ruleD r⟩, ⟨false, ptD p⟩, ⟨false, ptD q⟩] = .ok ⟨true, .list (intsD (meetsL r p q)), [none, none, none]⟩ := by
  have e1 := c13r n h
  have e2 := c27p (n + 2) hp
  have e3 := c27p (n + 2) hq
  have e4 := c30 (n + 2) p q h
  rw [run31]
  simp [fd31, e1, e2, e3, e4]
theorem c32 (n : Nat) {r : Rule} {p : List Int} (h : RuleOk r) (hp : (p.length : Int) = r.sides) : callN ft (n + 6) 32 [⟨false, ruleD r⟩, ⟨false, ptD p⟩] = .ok ⟨true, .list (r.grids.map fun g => ptD (cellOf g p)), [none, none]⟩ := by
  have e1 := c13r n h
  have e2 := c27p (n + 2) hp
  rw [run32]
  simp [fd32, e1, e2, rule_ix1]
  rw [runC_map (fun g => ptD (cellOf g p)) (fun g hg => by simp [turnC, c28 (n + 4) p (h.grids g hg).size])]
  simp
end Nm
set_option Elab.async false
set_option maxRecDepth 100000
set_option linter.all false
/-! repr and == of nested data. -/
namespace Nm
open PySem L2
/-- data that repr may be asked of: so many signs, so deep -/
structure Rp (k h : Nat) (d : D) : Prop where
  nod : nd d
  shw : d.showable = true
  deep : d.depth ≤ h
  len : d.shown.length ≤ k
theorem int_len : ∀ i : Fin 4001, ((toString ((i.val : Int) - 2000) : String) : Str).length ≤ 5 := by decide +kernel
theorem Rp.int {i : Int} (h1 : -2000 ≤ i) (h2 : i ≤ 2000) : Rp 5 0 (.int i) := by
  refine ⟨rfl, ?_, Nat.le_refl _, ?_⟩
  · have : i.natAbs.log2 ≤ 2000 := Nat.le_trans (Nat.log2_le_self _) (by omega)
    have : i.natAbs.log2 < 11 := by
      by_cases h : i.natAbs = 0
      · rw [h]; decide
      · exact (Nat.log2_lt h).mpr (by omega)
    show decide (i.natAbs.log2 < 1920) = true
    exact decide_eq_true (by omega)
  · have := int_len ⟨(i + 2000).toNat, by omega⟩
    have e : (((i + 2000).toNat : Int) - 2000) = i := by omega
    simp only [e] at this
    exact this
theorem Rp.bool {b : Bool} : Rp 5 0 (.bool b) := ⟨rfl, rfl, Nat.le_refl _, by cases b <;> decide⟩
theorem Rp.none : Rp 5 0 .none := ⟨rfl, rfl, Nat.le_refl _, by decide⟩
theorem Rp.mono {k h k' h' : Nat} {d : D} (r : Rp k h d) (hk : k ≤ k') (hh : h ≤ h') : Rp k' h' d := ⟨r.nod, r.shw, Nat.le_trans r.deep hh, Nat.le_trans r.len hk⟩
theorem shownAll_map : ∀ l : List D, PyData.shownAll l = l.map PyData.shown
  | [] => rfl
  | x :: l => by rw [PyData.shownAll, shownAll_map l]; rfl
theorem showableAll_of : ∀ {l : List D}, (∀ x ∈ l, x.showable = true) → PyData.showableAll l = true
  | [], _ => rfl
  | x :: l, h => by rw [PyData.showableAll, h x (by simp), showableAll_of fun y hy => h y (by simp [hy])]; rfl
theorem depthAll_of : ∀ {l : List D} {k : Nat}, (∀ x ∈ l, x.depth ≤ k) → PyData.depthAll l ≤ k
  | [], _, _ => Nat.zero_le _
  | x :: l, k, h => by
    rw [PyData.depthAll]
    exact Nat.max_le.mpr ⟨h x (by simp), depthAll_of fun y hy => h y (by simp [hy])⟩
theorem piled_of : ∀ {l : List D} {k : Nat}, (∀ x ∈ l, x.shown.length ≤ k) → piled (l.map PyData.shown) ≤ l.length * (k + 2)
  | [], _, _ => Nat.zero_le _
  | x :: l, k, h => by
    rw [List.map_cons, piled_cons, List.length_cons, Nat.succ_mul]
    have h1 := h x (by simp)
    have h2 := piled_of (l := l) (k := k) fun y hy => h y (by simp [hy])
    omega
theorem listText_le (ts : List Str) : (listText ts).length ≤ piled ts + 2 := by
  unfold listText
  rw [strLen_append]
  have e1 : (("]" : String) : Str).length = 1 := rfl
  have e2 : (("[" : String) : Str).length = 1 := rfl
  cases ts with
  | nil => decide
  | cons t r =>
    show (textFrom 1 _ r).length + _ ≤ _
    rw [textFrom_length_pos r 1 _ (by decide), strLen_append, strLen_append, piled_cons, e1]
    show (("[" : String) : Str).length + 0 + t.length + piled r + 1 ≤ _
    omega
theorem tupleText_le (ts : List Str) : (tupleText ts).length ≤ piled ts + 3 := by
  unfold tupleText
  rw [strLen_append, strLen_append]
  have e1 : ((("(" : String) : Str)).length = 1 := rfl
  have e3 : (((if ts.length == 1 then ",)" else ")" : String) : Str)).length ≤ 2 := by split <;> decide
  have e4 : (Str.join ", " ts).length ≤ piled ts := by
    by_cases h : ts = []
    · subst h; decide
    · have := join_length_add ts h; omega
  omega
theorem Rp.list {k h m : Nat} {l : List D} (g : ∀ x ∈ l, Rp k h x) (hm : l.length ≤ m) : Rp (m * (k + 2) + 3) (h + 1) (.list l) := by
  refine ⟨nd_list.mpr fun x hx => (g x hx).nod, ?_, ?_, ?_⟩
  · rw [PyData.showable]; exact showableAll_of fun x hx => (g x hx).shw
  · rw [PyData.depth]; exact Nat.succ_le_succ (depthAll_of fun x hx => (g x hx).deep)
  · rw [PyData.shown, shownAll_map]
    have h1 := listText_le (l.map PyData.shown)
    have h2 := piled_of (l := l) (k := k) fun x hx => (g x hx).len
    have h3 := Nat.mul_le_mul_right (k + 2) hm
    omega
theorem Rp.tuple {k h m : Nat} {l : List D} (g : ∀ x ∈ l, Rp k h x) (hm : l.length ≤ m) : Rp (m * (k + 2) + 3) (h + 1) (.tuple l) := by
  refine ⟨nd_tuple.mpr fun x hx => (g x hx).nod, ?_, ?_, ?_⟩
  · rw [PyData.showable]; exact showableAll_of fun x hx => (g x hx).shw
  · rw [PyData.depth]; exact Nat.succ_le_succ (depthAll_of fun x hx => (g x hx).deep)
  · rw [PyData.shown, shownAll_map]
    have h1 := tupleText_le (l.map PyData.shown)
    have h2 := piled_of (l := l) (k := k) fun x hx => (g x hx).len
    have h3 := Nat.mul_le_mul_right (k + 2) hm
    omega
theorem Rp.ok {k h : Nat} {d : D} (r : Rp k h d) (hk : k ≤ 16777216) (hh : h ≤ 64) : reprOk d = true := by
  unfold reprOk
  rw [nd_notD r.nod, r.shw, decide_eq_true (Nat.le_trans r.deep hh), decide_eq_true (le_sz.mpr (Nat.le_trans r.len hk))]
  rfl
theorem Rp.pt {p : List Int} {m : Nat} (hp : p.length ≤ m) (h : ∀ x ∈ p, -2000 ≤ x ∧ x ≤ 2000) : Rp (m * 7 + 3) 1 (ptD p) := Rp.tuple (fun x hx => by
  obtain ⟨i, hi, rfl⟩ := List.mem_map.mp hx
  exact Rp.int (h i hi).1 (h i hi).2) (by simpa using hp)
/-! == -/
theorem eqOk_of {d e : D} (h1 : nd d) (h2 : nd e) (h3 : d.depth ≤ 64) : eqOk d e = true := by
  unfold eqOk
  rw [nd_notD h1, nd_notD h2, decide_eq_true (by omega)]
  rfl
mutual
theorem eqv_nd : ∀ d : D, nd d → PyData.eqv d d = true
  | .none, _ => rfl
  | .bool b, _ => by simp [PyData.eqv]
  | .int i, _ => by simp [PyData.eqv]
  | .str x, _ => by simp [PyData.eqv]
  | .list xs, h => by rw [PyData.eqv]; exact eqvAll_nd xs (nd_list.mp h)
  | .tuple xs, h => by rw [PyData.eqv]; exact eqvAll_nd xs (nd_tuple.mp h)
  | .dict _, h => (nd_dict h).elim
theorem eqvAll_nd : ∀ xs : List D, (∀ x ∈ xs, nd x) → PyData.eqvAll xs xs = true
  | [], _ => rfl
  | x :: xs, h => by rw [PyData.eqvAll, eqv_nd x (h x (by simp)), eqvAll_nd xs fun y hy => h y (by simp [hy])]; rfl
end
/-- a thing is equal to itself -/
theorem eq_self {d : D} (h : nd d) (h3 : d.depth ≤ 64) : cmpop .eq d d = .ok true := by rw [cmp_eq, if_pos (eqOk_of h h h3), eqv_nd d h]
theorem ne_self {d : D} (h : nd d) (h3 : d.depth ≤ 64) : cmpop .ne d d = .ok false := by rw [cmp_ne, if_pos (eqOk_of h h h3), eqv_nd d h]; rfl
theorem Rp.eq {k h : Nat} {d : D} (r : Rp k h d) (hh : h ≤ 64) : cmpop .eq d d = .ok true := eq_self r.nod (Nat.le_trans r.deep hh)
theorem Rp.ne {k h : Nat} {d : D} (r : Rp k h d) (hh : h ≤ 64) : cmpop .ne d d = .ok false := ne_self r.nod (Nat.le_trans r.deep hh)
@[simp] theorem eq_str {x : Str} : cmpop .eq (.str x) (.str x) = .ok true := eq_self rfl (Nat.zero_le _)
@[simp] theorem ne_str {x : Str} : cmpop .ne (.str x) (.str x) = .ok false := ne_self rfl (Nat.zero_le _)
theorem eqOk_nil {l : List D} : eqOk (.list l) (.list []) = true := by
  unfold eqOk
  have : PyData.depth (.list []) = 1 := rfl
  rw [decide_eq_true (by omega)]
  rfl
/-- is it empty? -/
@[simp] theorem eq_nil {l : List D} : cmpop .eq (.list l) (.list []) = .ok l.isEmpty := by
  rw [cmp_eq, if_pos eqOk_nil]
  cases l <;> rfl
@[simp] theorem ne_nil {l : List D} : cmpop .ne (.list l) (.list []) = .ok (!l.isEmpty) := by
  rw [cmp_ne, if_pos eqOk_nil]
  cases l <;> rfl
@[simp] theorem eq_boolD {b c : Bool} : cmpop .eq (.bool b) (.bool c) = .ok (b == c) := by
  rw [cmp_eq, if_pos (show eqOk (.bool b) (.bool c) = true from rfl), PyData.eqv]
@[simp] theorem ne_boolD {b c : Bool} : cmpop .ne (.bool b) (.bool c) = .ok (!(b == c)) := by
  rw [cmp_ne, if_pos (show eqOk (.bool b) (.bool c) = true from rfl), PyData.eqv]
theorem nd_intsL {l : List Int} : nd (.list (intsD l)) := nd_list.mpr nd_ints
theorem depth_ints {l : List Int} : PyData.depthAll (intsD l) ≤ 0 := depthAll_of fun x hx => by
  obtain ⟨i, _, rfl⟩ := List.mem_map.mp hx
  exact Nat.le_refl _
theorem eq_ints {l : List Int} : cmpop .eq (.list (intsD l)) (.list (intsD l)) = .ok true := eq_self nd_intsL (by rw [PyData.depth]; have := depth_ints (l := l); omega)
theorem ne_ints {l : List Int} : cmpop .ne (.list (intsD l)) (.list (intsD l)) = .ok false := ne_self nd_intsL (by rw [PyData.depth]; have := depth_ints (l := l); omega)
end Nm
set_option Elab.async false
set_option maxRecDepth 100000
set_option linter.all false
/-! The law's own cells and meetings. -/
namespace Nm
open PySem L2
/-- one of many, by a digit -/
theorem c57 (n : Nat) (p : Int) (xs : List D) (h : 0 < xs.length) (h2 : xs.length < 2 ^ 100) : Ok (callN ft (n + 2) 57 [⟨true, pileD p⟩, ⟨false, .list xs⟩]) fun o => ∃ (d : D) (p' : Int), o = ⟨false, d, [some ⟨true, pileD p'⟩, none]⟩ ∧ d ∈ xs := by
  refine Ok.by_ fun Q hQ => ?_
  have e3 := c3 n p xs.length (by omega) (by omega)
  rw [run57]
  simp [fd57, e3]
  refine Ok_pick rfl (by omega) fun d hd => ?_
  simp
  exact Ok.ok (hQ _ ⟨d, _, rfl, hd⟩)
theorem div_sub_mod {m s : Int} (h : 0 < s) : (m - m % s) / s = m / s := by
  have : m - m % s = s * (m / s) := by have := Int.emod_add_mul_ediv m s; omega
  rw [this, Int.mul_ediv_cancel_left _ (by omega)]
theorem cellOf_len {g : Grid} {p : List Int} (h1 : g.sizes.length = p.length) (h2 : g.shifts.length = p.length) : (cellOf g p).length = p.length := by
  simp [cellOf, h1, h2]
theorem cellOf_get {g : Grid} {p : List Int} (h1 : g.sizes.length = p.length) (h2 : g.shifts.length = p.length) {i : Nat} (hi : i < p.length) : (cellOf g p)[i]? = some ((nth p i - nth g.shifts i) / nth g.sizes i) := by
  unfold cellOf
  rw [List.getElem?_map, List.getElem?_eq_getElem (by simp [h1, h2]; exact hi)]
  simp [nth_get hi, nth_get (show i < g.sizes.length by omega), nth_get (show i < g.shifts.length by omega)]
theorem c38 (n : Nat) {g : Grid} {p : List Int} (h : ∀ x ∈ g.sizes, 1 ≤ x ∧ x ≤ 60) (h1 : g.sizes.length = p.length) (h2 : g.shifts.length = p.length) (h3 : p.length ≤ 1000) : callN ft (n + 1) 38 [⟨false, gridD g⟩, ⟨false, ptD p⟩] = .ok ⟨false, ptD (cellOf g p), [none, none]⟩ := by
  suffices t : Ok (callN ft (n + 1) 38 [⟨false, gridD g⟩, ⟨false, ptD p⟩]) fun o => o = ⟨false, ptD (cellOf g p), [none, none]⟩ by
    obtain ⟨_, e, rfl⟩ := t; exact e
  refine Ok.by_ fun Q hQ => ?_
  rw [run38]
  simp -implicitDefEqProofs only [fd38, enterN_cons, enterN_nil, slotsN_s, slotsN_0, List.length_cons, List.length_nil, Nat.reduceAdd, if_true]
  rw [evSs_cons']; generalize hK : evSs ft _ _ _ = K; simp -implicitDefEqProofs; subst hK
  rw [evSs_cons']; generalize hK : evSs ft _ _ [Sm.ret _] = K
  simp -implicitDefEqProofs only [evS_for, evI_rng, evEs_cons, evEs_nil, evE_bi, evE_var, List.getElem?_cons_succ, List.getElem?_cons_zero, bind_ok, fetchs_cons, fetchs_nil, fetch_v, bi_lenT, rngS1, tgOk_nm, List.contains_eq_mem]
  rw [if_pos (by simp; omega)]
  simp -implicitDefEqProofs only [bind_ok]
  rw [if_pos (by decide), rangeL_0' (by omega), thenF_bindR]
  refine Ok.bind (loopF_ok (Q := fun q => ∃ v3 v4, q = (.nx, [some ⟨false, gridD g⟩, some ⟨false, ptD p⟩, some ⟨true, .list (intsD (cellOf g p))⟩, v3, v4]))
    (fun i e => ∃ v3 v4, e = [some ⟨false, gridD g⟩, some ⟨false, ptD p⟩, some ⟨true, .list (intsD ((cellOf g p).take i))⟩, v3, v4]) ⟨none, none, rfl⟩ ?_ ?_) ?_
  · rintro i hi _ ⟨v3, v4, rfl⟩
    have hi : i < p.length := by simpa using hi
    rw [List.getElem_range]
    refine Ok.by_ fun Q hQ => ?_
    have q1 := h _ (nth_mem (show i < g.sizes.length by omega))
    have q0 : 0 < nth g.sizes i := by omega
    have q2 : (nth g.sizes i).natAbs < bigN := bigN_of (i := nth g.sizes i) (by omega) (by omega)
    have a1 : atI (intsD p) (i : Int) = _ := atI_nth hi
    have a2 : atI (intsD g.sizes) (i : Int) = _ := atI_nth (show i < g.sizes.length by omega)
    have a3 : atI (intsD g.shifts) (i : Int) = _ := atI_nth (show i < g.shifts.length by omega)
    have hl : min i (cellOf g p).length < 16777216 := by omega
    simp -implicitDefEqProofs [grid_ix0, grid_ix1, a1, a2, a3, q0, q2, hl, div_sub_mod q0]
    exact Ok.ok (hQ _ ⟨some ⟨false, .int i⟩, some ⟨false, .int (nth p i - nth g.shifts i)⟩, by simp [List.take_add_one, cellOf_get h1 h2 hi]⟩)
  · rintro _ ⟨v3, v4, rfl⟩
    refine ⟨v3, v4, ?_⟩
    rw [List.take_of_length_le (by rw [cellOf_len h1 h2]; simp)]
  rintro _ ⟨v3, v4, rfl⟩
  simp -implicitDefEqProofs only [thenF_nx, bind_ok]
  subst hK
  simp -implicitDefEqProofs
  exact Ok.ok (hQ _ rfl)
/-- the numbers of those of the first i that pass -/
def idxs {α : Type} (c : α → Bool) (l : List α) : List Int := (l.zipIdx.filter fun t => c t.1).map fun t => (t.2 : Int)
theorem meetsL_idxs {r : Rule} {p q : List Int} : meetsL r p q = idxs (fun g => meetsIn g p q) r.grids := rfl
theorem idxs_succ {α : Type} {c : α → Bool} {l : List α} {i : Nat} (hi : i < l.length) : idxs c (l.take (i + 1)) = idxs c (l.take i) ++ if c l[i] = true then [(i : Int)] else [] := by
  unfold idxs
  rw [List.take_add_one, List.getElem?_eq_getElem hi]
  simp only [Option.toList_some, List.zipIdx_append, List.filter_append, List.map_append]
  congr 1
  simp only [List.zipIdx_cons, List.zipIdx_nil, List.length_take, Nat.min_eq_left (Nat.le_of_lt hi)]
  cases h : c l[i] <;> simp -implicitDefEqProofs [h, Nat.min_eq_left (Nat.le_of_lt hi)]
theorem idxs_len {α : Type} {c : α → Bool} {l : List α} : (idxs c l).length ≤ l.length := by
  unfold idxs
  rw [List.length_map]
  have := List.length_filter_le (fun t : α × Nat => c t.1) l.zipIdx
  rwa [List.length_zipIdx] at this
theorem meets_far {a b : List Int} {n : Int} (h : a.length = b.length) : (∀ i, i < a.length → (if nth a i - nth b i < 0 then -(nth a i - nth b i) else nth a i - nth b i) ≤ n) ↔ ((a.zip b).all fun t => decide ((if t.1 - t.2 < 0 then -(t.1 - t.2) else t.1 - t.2) ≤ n)) = true := by
  simp only [List.all_eq_true, decide_eq_true_eq]
  constructor
  · intro g t ht
    obtain ⟨i, hi, rfl⟩ := List.mem_iff_getElem.mp ht
    have hi' : i < a.length := by simp at hi; omega
    have := g i hi'
    rw [nth_get hi', nth_get (show i < b.length by omega)] at this
    simp only [List.getElem_zip]
    exact this
  · intro g i hi
    have := g (a[i], b[i]) (List.mem_iff_getElem.mpr ⟨i, by simp; omega, by simp⟩)
    rw [nth_get hi, nth_get (show i < b.length by omega)]
    simpa only using this
theorem c39 (n : Nat) {r : Rule} {p q : List Int} (h : RuleOk r) (hp : (p.length : Int) = r.sides) (hq : (q.length : Int) = r.sides) : callN ft (n + 2) 39 [⟨false, ruleD r⟩, ⟨false, ptD p⟩, ⟨false, ptD q⟩] = .ok ⟨true, .list (intsD (meetsL r p q)), [none, none, none]⟩ := by
  suffices t : Ok (callN ft (n + 2) 39 [⟨false, ruleD r⟩, ⟨false, ptD p⟩, ⟨false, ptD q⟩]) fun o => o = ⟨true, .list (intsD (meetsL r p q)), [none, none, none]⟩ by
    obtain ⟨_, e, rfl⟩ := t; exact e
  refine Ok.by_ fun Q hQ => ?_
  have hlen := h.some_
  have hsd := h.sides
  rw [run39]
  simp -implicitDefEqProofs only [fd39, enterN_cons, enterN_nil, slotsN_s, slotsN_0, List.length_cons, List.length_nil, Nat.reduceAdd, if_true]
  rw [evSs_cons']; generalize hK : evSs ft _ _ _ = K; simp -implicitDefEqProofs; subst hK
  rw [evSs_cons']; generalize hK : evSs ft _ _ [Sm.ret _] = K
  simp -implicitDefEqProofs only [evS_for, evI_rng, evEs_cons, evEs_nil, evE_bi, evE_ix, evE_cst, evE_var, List.getElem?_cons_succ, List.getElem?_cons_zero, bind_ok, fetchs_cons, fetchs_nil, fetch_v, rule_ix1, bi_lenT, rngS1, tgOk_nm, List.contains_eq_mem]
  rw [if_pos (by simp; omega)]
  simp -implicitDefEqProofs only [bind_ok]
  rw [if_pos (by decide), rangeL_0' (by omega), thenF_bindR]
  refine Ok.bind (loopF_ok (Q := fun u => ∃ v4 v5 v6 v7, u = (.nx, [some ⟨false, ruleD r⟩, some ⟨false, ptD p⟩, some ⟨false, ptD q⟩, some ⟨true, .list (intsD (meetsL r p q))⟩, v4, v5, v6, v7, none]))
    (fun i e => ∃ v4 v5 v6 v7, e = [some ⟨false, ruleD r⟩, some ⟨false, ptD p⟩, some ⟨false, ptD q⟩, some ⟨true, .list (intsD (idxs (fun g => meetsIn g p q) (r.grids.take i)))⟩, v4, v5, v6, v7, none]) ⟨none, none, none, none, rfl⟩ ?_ ?_) ?_
  · rintro i hi _ ⟨v4, v5, v6, v7, rfl⟩
    have hi : i < r.grids.length := by simpa using hi
    rw [List.getElem_range]
    refine Ok.by_ fun Q hQ => ?_
    obtain ⟨g, hg⟩ : ∃ g, r.grids[i] = g := ⟨_, rfl⟩
    have hgo := h.grids g (by rw [← hg]; exact List.getElem_mem hi)
    have gs := hgo.sizes
    have gh := hgo.shifts
    have a1 : atI (r.grids.map gridD) (i : Int) = some (gridD g) := by rw [atI_map', atI_lt hi, hg]; rfl
    have e1 := c38 n (p := p) hgo.size (by omega) (by omega) (by omega)
    have e2 := c38 n (p := q) hgo.size (by omega) (by omega) (by omega)
    have l1 := cellOf_len (g := g) (p := p) (by omega) (by omega)
    have l2 := cellOf_len (g := g) (p := q) (by omega) (by omega)
    have hl := idxs_len (c := fun g => meetsIn g p q) (l := r.grids.take i)
    have hl' : (r.grids.take i).length ≤ 12 := by rw [List.length_take]; omega
    have hsm : (idxs (fun g => meetsIn g p q) (r.grids.take i)).length < 16777216 := by omega
    have hpl : (p.length : Int) ≤ 16777216 ∧ -4611686018427387904 ≤ (p.length : Int) ∧ (p.length : Int) < 4611686018427387904 := by omega
    have hm : _ ↔ meetsIn g p q = true := meets_far (n := g.reach) (a := cellOf g p) (b := cellOf g q) (by omega)
    rw [l1] at hm
    have hpos := rangeL_0' (show (0 : Int) ≤ p.length by omega)
    rw [show ((p.length : Int)).toNat = p.length by omega] at hpos
    generalize hC : (Ex.comp _ _ _ _ _) = C
    simp -implicitDefEqProofs [rule_ix1, a1, e1, e2]
    subst hC
    simp -implicitDefEqProofs [hpl, hpos]
    rw [runC_filter (fun i => decide (g.reach < if nth (cellOf g p) i - nth (cellOf g q) i < 0 then -(nth (cellOf g p) i - nth (cellOf g q) i) else nth (cellOf g p) i - nth (cellOf g q) i)) (fun i => .int (i : Int)) (fun a ha => by
      have ha : a < p.length := by simpa using ha
      have u1 : atI (intsD (cellOf g p)) (a : Int) = _ := atI_nth (show a < (cellOf g p).length by omega)
      have u2 : atI (intsD (cellOf g q)) (a : Int) = _ := atI_nth (show a < (cellOf g q).length by omega)
      by_cases hh : g.reach < if nth (cellOf g p) a - nth (cellOf g q) a < 0 then -(nth (cellOf g p) a - nth (cellOf g q) a) else nth (cellOf g p) a - nth (cellOf g q) a <;> simp -implicitDefEqProofs [turnC, u1, u2, grid_ix2, hh])]
    have hs := idxs_succ (c := fun g => meetsIn g p q) hi
    rw [hg] at hs
    simp -implicitDefEqProofs [hm]
    cases hc : meetsIn g p q <;> rw [hc] at hs <;> simp at hs <;> simp -implicitDefEqProofs [hsm]
    · exact Ok.ok (hQ _ ⟨_, _, _, _, by rw [hs]⟩)
    · exact Ok.ok (hQ _ ⟨_, _, _, _, by rw [hs]; simp; exact ⟨rfl, rfl, rfl, rfl⟩⟩)
  · rintro _ ⟨v4, v5, v6, v7, rfl⟩
    refine ⟨v4, v5, v6, v7, ?_⟩
    rw [List.take_of_length_le (by simp)]
    rfl
  rintro _ ⟨v4, v5, v6, v7, rfl⟩
  simp -implicitDefEqProofs only [thenF_nx, bind_ok]
  subst hK
  simp -implicitDefEqProofs
  exact Ok.ok (hQ _ rfl)
end Nm
set_option Elab.async false
set_option maxRecDepth 100000
set_option linter.all false
/-! learning.py: rules left; the law on it. -/
namespace Nm
open PySem L2
structure Pair where
  p : List Int
  q : List Int
  t : Bool
def pairD (x : Pair) : D := .tuple [ptD x.p, ptD x.q, .bool x.t]
structure PairOk (s : Int) (x : Pair) : Prop where
  p : (x.p.length : Int) = s
  q : (x.q.length : Int) = s
structure RulesOk (s : Int) (rs : List Rule) : Prop where
  some_ : 0 < rs.length
  ok : ∀ r ∈ rs, RuleOk r ∧ r.sides = s
/-- a list or a tuple -/
def sqD (b : Bool) (l : List D) : D := if b = true then .list l else .tuple l
theorem nd_pair {x : Pair} : nd (pairD x) := nd_tuple.mpr (by simp; exact ⟨nd_pt, nd_pt, rfl⟩)
@[simp] theorem notD_pair {x : Pair} : notD (pairD x) = true := rfl
@[simp] theorem notD_rule {x : Rule} : notD (ruleD x) = true := rfl
@[simp] theorem notD_grid {x : Grid} : notD (gridD x) = true := rfl
theorem pair_ix0 {x : Pair} : getix (pairD x) (.int 0) = .ok (.v false (ptD x.p)) := by simp [pairD]
theorem pair_ix1 {x : Pair} : getix (pairD x) (.int 1) = .ok (.v false (ptD x.q)) := by simp [pairD]
theorem pair_ix2 {x : Pair} : getix (pairD x) (.int 2) = .ok (.v false (.bool x.t)) := by simp [pairD]
theorem boolsT {α : Type} {l : List α} : boolsOf (l.map fun _ => PyData.bool true) = .ok (l.map fun _ => true) := boolsOf_map
theorem allT {α : Type} {l : List α} : (l.map fun _ => true).all id = true := by simp
theorem bi_allM {α : Type} {l : List α} {c : α → Bool} : biop .all [.list (l.map fun x => .bool (c x))] = .ok (.v false (.bool (l.all c))) := by
  rw [bi_all, boolsOf_map, bind_ok, List.all_map]; rfl
theorem c231 (n : Nat) (b : Bool) {s : Int} {rs : List Rule} (h : RulesOk s rs) : callN ft (n + 5) 231 [⟨false, sqD b (rs.map ruleD)⟩] = .ok ⟨false, .none, [none]⟩ := by
  have h0 := h.some_
  have a0 : atI (rs.map ruleD) 0 = some (ruleD rs[0]) := by
    have := atI_lt (xs := rs.map ruleD) (i := 0) (by simpa using h0)
    simpa using this
  have hne : rs ≠ [] := by intro e; subst e; simp at h0
  have s0 := (h.ok rs[0] (List.getElem_mem h0)).2
  have e11 : ∀ a ∈ rs, callN ft (n + 4) 11 [⟨false, ruleD a⟩] = .ok ⟨false, .bool true, [none]⟩ := fun a ha => by rw [c11 n _ nd_rule, isRule_ok (h.ok a ha).1]
  rw [run231]
  cases b <;> simp -implicitDefEqProofs [fd231, sqD, isTy, hne]
  all_goals
    rw [runC_map (fun _ => .bool true) (fun r hr => by simp -implicitDefEqProofs [turnC, e11 r hr])]
    simp -implicitDefEqProofs [boolsT]
    rw [runC_map (fun _ => .bool true) (fun r hr => by simp -implicitDefEqProofs [turnC, rule_ix0, a0, (h.ok r hr).2, s0])]
    simp -implicitDefEqProofs [boolsT]
theorem c232 (n : Nat) {s : Int} {x : Pair} (h : PairOk s x) : callN ft (n + 3) 232 [⟨false, .int s⟩, ⟨false, pairD x⟩] = .ok ⟨false, .bool true, [none, none]⟩ := by
  have e1 := c9 n (ptD x.p) s nd_pt
  have e2 := c9 n (ptD x.q) s nd_pt
  rw [isPt_pt, decide_eq_true h.p] at e1
  rw [isPt_pt, decide_eq_true h.q] at e2
  rw [run232]
  simp -implicitDefEqProofs [fd232, pairD, isTy, e1, e2]
theorem c233 (n : Nat) (b c : Bool) {s : Int} {rs : List Rule} {l : List Pair} (h : RulesOk s rs) (hl : ∀ x ∈ l, PairOk s x) : callN ft (n + 4) 233 [⟨false, sqD b (rs.map ruleD)⟩, ⟨false, sqD c (l.map pairD)⟩] = .ok ⟨false, .none, [none, none]⟩ := by
  have h0 := h.some_
  have a0 : atI (rs.map ruleD) 0 = some (ruleD rs[0]) := by
    have := atI_lt (xs := rs.map ruleD) (i := 0) (by simpa using h0)
    simpa using this
  have s0 := (h.ok rs[0] (List.getElem_mem h0)).2
  have e := fun x hx => c232 n (hl x hx)
  rw [run233]
  cases b <;> cases c <;> simp -implicitDefEqProofs [fd233, sqD, isTy]
  all_goals
    rw [runC_map (fun _ => .bool true) (fun x hx => by simp -implicitDefEqProofs [turnC, a0, rule_ix0, s0, e x hx])]
    simp -implicitDefEqProofs [boolsT]
/-- whether a rule tells a pair as told -/
def tells (r : Rule) (x : Pair) : Bool := (!(meetsL r x.p x.q).isEmpty) == x.t
theorem c234 (n : Nat) {r : Rule} {x : Pair} (h : RuleOk r) : callN ft (n + 4) 234 [⟨false, ruleD r⟩, ⟨false, pairD x⟩] = .ok ⟨false, .bool (tells r x), [none, none]⟩ := by
  have e := c30 n x.p x.q h
  rw [run234]
  simp -implicitDefEqProofs [fd234, pair_ix0, pair_ix1, pair_ix2, e, tells]
def leftL (rs : List Rule) (l : List Pair) : List Int := idxs (fun r => l.all (tells r)) rs
theorem c235 (n : Nat) (b c : Bool) {rs : List Rule} {l : List Pair} (h : ∀ r ∈ rs, RuleOk r) : callN ft (n + 5) 235 [⟨false, sqD b (rs.map ruleD)⟩, ⟨false, sqD c (l.map pairD)⟩] = .ok ⟨true, .list (intsD (leftL rs l)), [none, none]⟩ := by
  rw [run235]
  cases b <;> cases c <;> simp -implicitDefEqProofs [fd235, sqD]
  all_goals
    rw [enumL_map0, runC_filter (fun t => l.all (tells t.1)) (fun t => .int (t.2 : Int)) (fun t ht => by
      have hg : RuleOk t.1 := by
        have := List.mem_zipIdx ht
        simp at this
        exact h _ (List.mem_iff_getElem.mpr ⟨t.2, this.1, this.2.symm⟩)
      have e := fun x => c234 n (x := x) hg
      simp -implicitDefEqProofs [turnC]
      rw [runC_map (fun x => .bool (tells t.1 x)) (fun x hx => by simp -implicitDefEqProofs [turnC, e])]
      simp -implicitDefEqProofs
      by_cases hm : ∃ a, a ∈ l ∧ tells t.1 a = false
      · rw [if_pos hm]
        have hz : ¬ ∀ x ∈ l, tells t.1 x = true := fun g => by obtain ⟨a, h1, h2⟩ := hm; rw [g a h1] at h2; cases h2
        simp -implicitDefEqProofs [eq_false hz]
      · rw [if_neg hm]
        have hz : ∀ x ∈ l, tells t.1 x = true := fun x hx => by
          cases q : tells t.1 x
          · exact absurd ⟨x, hx, q⟩ hm
          · rfl
        simp -implicitDefEqProofs [eq_true hz])]
    simp [leftL, idxs, intsD, List.map_map, Function.comp_def]
theorem c236 (n : Nat) (b c : Bool) {s : Int} {rs : List Rule} {l : List Pair} (h : RulesOk s rs) (hl : ∀ x ∈ l, PairOk s x) : callN ft (n + 6) 236 [⟨false, sqD b (rs.map ruleD)⟩, ⟨false, sqD c (l.map pairD)⟩] = .ok ⟨true, .list (intsD (leftL rs l)), [none, none]⟩ := by
  have e1 := c231 n b h
  have e2 := c233 (n + 1) b c h hl
  have e3 := c235 n b c (l := l) fun r hr => (h.ok r hr).1
  rw [run236]
  simp -implicitDefEqProofs [fd236, e1, e2, e3]
/-- what the law expects -/
theorem c237 (n : Nat) {s : Int} {rs : List Rule} {l : List Pair} (h : RulesOk s rs) (hl : ∀ x ∈ l, PairOk s x) (hn : rs.length ≤ 1000) : callN ft (n + 3) 237 [⟨false, .list (rs.map ruleD)⟩, ⟨false, .list (l.map pairD)⟩] = .ok ⟨true, .list (intsD (leftL rs l)), [none, none]⟩ := by
  suffices t : Ok (callN ft (n + 3) 237 [⟨false, .list (rs.map ruleD)⟩, ⟨false, .list (l.map pairD)⟩]) fun o => o = ⟨true, .list (intsD (leftL rs l)), [none, none]⟩ by
    obtain ⟨_, e, rfl⟩ := t; exact e
  refine Ok.by_ fun Q hQ => ?_
  rw [run237]
  simp -implicitDefEqProofs only [fd237, enterN_cons, enterN_nil, slotsN_s, slotsN_0, List.length_cons, List.length_nil, Nat.reduceAdd, if_true]
  rw [evSs_cons']; generalize hK : evSs ft _ _ _ = K; simp -implicitDefEqProofs; subst hK
  rw [evSs_cons']; generalize hK : evSs ft _ _ [Sm.ret _] = K
  simp -implicitDefEqProofs only [evS_for, evI_rng, evEs_cons, evEs_nil, evE_bi, evE_var, List.getElem?_cons_succ, List.getElem?_cons_zero, bind_ok, fetchs_cons, fetchs_nil, fetch_v, bi_len, rngS1, tgOk_nm, List.contains_eq_mem]
  rw [if_pos (by simp; omega)]
  simp -implicitDefEqProofs only [bind_ok]
  rw [if_pos (by decide), rangeL_0' (by omega), thenF_bindR]
  refine Ok.bind (loopF_ok (Q := fun u => ∃ v3 v4, u = (.nx, [some ⟨false, .list (rs.map ruleD)⟩, some ⟨false, .list (l.map pairD)⟩, some ⟨true, .list (intsD (leftL rs l))⟩, v3, v4, none]))
    (fun i e => ∃ v3 v4, e = [some ⟨false, .list (rs.map ruleD)⟩, some ⟨false, .list (l.map pairD)⟩, some ⟨true, .list (intsD (leftL (rs.take i) l))⟩, v3, v4, none]) ⟨none, none, rfl⟩ ?_ ?_) ?_
  · rintro i hi _ ⟨v3, v4, rfl⟩
    have hi : i < rs.length := by simpa using hi
    rw [List.getElem_range]
    refine Ok.by_ fun Q hQ => ?_
    obtain ⟨r, hg⟩ : ∃ r, rs[i] = r := ⟨_, rfl⟩
    have hro := h.ok r (by rw [← hg]; exact List.getElem_mem hi)
    have a1 : atI (rs.map ruleD) (i : Int) = some (ruleD r) := by rw [atI_map', atI_lt hi, hg]; rfl
    have e := fun x hx => c39 n (r := r) hro.1 (by rw [hro.2]; exact (hl x hx).p) (by rw [hro.2]; exact (hl x hx).q)
    have hsm : (leftL (rs.take i) l).length < 16777216 := by
      have h1 : (leftL (rs.take i) l).length ≤ (rs.take i).length := idxs_len
      rw [List.length_take] at h1
      omega
    have hs : leftL (rs.take (i + 1)) l = _ := idxs_succ (c := fun r => l.all (tells r)) hi
    rw [hg] at hs
    have hs : leftL (rs.take (i + 1)) l = leftL (rs.take i) l ++ if l.all (tells r) = true then [(i : Int)] else [] := hs
    generalize hT : (Sm.ife _ _ _) = T
    simp -implicitDefEqProofs
    rw [runC_filter (fun x => !tells r x) pairD (fun x hx => by
      cases hm : (meetsL r x.p x.q).isEmpty <;> cases ht : x.t <;> simp at hm <;> simp -implicitDefEqProofs [turnC, a1, pair_ix0, pair_ix1, pair_ix2, e x hx, tells, hm, ht])]
    simp -implicitDefEqProofs
    subst hT
    simp -implicitDefEqProofs
    by_cases hm : ∀ x ∈ l, tells r x = true
    · have hz : l.all (tells r) = true := by simpa using hm
      rw [hz] at hs
      simp -implicitDefEqProofs [eq_true hm, hsm]
      exact Ok.ok (hQ _ ⟨some ⟨false, .int i⟩, some ⟨true, .list ((l.filter fun x => !tells r x).map pairD)⟩, by rw [hs]; simp⟩)
    · have hz : l.all (tells r) = false := by
        cases q : l.all (tells r)
        · rfl
        · exact absurd (by simpa using q) hm
      rw [hz] at hs
      simp at hs
      simp -implicitDefEqProofs [eq_false hm]
      exact Ok.ok (hQ _ ⟨some ⟨false, .int i⟩, some ⟨true, .list ((l.filter fun x => !tells r x).map pairD)⟩, by rw [hs]⟩)
  · rintro _ ⟨v3, v4, rfl⟩
    refine ⟨v3, v4, ?_⟩
    rw [List.take_of_length_le (by simp)]
  rintro _ ⟨v3, v4, rfl⟩
  simp -implicitDefEqProofs only [thenF_nx, bind_ok]
  subst hK
  simp -implicitDefEqProofs
  exact Ok.ok (hQ _ rfl)
/-- what is asked of one draw -/
theorem c238 (n : Nat) {s : Int} {rs : List Rule} {l : List Pair} (h : RulesOk s rs) (hl : ∀ x ∈ l, PairOk s x) (hn : rs.length ≤ 1000) (hr : reprOk (.list [.list (rs.map ruleD), .list (l.map pairD)]) = true) :
    callN ft (n + 7) 238 [⟨false, .list (rs.map ruleD)⟩, ⟨false, .list (l.map pairD)⟩] = .ok ⟨false, .bool true, [none, none]⟩ := by
  have e1 : callN ft (n + 6) 236 [⟨false, .list (rs.map ruleD)⟩, ⟨false, .list (l.map pairD)⟩] = _ := c236 n true true h hl
  have e2 : callN ft (n + 6) 236 [⟨false, .tuple (rs.map ruleD)⟩, ⟨false, .tuple (l.map pairD)⟩] = _ := c236 n false false h hl
  have e3 := c237 (n + 3) h hl hn
  have hlen : (leftL rs l).length < 16777216 := by
    have h1 : (leftL rs l).length ≤ rs.length := idxs_len
    omega
  rw [run238]
  simp -implicitDefEqProofs only [fd238, enterN_cons, enterN_nil, slotsN_s, slotsN_0, List.length_cons, List.length_nil, Nat.reduceAdd, if_true]
  rw [evSs_cons']; generalize hK : evSs ft _ _ _ = K; simp -implicitDefEqProofs [bi_repr, hr]; subst hK
  rw [evSs_cons']; generalize hK : evSs ft _ _ _ = K; simp -implicitDefEqProofs [e1]; subst hK
  rw [evSs_cons']; generalize hK : evSs ft _ _ _ = K; simp -implicitDefEqProofs [e3, isTy, ne_ints, bi_repr, hr]; subst hK
  rw [evSs_cons']; generalize hK : evSs ft _ _ _ = K
  simp -implicitDefEqProofs
  rw [runC_filter (fun _ => false) (fun i => .int i) (fun i hi => by simp -implicitDefEqProofs [turnC, c7 (n + 5) (.int i) rfl])]
  simp -implicitDefEqProofs; subst hK
  rw [evSs_cons']; generalize hK : evSs ft _ _ _ = K; simp -implicitDefEqProofs [hlen]; subst hK
  rw [evSs_cons']; generalize hK : evSs ft _ _ _ = K; simp -implicitDefEqProofs [e2, e3, eq_ints]
theorem cut_to {xs : List D} {k : Nat} : cutD xs none (some (k : Int)) = xs.take k := by
  unfold cutD
  rw [HT.sIx_none, HT.sIx_nat, List.drop_zero, Nat.sub_zero]
  by_cases h : k ≤ xs.length
  · rw [Nat.min_eq_left h]
  · rw [Nat.min_eq_right (by omega), List.take_of_length_le (Nat.le_refl _), List.take_of_length_le (by omega)]
theorem cut_from {xs : List D} {k : Nat} : cutD xs (some (k : Int)) none = xs.drop k := by
  unfold cutD
  rw [HT.sIx_none, HT.sIx_nat]
  by_cases h : k ≤ xs.length
  · rw [Nat.min_eq_left h, List.take_of_length_le (by simp)]
  · rw [Nat.min_eq_right (by omega), List.drop_of_length_le (Nat.le_refl _), List.drop_of_length_le (by omega)]; simp
/-- a drawn rule, some of it bent -/
structure Bent (s m : Int) (r : Rule) : Prop where
  sides : r.sides = s
  some_ : 1 ≤ r.grids.length ∧ r.grids.length ≤ 6
  grids : ∀ g ∈ r.grids, GridOk s g
  near : ∀ g ∈ r.grids, ∀ x ∈ g.shifts, -20 ≤ x ∧ x ≤ m
theorem Bent.ok {s m : Int} {r : Rule} (h : Bent s m r) (hs : s = 1 ∨ s = 2) : RuleOk r ∧ r.sides = s :=
  ⟨⟨by rw [h.sides]; exact hs, ⟨h.some_.1, by have := h.some_.2; omega⟩, fun g hg => by rw [h.sides]; exact h.grids g hg⟩, h.sides⟩
theorem Bent.mono {s m m' : Int} {r : Rule} (h : Bent s m r) (hm : m ≤ m') : Bent s m' r := ⟨h.sides, h.some_, h.grids, fun g hg x hx => by have := h.near g hg x hx; omega⟩
theorem sizes_in {L : List (List Int)} {zs : List Int} (h : F2 (fun lot x => x ∈ lot) L zs) (g : ∀ lot ∈ L, ∀ y ∈ lot, 1 ≤ y ∧ y ≤ 60) : ∀ x ∈ zs, 1 ≤ x ∧ x ≤ 60 := by
  induction h with
  | nil => intro x hx; cases hx
  | cons p _ ih =>
    intro x hx
    rcases List.mem_cons.mp hx with rfl | hx
    · exact g _ (by simp) _ p
    · exact ih (fun lot hm => g lot (by simp [hm])) x hx
theorem Drawn.bent {s most : Int} {r : Rule} (h : Drawn s most r) (hs : s = 1 ∨ s = 2) (hm : most ≤ 6) : Bent s 100 r := by
  obtain ⟨L, hL, hl, hg⟩ := h.grids
  have h2 := h.some_
  refine ⟨h.sides, by omega, fun g m => ?_, fun g m => (hg g m).near⟩
  have G := hg g m
  refine ⟨?_, ?_, ?_, G.reach⟩
  · rw [← G.sizes.len]; omega
  · rw [G.shifts]; omega
  · exact sizes_in G.sizes fun lot hm => lots_le (hl lot hm)
/-- a drawn pair of points -/
theorem c239 (n : Nat) (p s : Int) (hs : s = 1 ∨ s = 2) : Ok (callN ft (n + 3) 239 [⟨true, pileD p⟩, ⟨false, .int s⟩]) fun o => ∃ (u v : List Int) (p' : Int), o = ⟨false, .tuple [ptD u, ptD v], [some ⟨true, pileD p'⟩, none]⟩ ∧ (u.length : Int) = s ∧ (v.length : Int) = s ∧ (∀ x ∈ u, -30 ≤ x ∧ x ≤ 30) ∧ ∀ x ∈ v, -36 ≤ x ∧ x ≤ 36 := by
  refine Ok.by_ fun Q hQ => ?_
  rw [run239]
  simp -implicitDefEqProofs only [fd239, enterN_cons, enterN_nil, slotsN_s, slotsN_0, List.length_cons, List.length_nil, Nat.reduceAdd, if_true]
  rw [evSs_cons']; generalize hK : evSs ft _ _ _ = K
  simp -implicitDefEqProofs
  refine Ok_call (c16 n p s 30 (by omega) (by omega)) ?_
  rintro _ ⟨u, p, rfl, hu, hu'⟩
  simp -implicitDefEqProofs; subst hK
  rw [evSs_cons']; generalize hK : evSs ft _ _ _ = K
  simp -implicitDefEqProofs [c3]
  by_cases h3 : p % 3 = 0
  · simp -implicitDefEqProofs [h3]
    refine Ok_call (c16 n (p / 3) s 30 (by omega) (by omega)) ?_
    rintro _ ⟨v, p', rfl, hv, hv'⟩
    simp -implicitDefEqProofs
    exact Ok.ok (hQ _ ⟨u, v, p', rfl, by omega, by omega, hu', fun x hx => by have := hv' x hx; omega⟩)
  · simp -implicitDefEqProofs [h3]; subst hK
    simp -implicitDefEqProofs
    have hul : u.length = s.toNat := hu
    refine Ok.bind (runC_ok (f := PyData.int) (fun (p : Int) => [some ⟨true, pileD p⟩, some ⟨false, .int s⟩, some ⟨false, ptD u⟩, none]) (fun _ d => ∃ x, d = .int x ∧ -36 ≤ x ∧ x ≤ 36) (fun a ha p => Ok.by_ fun Q hQ => ?_) _) ?_
    · have := hu' a ha
      simp -implicitDefEqProofs [turnC, c3]
      exact Ok.ok (hQ _ ⟨_, _, rfl, _, rfl, by omega, by omega⟩)
    rintro _ ⟨ds, p', rfl, hds⟩
    obtain ⟨v, rfl, hv⟩ := hds.choose (f := PyData.int) (Q := fun _ x => -36 ≤ x ∧ x ≤ 36) fun _ b ⟨x, e, q⟩ => ⟨x, e, q⟩
    simp -implicitDefEqProofs
    exact Ok.ok (hQ _ ⟨u, v, p', rfl, by omega, by rw [← hv.len]; omega, hu', hv.all fun _ _ q => q⟩)
/-- the cut-out of a rule's grids -/
theorem Bent.at_ {s m m' : Int} {r : Rule} {g : Grid} (h : Bent s m r) (k : Nat) (hk : k < r.grids.length) (hm : m ≤ m') (hg : GridOk s g) (hn : ∀ x ∈ g.shifts, -20 ≤ x ∧ x ≤ m') : Bent s m' ⟨s, r.grids.take k ++ [g] ++ r.grids.drop (k + 1)⟩ := by
  have h1 := h.some_
  have hin : ∀ x ∈ r.grids.take k ++ [g] ++ r.grids.drop (k + 1), x ∈ r.grids ∨ x = g := by
    intro x hx
    simp only [List.mem_append, List.mem_singleton] at hx
    rcases hx with (hx | hx) | hx
    · exact .inl (List.mem_of_mem_take hx)
    · exact .inr hx
    · exact .inl (List.mem_of_mem_drop hx)
  refine ⟨rfl, ?_, fun x hx => ?_, fun x hx y hy => ?_⟩
  · simp only [List.length_append, List.length_take, List.length_drop, List.length_cons, List.length_nil]
    omega
  · rcases hin x hx with hx | rfl
    · exact h.grids x hx
    · exact hg
  · rcases hin x hx with hx | rfl
    · have := h.near x hx y hy; omega
    · exact hn y hy
theorem Bent.more {s m m' : Int} {r : Rule} {g : Grid} (h : Bent s m r) (hg : g ∈ r.grids) (hl : r.grids.length < 6) (hm : m ≤ m') : Bent s m' ⟨s, r.grids ++ [g]⟩ := by
  have h1 := h.some_
  have hin : ∀ x ∈ r.grids ++ [g], x ∈ r.grids := by
    intro x hx
    rcases List.mem_append.mp hx with hx | hx
    · exact hx
    · rw [List.mem_singleton.mp hx]; exact hg
  refine ⟨rfl, ?_, fun x hx => h.grids x (hin x hx), fun x hx y hy => ?_⟩
  · simp only [List.length_append, List.length_cons, List.length_nil]
    omega
  · have := h.near x (hin x hx) y hy; omega
/-- a rule bent a little -/
theorem c240 (n : Nat) (p s m : Int) {r : Rule} (hs : s = 1 ∨ s = 2) (h : Bent s m r) : Ok (callN ft (n + 2) 240 [⟨true, pileD p⟩, ⟨false, ruleD r⟩]) fun o => ∃ (r' : Rule) (p' : Int), o = ⟨false, ruleD r', [some ⟨true, pileD p'⟩, none]⟩ ∧ Bent s (m + 2) r' := by
  refine Ok.by_ fun Q hQ => ?_
  have h1 := h.some_
  have e3 := fun p => c3 (n) p r.grids.length (by omega) (by omega)
  have f1 := Int.emod_nonneg p (show (r.grids.length : Int) ≠ 0 by omega)
  have f2 := Int.emod_lt_of_pos p (show 0 < (r.grids.length : Int) by omega)
  obtain ⟨k, hk⟩ : ∃ k : Nat, p % (r.grids.length : Int) = k := ⟨(p % (r.grids.length : Int)).toNat, by omega⟩
  have hkl : k < r.grids.length := by omega
  obtain ⟨g, hg⟩ : ∃ g, r.grids[k] = g := ⟨_, rfl⟩
  have hgm : g ∈ r.grids := by rw [← hg]; exact List.getElem_mem hkl
  have a1 : atI (r.grids.map gridD) (k : Int) = some (gridD g) := by rw [atI_map', atI_lt hkl, hg]; rfl
  have go := h.grids g hgm
  have gn := h.near g hgm
  have hrD : ruleD r = .tuple [.int s, .tuple (r.grids.map gridD)] := by rw [← h.sides]; rfl
  -- the end, for each new grid
  have fin : ∀ (g' : Grid) (p' : Int) (v3 v6 v7 v8 : Option Sv), GridOk s g' → (∀ x ∈ g'.shifts, -20 ≤ x ∧ x ≤ m + 2) → Ok (evSs ft (callN ft (n + 1)) [0] (fd240.body.drop 5) [some ⟨true, pileD p'⟩, some ⟨false, ruleD r⟩, some ⟨false, .int k⟩, v3, some ⟨false, .int s⟩, some ⟨false, .tuple (r.grids.map gridD)⟩, v6, v7, v8, some ⟨false, gridD g'⟩, none] >>= outR [0] 2) Q := by
    intro g' p' v3 v6 v7 v8 hg1 hg2
    have q := h.at_ k hkl (m' := m + 2) (by omega) hg1 hg2
    have c1 : cutD (r.grids.map gridD) none (some (k : Int)) = (r.grids.take k).map gridD := by rw [cut_to, List.map_take]
    have c2 : cutD (r.grids.map gridD) (some ((k : Int) + 1)) none = (r.grids.drop (k + 1)).map gridD := by
      rw [show (k : Int) + 1 = ((k + 1 : Nat) : Int) by omega, cut_from, List.map_drop]
    have l1 : min k r.grids.length + 1 ≤ 16777216 := by omega
    have l2 : min k r.grids.length + 1 + (r.grids.length - (k + 1)) ≤ 16777216 := by omega
    have l1' : min k r.grids.length ≤ 16777215 := by omega
    simp -implicitDefEqProofs [fd240, c1, c2, l1, l1', l2]
    refine Ok.ok (hQ _ ⟨⟨s, r.grids.take k ++ [g'] ++ r.grids.drop (k + 1)⟩, p', ?_, q⟩)
    simp [ruleD]
  rw [run240, show fd240.body = fd240.body.take 5 ++ fd240.body.drop 5 from rfl, evSs_append]
  generalize fd240.body.drop 5 = T at fin ⊢
  simp -implicitDefEqProofs only [fd240, List.take_succ_cons, List.take_zero, enterN_cons, enterN_nil, slotsN_s, slotsN_0, List.length_cons, List.length_nil, Nat.reduceAdd, if_true]
  rw [evSs_cons']; generalize hK : evSs ft _ _ _ = K; simp -implicitDefEqProofs [hrD]; subst hK
  rw [evSs_cons']; generalize hK : evSs ft _ _ _ = K; simp -implicitDefEqProofs [e3, hk]; subst hK
  rw [evSs_cons']; generalize hK : evSs ft _ _ _ = K; simp -implicitDefEqProofs [a1, gridD]; subst hK
  rw [evSs_cons']; generalize hK : evSs ft _ _ _ = K; simp -implicitDefEqProofs [c3]; subst hK
  generalize p / (r.grids.length : Int) = p
  simp -implicitDefEqProofs only [hrD] at fin
  by_cases w0 : p % 3 = 0
  · simp -implicitDefEqProofs [w0]
    refine Ok.bind (runC_ok (f := PyData.int) (fun (p : Int) => [some ⟨true, pileD p⟩, some ⟨false, .tuple [.int s, .tuple (r.grids.map gridD)]⟩, some ⟨false, .int k⟩, some ⟨false, .int 0⟩, some ⟨false, .int s⟩, some ⟨false, .tuple (r.grids.map gridD)⟩, some ⟨false, ptD g.sizes⟩, some ⟨false, ptD g.shifts⟩, some ⟨false, .int g.reach⟩, none, none]) (fun _ d => ∃ x, d = .int x ∧ -20 ≤ x ∧ x ≤ m + 2) (fun a ha p => Ok.by_ fun Q hQ => ?_) _) ?_
    · have := gn a ha
      simp -implicitDefEqProofs [turnC, c3]
      exact Ok.ok (hQ _ ⟨_, _, rfl, _, rfl, by omega, by omega⟩)
    rintro _ ⟨ds, p', rfl, hds⟩
    obtain ⟨v, rfl, hv⟩ := hds.choose (f := PyData.int) (Q := fun _ x => -20 ≤ x ∧ x ≤ m + 2) fun _ b ⟨x, e, q⟩ => ⟨x, e, q⟩
    simp -implicitDefEqProofs
    have hvl := hv.len
    exact fin ⟨g.sizes, v, g.reach⟩ p' _ _ _ _ ⟨go.sizes, by show (v.length : Int) = s; rw [← hvl]; exact go.shifts, go.size, go.reach⟩ (hv.all fun _ _ q => q)
  · have gn' : ∀ x ∈ g.shifts, -20 ≤ x ∧ x ≤ m + 2 := fun x hx => by have := gn x hx; omega
    by_cases w1 : p % 3 = 1
    · simp -implicitDefEqProofs [w1, c3]
      exact fin ⟨g.sizes, g.shifts, p / 3 % 4⟩ _ _ _ _ _ ⟨go.sizes, go.shifts, go.size, by show 0 ≤ p / 3 % 4 ∧ p / 3 % 4 ≤ 3; omega⟩ gn'
    · by_cases w2 : (r.grids.length : Int) < 6
      · have l1 : r.grids.length + 1 ≤ 16777216 := by omega
        simp -implicitDefEqProofs [w0, w1, w2, a1, l1]
        refine Ok.ok (hQ _ ⟨⟨s, r.grids ++ [g]⟩, p / 3, ?_, h.more hgm (by omega) (by omega)⟩)
        simp [ruleD]
      · simp -implicitDefEqProofs [w0, w1, w2]
        exact fin ⟨g.sizes, g.shifts, 0⟩ _ _ _ _ _ ⟨go.sizes, go.shifts, go.size, by show (0 : Int) ≤ 0 ∧ (0 : Int) ≤ 3; omega⟩ gn'
end Nm
set_option Elab.async false
set_option maxRecDepth 100000
set_option linter.all false
/-! k40: the law itself. -/
namespace Nm
open PySem L2
@[simp] theorem imm_grid {g : Grid} : imm (gridD g) = true := by
  show (imms (intsD g.sizes) && (imms (intsD g.shifts) && (true && true))) = true
  rw [imms_ints, imms_ints]; rfl
theorem imms_map {α : Type} {f : α → D} (h : ∀ a, imm (f a) = true) : ∀ {l : List α}, imms (l.map f) = true
  | [] => rfl
  | a :: l => by
    show (imm (f a) && imms (l.map f)) = true
    rw [h a, imms_map h]; rfl
@[simp] theorem imm_rule {r : Rule} : imm (ruleD r) = true := by
  show (true && (imms (r.grids.map gridD) && true)) = true
  rw [imms_map fun g => imm_grid]; rfl
@[simp] theorem imm_pair {x : Pair} : imm (pairD x) = true := by
  show (imms (intsD x.p) && (imms (intsD x.q) && (true && true))) = true
  rw [imms_ints, imms_ints]; rfl
@[simp] theorem imms_rules {l : List Rule} : imms (l.map ruleD) = true := imms_map fun _ => imm_rule
@[simp] theorem imms_pairs {l : List Pair} : imms (l.map pairD) = true := imms_map fun _ => imm_pair
theorem Rp.grid {s m : Int} {g : Grid} (h : GridOk s g) (hs : s ≤ 2) (hm : m ≤ 1000) (hn : ∀ x ∈ g.shifts, -20 ≤ x ∧ x ≤ m) : Rp 60 2 (gridD g) := by
  have h1 := h.sizes
  have h2 := h.shifts
  have h3 := h.reach
  refine Rp.tuple (k := 17) (h := 1) (m := 3) (fun x hx => ?_) (Nat.le_refl _)
  simp only [List.mem_cons, List.not_mem_nil, or_false] at hx
  rcases hx with rfl | rfl | rfl
  · exact Rp.pt (m := 2) (by omega) fun x hx => by have := h.size x hx; omega
  · exact Rp.pt (m := 2) (by omega) fun x hx => by have := hn x hx; omega
  · exact (Rp.int (by omega) (by omega)).mono (by decide) (by decide)
theorem Rp.rule {s m : Int} {r : Rule} (h : Bent s m r) (hs : s = 1 ∨ s = 2) (hm : m ≤ 1000) : Rp 757 4 (ruleD r) := by
  refine Rp.tuple (k := 375) (h := 3) (m := 2) (fun x hx => ?_) (Nat.le_refl _)
  simp only [List.mem_cons, List.not_mem_nil, or_false] at hx
  rcases hx with rfl | rfl
  · exact (Rp.int (by rw [h.sides]; omega) (by rw [h.sides]; omega)).mono (by decide) (by decide)
  · refine Rp.tuple (k := 60) (h := 2) (m := 6) (fun x hx => ?_) (by rw [List.length_map]; exact h.some_.2)
    obtain ⟨g, hg, rfl⟩ := List.mem_map.mp hx
    exact Rp.grid (h.grids g hg) (by omega) hm (h.near g hg)
structure PairB (s : Int) (x : Pair) : Prop where
  ok : PairOk s x
  p : ∀ y ∈ x.p, -100 ≤ y ∧ y ≤ 100
  q : ∀ y ∈ x.q, -100 ≤ y ∧ y ≤ 100
theorem Rp.pair {s : Int} {x : Pair} (h : PairB s x) (hs : s ≤ 2) : Rp 60 2 (pairD x) := by
  have h1 := h.ok.p
  have h2 := h.ok.q
  refine Rp.tuple (k := 17) (h := 1) (m := 3) (fun y hy => ?_) (Nat.le_refl _)
  simp only [List.mem_cons, List.not_mem_nil, or_false] at hy
  rcases hy with rfl | rfl | rfl
  · exact Rp.pt (m := 2) (by omega) fun z hz => by have := h.p z hz; omega
  · exact Rp.pt (m := 2) (by omega) fun z hz => by have := h.q z hz; omega
  · exact Rp.bool.mono (by decide) (by decide)
theorem repr_k40 {s m : Int} {rs : List Rule} {l : List Pair} (hs : s = 1 ∨ s = 2) (hm : m ≤ 1000) (h : ∀ r ∈ rs, Bent s m r) (g : ∀ x ∈ l, PairB s x) (h1 : rs.length ≤ 100) (h2 : l.length ≤ 100) : reprOk (.list [.list (rs.map ruleD), .list (l.map pairD)]) = true := by
  refine Rp.ok (k := 151813) (h := 6) ?_ (by decide) (by decide)
  refine Rp.list (k := 75903) (h := 5) (m := 2) (fun x hx => ?_) (Nat.le_refl _)
  simp only [List.mem_cons, List.not_mem_nil, or_false] at hx
  rcases hx with rfl | rfl
  · refine Rp.list (k := 757) (h := 4) (m := 100) (fun x hx => ?_) (by rw [List.length_map]; exact h1)
    obtain ⟨r, hr, rfl⟩ := List.mem_map.mp hx
    exact Rp.rule (h r hr) hs hm
  · refine (Rp.list (k := 60) (h := 2) (m := 100) (fun x hx => ?_) (by rw [List.length_map]; exact h2)).mono (by decide) (by decide)
    obtain ⟨r, hr, rfl⟩ := List.mem_map.mp hx
    exact Rp.pair (g r hr) (by omega)
theorem left_none {rs : List Rule} : PyData.list (intsD (leftL rs [])) = .list (rangeL 0 rs.length) := by
  rw [rangeL_0' (by omega)]
  congr 1
  show (((rs.zipIdx).filter fun t => true).map fun t => (t.2 : Int)).map PyData.int = _
  rw [List.filter_eq_self.mpr (fun _ _ => rfl), List.map_map, show rs.zipIdx = rs.zipIdx 0 from rfl]
  show (rs.zipIdx 0).map ((fun (k : Nat) => PyData.int (k : Int)) ∘ Prod.snd) = _
  rw [← List.map_map, List.zipIdx_map_snd]
  simp [List.range_eq_range']
def body241 : List Sm := match fd241.body.getD 0 .pass with
  | .for_ _ _ b => b
  | _ => []
def body241a : List Sm := match body241.getD 3 .pass with
  | .for_ _ _ b => b
  | _ => []
def body241b : List Sm := match body241.getD 6 .pass with
  | .for_ _ _ b => b
  | _ => []
/-- one more rule -/
theorem k40_a (n : Nat) (ns : List Int) (k p s : Int) (rs : List Rule) (v2 v3 v7 v8 v9 v10 v11 : Option Sv) (i : Nat) (hs : s = 1 ∨ s = 2) (h : ∀ r ∈ rs, Bent s (100 + 2 * i) r) (hl : rs.length = i + 1) (hi : i ≤ 10) :
    Ok (bindT (.nm 7) (.int (i : Int)) [some ⟨false, scrD ns⟩, some ⟨false, .int k⟩, v2, v3, some ⟨true, pileD p⟩, some ⟨false, .int s⟩, some ⟨true, .list (rs.map ruleD)⟩, v7, v8, v9, v10, v11] >>= fun e => evSs ft (callN ft (n + 19)) [] body241a e) fun q =>
      ∃ p' r w7, q = (.nx, [some ⟨false, scrD ns⟩, some ⟨false, .int k⟩, v2, v3, some ⟨true, pileD p'⟩, some ⟨false, .int s⟩, some ⟨true, .list ((rs ++ [r]).map ruleD)⟩, w7, v8, v9, v10, v11]) ∧ Bent s (100 + 2 * (i + 1 : Nat)) r := by
  refine Ok.by_ fun Q hQ => ?_
  simp -implicitDefEqProofs [body241a, body241, fd241]
  refine Ok_call (c57 (n + 17) p (rs.map ruleD) (by simp; omega) (by simp; omega)) ?_
  rintro _ ⟨d, p, rfl, hd⟩
  obtain ⟨r, hr, rfl⟩ := List.mem_map.mp hd
  simp -implicitDefEqProofs
  refine Ok_call (c240 (n + 17) p s (100 + 2 * i) hs (h r hr)) ?_
  rintro _ ⟨r1, p, rfl, hr1⟩
  simp -implicitDefEqProofs
  refine Ok_call (c5 (n + 16) p s 3 hs (by omega) (by omega)) ?_
  rintro _ ⟨r2, p, rfl, hr2⟩
  have hr2 := hr2.bent hs (by omega)
  have hsm : rs.length < 16777216 := by omega
  simp -implicitDefEqProofs [c3]
  refine Ok_pick rfl (by decide) fun d hd => ?_
  have : ∃ r, d = ruleD r ∧ Bent s (100 + 2 * (i + 1 : Nat)) r := by
    simp only [List.mem_cons, List.not_mem_nil, or_false] at hd
    rcases hd with rfl | rfl
    · exact ⟨r1, rfl, hr1.mono (by omega)⟩
    · exact ⟨r2, rfl, hr2.mono (by omega)⟩
  obtain ⟨r3, rfl, hr3⟩ := this
  simp -implicitDefEqProofs [hsm]
  exact Ok.ok (hQ _ ⟨_, r3, _, by simp; exact ⟨rfl, rfl⟩, hr3⟩)
/-- one more pair told -/
theorem k40_b (n : Nat) (ns : List Int) (k p s : Int) (rt : Rule) (l : List Pair) (v2 v6 v7 v9 v10 v11 : Option Sv) (i : Nat) (hs : s = 1 ∨ s = 2) (h : RuleOk rt) (hrs : rt.sides = s) (hl : l.length = i) (hi : i ≤ 10) :
    Ok (bindT (.nm 7) (.int (i : Int)) [some ⟨false, scrD ns⟩, some ⟨false, .int k⟩, v2, some ⟨true, .list (l.map pairD)⟩, some ⟨true, pileD p⟩, some ⟨false, .int s⟩, v6, v7, some ⟨false, ruleD rt⟩, v9, v10, v11] >>= fun e => evSs ft (callN ft (n + 19)) [] body241b e) fun q =>
      ∃ p' x w7 w9 w10 w11, q = (.nx, [some ⟨false, scrD ns⟩, some ⟨false, .int k⟩, v2, some ⟨true, .list ((l ++ [x]).map pairD)⟩, some ⟨true, pileD p'⟩, some ⟨false, .int s⟩, v6, w7, some ⟨false, ruleD rt⟩, w9, w10, w11]) ∧ PairB s x := by
  refine Ok.by_ fun Q hQ => ?_
  generalize hB : (fun e => evSs ft (callN ft (n + 19)) [] body241b e) = B
  simp -implicitDefEqProofs
  subst hB
  simp -implicitDefEqProofs only [body241b, body241, fd241, List.getD_cons_succ, List.getD_cons_zero]
  rw [evSs_cons']; generalize hK : evSs ft _ _ _ = K
  simp -implicitDefEqProofs
  refine Ok_call (c239 (n + 16) p s hs) ?_
  rintro _ ⟨u, v, p, rfl, hu, hv, hu', hv'⟩
  simp -implicitDefEqProofs
  subst hK
  rw [evSs_cons']; generalize hK : evSs ft _ _ _ = K
  have e39 := c39 (n + 17) (r := rt) (p := u) (q := v) h (by rw [hrs]; exact hu) (by rw [hrs]; exact hv)
  have hsm : l.length < 16777216 := by omega
  have hb : ∀ t : Bool, PairB s ⟨u, v, t⟩ := fun t => ⟨⟨hu, hv⟩, fun y hy => by have := hu' y hy; omega, fun y hy => by have := hv' y hy; omega⟩
  by_cases w : p / 2 % 8 = 0
  · simp -implicitDefEqProofs [c3, e39, w]
    subst hK
    simp -implicitDefEqProofs [hsm]
    exact Ok.ok (hQ _ ⟨_, ⟨u, v, decide (p % 2 = 1)⟩, _, _, _, _, by simp [pairD]; exact ⟨rfl, rfl, rfl, rfl, rfl⟩, hb _⟩)
  · simp -implicitDefEqProofs [c3, e39, w]
    subst hK
    simp -implicitDefEqProofs [hsm]
    exact Ok.ok (hQ _ ⟨_, ⟨u, v, !(meetsL rt u v).isEmpty⟩, _, _, _, _, by simp [pairD]; exact ⟨rfl, rfl, rfl, rfl, rfl⟩, hb _⟩)
end Nm
set_option Elab.async false
set_option maxRecDepth 100000
set_option linter.all false
/-! Comprehensions with two sources. -/
namespace Nm
open PySem L2
theorem wipeE_set {u : Nat} : ∀ {vs : List Nat} {e : En}, wipeE (e.set u none) vs = (wipeE e vs).set u none
  | [], e => rfl
  | v :: vs, e => by
    unfold wipeE
    rw [wipeE_set]
    by_cases h : v = u
    · subst h; rfl
    · rw [List.set_comm _ _ h]
theorem wipeE_mem {u : Nat} : ∀ {vs : List Nat} {e : En}, u ∈ vs → wipeE (e.set u none) vs = wipeE e vs
  | v :: vs, e, h => by
    unfold wipeE
    by_cases q : v = u
    · subst q
      rw [wipeE_set, List.set_set]
    · rw [wipeE_mem (by simpa [Ne.symm q] using h)]
theorem wipeE_subs {us : List Nat} : ∀ {vs : List Nat} {e : En}, (∀ v ∈ vs, v ∈ us) → wipeE (wipeE e vs) us = wipeE e us
  | [], e, _ => rfl
  | v :: vs, e, h => by
    rw [show wipeE e (v :: vs) = (wipeE e vs).set v none from rfl, wipeE_mem (h v (by simp)), wipeE_subs fun w hw => h w (by simp [hw])]
theorem loopC_of {el : En → R (Res × En)} {ts : En → R (Bool × En)} {tg : Tg} {own : List Nat} {xs ds : List D} {e w : En} (h : runC (turnC el ts tg own) xs (wipeE e own) = .ok (ds, w)) : ∃ e', loopC el ts tg own xs e = .ok (ds, e') ∧ wipeE e' own = w := by
  have q := loopC_run (el := el) (ts := ts) (tg := tg) (own := own) (xs := xs) (e := e) (k := fun l w => R.ok (l, w))
  rw [h] at q
  cases z : loopC el ts tg own xs e with
  | ok p =>
    obtain ⟨l, e'⟩ := p
    rw [z] at q
    simp only [bind_ok] at q
    cases q
    exact ⟨e', rfl, rfl⟩
  | ex x => rw [z] at q; cases q
  | no => rw [z] at q; cases q
/-- each turn of the outer walk gives a list -/
theorem loopC2_flat {α : Type} {el : En → R (Res × En)} {ts : En → R (Bool × En)} {it1 : En → R (List D × En)} {tg tg1 : Tg} {own own1 : List Nat} {f : α → D} {W : En} (g : α → List D) (m : Nat) (hs : ∀ v ∈ own1, v ∈ own) {l : List α}
    (h : ∀ a ∈ l, ∃ e1 ys e2 w, bindT tg (f a) W = .ok e1 ∧ it1 e1 = .ok (ys, e2) ∧ ys.length ≤ m ∧ runC (turnC el ts tg1 own1) ys (wipeE e2 own1) = .ok (g a, w) ∧ (g a).length ≤ m ∧ wipeE w own = W) :
    ∀ (n : Nat) (e : En), wipeE e own = W → n + l.length * m ≤ 16777216 → ∃ e', loopC2 el ts it1 tg own tg1 own1 n (l.map f) e = .ok (l.flatMap g, e') ∧ wipeE e' own = W := by
  induction l with
  | nil => exact fun n e he _ => ⟨e, rfl, he⟩
  | cons a l ih =>
    intro n e he hn
    obtain ⟨e1, ys, e2, w, h1, h2, h3, h4, h5, h6⟩ := h a (by simp)
    obtain ⟨e3, q1, q2⟩ := loopC_of h4
    have hw : wipeE e3 own = W := by rw [← wipeE_subs hs, q2, h6]
    rw [List.length_cons, Nat.succ_mul] at hn
    obtain ⟨e4, r1, r2⟩ := ih (fun b hb => h b (by simp [hb])) (n + (g a).length) e3 hw (by omega)
    refine ⟨e4, ?_, r2⟩
    show (bindT tg (f a) (wipeE e own) >>= fun e1 => it1 e1 >>= fun p => if n + p.1.length ≤ sizeLine then (loopC el ts tg1 own1 p.1 p.2 >>= fun q => loopC2 el ts it1 tg own tg1 own1 (n + q.1.length) (l.map f) q.2 >>= fun u => R.ok (q.1 ++ u.1, u.2)) else .no) = _
    rw [he, h1]
    simp only [bind_ok]
    rw [h2]
    simp only [bind_ok]
    rw [if_pos (le_sz.mpr (by omega)), q1]
    simp only [bind_ok]
    rw [r1]
    rfl
end Nm
set_option Elab.async false
set_option maxRecDepth 100000
set_option linter.all false
/-! The evaluator by simp, each step at the head: what is still to be done stands as plain data. -/
namespace Nm
open PySem L2
@[simp] theorem loopF_nil {body : En → R (Fl × En)} {tg : Tg} {e : En} : loopF body tg [] e = .ok (.nx, e) := rfl
section
variable (ft : Nat → Fd) (cl : Cl) (pin : List Nat)
def evN (x : Ex) (e : En) : R (Res × En) := evE ft cl x e
def evNs (xs : Exs) (acc : List Res) (e : En) : R (List Res × En) := evEs ft cl xs e >>= fun p => .ok (acc ++ p.1, p.2)
def evNo (o : ExO) (e : En) : R (Option Int × En) := evO ft cl o e
def evNi (it : Wk) (e : En) : R (List D × En) := evI ft cl it e
def evNt (cs : Exs) (e : En) : R (Bool × En) := evT ft cl cs e
def evY (s : Sm) (e : En) : R (Fl × En) := evS ft cl pin s e
def evZ (l : List Sm) (e : En) : R (Fl × En) := evSs ft cl pin l e
def elF (x : Ex) : En → R (Res × En) := fun e => (evE ft cl x e).quiet
def tsF (cs : Exs) : En → R (Bool × En) := fun e => (evT ft cl cs e).quiet
def itF (it : Wk) : En → R (List D × En) := fun e => (evI ft cl it e).quiet
def bodyF (b : List Sm) : En → R (Fl × En) := fun e => evSs ft cl pin b e
def cndF (c : Ex) : En → R (Bool × En) := fun e => asTest (evE ft cl c e)
def turnN (el : Ex) (cs : Exs) (tg : Tg) (own : List Nat) : D → En → R (Option D × En) := turnC (elF ft cl el) (tsF ft cl cs) tg own
end
section
variable {ft : Nat → Fd} {cl : Cl} {pin : List Nat}
theorem evE_N {x : Ex} {e : En} : evE ft cl x e = evN ft cl x e := rfl
theorem evSs_Z {l : List Sm} {e : En} : evSs ft cl pin l e = evZ ft cl pin l e := rfl
@[simp] theorem elF_app {x : Ex} {e : En} : elF ft cl x e = (evN ft cl x e).quiet := rfl
@[simp] theorem tsF_app {x : Exs} {e : En} : tsF ft cl x e = (evNt ft cl x e).quiet := rfl
@[simp] theorem itF_app {x : Wk} {e : En} : itF ft cl x e = (evNi ft cl x e).quiet := rfl
@[simp] theorem bodyF_app {b : List Sm} {e : En} : bodyF ft cl pin b e = evZ ft cl pin b e := rfl
@[simp] theorem cndF_app {c : Ex} {e : En} : cndF ft cl c e = asTest (evN ft cl c e) := rfl
end
/-! expressions -/
def varR (i : Nat) (e : En) : Option (Option Sv) → R (Res × En)
  | some (some ⟨false, d⟩) => .ok (.v false d, e)
  | some (some ⟨true, _⟩) => .ok (.p i, e)
  | _ => .no
@[simp] theorem varR_f {i : Nat} {e : En} {d : D} : varR i e (some (some ⟨false, d⟩)) = .ok (.v false d, e) := rfl
@[simp] theorem varR_t {i : Nat} {e : En} {d : D} : varR i e (some (some ⟨true, d⟩)) = .ok (.p i, e) := rfl
def resA (m : R Res) (e : En) : R (Res × En) := m >>= fun r => .ok (r, e)
@[simp] theorem resA_ok {r : Res} {e : En} : resA (.ok r) e = .ok (r, e) := rfl
def op2 (a b : R D) (f : D → D → R Res) : R Res := a >>= fun x => b >>= fun y => f x y
@[simp] theorem op2_ok {a b : D} {f : D → D → R Res} : op2 (.ok a) (.ok b) f = f a b := rfl
def cp2 (a b : R D) (o : COp) : R Bool := a >>= fun x => b >>= fun y => cmpop o x y
@[simp] theorem cp2_ok {a b : D} {o : COp} : cp2 (.ok a) (.ok b) o = cmpop o a b := rfl
def boolA (m : R Bool) (e : En) : R (Res × En) := m >>= fun r => .ok (.v false (.bool r), e)
@[simp] theorem boolA_ok {r : Bool} {e : En} : boolA (.ok r) e = .ok (.v false (.bool r), e) := rfl
/-- things that stand within another -/
def emA (acc : List D) (rs : List Res) (e : En) : R (List D × En) := embeds e rs >>= fun p => .ok (acc ++ p.1, p.2)
def emP (acc : List D) (i : Nat) (rs : List Res) (e : En) : Option (Option Sv) → R (List D × En)
  | some (some s) => if notD s.d = true then emA (acc ++ [s.d]) rs (e.set i (some ⟨false, s.d⟩)) else .no
  | _ => .no
@[simp] theorem emP_some {acc : List D} {i : Nat} {rs : List Res} {e : En} {s : Sv} : emP acc i rs e (some (some s)) = if notD s.d = true then emA (acc ++ [s.d]) rs (e.set i (some ⟨false, s.d⟩)) else .no := rfl
@[simp] theorem emA_nil {acc : List D} {e : En} : emA acc [] e = .ok (acc, e) := by simp [emA]
@[simp] theorem emA_v {acc : List D} {o : Bool} {d : D} {rs : List Res} {e : En} : emA acc (.v o d :: rs) e = if notD d = true then emA (acc ++ [d]) rs e else .no := by
  cases h : notD d
  · simp [emA, h]
  · cases h2 : embeds e rs <;> simp [emA, h, h2]
@[simp] theorem emA_p {acc : List D} {i : Nat} {rs : List Res} {e : En} : emA acc (.p i :: rs) e = emP acc i rs e e[i]? := by
  rcases h : e[i]? with _ | _ | s
  · simp [emA, emP, h, slotD]
  · simp [emA, emP, h, slotD]
  · cases h1 : notD s.d
    · simp [emA, emP, h, h1, slotD]
    · cases h2 : embeds (e.set i (some ⟨false, s.d⟩)) rs <;> simp [emA, emP, h, h1, h2, slotD]
def feA (acc : List D) (rs : List Res) (e : En) : R (List D) := fetchs e rs >>= fun p => .ok (acc ++ p)
def feP (acc : List D) (rs : List Res) (e : En) : Option (Option Sv) → R (List D)
  | some (some s) => feA (acc ++ [s.d]) rs e
  | _ => .no
@[simp] theorem feP_some {acc : List D} {rs : List Res} {e : En} {s : Sv} : feP acc rs e (some (some s)) = feA (acc ++ [s.d]) rs e := rfl
@[simp] theorem feA_nil {acc : List D} {e : En} : feA acc [] e = .ok acc := by simp [feA]
@[simp] theorem feA_v {acc : List D} {o : Bool} {d : D} {rs : List Res} {e : En} : feA acc (.v o d :: rs) e = feA (acc ++ [d]) rs e := by
  cases h2 : fetchs e rs <;> simp [feA, h2]
@[simp] theorem feA_p {acc : List D} {i : Nat} {rs : List Res} {e : En} : feA acc (.p i :: rs) e = feP acc rs e e[i]? := by
  rcases h : e[i]? with _ | _ | s
  · simp [feA, feP, h, slotD]
  · simp [feA, feP, h, slotD]
  · cases h2 : fetchs e rs <;> simp [feA, feP, h, h2, slotD]
def tupB (m : R (List D × En)) : R (Res × En) := m >>= fun q => .ok (.v false (.tuple q.1), q.2)
@[simp] theorem tupB_ok {l : List D} {e : En} : tupB (.ok (l, e)) = .ok (.v false (.tuple l), e) := rfl
def lstB (m : R (List D × En)) : R (Res × En) := m >>= fun q => .ok (.v true (.list q.1), q.2)
@[simp] theorem lstB_ok {l : List D} {e : En} : lstB (.ok (l, e)) = .ok (.v true (.list l), e) := rfl
def tupA (m : R (List Res × En)) : R (Res × En) := m >>= fun p => tupB (emA [] p.1 p.2)
@[simp] theorem tupA_ok {l : List Res} {e : En} : tupA (.ok (l, e)) = tupB (emA [] l e) := rfl
def lstA (m : R (List Res × En)) : R (Res × En) := m >>= fun p => lstB (emA [] p.1 p.2)
@[simp] theorem lstA_ok {l : List Res} {e : En} : lstA (.ok (l, e)) = lstB (emA [] l e) := rfl
def biB (m : R (List D)) (b : Bi) (e : En) : R (Res × En) := m >>= fun ds => resA (biop b ds) e
@[simp] theorem biB_ok {l : List D} {b : Bi} {e : En} : biB (.ok l) b e = resA (biop b l) e := rfl
def biA (m : R (List Res × En)) (b : Bi) : R (Res × En) := m >>= fun p => biB (feA [] p.1 p.2) b p.2
@[simp] theorem biA_ok {l : List Res} {b : Bi} {e : En} : biA (.ok (l, e)) b = biB (feA [] l e) b e := rfl
def negA (m : R (Res × En)) : R (Res × En) := m >>= fun p => fetch p.2 p.1 >>= negR p.2
@[simp] theorem negA_ok {r : Res} {e : En} : negA (.ok (r, e)) = (fetch e r >>= negR e) := rfl
def notA (m : R (Bool × En)) : R (Res × En) := m >>= fun p => .ok (.v false (.bool (!p.1)), p.2)
@[simp] theorem notA_ok {b : Bool} {e : En} : notA (.ok (b, e)) = .ok (.v false (.bool (!b)), e) := rfl
def isiA (m : R (Res × En)) (t : Ty) : R (Res × En) := m >>= fun p => fetch p.2 p.1 >>= fun d => boolA (isTy t d) p.2
@[simp] theorem isiA_ok {r : Res} {t : Ty} {e : En} : isiA (.ok (r, e)) t = (fetch e r >>= fun d => boolA (isTy t d) e) := rfl
def optA (m : R (Res × En)) : R (Option Int × En) := m >>= fun p => fetch p.2 p.1 >>= optI p.2
@[simp] theorem optA_ok {r : Res} {e : En} : optA (.ok (r, e)) = (fetch e r >>= optI e) := rfl
def slC (m : R (Option Int × En)) (ra : Res) (lo : Option Int) : R (Res × En) := m >>= fun u => fetch u.2 ra >>= fun da => resA (getsl da lo u.1) u.2
@[simp] theorem slC_ok {ra : Res} {lo hi : Option Int} {e : En} : slC (.ok (hi, e)) ra lo = (fetch e ra >>= fun da => resA (getsl da lo hi) e) := rfl
def seqI (m : R (Res × En)) (g : List D → List D) : R (List D × En) := m >>= fun p => settle p.2 p.1 >>= fun q => itemsR q.1 >>= fun xs => .ok (g xs, q.2)
@[simp] theorem seqI_ok {r : Res} {g : List D → List D} {e : En} : seqI (.ok (r, e)) g = (settle e r >>= fun q => itemsR q.1 >>= fun xs => .ok (g xs, q.2)) := rfl
def rngB (m : R (List D)) (e : En) : R (List D × En) := m >>= fun ds => rng ds >>= fun xs => .ok (xs, e)
@[simp] theorem rngB_ok {l : List D} {e : En} : rngB (.ok l) e = (rng l >>= fun xs => .ok (xs, e)) := rfl
def rngI (m : R (List Res × En)) : R (List D × En) := m >>= fun p => rngB (feA [] p.1 p.2) p.2
@[simp] theorem rngI_ok {l : List Res} {e : En} : rngI (.ok (l, e)) = rngB (feA [] l e) e := rfl
def zipB (m : R (List D × En)) : R (List D × En) := m >>= fun q => zips q.1 >>= fun xs => .ok (xs, q.2)
@[simp] theorem zipB_ok {l : List D} {e : En} : zipB (.ok (l, e)) = (zips l >>= fun xs => .ok (xs, e)) := rfl
def zipI (m : R (List Res × En)) : R (List D × En) := m >>= fun p => zipB (emA [] p.1 p.2)
@[simp] theorem zipI_ok {l : List Res} {e : En} : zipI (.ok (l, e)) = zipB (emA [] l e) := rfl
def mkA (m : R (List D × En)) (l : Bool) : R (Res × En) := m >>= fun p => .ok (if l = true then .v true (.list p.1) else .v false (.tuple p.1), p.2)
@[simp] theorem mkA_ok {xs : List D} {l : Bool} {e : En} : mkA (.ok (xs, e)) l = .ok (if l = true then .v true (.list xs) else .v false (.tuple xs), e) := rfl
def compB (m : R (List D × En)) (e1 : En) (it : Wk) (own : List Nat) (e : En) : R (Res × En) := m >>= fun q => .ok (.v true (.list q.1), thawW it e q.1 (back e1 q.2 own))
@[simp] theorem compB_ok {ys : List D} {w e1 : En} {it : Wk} {own : List Nat} {e : En} : compB (.ok (ys, w)) e1 it own e = .ok (.v true (.list ys), thawW it e ys (back e1 w own)) := rfl
def comp2B (m : R (List D × En)) (e1 : En) (own : List Nat) : R (Res × En) := m >>= fun q => .ok (.v true (.list q.1), back e1 q.2 own)
@[simp] theorem comp2B_ok {ys : List D} {w e1 : En} {own : List Nat} : comp2B (.ok (ys, w)) e1 own = .ok (.v true (.list ys), back e1 w own) := rfl
section
variable (ft : Nat → Fd) (cl : Cl)
def binB (m : R (Res × En)) (o : BOp) (ra : Res) : R (Res × En) := m >>= fun q => resA (op2 (fetch q.2 ra) (fetch q.2 q.1) (binop o)) q.2
def binA (m : R (Res × En)) (o : BOp) (b : Ex) : R (Res × En) := m >>= fun p => binB (evN ft cl b p.2) o p.1
def cmpB (m : R (Res × En)) (o : COp) (ra : Res) : R (Res × En) := m >>= fun q => boolA (cp2 (fetch q.2 ra) (fetch q.2 q.1) o) q.2
def cmpA (m : R (Res × En)) (o : COp) (b : Ex) : R (Res × En) := m >>= fun p => cmpB (evN ft cl b p.2) o p.1
def chnC (m : R Bool) (o' : COp) (c : Ex) (rb : Res) (e : En) : R (Res × En) := m >>= fun t => if t = true then cmpB (evN ft cl c e) o' rb else .ok (.v false (.bool false), e)
def chnB (m : R (Res × En)) (o o' : COp) (c : Ex) (ra : Res) : R (Res × En) := m >>= fun q => chnC ft cl (cp2 (fetch q.2 ra) (fetch q.2 q.1) o) o' c q.1 q.2
def chnA (m : R (Res × En)) (o o' : COp) (b c : Ex) : R (Res × En) := m >>= fun p => chnB ft cl (evN ft cl b p.2) o o' c p.1
def andA (m : R (Bool × En)) (b : Ex) : R (Res × En) := m >>= fun p => if p.1 = true then evN ft cl b p.2 else .ok (.v false (.bool false), p.2)
def orA (m : R (Bool × En)) (b : Ex) : R (Res × En) := m >>= fun p => if p.1 = true then .ok (.v false (.bool true), p.2) else evN ft cl b p.2
def iteA (m : R (Bool × En)) (a b : Ex) : R (Res × En) := m >>= fun p => if p.1 = true then evN ft cl a p.2 else evN ft cl b p.2
def argA (m : R (Res × En)) (acc : List Res) (xs : Exs) : R (List Res × En) := m >>= fun p => evNs ft cl xs (acc ++ [p.1]) p.2
def callA (m : R (List Res × En)) (f : Nat) : R (Res × En) := m >>= fun p => callR ft cl f p.1 p.2
def ixB (m : R (Res × En)) (ra : Res) : R (Res × En) := m >>= fun q => resA (op2 (fetch q.2 ra) (fetch q.2 q.1) getix) q.2
def ixA (m : R (Res × En)) (i : Ex) : R (Res × En) := m >>= fun p => ixB (evN ft cl i p.2) p.1
def slB (m : R (Option Int × En)) (ra : Res) (hi : ExO) : R (Res × En) := m >>= fun q => slC (evNo ft cl hi q.2) ra q.1
def slA (m : R (Res × En)) (lo hi : ExO) : R (Res × En) := m >>= fun p => slB ft cl (evNo ft cl lo p.2) p.1 hi
def tstA (m : R (Bool × En)) (cs : Exs) : R (Bool × En) := m >>= fun p => if p.1 = true then evNt ft cl cs p.2 else .ok (false, p.2)
def compA (m : R (List D × En)) (el : Ex) (tg : Tg) (it : Wk) (cs : Exs) (own : List Nat) (e : En) : R (Res × En) := m >>= fun p => compB (runC (turnN ft cl el cs tg own) p.1 (wipeE p.2 own)) p.2 it own e
def comp2A (m : R (List D × En)) (el : Ex) (tg tg1 : Tg) (it1 : Wk) (cs : Exs) (own own1 : List Nat) : R (Res × En) := m >>= fun p => comp2B (loopC2 (elF ft cl el) (tsF ft cl cs) (itF ft cl it1) tg own tg1 own1 0 p.1 p.2) p.2 own
def starC (m : R (List D × En)) (ys : List D) (l : Bool) : R (Res × En) := m >>= fun u => if u.1.length + ys.length ≤ sizeLine then .ok (if l = true then .v true (.list (u.1 ++ ys)) else .v false (.tuple (u.1 ++ ys)), u.2) else .no
def starB (m : R (Res × En)) (rs : List Res) (l : Bool) : R (Res × En) := m >>= fun q => fetch q.2 q.1 >>= fun d => itemsR d >>= fun ys => starC (emA [] rs q.2) ys l
def starA (m : R (List Res × En)) (r : Ex) (l : Bool) : R (Res × En) := m >>= fun p => starB (evN ft cl r p.2) p.1 l
def mthC (m : R (List Res × En)) (mt : Mt) (ro : Res) : R (Res × En) := m >>= fun p => fetch p.2 ro >>= fun d => feA [] p.1 p.2 >>= fun ds => resA (mthD mt d ds) p.2
def mthA (m : R (Res × En)) (mt : Mt) (es : Exs) : R (Res × En) := m >>= fun p => fetch p.2 p.1 >>= fun d0 => if mthT mt d0 = true then mthC (evNs ft cl es [] p.2) mt p.1 else .no
def revA (m : R (Res × En)) : R (Res × En) := m >>= fun p => fetch p.2 p.1 >>= fun d => resA (revD d) p.2
def fldA (m : R (Res × En)) : R (Res × En) := m >>= fun p => fetch p.2 p.1 >>= fun d => resA (fldD d) p.2
/-- one turn of a comprehension -/
def trC (m : R (Res × En)) (own : List Nat) : R (Option D × En) := m >>= fun q => embed q.2 q.1 >>= fun u => .ok (some u.1, wipeE u.2 own)
def trB (m : R (Bool × En)) (el : Ex) (own : List Nat) : R (Option D × En) := m >>= fun p => if p.1 = true then trC (evN ft cl el p.2).quiet own else .ok (none, wipeE p.2 own)
def trA (m : R En) (el : Ex) (cs : Exs) (own : List Nat) : R (Option D × En) := m >>= fun e1 => trB ft cl (evNt ft cl cs e1).quiet el own
end
section
variable {ft : Nat → Fd} {cl : Cl} {e e1 : En} {o o' : Bool} {ra rb : Res} {d : D}
@[simp] theorem binB_ok {o : BOp} : binB (.ok (rb, e)) o ra = resA (op2 (fetch e ra) (fetch e rb) (binop o)) e := rfl
@[simp] theorem binA_ok {o : BOp} {b : Ex} : binA ft cl (.ok (ra, e)) o b = binB (evN ft cl b e) o ra := rfl
@[simp] theorem cmpB_ok {o : COp} : cmpB (.ok (rb, e)) o ra = boolA (cp2 (fetch e ra) (fetch e rb) o) e := rfl
@[simp] theorem cmpA_ok {o : COp} {b : Ex} : cmpA ft cl (.ok (ra, e)) o b = cmpB (evN ft cl b e) o ra := rfl
@[simp] theorem chnC_ok {t : Bool} {o' : COp} {c : Ex} : chnC ft cl (.ok t) o' c rb e = if t = true then cmpB (evN ft cl c e) o' rb else .ok (.v false (.bool false), e) := rfl
@[simp] theorem chnB_ok {o o' : COp} {c : Ex} : chnB ft cl (.ok (rb, e)) o o' c ra = chnC ft cl (cp2 (fetch e ra) (fetch e rb) o) o' c rb e := rfl
@[simp] theorem chnA_ok {o o' : COp} {b c : Ex} : chnA ft cl (.ok (ra, e)) o o' b c = chnB ft cl (evN ft cl b e) o o' c ra := rfl
@[simp] theorem andA_ok {t : Bool} {b : Ex} : andA ft cl (.ok (t, e)) b = if t = true then evN ft cl b e else .ok (.v false (.bool false), e) := rfl
@[simp] theorem orA_ok {t : Bool} {b : Ex} : orA ft cl (.ok (t, e)) b = if t = true then .ok (.v false (.bool true), e) else evN ft cl b e := rfl
@[simp] theorem iteA_ok {t : Bool} {a b : Ex} : iteA ft cl (.ok (t, e)) a b = if t = true then evN ft cl a e else evN ft cl b e := rfl
@[simp] theorem argA_ok {acc : List Res} {xs : Exs} : argA ft cl (.ok (ra, e)) acc xs = evNs ft cl xs (acc ++ [ra]) e := rfl
@[simp] theorem callA_ok {rs : List Res} {f : Nat} : callA ft cl (.ok (rs, e)) f = callR ft cl f rs e := rfl
@[simp] theorem ixB_ok : ixB (.ok (rb, e)) ra = resA (op2 (fetch e ra) (fetch e rb) getix) e := rfl
@[simp] theorem ixA_ok {i : Ex} : ixA ft cl (.ok (ra, e)) i = ixB (evN ft cl i e) ra := rfl
@[simp] theorem slB_ok {lo : Option Int} {hi : ExO} : slB ft cl (.ok (lo, e)) ra hi = slC (evNo ft cl hi e) ra lo := rfl
@[simp] theorem slA_ok {lo hi : ExO} : slA ft cl (.ok (ra, e)) lo hi = slB ft cl (evNo ft cl lo e) ra hi := rfl
@[simp] theorem tstA_ok {t : Bool} {cs : Exs} : tstA ft cl (.ok (t, e)) cs = if t = true then evNt ft cl cs e else .ok (false, e) := rfl
@[simp] theorem compA_ok {xs : List D} {el : Ex} {tg : Tg} {it : Wk} {cs : Exs} {own : List Nat} : compA ft cl (.ok (xs, e1)) el tg it cs own e = compB (runC (turnN ft cl el cs tg own) xs (wipeE e1 own)) e1 it own e := rfl
@[simp] theorem comp2A_ok {xs : List D} {el : Ex} {tg tg1 : Tg} {it1 : Wk} {cs : Exs} {own own1 : List Nat} : comp2A ft cl (.ok (xs, e1)) el tg tg1 it1 cs own own1 = comp2B (loopC2 (elF ft cl el) (tsF ft cl cs) (itF ft cl it1) tg own tg1 own1 0 xs e1) e1 own := rfl
@[simp] theorem starC_ok {ds ys : List D} {l : Bool} : starC (.ok (ds, e)) ys l = if ds.length + ys.length ≤ sizeLine then .ok (if l = true then .v true (.list (ds ++ ys)) else .v false (.tuple (ds ++ ys)), e) else .no := rfl
@[simp] theorem starB_ok {rs : List Res} {l : Bool} : starB (.ok (ra, e)) rs l = (fetch e ra >>= fun d => itemsR d >>= fun ys => starC (emA [] rs e) ys l) := rfl
@[simp] theorem starA_ok {rs : List Res} {r : Ex} {l : Bool} : starA ft cl (.ok (rs, e)) r l = starB (evN ft cl r e) rs l := rfl
@[simp] theorem mthC_ok {rs : List Res} {mt : Mt} : mthC (.ok (rs, e)) mt ra = (fetch e ra >>= fun d => feA [] rs e >>= fun ds => resA (mthD mt d ds) e) := rfl
@[simp] theorem mthA_ok {mt : Mt} {es : Exs} : mthA ft cl (.ok (ra, e)) mt es = (fetch e ra >>= fun d0 => if mthT mt d0 = true then mthC (evNs ft cl es [] e) mt ra else .no) := rfl
@[simp] theorem mthT_count {xs : List D} : mthT .count (.list xs) = true := rfl
@[simp] theorem mthT_index {xs : List D} : mthT .index (.list xs) = true := rfl
@[simp] theorem revA_ok : revA (.ok (ra, e)) = (fetch e ra >>= fun d => resA (revD d) e) := rfl
@[simp] theorem fldA_ok : fldA (.ok (ra, e)) = (fetch e ra >>= fun d => resA (fldD d) e) := rfl
@[simp] theorem trC_ok {r : Res} {own : List Nat} : trC (.ok (r, e)) own = (embed e r >>= fun u => .ok (some u.1, wipeE u.2 own)) := rfl
@[simp] theorem trB_ok {t : Bool} {el : Ex} {own : List Nat} : trB ft cl (.ok (t, e)) el own = if t = true then trC (evN ft cl el e).quiet own else .ok (none, wipeE e own) := rfl
@[simp] theorem trA_ok {el : Ex} {cs : Exs} {own : List Nat} : trA ft cl (.ok e) el cs own = trB ft cl (evNt ft cl cs e).quiet el own := rfl
@[simp] theorem turnN_app {el : Ex} {cs : Exs} {tg : Tg} {own : List Nat} {x : D} {w : En} : turnN ft cl el cs tg own x w = trA ft cl (bindT tg x w) el cs own := rfl
@[simp] theorem N_cst {d : D} : evN ft cl (.cst d) e = .ok (.v false d, e) := rfl
@[simp] theorem N_var {i : Nat} : evN ft cl (.var i) e = varR i e e[i]? := by
  show (match e[i]? with | some (some ⟨false, d⟩) => R.ok (Res.v false d, e) | some (some ⟨true, _⟩) => .ok (.p i, e) | _ => .no) = _
  rcases e[i]? with _ | _ | ⟨_ | _, d⟩ <;> rfl
@[simp] theorem N_bin {o : BOp} {a b : Ex} : evN ft cl (.bin o a b) e = binA ft cl (evN ft cl a e) o b := by
  refine (evE_bin (ft := ft) (cl := cl)).trans ?_
  unfold binA
  congr 1; funext p
  unfold binB
  show _ = evE ft cl b p.2 >>= _
  congr 1; funext q
  unfold op2 resA
  simp only [bind_asc]
@[simp] theorem N_neg {a : Ex} : evN ft cl (.neg a) e = negA (evN ft cl a e) := rfl
@[simp] theorem N_not {a : Ex} : evN ft cl (.not_ a) e = notA (asTest (evN ft cl a e)) := rfl
@[simp] theorem N_and {a b : Ex} : evN ft cl (.and_ a b) e = andA ft cl (asTest (evN ft cl a e)) b := rfl
@[simp] theorem N_or {a b : Ex} : evN ft cl (.or_ a b) e = orA ft cl (asTest (evN ft cl a e)) b := rfl
@[simp] theorem N_cmp {o : COp} {a b : Ex} : evN ft cl (.cmp o a b) e = cmpA ft cl (evN ft cl a e) o b := by
  refine (evE_cmp (ft := ft) (cl := cl)).trans ?_
  unfold cmpA
  congr 1; funext p
  unfold cmpB
  show _ = evE ft cl b p.2 >>= _
  congr 1; funext q
  unfold cp2 boolA
  simp only [bind_asc]
@[simp] theorem N_chn {o o' : COp} {a b c : Ex} : evN ft cl (.chn o o' a b c) e = chnA ft cl (evN ft cl a e) o o' b c := by
  refine (evE_chn (ft := ft) (cl := cl)).trans ?_
  unfold chnA
  congr 1; funext p
  unfold chnB
  show _ = evE ft cl b p.2 >>= _
  congr 1; funext q
  unfold chnC cp2
  simp only [bind_asc]
  congr 1; funext da
  congr 1; funext db
  congr 1; funext t
  split
  · unfold cmpB
    show _ = evE ft cl c q.2 >>= _
    congr 1; funext u
    unfold cp2 boolA
    simp only [bind_asc]
  · rfl
@[simp] theorem N_ite {c a b : Ex} : evN ft cl (.ite c a b) e = iteA ft cl (asTest (evN ft cl c e)) a b := rfl
theorem emA_0 {rs : List Res} : emA [] rs e = embeds e rs := by
  unfold emA
  cases embeds e rs <;> rfl
theorem feA_0 {rs : List Res} : feA [] rs e = fetchs e rs := by
  unfold feA
  cases fetchs e rs <;> rfl
theorem evNs_0 {xs : Exs} : evNs ft cl xs [] e = evEs ft cl xs e := by
  unfold evNs
  cases evEs ft cl xs e <;> rfl
@[simp] theorem Ns_nil {acc : List Res} : evNs ft cl .nil acc e = .ok (acc, e) := by
  show R.ok (acc ++ [], e) = _
  rw [List.append_nil]
@[simp] theorem Ns_cons {x : Ex} {xs : Exs} {acc : List Res} : evNs ft cl (.cons x xs) acc e = argA ft cl (evN ft cl x e) acc xs := by
  show ((evE ft cl x e >>= fun p => evEs ft cl xs p.2 >>= fun q => R.ok (p.1 :: q.1, q.2)) >>= fun p => .ok (acc ++ p.1, p.2)) = _
  unfold argA evNs
  rw [bind_asc]
  show _ = evE ft cl x e >>= _
  congr 1; funext p
  rw [bind_asc]
  congr 1; funext q
  simp
@[simp] theorem N_tup {es : Exs} : evN ft cl (.tup es) e = tupA (evNs ft cl es [] e) := by
  rw [evNs_0]
  refine (evE_tup (ft := ft) (cl := cl)).trans ?_
  unfold tupA tupB
  congr 1; funext p
  rw [emA_0]
@[simp] theorem N_lst {es : Exs} : evN ft cl (.lst es) e = lstA (evNs ft cl es [] e) := by
  rw [evNs_0]
  refine (evE_lst (ft := ft) (cl := cl)).trans ?_
  unfold lstA lstB
  congr 1; funext p
  rw [emA_0]
theorem ofO_items {d : D} : R.ofO (items? d) = itemsR d := by cases d <;> rfl
theorem N_star {es : Exs} {r : Ex} {l : Bool} : (evEs ft cl es e >>= fun p => evE ft cl r p.2 >>= fun q => fetch q.2 q.1 >>= fun d => R.ofO (items? d) >>= fun ys => embeds q.2 p.1 >>= fun u => if u.1.length + ys.length ≤ sizeLine then R.ok (if l = true then Res.v true (.list (u.1 ++ ys)) else Res.v false (.tuple (u.1 ++ ys)), u.2) else .no) = starA ft cl (evNs ft cl es [] e) r l := by
  rw [evNs_0]
  unfold starA
  congr 1; funext p
  unfold starB
  show _ = evE ft cl r p.2 >>= _
  congr 1; funext q
  congr 1; funext d
  rw [ofO_items]
  congr 1; funext ys
  rw [emA_0]; rfl
@[simp] theorem N_tupS {es : Exs} {r : Ex} : evN ft cl (.tupS es r) e = starA ft cl (evNs ft cl es [] e) r false := by
  have h := N_star (ft := ft) (cl := cl) (e := e) (es := es) (r := r) (l := false)
  simp only [Bool.false_eq_true, if_false] at h
  exact h
@[simp] theorem N_lstS {es : Exs} {r : Ex} : evN ft cl (.lstS es r) e = starA ft cl (evNs ft cl es [] e) r true := by
  have h := N_star (ft := ft) (cl := cl) (e := e) (es := es) (r := r) (l := true)
  simp only [if_true] at h
  exact h
@[simp] theorem N_rev {a : Ex} : evN ft cl (.rev a) e = revA (evN ft cl a e) := rfl
@[simp] theorem N_fld {a : Ex} {n : Nat} : evN ft cl (.fld a n) e = fldA (evN ft cl a e) := rfl
@[simp] theorem N_mth {m : Mt} {o : Ex} {es : Exs} : evN ft cl (.mth m o es) e = mthA ft cl (evN ft cl o e) m es := by
  show (evE ft cl o e >>= fun p => fetch p.2 p.1 >>= fun d0 => if mthT m d0 = true then (evEs ft cl es p.2 >>= fun q => fetch q.2 p.1 >>= fun d => fetchs q.2 q.1 >>= fun ds => mthD m d ds >>= fun r => R.ok (r, q.2)) else .no) = _
  unfold mthA
  show _ = evE ft cl o e >>= _
  congr 1; funext p
  congr 1; funext d0
  congr 1
  rw [evNs_0]
  unfold mthC
  congr 1; funext q
  congr 1; funext d
  rw [feA_0]
  rfl
@[simp] theorem N_comp {el : Ex} {tg : Tg} {it : Wk} {cs : Exs} {own : List Nat} : evN ft cl (.comp el tg it cs own) e = compA ft cl (evNi ft cl it e) el tg it cs own e := evE_comp
@[simp] theorem N_comp2 {el : Ex} {tg tg1 : Tg} {it it1 : Wk} {cs : Exs} {own own1 : List Nat} : evN ft cl (.comp2 el tg it tg1 it1 cs own own1) e = comp2A ft cl (evNi ft cl it e) el tg tg1 it1 cs own own1 := rfl
@[simp] theorem N_mk {l : Bool} {it : Wk} : evN ft cl (.mk l it) e = mkA (evNi ft cl it e) l := rfl
@[simp] theorem N_call {f : Nat} {es : Exs} : evN ft cl (.call f es) e = callA ft cl (evNs ft cl es [] e) f := by
  rw [evNs_0]; rfl
@[simp] theorem N_bi {b : Bi} {es : Exs} : evN ft cl (.bi b es) e = biA (evNs ft cl es [] e) b := by
  rw [evNs_0]
  refine (evE_bi (ft := ft) (cl := cl)).trans ?_
  unfold biA biB
  congr 1; funext p
  rw [feA_0]
  rfl
@[simp] theorem N_ix {a i : Ex} : evN ft cl (.ix a i) e = ixA ft cl (evN ft cl a e) i := by
  refine (evE_ix (ft := ft) (cl := cl)).trans ?_
  unfold ixA
  congr 1; funext p
  unfold ixB
  show _ = evE ft cl i p.2 >>= _
  congr 1; funext q
  unfold op2 resA
  simp only [bind_asc]
@[simp] theorem N_sl {a : Ex} {lo hi : ExO} : evN ft cl (.sl a lo hi) e = slA ft cl (evN ft cl a e) lo hi := rfl
@[simp] theorem N_isi {a : Ex} {t : Ty} : evN ft cl (.isi a t) e = isiA (evN ft cl a e) t := rfl
@[simp] theorem No_none : evNo ft cl .none e = .ok (none, e) := rfl
@[simp] theorem No_some {x : Ex} : evNo ft cl (.some x) e = optA (evN ft cl x e) := rfl
@[simp] theorem Ni_seq {x : Ex} : evNi ft cl (.seq x) e = seqI (evN ft cl x e) id := evI_seq
@[simp] theorem Ni_enum {x : Ex} {k : Nat} : evNi ft cl (.enum x k) e = seqI (evN ft cl x e) (enumL k) := evI_enum
@[simp] theorem Ni_rng {es : Exs} : evNi ft cl (.rng es) e = rngI (evNs ft cl es [] e) := by
  rw [evNs_0]
  refine (evI_rng (ft := ft) (cl := cl)).trans ?_
  unfold rngI rngB
  congr 1; funext p
  rw [feA_0]
@[simp] theorem Ni_zip {es : Exs} : evNi ft cl (.zip es) e = zipI (evNs ft cl es [] e) := by
  rw [evNs_0]
  refine (evI_zip (ft := ft) (cl := cl)).trans ?_
  unfold zipI zipB
  congr 1; funext p
  rw [emA_0]
@[simp] theorem Nt_nil : evNt ft cl .nil e = .ok (true, e) := rfl
@[simp] theorem Nt_cons {c : Ex} {cs : Exs} : evNt ft cl (.cons c cs) e = tstA ft cl (asTest (evN ft cl c e)) cs := rfl
end
/-! statements -/
def asgA (m : R (Res × En)) (i : Nat) (pin : List Nat) : R (Fl × En) := m >>= fun p => setR pin i p.1 p.2 >>= fun e => .ok (.nx, e)
def asgTA (m : R (Res × En)) (ts : List Tg) (pin : List Nat) : R (Fl × En) := m >>= fun p => settle p.2 p.1 >>= fun q => if tgsOk pin ts = true then (bindT (.tp ts) q.1 q.2 >>= fun e => .ok (.nx, e)) else .no
def parB (m : R (Res × En)) (i j : Nat) (ra : Res) (pin : List Nat) : R (Fl × En) := m >>= fun q => stow q.2 ra >>= fun u => stow u.2 q.1 >>= fun v => if i < v.2.length ∧ j < v.2.length ∧ i ≠ j ∧ i ∉ pin ∧ j ∉ pin then .ok (.nx, (v.2.set i (some u.1)).set j (some v.1)) else .no
def augL (m : R (Res × En)) (x : Nat) : R (Fl × En) := m >>= fun p => fetch p.2 p.1 >>= fun d => asL d >>= fun ys => lst? (p.2.getD x none) >>= fun xs => if xs.length + ys.length ≤ sizeLine then .ok (.nx, p.2.set x (some ⟨true, .list (xs ++ ys)⟩)) else .no
def augI (m : R (Res × En)) (i : Int) (x : Nat) (pin : List Nat) : R (Fl × En) := m >>= fun p => fetch p.2 p.1 >>= fun d => asI d >>= fun j => if x < p.2.length ∧ x ∉ pin then .ok (.nx, p.2.set x (some ⟨false, .int (i + j)⟩)) else .no
def augA (s : Option Sv) (m : R (Res × En)) (x : Nat) (pin : List Nat) : R (Fl × En) := match lst? s with
  | .ok _ => augL m x
  | _ => int? s >>= fun i => augI m i x pin
@[simp] theorem augA_l {xs : List D} {m : R (Res × En)} {x : Nat} {pin : List Nat} : augA (some ⟨true, .list xs⟩) m x pin = augL m x := rfl
@[simp] theorem augA_i {i : Int} {m : R (Res × En)} {x : Nat} {pin : List Nat} : augA (some ⟨false, .int i⟩) m x pin = augI m i x pin := rfl
def appB (m : R (Res × En)) (x : Nat) : R (Fl × En) := m >>= fun p => embed p.2 p.1 >>= fun q => lst? (q.2.getD x none) >>= fun xs => if xs.length < sizeLine then .ok (.nx, q.2.set x (some ⟨true, .list (xs ++ [q.1])⟩)) else .no
def drpA (m : R (Res × En)) : R (Fl × En) := m >>= fun p => .ok (.nx, p.2)
def retA (m : R (Res × En)) (pin : List Nat) : R (Fl × En) := m >>= fun p => retR pin p.2 p.1
def rseA (m : R (List Res × En)) (c : Nat) : R (Fl × En) := m >>= fun p => emA [] p.1 p.2 >>= fun q => .ex (excD c q.1)
def setC (m : R (Res × En)) (x : Nat) (rv : Res) : R (Fl × En) := m >>= fun q => embed q.2 rv >>= fun u => fetch u.2 q.1 >>= fun di => asI di >>= fun k => lst? (u.2.getD x none) >>= fun xs => R.ofO (ixN xs.length k) >>= fun j => .ok (.nx, u.2.set x (some ⟨true, .list (xs.set j u.1)⟩))
section
variable (ft : Nat → Fd) (cl : Cl) (pin : List Nat)
def parA (m : R (Res × En)) (i j : Nat) (b : Ex) : R (Fl × En) := m >>= fun p => parB (evN ft cl b p.2) i j p.1 pin
def appA (m : R (List D)) (v : Ex) (x : Nat) (e : En) : R (Fl × En) := m >>= fun _ => appB (evN ft cl v e) x
def setB (m : R (List D)) (x : Nat) (i : Ex) (rv : Res) (e : En) : R (Fl × En) := m >>= fun _ => setC (evN ft cl i e) x rv
def setA (m : R (Res × En)) (x : Nat) (i : Ex) : R (Fl × En) := m >>= fun p => setB ft cl (lst? (p.2.getD x none)) x i p.1 p.2
def ifeA (m : R (Bool × En)) (a b : List Sm) : R (Fl × En) := m >>= fun p => if p.1 = true then evZ ft cl pin a p.2 else evZ ft cl pin b p.2
def forA (m : R (List D × En)) (t : Tg) (b : List Sm) : R (Fl × En) := m >>= fun p => if tgOk pin t = true then loopF (bodyF ft cl pin b) t p.1 p.2 else .no
end
section
variable {ft : Nat → Fd} {cl : Cl} {pin : List Nat} {e : En} {r ra : Res} {i j x : Nat}
@[simp] theorem asgA_ok : asgA (.ok (r, e)) i pin = (setR pin i r e >>= fun e => .ok (.nx, e)) := rfl
@[simp] theorem asgTA_ok {ts : List Tg} : asgTA (.ok (r, e)) ts pin = (settle e r >>= fun q => if tgsOk pin ts = true then (bindT (.tp ts) q.1 q.2 >>= fun e => .ok (.nx, e)) else .no) := rfl
@[simp] theorem parB_ok : parB (.ok (r, e)) i j ra pin = (stow e ra >>= fun u => stow u.2 r >>= fun v => if i < v.2.length ∧ j < v.2.length ∧ i ≠ j ∧ i ∉ pin ∧ j ∉ pin then .ok (.nx, (v.2.set i (some u.1)).set j (some v.1)) else .no) := rfl
@[simp] theorem parA_ok {b : Ex} : parA ft cl pin (.ok (r, e)) i j b = parB (evN ft cl b e) i j r pin := rfl
@[simp] theorem augL_ok : augL (.ok (r, e)) x = (fetch e r >>= fun d => asL d >>= fun ys => lst? (e.getD x none) >>= fun xs => if xs.length + ys.length ≤ sizeLine then .ok (.nx, e.set x (some ⟨true, .list (xs ++ ys)⟩)) else .no) := rfl
@[simp] theorem augI_ok {i : Int} : augI (.ok (r, e)) i x pin = (fetch e r >>= fun d => asI d >>= fun j => if x < e.length ∧ x ∉ pin then .ok (.nx, e.set x (some ⟨false, .int (i + j)⟩)) else .no) := rfl
@[simp] theorem appB_ok : appB (.ok (r, e)) x = (embed e r >>= fun q => lst? (q.2.getD x none) >>= fun xs => if xs.length < sizeLine then .ok (.nx, q.2.set x (some ⟨true, .list (xs ++ [q.1])⟩)) else .no) := rfl
@[simp] theorem appA_ok {l : List D} {v : Ex} : appA ft cl (.ok l) v x e = appB (evN ft cl v e) x := rfl
@[simp] theorem drpA_ok : drpA (.ok (r, e)) = .ok (.nx, e) := rfl
@[simp] theorem drpA_ex {x : D} : drpA (.ex x) = .ex x := rfl
@[simp] theorem retA_ok : retA (.ok (r, e)) pin = retR pin e r := rfl
@[simp] theorem rseA_ok {rs : List Res} {c : Nat} : rseA (.ok (rs, e)) c = (emA [] rs e >>= fun q => .ex (excD c q.1)) := rfl
@[simp] theorem setC_ok {rv : Res} : setC (.ok (r, e)) x rv = (embed e rv >>= fun u => fetch u.2 r >>= fun di => asI di >>= fun k => lst? (u.2.getD x none) >>= fun xs => R.ofO (ixN xs.length k) >>= fun j => .ok (.nx, u.2.set x (some ⟨true, .list (xs.set j u.1)⟩))) := rfl
@[simp] theorem setB_ok {l : List D} {i : Ex} {rv : Res} : setB ft cl (.ok l) x i rv e = setC (evN ft cl i e) x rv := rfl
@[simp] theorem setA_ok {i : Ex} : setA ft cl (.ok (r, e)) x i = setB ft cl (lst? (e.getD x none)) x i r e := rfl
@[simp] theorem ifeA_ok {t : Bool} {a b : List Sm} : ifeA ft cl pin (.ok (t, e)) a b = if t = true then evZ ft cl pin a e else evZ ft cl pin b e := rfl
@[simp] theorem forA_ok {xs : List D} {t : Tg} {b : List Sm} : forA ft cl pin (.ok (xs, e)) t b = if tgOk pin t = true then loopF (bodyF ft cl pin b) t xs e else .no := rfl
@[simp] theorem Z_nil : evZ ft cl pin [] e = .ok (.nx, e) := rfl
@[simp] theorem Z_cons {s : Sm} {l : List Sm} : evZ ft cl pin (s :: l) e = thenF (evY ft cl pin s e) (evZ ft cl pin l) := evSs_cons
@[simp] theorem Y_asg {v : Ex} : evY ft cl pin (.asg (.nm i) v) e = asgA (evN ft cl v e) i pin := rfl
@[simp] theorem Y_asgT {ts : List Tg} {v : Ex} : evY ft cl pin (.asg (.tp ts) v) e = asgTA (evN ft cl v e) ts pin := rfl
@[simp] theorem Y_par {a b : Ex} : evY ft cl pin (.par i j a b) e = parA ft cl pin (evN ft cl a e) i j b := rfl
@[simp] theorem Y_aug {v : Ex} : evY ft cl pin (.aug x .add v) e = augA (e.getD x none) (evN ft cl v e) x pin := by
  show augR (evE ft cl v e) x pin e = _
  unfold augR augA
  cases h : lst? (e.getD x none) <;> rfl
@[simp] theorem Y_app {v : Ex} : evY ft cl pin (.app x v) e = appA ft cl (lst? (e.getD x none)) v x e := rfl
@[simp] theorem Y_setix {i v : Ex} : evY ft cl pin (.setix x i v) e = setA ft cl (evN ft cl v e) x i := rfl
@[simp] theorem Y_drop {v : Ex} : evY ft cl pin (.drop v) e = drpA (evN ft cl v e) := rfl
@[simp] theorem Y_ife {c : Ex} {a b : List Sm} : evY ft cl pin (.ife c a b) e = ifeA ft cl pin (asTest (evN ft cl c e)) a b := rfl
@[simp] theorem Y_for {t : Tg} {it : Wk} {b : List Sm} : evY ft cl pin (.for_ t it b) e = forA ft cl pin (evNi ft cl it e) t b := rfl
@[simp] theorem Y_whl {c : Ex} {b : List Sm} : evY ft cl pin (.whl c b) e = loopW (cndF ft cl c) (bodyF ft cl pin b) wfuel e := rfl
@[simp] theorem Y_ret0 : evY ft cl pin (.ret none) e = .ok (.rt false .none, e) := rfl
@[simp] theorem Y_ret {v : Ex} : evY ft cl pin (.ret (some v)) e = retA (evN ft cl v e) pin := rfl
@[simp] theorem Y_rse {c : Nat} {es : Exs} : evY ft cl pin (.rse c es) e = rseA (evNs ft cl es [] e) c := by
  rw [evNs_0]
  show (evEs ft cl es e >>= fun p => embeds p.2 p.1 >>= fun q => R.ex (excD c q.1)) = _
  unfold rseA
  congr 1; funext p
  rw [emA_0]
def tryA (m : R (Fl × En)) (x y c : Nat) (pin : List Nat) (e : En) : R (Fl × En) := match m with
  | .ok p => .ok p
  | .ex v => if c = 0 ∧ plainV v = true ∧ x < e.length ∧ y < e.length ∧ x ≠ y ∧ x ∉ pin ∧ y ∉ pin then .ok (.nx, ((calmE e).set y (some ⟨false, v⟩)).set x none) else .no
  | .no => .no
@[simp] theorem tryA_ok {p : Fl × En} {c : Nat} {y : Nat} : tryA (.ok p) x y c pin e = .ok p := rfl
@[simp] theorem tryA_ex {v : D} {c : Nat} {y : Nat} : tryA (.ex v) x y c pin e = if c = 0 ∧ plainV v = true ∧ x < e.length ∧ y < e.length ∧ x ≠ y ∧ x ∉ pin ∧ y ∉ pin then .ok (.nx, ((calmE e).set y (some ⟨false, v⟩)).set x none) else .no := rfl
@[simp] theorem calmE_nil : calmE [] = [] := rfl
@[simp] theorem calmE_cons {s : Option Sv} {r : En} : calmE (s :: r) = unown s :: calmE r := rfl
@[simp] theorem Y_try {b : List Sm} {y c : Nat} : evY ft cl pin (.try_ b x y c) e = tryA (evZ ft cl pin b e) x y c pin e := rfl
@[simp] theorem Y_pass : evY ft cl pin .pass e = .ok (.nx, e) := rfl
end
theorem Z_append {ft : Nat → Fd} {cl : Cl} {pin : List Nat} {a b : List Sm} {e : En} : evZ ft cl pin (a ++ b) e = thenF (evZ ft cl pin a e) (evZ ft cl pin b) := evSs_append
/-! what is raised goes through -/
section
variable {ft : Nat → Fd} {cl : Cl} {pin : List Nat} {e : En} {v : D}
@[simp] theorem argA_ex {acc : List Res} {xs : Exs} : argA ft cl (.ex v) acc xs = .ex v := rfl
@[simp] theorem callA_ex {f : Nat} : callA ft cl (.ex v) f = .ex v := rfl
@[simp] theorem lstA_ex : lstA (.ex v) = .ex v := rfl
@[simp] theorem tupA_ex : tupA (.ex v) = .ex v := rfl
@[simp] theorem asgA_ex {i : Nat} : asgA (.ex v) i pin = .ex v := rfl
@[simp] theorem retA_ex : retA (.ex v) pin = .ex v := rfl
@[simp] theorem ifeA_ex {a b : List Sm} : ifeA ft cl pin (.ex v) a b = .ex v := rfl
@[simp] theorem cmpA_ex {o : COp} {b : Ex} : cmpA ft cl (.ex v) o b = .ex v := rfl
@[simp] theorem notA_ex : notA (.ex v) = .ex v := rfl
end
end Nm
set_option Elab.async false
set_option maxRecDepth 100000
set_option linter.all false
/-! Data that repr may be asked of, told by a computed bound. -/
namespace Nm
open PySem L2
mutual
/-- no dict, nested at most h deep, no great numbers, no long texts -/
def fine : Nat → D → Bool
  | _, .none => true
  | _, .bool _ => true
  | _, .int i => decide (i.natAbs < 10 ^ 39)
  | _, .str x => decide ((reprText x).length ≤ 41)
  | h + 1, .list l => fines h l
  | h + 1, .tuple l => fines h l
  | _, _ => false
def fines : Nat → List D → Bool
  | _, [] => true
  | h, x :: xs => fine h x && fines h xs
end
mutual
def wgt : D → Nat
  | .list l => wgts l + 1
  | .tuple l => wgts l + 1
  | _ => 1
def wgts : List D → Nat
  | [] => 0
  | x :: xs => wgt x + wgts xs
end
section
variable {h : Nat} {l m : List D} {d : D} {i : Int} {b : Bool} {x : Str}
@[simp] theorem fine_none : fine h .none = true := by cases h <;> rfl
@[simp] theorem fine_bool : fine h (.bool b) = true := by cases h <;> rfl
theorem fine_int : fine h (.int i) = decide (i.natAbs < 10 ^ 39) := by cases h <;> rfl
theorem fine_str : fine h (.str x) = decide ((reprText x).length ≤ 41) := by cases h <;> rfl
@[simp] theorem fine_list : fine (h + 1) (.list l) = fines h l := rfl
@[simp] theorem fine_tuple : fine (h + 1) (.tuple l) = fines h l := rfl
@[simp] theorem fines_nil : fines h [] = true := rfl
@[simp] theorem fines_cons : fines h (d :: l) = (fine h d && fines h l) := rfl
@[simp] theorem wgt_none : wgt .none = 1 := rfl
@[simp] theorem wgt_bool : wgt (.bool b) = 1 := rfl
@[simp] theorem wgt_int : wgt (.int i) = 1 := rfl
@[simp] theorem wgt_str : wgt (.str x) = 1 := rfl
@[simp] theorem wgt_list : wgt (.list l) = wgts l + 1 := rfl
@[simp] theorem wgt_tuple : wgt (.tuple l) = wgts l + 1 := rfl
@[simp] theorem wgts_nil : wgts [] = 0 := rfl
@[simp] theorem wgts_cons : wgts (d :: l) = wgt d + wgts l := rfl
@[simp] theorem fines_append : fines h (l ++ m) = (fines h l && fines h m) := by
  induction l with
  | nil => rfl
  | cons a l ih => simp [ih, Bool.and_assoc]
@[simp] theorem wgts_append : wgts (l ++ m) = wgts l + wgts m := by
  induction l with
  | nil => simp
  | cons a l ih => simp [ih]; omega
theorem fines_iff : fines h l = true ↔ ∀ x ∈ l, fine h x = true := by
  induction l with
  | nil => simp
  | cons a l ih => simp [ih]
theorem wgts_le {k : Nat} (g : ∀ x ∈ l, wgt x ≤ k) : wgts l ≤ l.length * k := by
  induction l with
  | nil => simp
  | cons a l ih =>
    have h1 := g a (by simp)
    have h2 := ih fun x hx => g x (by simp [hx])
    simp only [wgts_cons, List.length_cons, Nat.succ_mul]
    omega
theorem fine_small (h1 : -(10 ^ 30) ≤ i) (h2 : i ≤ 10 ^ 30) : fine h (.int i) = true := by
  rw [fine_int]; exact decide_eq_true (by omega)
theorem wgt_pos : ∀ {d : D}, 1 ≤ wgt d
  | .none | .bool _ | .int _ | .str _ | .dict _ => Nat.le_refl _
  | .list _ | .tuple _ => Nat.succ_le_succ (Nat.zero_le _)
end
theorem log2_10 {n : Nat} (h : n < 10 ^ 39) : n.log2 < 1920 := by
  by_cases z : n = 0
  · rw [z]; decide
  · exact (Nat.log2_lt z).mpr (Nat.lt_trans h (by decide))
theorem int_shown {i : Int} (h : i.natAbs < 10 ^ 39) : (PyData.int i).shown.length ≤ 41 := by
  have := int_text_length_le10 (by decide : 0 < 39) h
  rw [PyData.shown]
  refine Nat.le_trans ?_ (Nat.le_trans this (by decide))
  exact Nat.le_of_eq (ofString_length _)
mutual
theorem fine_ok : ∀ (h : Nat) (d : D), fine h d = true → nd d ∧ d.showable = true ∧ d.depth ≤ h ∧ d.shown.length + 2 ≤ 43 * wgt d
  | h, .none, _ => ⟨rfl, rfl, Nat.zero_le _, by decide⟩
  | h, .bool b, _ => ⟨rfl, rfl, Nat.zero_le _, by cases b <;> decide⟩
  | h, .int i, q => by
    rw [fine_int] at q
    have q := of_decide_eq_true q
    refine ⟨rfl, decide_eq_true (log2_10 q), Nat.zero_le _, ?_⟩
    have := int_shown q
    show _ ≤ 43 * 1
    omega
  | h, .str x, q => by
    rw [fine_str] at q
    have q := of_decide_eq_true q
    refine ⟨rfl, rfl, Nat.zero_le _, ?_⟩
    show (reprText x).length + 2 ≤ 43 * 1
    omega
  | 0, .list l, q => by cases q
  | 0, .tuple l, q => by cases q
  | h + 1, .list l, q => by
    obtain ⟨a1, a2, a3, a4⟩ := fines_ok h l q
    refine ⟨nd_list.mpr a1, ?_, ?_, ?_⟩
    · rw [PyData.showable]; exact showableAll_of a2
    · rw [PyData.depth]; exact Nat.succ_le_succ (depthAll_of a3)
    · rw [PyData.shown, shownAll_map]
      have h1 := listText_le (l.map PyData.shown)
      show _ ≤ 43 * (wgts l + 1)
      omega
  | h + 1, .tuple l, q => by
    obtain ⟨a1, a2, a3, a4⟩ := fines_ok h l q
    refine ⟨nd_tuple.mpr a1, ?_, ?_, ?_⟩
    · rw [PyData.showable]; exact showableAll_of a2
    · rw [PyData.depth]; exact Nat.succ_le_succ (depthAll_of a3)
    · rw [PyData.shown, shownAll_map]
      have h1 := tupleText_le (l.map PyData.shown)
      show _ ≤ 43 * (wgts l + 1)
      omega
  | 0, .dict _, q => by cases q
  | _ + 1, .dict _, q => by cases q
theorem fines_ok : ∀ (h : Nat) (l : List D), fines h l = true → (∀ x ∈ l, nd x) ∧ (∀ x ∈ l, x.showable = true) ∧ (∀ x ∈ l, x.depth ≤ h) ∧ piled (l.map PyData.shown) ≤ 43 * wgts l
  | h, [], _ => ⟨fun _ h => (nomatch h), fun _ h => (nomatch h), fun _ h => (nomatch h), Nat.zero_le _⟩
  | h, x :: l, q => by
    have q : (fine h x && fines h l) = true := q
    simp only [Bool.and_eq_true] at q
    obtain ⟨b1, b2, b3, b4⟩ := fine_ok h x q.1
    obtain ⟨a1, a2, a3, a4⟩ := fines_ok h l q.2
    refine ⟨fun y hy => ?_, fun y hy => ?_, fun y hy => ?_, ?_⟩
    · rcases List.mem_cons.mp hy with rfl | hy
      · exact b1
      · exact a1 y hy
    · rcases List.mem_cons.mp hy with rfl | hy
      · exact b2
      · exact a2 y hy
    · rcases List.mem_cons.mp hy with rfl | hy
      · exact b3
      · exact a3 y hy
    · rw [List.map_cons, piled_cons]
      show _ ≤ 43 * (wgt x + wgts l)
      omega
end
theorem Rp.of_fine {h w : Nat} {d : D} (f : fine h d = true) (hw : wgt d ≤ w) : Rp (43 * w) h d := by
  obtain ⟨a1, a2, a3, a4⟩ := fine_ok h d f
  exact ⟨a1, a2, a3, by omega⟩
theorem fine_repr {h : Nat} {d : D} (f : fine h d = true) (hh : h ≤ 64) (hw : wgt d ≤ 390000) : reprOk d = true := (Rp.of_fine f hw).ok (by decide) hh
theorem fine_nd {h : Nat} {d : D} (f : fine h d = true) : nd d := (fine_ok h d f).1
theorem fine_eq {h : Nat} {d : D} (f : fine h d = true) (hh : h ≤ 64) : cmpop .eq d d = .ok true := eq_self (fine_ok h d f).1 (Nat.le_trans (fine_ok h d f).2.2.1 hh)
theorem fine_ne {h : Nat} {d : D} (f : fine h d = true) (hh : h ≤ 64) : cmpop .ne d d = .ok false := ne_self (fine_ok h d f).1 (Nat.le_trans (fine_ok h d f).2.2.1 hh)
/-- a rule whose shifts can be written -/
structure RuleF (r : Rule) : Prop where
  ok : RuleOk r
  near : ∀ g ∈ r.grids, ∀ x ∈ g.shifts, -(10 ^ 30) ≤ x ∧ x ≤ 10 ^ 30
theorem Bent.f {s m : Int} {r : Rule} (h : Bent s m r) (hs : s = 1 ∨ s = 2) (hm : m ≤ 10 ^ 30) : RuleF r :=
  ⟨(h.ok hs).1, fun g hg x hx => by have := h.near g hg x hx; omega⟩
theorem fines_ints {h : Nat} {l : List Int} (g : ∀ x ∈ l, -(10 ^ 30) ≤ x ∧ x ≤ 10 ^ 30) : fines h (intsD l) = true := fines_iff.mpr fun x hx => by
  obtain ⟨i, hi, rfl⟩ := List.mem_map.mp hx
  exact fine_small (g i hi).1 (g i hi).2
@[simp] theorem wgts_ints {l : List Int} : wgts (intsD l) = l.length := by
  induction l with
  | nil => rfl
  | cons a l ih =>
    show wgt (.int a) + wgts (intsD l) = l.length + 1
    rw [ih]; simp; omega
theorem RuleF.grids {r : Rule} (h : RuleF r) : ∀ d ∈ r.grids.map gridD, fine 2 d = true ∧ wgt d ≤ 8 := by
  intro d hd
  obtain ⟨g, hg, rfl⟩ := List.mem_map.mp hd
  have g1 := h.ok.grids g hg
  have hs := h.ok.sides
  have z1 := g1.sizes
  have z2 := g1.shifts
  have z3 := g1.reach
  constructor
  · have a1 := fines_ints (h := 0) (l := g.sizes) fun x hx => by have := g1.size x hx; omega
    have a2 := fines_ints (h := 0) (l := g.shifts) fun x hx => h.near g hg x hx
    have a3 : fine 1 (.int g.reach) = true := fine_small (by omega) (by omega)
    simp [gridD, a1, a2, a3]
  · simp [gridD]
    omega
theorem RuleF.fine {r : Rule} (h : RuleF r) : fine 4 (ruleD r) = true ∧ wgt (ruleD r) ≤ 99 := by
  have hs := h.ok.sides
  have hg := h.ok.some_
  constructor
  · have a1 : Nm.fine 3 (.int r.sides) = true := fine_small (by omega) (by omega)
    have a2 : fines 2 (r.grids.map gridD) = true := fines_iff.mpr fun x hx => (h.grids x hx).1
    simp [ruleD, a1, a2]
  · have := wgts_le (l := r.grids.map gridD) (k := 8) fun x hx => (h.grids x hx).2
    simp [ruleD] at this ⊢
    omega
end Nm
set_option Elab.async false
set_option maxRecDepth 100000
set_option linter.all false
/-! Loops and draws, for the engine NmN. -/
namespace Nm
open PySem L2
section
variable {β : Type} {body : En → R (Fl × En)} {tg : Tg} {K : En → R (Fl × En)} {f : Fl × En → R β} {Q : β → Prop}
/-- a loop that no turn leaves, by place -/
theorem loopI {α : Type} {l : List α} {g : α → D} {e : En} (I : Nat → En → Prop) (h0 : I 0 e)
    (hs : ∀ i (hi : i < l.length) e, I i e → Ok (bindT tg (g l[i]) e >>= body) fun p => ∃ e', p = (.nx, e') ∧ I (i + 1) e')
    (hE : ∀ e, I l.length e → Ok (K e >>= f) Q) : Ok (thenF (loopF body tg (l.map g) e) K >>= f) Q := by
  rw [thenF_bindR]
  refine Ok.bind (loopF_ok (Q := fun q => ∃ e', q = (.nx, e') ∧ I l.length e') I h0 ?_ ?_) ?_
  · intro i hi e hI
    refine (hs i hi e hI).imp ?_
    rintro _ ⟨e', rfl, q⟩
    exact q
  · intro e hI
    exact ⟨e, rfl, hI⟩
  · rintro _ ⟨e', rfl, q⟩
    exact hE e' q
/-- .. over a list as it is -/
theorem loopL {l : List D} {e : En} (I : En → Prop) (h0 : I e)
    (hs : ∀ d ∈ l, ∀ e, I e → Ok (bindT tg d e >>= body) fun p => ∃ e', p = (.nx, e') ∧ I e')
    (hE : ∀ e, I e → Ok (K e >>= f) Q) : Ok (thenF (loopF body tg l e) K >>= f) Q := by
  have := loopI (body := body) (tg := tg) (K := K) (f := f) (Q := Q) (l := l) (g := fun d => d) (e := e) (fun _ => I) h0 (fun i hi e hI => hs _ (List.getElem_mem hi) e hI) hE
  rwa [List.map_id'] at this
/-- .. over whole numbers from 0 -/
theorem loopR {n : Nat} {e : En} (I : Nat → En → Prop) (h0 : I 0 e)
    (hs : ∀ i, i < n → ∀ e, I i e → Ok (bindT tg (.int (i : Int)) e >>= body) fun p => ∃ e', p = (.nx, e') ∧ I (i + 1) e')
    (hE : ∀ e, I n e → Ok (K e >>= f) Q) : Ok (thenF (loopF body tg ((List.range n).map fun (k : Nat) => PyData.int (k : Int)) e) K >>= f) Q := by
  refine loopI (l := List.range n) I h0 (fun i hi e hI => ?_) (fun e hI => hE e (by simpa using hI))
  rw [List.getElem_range]
  exact hs i (by simpa using hi) e hI
/-- a loop that a turn may leave -/
theorem loopE {α : Type} {l : List α} {g : α → D} {e : En} (I : Nat → En → Prop) (h0 : I 0 e)
    (hs : ∀ i (hi : i < l.length) e, I i e → Ok (bindT tg (g l[i]) e >>= body) fun p => match p.1 with | .nx => I (i + 1) p.2 | .rt o d => Ok (f (.rt o d, p.2)) Q)
    (hE : ∀ e, I l.length e → Ok (K e >>= f) Q) : Ok (thenF (loopF body tg (l.map g) e) K >>= f) Q := by
  rw [thenF_bindR]
  refine Ok.bind (loopF_ok (Q := fun q => match q.1 with | .nx => I l.length q.2 | .rt o d => Ok (f (.rt o d, q.2)) Q) I h0 hs ?_) ?_
  · intro e hI
    exact hI
  · rintro ⟨fl, e'⟩ q
    cases fl with
    | nx => exact hE e' q
    | rt o d => exact q
theorem loopE' {α : Type} {l : List α} {g : α → D} {e : En} {Q : Fl × En → Prop} (I : Nat → En → Prop) (h0 : I 0 e)
    (hs : ∀ i (hi : i < l.length) e, I i e → Ok (bindT tg (g l[i]) e >>= body) fun p => match p.1 with | .nx => I (i + 1) p.2 | .rt o d => Q (.rt o d, p.2))
    (hE : ∀ e, I l.length e → Ok (K e) Q) : Ok (thenF (loopF body tg (l.map g) e) K) Q := by
  have e1 : ∀ m : R (Fl × En), (m >>= R.ok) = m := fun m => by cases m <;> rfl
  have := loopE (K := K) (f := R.ok) (Q := Q) I h0 (fun i hi e hI => (hs i hi e hI).imp fun p hp => by
    obtain ⟨fl, e'⟩ := p
    cases fl with
    | nx => exact hp
    | rt o d => exact ⟨_, rfl, hp⟩) (fun e hI => by rw [e1]; exact hE e hI)
  rwa [e1] at this
/-- a while loop: what holds, a measure that falls, what holds behind -/
theorem whileI {c : En → R (Bool × En)} (I : Nat → En → Prop) (E : En → Prop)
    (hs : ∀ n e, I n e → Ok (c e) fun p => if p.1 = true then Ok (body p.2) (fun q => ∃ e', q = (.nx, e') ∧ ∃ m, m < n ∧ I m e') else E p.2)
    {n fuel : Nat} {e : En} (hn : n < fuel) (h0 : I n e) (hE : ∀ e, E e → Ok (K e >>= f) Q) : Ok (thenF (loopW c body fuel e) K >>= f) Q := by
  rw [thenF_bindR]
  refine Ok.bind (loopW_ok (Q := fun q => ∃ e', q = (.nx, e') ∧ E e') I ?_ n fuel e hn h0) ?_
  · intro n e hI
    refine (hs n e hI).imp ?_
    rintro ⟨b, e1⟩ hp
    cases b with
    | true =>
      have hp : Ok (body e1) (fun q => ∃ e', q = (.nx, e') ∧ ∃ m, m < n ∧ I m e') := by simpa using hp
      show if true = true then _ else _
      rw [if_pos rfl]
      refine hp.imp ?_
      rintro _ ⟨e', rfl, q⟩
      exact q
    | false =>
      have hp : E e1 := by simpa using hp
      show if false = true then _ else _
      rw [if_neg (by decide)]
      exact ⟨e1, rfl, hp⟩
  · rintro _ ⟨e', rfl, q⟩
    exact hE e' q
theorem wfuel_eq : wfuel = 1000000000 := rfl
end
theorem smallN {s : Nat} (h : s ≤ 16777216) : -4611686018427387904 ≤ (s : Int) ∧ (s : Int) < 4611686018427387904 ∧ (s : Int) ≤ 16777216 ∧ s ≤ 16777216 := by omega
theorem imms_of {α : Type} {f : α → D} (h : ∀ a, imm (f a) = true) : ∀ {l : List α}, imms (l.map f) = true
  | [] => rfl
  | a :: l => by rw [List.map_cons, imms_cons, h a, imms_of h]; rfl
@[simp] theorem imms_mapI {α : Type} {l : List α} {f : α → Int} : imms (l.map fun a => PyData.int (f a)) = true := imms_of fun _ => rfl
@[simp] theorem imms_mapB {α : Type} {l : List α} {f : α → Bool} : imms (l.map fun a => PyData.bool (f a)) = true := imms_of fun _ => rfl
def pickD (xs : List D) (i : Int) : D := (atI xs i).getD .none
theorem atI_pick {xs : List D} {p k : Int} (hk : k = xs.length) (h : 0 < k) : atI xs (p % k) = some (pickD xs (p % k)) := by
  obtain ⟨d, _, e⟩ := pick_at xs p k hk h
  rw [pickD, e]; rfl
theorem pick_mem {xs : List D} {p k : Int} {d : D} (hk : k = xs.length) (h : 0 < k) (e : pickD xs (p % k) = d) : d ∈ xs := by
  obtain ⟨d', m, e'⟩ := pick_at xs p k hk h
  rw [pickD, e'] at e
  subst e
  exact m
/-- a digit as a place -/
theorem digit (p k : Int) (h : 0 < k) : ∃ j : Nat, p % k = j ∧ (j : Int) < k := by
  have h1 := Int.emod_nonneg p (show k ≠ 0 by omega)
  have h2 := Int.emod_lt_of_pos p h
  exact ⟨(p % k).toNat, by omega, by omega⟩
theorem cut_toI {xs : List D} {k : Int} {j : Nat} (h : k = j) : cutD xs none (some k) = xs.take j := by rw [h, cut_to]
theorem cut_fromI {xs : List D} {k : Int} {j : Nat} (h : k = j) : cutD xs (some k) none = xs.drop j := by rw [h, cut_from]
end Nm
set_option Elab.async false
set_option maxRecDepth 100000
set_option linter.all false
/-! Common multiples; numbers that stand right to many grids at once. -/
namespace Nm
open PySem L2
theorem bez (a b : Nat) : ∃ u v : Int, (a : Int) * u + (b : Int) * v = (Nat.gcd a b : Nat) := by
  induction a, b using Nat.gcd.induction with
  | H0 n => exact ⟨0, 1, by simp⟩
  | H1 m n hm ih =>
    obtain ⟨u, v, e⟩ := ih
    refine ⟨v - (n / m : Nat) * u, u, ?_⟩
    rw [Nat.gcd_rec m n, ← e]
    have h : ((n % m : Nat) : Int) = (n : Int) - (m : Int) * ((n / m : Nat) : Int) := by
      have := Nat.div_add_mod n m
      have : ((m * (n / m) + n % m : Nat) : Int) = (n : Int) := by rw [this]
      rw [Int.natCast_add, Int.natCast_mul] at this
      omega
    rw [h, Int.mul_sub, Int.sub_mul, Int.mul_assoc]
    omega
theorem gcd_lcm {a b s : Nat} (hs : 0 < s) : Nat.gcd (Nat.lcm a b) s ∣ Nat.lcm (Nat.gcd a s) (Nat.gcd b s) := by
  have hd : 0 < Nat.gcd (Nat.gcd a b) s := Nat.gcd_pos_of_pos_right _ hs
  refine Nat.dvd_of_mul_dvd_mul_left hd ?_
  have e : Nat.gcd (Nat.gcd a b) s * Nat.lcm (Nat.gcd a s) (Nat.gcd b s) = Nat.gcd a s * Nat.gcd b s := by
    have : Nat.gcd (Nat.gcd a b) s = Nat.gcd (Nat.gcd a s) (Nat.gcd b s) := by
      refine Nat.dvd_antisymm ?_ ?_
      · have h1 := Nat.gcd_dvd_left (Nat.gcd a b) s
        have h2 := Nat.gcd_dvd_right (Nat.gcd a b) s
        exact Nat.dvd_gcd (Nat.dvd_gcd (Nat.dvd_trans h1 (Nat.gcd_dvd_left a b)) h2) (Nat.dvd_gcd (Nat.dvd_trans h1 (Nat.gcd_dvd_right a b)) h2)
      · have h1 := Nat.gcd_dvd_left (Nat.gcd a s) (Nat.gcd b s)
        have h2 := Nat.gcd_dvd_right (Nat.gcd a s) (Nat.gcd b s)
        exact Nat.dvd_gcd (Nat.dvd_gcd (Nat.dvd_trans h1 (Nat.gcd_dvd_left a s)) (Nat.dvd_trans h2 (Nat.gcd_dvd_left b s))) (Nat.dvd_trans h1 (Nat.gcd_dvd_right a s))
    rw [this, Nat.gcd_mul_lcm]
  rw [e, show Nat.gcd a s * Nat.gcd b s = Nat.gcd (a * Nat.gcd b s) (s * Nat.gcd b s) from (Nat.gcd_mul_right a (Nat.gcd b s) s).symm]
  have d1 : Nat.gcd (Nat.gcd a b) s ∣ a := Nat.dvd_trans (Nat.gcd_dvd_left _ _) (Nat.gcd_dvd_left _ _)
  have d2 : Nat.gcd (Nat.gcd a b) s ∣ b := Nat.dvd_trans (Nat.gcd_dvd_left _ _) (Nat.gcd_dvd_right _ _)
  have d3 : Nat.gcd (Nat.gcd a b) s ∣ s := Nat.gcd_dvd_right _ _
  have l3 : Nat.gcd (Nat.lcm a b) s ∣ s := Nat.gcd_dvd_right _ _
  refine Nat.dvd_gcd ?_ ?_
  · rw [show a * Nat.gcd b s = Nat.gcd (a * b) (a * s) from (Nat.gcd_mul_left a b s).symm]
    refine Nat.dvd_gcd ?_ ?_
    · have := Nat.mul_dvd_mul (Nat.gcd_dvd_left (Nat.gcd a b) s) (Nat.gcd_dvd_left (Nat.lcm a b) s)
      rwa [Nat.gcd_mul_lcm] at this
    · exact Nat.mul_dvd_mul d1 l3
  · rw [show s * Nat.gcd b s = Nat.gcd (s * b) (s * s) from (Nat.gcd_mul_left s b s).symm]
    refine Nat.dvd_gcd ?_ ?_
    · rw [Nat.mul_comm s b]; exact Nat.mul_dvd_mul d2 l3
    · exact Nat.mul_dvd_mul d3 l3
def lcml (l : List (Nat × Int)) : Nat := l.foldr (fun p a => Nat.lcm p.1 a) 1
theorem lcml_dvd {l : List (Nat × Int)} {p : Nat × Int} (h : p ∈ l) : p.1 ∣ lcml l := by
  induction l with
  | nil => cases h
  | cons q l ih =>
    rcases List.mem_cons.mp h with rfl | h
    · exact Nat.dvd_lcm_left _ _
    · exact Nat.dvd_trans (ih h) (Nat.dvd_lcm_right _ _)
theorem lcml_gcd {s m : Nat} (hs : 0 < s) : ∀ {l : List (Nat × Int)}, (∀ p ∈ l, Nat.gcd p.1 s ∣ m) → Nat.gcd (lcml l) s ∣ m
  | [], _ => by
    show Nat.gcd 1 s ∣ m
    rw [Nat.gcd_one_left]; exact Nat.one_dvd m
  | p :: l, h => Nat.dvd_trans (gcd_lcm hs) (Nat.lcm_dvd (h p (by simp)) (lcml_gcd hs fun q hq => h q (by simp [hq])))
/-- where each two meet, all do -/
theorem crt : ∀ l : List (Nat × Int), (∀ p ∈ l, 0 < p.1) → (∀ p ∈ l, ∀ q ∈ l, ∃ c : Int, (p.1 : Int) ∣ c - p.2 ∧ (q.1 : Int) ∣ c - q.2) → ∃ c : Int, ∀ p ∈ l, (p.1 : Int) ∣ c - p.2
  | [], _, _ => ⟨0, fun _ h => nomatch h⟩
  | (s, t) :: l, hp, hc => by
    obtain ⟨x, hx⟩ := crt l (fun p h => hp p (by simp [h])) fun p h q h' => hc p (by simp [h]) q (by simp [h'])
    have hs : 0 < s := hp (s, t) (by simp)
    have hg : Nat.gcd (lcml l) s ∣ (t - x).natAbs := lcml_gcd hs fun p h => by
      obtain ⟨c, h1, h2⟩ := hc p (by simp [h]) (s, t) (by simp)
      have g1 : ((Nat.gcd p.1 s : Nat) : Int) ∣ (p.1 : Int) := Int.natCast_dvd_natCast.mpr (Nat.gcd_dvd_left _ _)
      have g2 : ((Nat.gcd p.1 s : Nat) : Int) ∣ (s : Int) := Int.natCast_dvd_natCast.mpr (Nat.gcd_dvd_right _ _)
      have e1 := Int.dvd_trans g1 h1
      have e2 := Int.dvd_trans g2 h2
      have e3 := Int.dvd_trans g1 (hx p h)
      have : t - x = (c - p.2) - (c - t) - (x - p.2) := by omega
      refine Int.ofNat_dvd_left.mp ?_
      rw [this]
      exact Int.dvd_sub (Int.dvd_sub e1 e2) e3
    obtain ⟨w, hw⟩ := Int.ofNat_dvd_left.mpr hg
    obtain ⟨u, v, huv⟩ := bez (lcml l) s
    refine ⟨x + (lcml l : Int) * (u * w), fun p h => ?_⟩
    rcases List.mem_cons.mp h with rfl | h
    · refine ⟨-(v * w), ?_⟩
      have : (lcml l : Int) * (u * w) + (s : Int) * (v * w) = t - x := by
        rw [hw, ← huv, Int.add_mul, Int.mul_assoc, Int.mul_assoc]
      show x + _ - t = (s : Int) * -(v * w)
      rw [Int.mul_neg]
      omega
    · have h1 : (p.1 : Int) ∣ (lcml l : Int) := Int.natCast_dvd_natCast.mpr (lcml_dvd h)
      have : x + (lcml l : Int) * (u * w) - p.2 = (x - p.2) + (lcml l : Int) * (u * w) := by omega
      rw [this]
      exact Int.dvd_add (hx p h) (Int.dvd_trans h1 (Int.dvd_mul_right _ _))
/-! the period of a side -/
def perL (l : List Int) : Nat := l.foldl (fun a x => Nat.lcm a x.toNat) 1
theorem perL_snoc {l : List Int} {x : Int} : perL (l ++ [x]) = Nat.lcm (perL l) x.toNat := by
  unfold perL
  rw [List.foldl_append]; rfl
theorem per_fold : ∀ {l : List Int} {a m : Nat}, l.foldl (fun a x => Nat.lcm a x.toNat) a ∣ m ↔ a ∣ m ∧ ∀ x ∈ l, x.toNat ∣ m
  | [], a, m => by simp
  | x :: l, a, m => by
    rw [List.foldl_cons, per_fold, Nat.lcm_dvd_iff]
    simp [and_assoc]
theorem perL_dvd {l : List Int} {m : Nat} : perL l ∣ m ↔ ∀ x ∈ l, x.toNat ∣ m := by
  unfold perL
  rw [per_fold]
  simp
theorem perL_mem {l : List Int} {x : Int} (h : x ∈ l) : x.toNat ∣ perL l := perL_dvd.mp (Nat.dvd_refl _) x h
theorem per_pos : ∀ {l : List Int} {a : Nat}, 0 < a → (∀ x ∈ l, 0 < x) → 0 < l.foldl (fun a x => Nat.lcm a x.toNat) a
  | [], a, h, _ => h
  | x :: l, a, h, g => by
    have hx := g x (by simp)
    rw [List.foldl_cons]
    exact per_pos (Nat.lcm_pos h (by omega)) fun y hy => g y (by simp [hy])
theorem perL_pos {l : List Int} (g : ∀ x ∈ l, 0 < x) : 0 < perL l := per_pos (by decide) g
theorem per_le {b : Nat} : ∀ {l : List Int} {a : Nat}, 0 < a → (∀ x ∈ l, 0 < x ∧ x ≤ b) → l.foldl (fun a x => Nat.lcm a x.toNat) a ≤ a * b ^ l.length
  | [], a, h, _ => by simp
  | x :: l, a, h, g => by
    have hx := g x (by simp)
    have h1 := per_le (l := l) (a := Nat.lcm a x.toNat) (Nat.lcm_pos h (by omega)) fun y hy => g y (by simp [hy])
    have h2 : Nat.lcm a x.toNat ≤ a * b := Nat.le_trans (Nat.lcm_le_mul h (by omega)) (Nat.mul_le_mul_left _ (by omega))
    have h3 := Nat.mul_le_mul_right (b ^ l.length) h2
    rw [List.foldl_cons, List.length_cons, Nat.pow_succ]
    rw [Nat.mul_assoc, Nat.mul_comm b] at h3
    exact Nat.le_trans h1 h3
theorem perL_le {b : Nat} {l : List Int} (g : ∀ x ∈ l, 0 < x ∧ x ≤ b) : perL l ≤ b ^ l.length := by
  have := per_le (l := l) (a := 1) (by decide) g
  rwa [Nat.one_mul] at this
/-- the sizes of a side -/
def sizesAt (r : Rule) (i : Nat) : List Int := r.grids.map fun g => nth g.sizes i
def per (r : Rule) (i : Nat) : Nat := perL (sizesAt r i)
def periodsL (r : Rule) : List Int := (List.range r.sides.toNat).map fun i => (per r i : Int)
theorem GridOk.sz {s : Int} {g : Grid} (h : GridOk s g) {i : Nat} (hi : (i : Int) < s) : 1 ≤ nth g.sizes i ∧ nth g.sizes i ≤ 60 :=
  h.size _ (nth_mem (by have := h.sizes; omega))
theorem RuleOk.szs {r : Rule} (h : RuleOk r) {i : Nat} (hi : (i : Int) < r.sides) : ∀ x ∈ sizesAt r i, 0 < x ∧ x ≤ (60 : Nat) := fun x hx => by
  obtain ⟨g, hg, rfl⟩ := List.mem_map.mp hx
  have := (h.grids g hg).sz hi
  omega
theorem RuleOk.per_pos {r : Rule} (h : RuleOk r) {i : Nat} (hi : (i : Int) < r.sides) : 0 < per r i := perL_pos fun x hx => (h.szs hi x hx).1
theorem per_mem {r : Rule} {i : Nat} {g : Grid} (hg : g ∈ r.grids) : (nth g.sizes i).toNat ∣ per r i := perL_mem (List.mem_map.mpr ⟨g, hg, rfl⟩)
end Nm
set_option Elab.async false
set_option maxRecDepth 100000
set_option linter.all false
/-! The periods, by the program and by the law. -/
namespace Nm
open PySem L2
theorem c33 (n : Nat) (a b : Nat) (ha : 0 < a) (hb : 0 < b) (ha2 : a < 2 ^ 200) (hb2 : b ≤ 1000) : callN ft (n + 1) 33 [⟨false, .int a⟩, ⟨false, .int b⟩] = .ok ⟨false, .int (Nat.lcm a b : Nat), [none, none]⟩ := by
  suffices t : Ok (callN ft (n + 1) 33 [⟨false, .int a⟩, ⟨false, .int b⟩]) fun o => o = ⟨false, .int (Nat.lcm a b : Nat), [none, none]⟩ by
    obtain ⟨_, e, rfl⟩ := t; exact e
  refine Ok.by_ fun Q hQ => ?_
  rw [run33, evSs_Z]
  simp -implicitDefEqProofs only [fd33]
  rw [Z_cons]; generalize hK : evZ ft _ _ _ = K; simp -implicitDefEqProofs; subst hK
  rw [Z_cons]; generalize hK : evZ ft _ _ _ = K; simp -implicitDefEqProofs
  refine whileI (fun m e => ∃ x y : Nat, e = [some ⟨false, .int a⟩, some ⟨false, .int b⟩, some ⟨false, .int x⟩, some ⟨false, .int y⟩] ∧ min x y + (if y < x then 1 else 0) = m ∧ 0 < y ∧ Nat.gcd x y = Nat.gcd a b)
    (fun e => e = [some ⟨false, .int a⟩, some ⟨false, .int b⟩, some ⟨false, .int 0⟩, some ⟨false, .int (Nat.gcd a b : Nat)⟩]) ?_ (n := min a b + (if b < a then 1 else 0)) ?_ ⟨a, b, rfl, rfl, hb, rfl⟩ ?_
  · rintro m _ ⟨x, y, rfl, rfl, hy, hg⟩
    refine Ok.by_ fun Q hQ => ?_
    simp -implicitDefEqProofs
    refine Ok.ok (hQ _ ?_)
    by_cases hx : 0 < x
    · have hx' : (0 : Int) < x := by omega
      simp -implicitDefEqProofs [hx]
      refine Ok.ok ⟨_, rfl, _, ?_, y % x, x, ?_, rfl, hx, ?_⟩
      · have := Nat.mod_lt y hx
        have h2 : ¬ x < y % x := by omega
        rw [if_neg h2]
        by_cases h3 : y < x
        · rw [if_pos h3, Nat.mod_eq_of_lt h3]; omega
        · rw [if_neg h3]; omega
      · simp
      · rw [← hg, Nat.gcd_rec x y]
    · have : x = 0 := by omega
      subst this
      simp -implicitDefEqProofs
      rw [← hg]; simp
  · rw [wfuel_eq]; split <;> omega
  · rintro _ rfl
    subst hK
    have hg : 0 < Nat.gcd a b := Nat.gcd_pos_of_pos_left _ ha
    have hg' : (0 : Int) < (Nat.gcd a b : Nat) := by omega
    have hgl : Nat.gcd a b ≤ a := Nat.gcd_le_left _ ha
    have m1 := mulB (i := a) (j := b) (by omega) (by omega) (by omega) (by omega)
    have m2 : Nat.gcd a b < bigN := by
      have : ((Nat.gcd a b : Nat) : Int).natAbs < bigN := bigN_of (by omega) (by omega)
      simpa using this
    simp -implicitDefEqProofs [m1, m2, hg, -mul_int]
    refine Ok.ok (hQ _ ?_)
    rw [Nat.lcm_eq_mul_div, ← Int.natCast_mul, ← Int.natCast_ediv]
theorem per_snoc {gs : List Grid} {g : Grid} {i : Nat} : perL ((gs ++ [g]).map fun g => nth g.sizes i) = Nat.lcm (perL (gs.map fun g => nth g.sizes i)) (nth g.sizes i).toNat := by
  rw [List.map_append]; exact perL_snoc
theorem range_nth (l : List Int) : l = (List.range l.length).map (nth l) := by
  refine List.ext_getElem (by simp) fun i h1 h2 => ?_
  rw [List.getElem_map, List.getElem_range, nth_get h1]
def perG (gs : List Grid) (k : Nat) : Nat := perL (gs.map fun g => nth g.sizes k)
def perF (gs : List Grid) (s : Nat) : List D := (List.range s).map fun k => .int (perG gs k)
theorem perF_0 {s : Nat} : List.replicate s (PyData.int 1) = perF [] s := by
  refine (List.eq_replicate_iff.mpr ⟨by simp [perF], fun b hb => ?_⟩).symm
  obtain ⟨i, _, rfl⟩ := List.mem_map.mp hb
  rfl
theorem perF_zip {gs : List Grid} {l : List Int} {s : Nat} (h : l.length = s) : zip2 (perF gs s) (intsD l) = (List.range s).map fun k => .tuple [.int (perG gs k), .int (nth l k)] := by
  have ez : l = (List.range s).map (nth l) := by
    have := range_nth l
    rwa [h] at this
  rw [show intsD l = intsD ((List.range s).map (nth l)) by rw [← ez]]
  rw [perF, intsD, List.map_map, zip2_map, List.zip_eq_zipWith, List.zipWith_self, List.map_map]
  rfl
theorem perF_all {r : Rule} {s : Nat} (h : r.sides = s) : perF r.grids s = intsD (periodsL r) := by
  rw [periodsL, h, intsD, List.map_map]; rfl
theorem c34 (n : Nat) {r : Rule} (h : RuleOk r) : callN ft (n + 2) 34 [⟨false, ruleD r⟩] = .ok ⟨false, ptD (periodsL r), [none]⟩ := by
  suffices t : Ok (callN ft (n + 2) 34 [⟨false, ruleD r⟩]) fun o => o = ⟨false, ptD (periodsL r), [none]⟩ by
    obtain ⟨_, e, rfl⟩ := t; exact e
  refine Ok.by_ fun Q hQ => ?_
  have hs := h.sides
  obtain ⟨s, hs0⟩ : ∃ s : Nat, r.sides = s := ⟨r.sides.toNat, by omega⟩
  have hs2 : s = 1 ∨ s = 2 := by omega
  have hb : -4611686018427387904 ≤ (s : Int) ∧ (s : Int) < 4611686018427387904 ∧ s ≤ 16777216 := by omega
  rw [run34, evSs_Z]
  simp -implicitDefEqProofs only [fd34]
  rw [Z_cons]; generalize hK : evZ ft _ _ _ = K; simp -implicitDefEqProofs [rule_ix0, hs0, hb]; subst hK
  rw [Z_cons]; generalize hK : evZ ft _ _ _ = K; simp -implicitDefEqProofs [rule_ix1]
  rw [perF_0]
  refine loopI (fun i e => ∃ v2 v3 v4, e = [some ⟨false, ruleD r⟩, some ⟨true, .list (perF (r.grids.take i) s)⟩, v2, v3, v4, none, none]) ⟨none, none, none, rfl⟩ ?_ ?_
  · rintro i hi _ ⟨v2, v3, v4, rfl⟩
    refine Ok.by_ fun Q hQ => ?_
    obtain ⟨g, hg⟩ : ∃ g, r.grids[i] = g := ⟨_, rfl⟩
    have hgm : g ∈ r.grids := by rw [← hg]; exact List.getElem_mem hi
    have hgo := h.grids g hgm
    have hz := hgo.sizes
    rw [hs0] at hgo hz
    have ezip := perF_zip (gs := r.grids.take i) (l := g.sizes) (s := s) (by omega)
    rw [hg]
    simp -implicitDefEqProofs [gridD, ezip]
    rw [runC_map (fun k => .int (perG (r.grids.take (i + 1)) k : Int)) (fun k hk => by
      have hk : k < s := by simpa using hk
      have z := hgo.sz (i := k) (by omega)
      obtain ⟨m, hm⟩ : ∃ m : Nat, nth g.sizes k = m := ⟨(nth g.sizes k).toNat, by omega⟩
      have hp : ∀ x ∈ (r.grids.take i).map fun g => nth g.sizes k, 0 < x ∧ x ≤ (60 : Nat) := fun x hx => by
        obtain ⟨g', hg', rfl⟩ := List.mem_map.mp hx
        have := (h.grids g' (List.mem_of_mem_take hg')).sz (i := k) (by omega)
        omega
      have hp1 := perL_pos fun x hx => (hp x hx).1
      have hp2 := perL_le hp
      have hl : ((r.grids.take i).map fun g => nth g.sizes k).length ≤ 12 := by
        have := h.some_.2
        simp; omega
      have hp3 : (60 : Nat) ^ ((r.grids.take i).map fun g => nth g.sizes k).length ≤ 60 ^ 12 := Nat.pow_le_pow_right (by decide) hl
      have hp4 : perG (r.grids.take i) k ≤ _ := hp2
      have hp5 : 0 < perG (r.grids.take i) k := hp1
      have e := c33 n (perG (r.grids.take i) k) m hp5 (by omega) (by
        have : (60 : Nat) ^ 12 < 2 ^ 200 := by decide
        omega) (by omega)
      rw [hm]
      have et : r.grids.take (i + 1) = r.grids.take i ++ [g] := by rw [List.take_add_one, List.getElem?_eq_getElem hi, hg]; rfl
      have es : perG (r.grids.take (i + 1)) k = Nat.lcm (perG (r.grids.take i) k) m := by
        rw [et, perG, per_snoc, hm]; rfl
      rw [es]
      simp -implicitDefEqProofs [e])]
    simp -implicitDefEqProofs
    exact Ok.ok (hQ _ ⟨_, rfl, _, _, _, rfl⟩)
  · rintro _ ⟨v2, v3, v4, rfl⟩
    rw [List.take_of_length_le (Nat.le_refl _), perF_all hs0]
    subst hK
    simp -implicitDefEqProofs
    exact Ok.ok (hQ _ rfl)
theorem toNat_dvd {x : Int} {m : Nat} (h : 0 < x) : x.toNat ∣ m ↔ (m : Int) % x = 0 := by
  obtain ⟨k, rfl⟩ := Int.eq_ofNat_of_zero_le (show 0 ≤ x by omega)
  rw [Int.toNat_natCast, Nat.dvd_iff_mod_eq_zero, ← Int.natCast_emod]
  omega
theorem c36 (n : Nat) {l : List Int} (h : ∀ x ∈ l, 0 < x ∧ x ≤ 1000) (hl : perL l < 100000000) : callN ft (n + 1) 36 [⟨false, .list (intsD l)⟩] = .ok ⟨false, .int (perL l), [none]⟩ := by
  suffices t : Ok (callN ft (n + 1) 36 [⟨false, .list (intsD l)⟩]) fun o => o = ⟨false, .int (perL l), [none]⟩ by
    obtain ⟨_, e, rfl⟩ := t; exact e
  refine Ok.by_ fun Q hQ => ?_
  have hp := perL_pos fun x hx => (h x hx).1
  rw [run36, evSs_Z]
  simp -implicitDefEqProofs only [fd36]
  rw [Z_cons]; generalize hK : evZ ft _ _ _ = K; simp -implicitDefEqProofs; subst hK
  rw [Z_cons]; generalize hK : evZ ft _ _ _ = K; simp -implicitDefEqProofs
  refine whileI (fun m e => ∃ k : Nat, e = [some ⟨false, .list (intsD l)⟩, some ⟨false, .int k⟩, none] ∧ m = perL l - k ∧ 0 < k ∧ k ≤ perL l)
    (fun e => e = [some ⟨false, .list (intsD l)⟩, some ⟨false, .int (perL l)⟩, none]) ?_ (n := perL l - 1) (by rw [wfuel_eq]; omega) ⟨1, rfl, rfl, by decide, hp⟩ ?_
  · rintro m _ ⟨k, rfl, rfl, hk0, hk⟩
    refine Ok.by_ fun Q hQ => ?_
    simp -implicitDefEqProofs
    rw [runC_filter (fun x => !decide ((k : Int) % x = 0)) (fun x => .int x) (fun x hx => by
      have := (h x hx).1
      by_cases q : (k : Int) % x = 0 <;> simp -implicitDefEqProofs [this, q])]
    simp -implicitDefEqProofs
    refine Ok.ok (hQ _ ?_)
    by_cases g : ∀ x ∈ l, (k : Int) % x = 0
    · have : perL l ∣ k := perL_dvd.mpr fun x hx => (toNat_dvd (h x hx).1).mpr (g x hx)
      have := Nat.le_of_dvd hk0 this
      have e : k = perL l := by omega
      have ge : ¬ ∃ x, x ∈ l ∧ ¬ (k : Int) % x = 0 := fun ⟨x, hx, q⟩ => q (g x hx)
      simp -implicitDefEqProofs [ge]
      rw [e]
    · have ge : ∃ x, x ∈ l ∧ ¬ (k : Int) % x = 0 := by
        refine Classical.byContradiction fun q => g fun x hx => Classical.byContradiction fun z => q ⟨x, hx, z⟩
      have hlt : k < perL l := by
        rcases Nat.lt_or_ge k (perL l) with q | q
        · exact q
        · have e : k = perL l := by omega
          refine absurd (fun x hx => (toNat_dvd (h x hx).1).mp ?_) g
          rw [e]; exact perL_mem hx
      simp -implicitDefEqProofs [ge]
      exact Ok.ok ⟨_, rfl, _, by omega, k + 1, by simp, rfl, by omega, by omega⟩
  · rintro _ rfl
    subst hK
    simp -implicitDefEqProofs
    exact Ok.ok (hQ _ rfl)
theorem c37 (n : Nat) {r : Rule} (h : RuleOk r) (hl : ∀ i : Nat, (i : Int) < r.sides → per r i < 100000000) : callN ft (n + 2) 37 [⟨false, ruleD r⟩] = .ok ⟨false, ptD (periodsL r), [none]⟩ := by
  have hs := h.sides
  obtain ⟨s, hs0⟩ : ∃ s : Nat, r.sides = s := ⟨r.sides.toNat, by omega⟩
  have hb := smallN (s := s) (by omega)
  rw [run37, evSs_Z]
  simp -implicitDefEqProofs [fd37, rule_ix0, hs0, hb]
  rw [runC_map (fun (k : Nat) => .int (per r k)) (fun k hk => by
    have hk : k < s := by simpa using hk
    simp -implicitDefEqProofs [rule_ix1]
    rw [runC_map (fun g => .int (nth g.sizes k)) (fun g hg => by
      have a1 : atI (intsD g.sizes) (k : Int) = _ := atI_nth (show k < g.sizes.length by have := (h.grids g hg).sizes; omega)
      simp -implicitDefEqProofs [grid_ix0, a1])]
    have e : callN ft (n + 1) 36 [⟨false, .list (intsD (sizesAt r k))⟩] = _ := c36 n (fun x hx => by have := h.szs (i := k) (by omega) x hx; omega) (hl k (by omega))
    rw [show intsD (sizesAt r k) = r.grids.map fun g => .int (nth g.sizes k) by rw [intsD, sizesAt, List.map_map]; rfl] at e
    simp -implicitDefEqProofs [e]
    rfl)]
  simp -implicitDefEqProofs
  rw [periodsL, hs0, intsD, List.map_map]
  rfl
end Nm
set_option Elab.async false
set_option maxRecDepth 100000
set_option linter.all false
/-! Things that are no rules, no points. -/
namespace Nm
open PySem L2
/-- a thing that no rule is, not too long to be written -/
structure BadR (d : D) : Prop where
  no : isRule d = false
  fine : fine 8 d = true
  wgt : wgt d ≤ 3000
/-- a thing that no grid is -/
structure BadG (s : Int) (d : D) : Prop where
  no : isGrid s d = false
  fine : fine 5 d = true
  wgt : wgt d ≤ 50
theorem isRule_one {s : Int} {gs : List D} {d : D} (h : isGrid s d = false) (hd : d ∈ gs) : isRule (.tuple [.int s, .tuple gs]) = false := by
  have : gs.all (isGrid s) = false := by
    cases q : gs.all (isGrid s)
    · rfl
    · rw [List.all_eq_true] at q
      rw [q d hd] at h; cases h
  simp [isRule_2, gridsOk, this]
theorem fines_mono : ∀ {h k : Nat} {l : List D}, (∀ x ∈ l, fine h x = true → fine k x = true) → fines h l = true → fines k l = true := fun g q => fines_iff.mpr fun x hx => g x hx (fines_iff.mp q x hx)
theorem fine_up : ∀ (h : Nat) (d : D), fine h d = true → fine (h + 1) d = true
  | h, .none, _ => rfl
  | h, .bool _, _ => rfl
  | h, .int i, q => by rw [fine_int] at q ⊢; exact q
  | h, .str x, q => by rw [fine_str] at q ⊢; exact q
  | 0, .list l, q => by cases q
  | 0, .tuple l, q => by cases q
  | h + 1, .list l, q => fines_mono (fun x _ => fine_up h x) (show fines h l = true from q)
  | h + 1, .tuple l, q => fines_mono (fun x _ => fine_up h x) (show fines h l = true from q)
  | 0, .dict _, q => by cases q
  | _ + 1, .dict _, q => by cases q
theorem fine_le {h k : Nat} {d : D} (q : fine h d = true) (hk : h ≤ k) : fine k d = true := by
  obtain ⟨m, rfl⟩ := Nat.exists_eq_add_of_le hk
  clear hk
  induction m with
  | zero => exact q
  | succ m ih => exact fine_up _ _ ih
theorem fines_le {h k : Nat} {l : List D} (q : fines h l = true) (hk : h ≤ k) : fines k l = true := fines_mono (fun _ _ z => fine_le z hk) q
def body6 : List Sm := match fd6.body.getD 13 .pass with
  | .for_ _ _ b => b
  | _ => []
abbrev e6 (d0 : Sv) (F : List D) (o2 : Bool) (O : List D) (v3 : Option Sv) (s : Int) (gs : List D) (v6 v7 v8 : Option Sv) : En := [some d0, some ⟨true, .list F⟩, some ⟨o2, .list O⟩, v3, some ⟨false, .int s⟩, some ⟨false, .tuple gs⟩, v6, v7, v8]
/-- the last loop -/
theorem c6_end (cl : Cl) (d0 : Sv) (F O : List D) (s : Int) (gs : List D) (v3 v6 v7 v8 : Option Sv) (hs : s = 1 ∨ s = 2) (hg : fines 2 gs = true) (hw : wgts gs ≤ 96) (hl : gs.length ≤ 12) (hF : ∀ d ∈ F, BadR d) (hO : ∀ d ∈ O, BadG s d) (lF : F.length ≤ 40) (lO : O.length ≤ 40) :
    Ok (evZ ft cl [] (fd6.body.drop 13) (e6 d0 F true O v3 s gs v6 v7 v8)) fun q => ∃ L e, q = (.rt true (.list L), e) ∧ (F.length ≤ L.length ∧ L.length ≤ 160) ∧ ∀ d ∈ L, BadR d := by
  refine Ok.by_ fun Q hQ => ?_
  rw [show fd6.body.drop 13 = [.for_ (.nm 3) (.seq (.var 2)) body6, .ret (some (.var 1))] from rfl]
  rw [Z_cons]; generalize hK : evZ ft _ _ [Sm.ret _] = K
  generalize hB : body6 = B
  simp -implicitDefEqProofs
  subst hB
  refine ok_then (P := fun q => ∃ (L : List D) (v3 : Option Sv), q = (.nx, e6 d0 L false O v3 s gs v6 v7 v8) ∧ (F.length ≤ L.length ∧ L.length ≤ 160) ∧ ∀ d ∈ L, BadR d) ?_ ?_
  · have := loopF_ok (body := bodyF ft cl [] body6) (tg := .nm 3) (f := fun d => d) (l := O) (e := e6 d0 F false O v3 s gs v6 v7 v8) (Q := fun q => ∃ (L : List D) (v3 : Option Sv), q = (.nx, e6 d0 L false O v3 s gs v6 v7 v8) ∧ (F.length ≤ L.length ∧ L.length ≤ 160) ∧ ∀ d ∈ L, BadR d)
      (fun i e => ∃ (L : List D) (v3 : Option Sv), e = e6 d0 L false O v3 s gs v6 v7 v8 ∧ L.length = F.length + 3 * i ∧ ∀ d ∈ L, BadR d) ⟨F, v3, rfl, by omega, hF⟩ ?_ ?_
    · rwa [List.map_id'] at this
    · rintro i hi _ ⟨L, v3, rfl, hL, hb⟩
      refine Ok.by_ fun Q hQ => ?_
      obtain ⟨d, hd⟩ : ∃ d, O[i] = d := ⟨_, rfl⟩
      have hdo := hO d (by rw [← hd]; exact List.getElem_mem hi)
      have s1 : L.length + 3 ≤ 16777216 := by omega
      have s2 : gs.length + 1 ≤ 16777216 ∧ 1 + gs.length ≤ 16777216 := by omega
      have n1 : notD d = true := nd_notD (fine_nd hdo.fine)
      rw [hd]
      simp -implicitDefEqProofs only [body6, fd6, List.getD_cons_succ, List.getD_cons_zero]
      simp -implicitDefEqProofs [s1, s2, n1]
      refine Ok.ok (hQ _ ⟨_, _, rfl, by simp; omega, fun x hx => ?_⟩)
      rcases List.mem_append.mp hx with hx | hx
      · exact hb x hx
      have f1 := hdo.fine
      have f2 := fines_le hg (show 2 ≤ 6 by decide)
      have f3 := fine_le f1 (show 5 ≤ 6 by decide)
      have f4 : Nm.fine 7 (.int s) = true := fine_small (by omega) (by omega)
      have w1 := hdo.wgt
      simp only [List.mem_cons, List.not_mem_nil, or_false] at hx
      rcases hx with rfl | rfl | rfl
      · exact ⟨isRule_one hdo.no (by simp), by simp [f3, f4], by simp; omega⟩
      · exact ⟨isRule_one hdo.no (by simp), by simp [f2, f3, f4], by simp; omega⟩
      · exact ⟨isRule_one hdo.no (by simp), by simp [f2, f3, f4], by simp; omega⟩
    · rintro _ ⟨L, v3, rfl, hL, hb⟩
      exact ⟨L, v3, rfl, by omega, hb⟩
  · rintro _ ⟨L, v3, rfl, hL, hb⟩
    subst hK
    simp -implicitDefEqProofs
    exact Ok.ok (hQ _ ⟨_, _, rfl, hL, hb⟩)
end Nm
set_option Elab.async false
set_option maxRecDepth 100000
set_option linter.all false
/-! Things that are no rules: the law's list. -/
namespace Nm
open PySem L2
section
variable {a b c e : D} {l : List D} {s lo hi : Int} {i : Int} {x : Str} {t : Bool}
@[simp] theorem gridsOk_t : gridsOk (.int s) (.tuple l) = (decide (1 ≤ l.length) && decide (l.length ≤ 12) && l.all (isGrid s)) := rfl
@[simp] theorem gridsOk_l : gridsOk a (.list l) = false := rfl
@[simp] theorem isRule_none : isRule .none = false := rfl
@[simp] theorem isRule_int : isRule (.int i) = false := rfl
@[simp] theorem isRule_bool : isRule (.bool t) = false := rfl
@[simp] theorem isRule_str : isRule (.str x) = false := rfl
@[simp] theorem isRule_list : isRule (.list l) = false := rfl
@[simp] theorem isRule_0 : isRule (.tuple []) = false := rfl
@[simp] theorem isRule_1 : isRule (.tuple [a]) = false := rfl
@[simp] theorem isRule_3 : isRule (.tuple (a :: b :: c :: l)) = false := rfl
@[simp] theorem isGrid_none : isGrid s .none = false := rfl
@[simp] theorem isGrid_int : isGrid s (.int i) = false := rfl
@[simp] theorem isGrid_bool : isGrid s (.bool t) = false := rfl
@[simp] theorem isGrid_str : isGrid s (.str x) = false := rfl
@[simp] theorem isGrid_list : isGrid s (.list l) = false := rfl
@[simp] theorem isGrid_0 : isGrid s (.tuple []) = false := rfl
@[simp] theorem isGrid_1 : isGrid s (.tuple [a]) = false := rfl
@[simp] theorem isGrid_2 : isGrid s (.tuple [a, b]) = false := rfl
@[simp] theorem isGrid_4 : isGrid s (.tuple (a :: b :: c :: e :: l)) = false := rfl
@[simp] theorem isPt_none : isPt s .none = false := rfl
@[simp] theorem isPt_int : isPt s (.int i) = false := rfl
@[simp] theorem isPt_bool : isPt s (.bool t) = false := rfl
@[simp] theorem isPt_str : isPt s (.str x) = false := rfl
@[simp] theorem isPt_list : isPt s (.list l) = false := rfl
@[simp] theorem within_none : within lo hi .none = false := rfl
@[simp] theorem within_bool : within lo hi (.bool t) = false := rfl
@[simp] theorem within_str : within lo hi (.str x) = false := rfl
@[simp] theorem within_list : within lo hi (.list l) = false := rfl
@[simp] theorem within_tuple : within lo hi (.tuple l) = false := rfl
@[simp] theorem isWhole_none : isWhole .none = false := rfl
@[simp] theorem isWhole_bool : isWhole (.bool t) = false := rfl
@[simp] theorem isWhole_str : isWhole (.str x) = false := rfl
@[simp] theorem isWhole_list : isWhole (.list l) = false := rfl
@[simp] theorem isWhole_tuple : isWhole (.tuple l) = false := rfl
end
theorem badR_all {l : List D} (h1 : (l.all fun d => !isRule d) = true) (h2 : fines 8 l = true) (h3 : (l.all fun d => decide (wgt d ≤ 3000)) = true) : ∀ d ∈ l, BadR d := fun d hd =>
  ⟨by have := List.all_eq_true.mp h1 d hd; simpa using this, fines_iff.mp h2 d hd, of_decide_eq_true (List.all_eq_true.mp h3 d hd)⟩
theorem badG_all {s : Int} {l : List D} (h1 : (l.all fun d => !isGrid s d) = true) (h2 : fines 5 l = true) (h3 : (l.all fun d => decide (wgt d ≤ 50)) = true) : ∀ d ∈ l, BadG s d := fun d hd =>
  ⟨by have := List.all_eq_true.mp h1 d hd; simpa using this, fines_iff.mp h2 d hd, of_decide_eq_true (List.all_eq_true.mp h3 d hd)⟩
theorem fine_lit {h : Nat} {x : Str} (q : (reprText x).length ≤ 41) : fine h (.str x) = true := by rw [fine_str]; exact decide_eq_true q
theorem cut1 {d : D} {l : List D} : cutD (d :: l) (some 1) none = l := by
  have := cut_from (xs := d :: l) (k := 1)
  simpa using this
theorem cut_t0 {l : List D} : cutD l none (some 0) = [] := by
  have := cut_to (xs := l) (k := 0)
  simpa using this
theorem cut_t1 {d : D} {l : List D} : cutD (d :: l) none (some 1) = [d] := by
  have := cut_to (xs := d :: l) (k := 1)
  simpa using this
theorem cutm1 {l : List D} : cutD l none (some (-1)) = l.dropLast := by
  unfold cutD
  rw [HT.sIx_none, List.dropLast_eq_take]
  show List.take (((-1 : Int) + (l.length : Int)).toNat - 0) (List.drop 0 l) = _
  rw [List.drop_zero]
  congr 1
  omega
theorem badG_app {s : Int} {l m : List D} (h1 : ∀ d ∈ l, BadG s d) (h2 : ∀ d ∈ m, BadG s d) : ∀ d ∈ l ++ m, BadG s d := fun d hd => by
  rcases List.mem_append.mp hd with h | h
  · exact h1 d h
  · exact h2 d h
set_option maxHeartbeats 1000000 in
/-- the odd grids: the loops -/
theorem c6_loops (cl : Cl) (d0 : Sv) (F GL : List D) (s rc : Int) (zs cs : List Int) (hsd : s = 1 ∨ s = 2) (g1 : (zs.length : Int) = s) (g2 : (cs.length : Int) = s) (g3 : ∀ x ∈ zs, 1 ≤ x ∧ x ≤ 60) (g4 : 0 ≤ rc ∧ rc ≤ 3) (hn : ∀ x ∈ cs, -(10 ^ 30) ≤ x ∧ x ≤ 10 ^ 30)
    (G1 : fines 2 GL = true) (G2 : wgts GL ≤ 96) (hl : GL.length ≤ 12) (hF : ∀ d ∈ F, BadR d) (lF : F.length ≤ 40) (O : List D) (hO : ∀ d ∈ O, BadG s d) (lO : O.length ≤ 20) :
    Ok (evZ ft cl [] (fd6.body.drop 10) [some d0, some ⟨true, .list F⟩, some ⟨true, .list O⟩, none, some ⟨false, .int s⟩, some ⟨false, .tuple GL⟩, some ⟨false, ptD zs⟩, some ⟨false, ptD cs⟩, some ⟨false, .int rc⟩]) fun q => ∃ L e, q = (.rt true (.list L), e) ∧ (F.length ≤ L.length ∧ L.length ≤ 160) ∧ ∀ d ∈ L, BadR d := by
  refine Ok.by_ fun Q hQ => ?_
  have fin := fun O v3 v6 v7 v8 => c6_end cl d0 F O s GL v3 v6 v7 v8 hsd G1 G2 hl hF
  have hb : fd6.body.drop 10 = (fd6.body.drop 10).take 3 ++ fd6.body.drop 13 := rfl
  rw [hb, Z_append]
  generalize hT : fd6.body.drop 13 = T at *
  simp -implicitDefEqProofs only [fd6, List.drop_succ_cons, List.drop_zero, List.take_succ_cons, List.take_zero]
  have f0 : ∀ h, fine h (.int rc) = true := fun h => fine_small (by omega) (by omega)
  have s1 : (reprText (("1" : String) : Str)).length ≤ 41 := by decide +kernel
  have s3 : (reprText (("0" : String) : Str)).length ≤ 41 := by decide +kernel
  have lO1 : O.length + 40 ≤ 16777216 ∧ O.length + 1 < 16777216 ∧ O.length < 16777216 ∧ O.length + 2 < 16777216 ∧ O.length + 3 < 16777216 ∧ O.length + 4 < 16777216 ∧ O.length + 5 < 16777216 ∧ O.length + 6 < 16777216 ∧ O.length + 7 < 16777216 ∧ O.length + 8 < 16777216 ∧ O.length + 9 < 16777216 ∧ O.length + 10 < 16777216 ∧ O.length + 11 < 16777216 ∧ O.length + 14 ≤ 16777216 := by omega
  rcases hsd with rfl | rfl
  · obtain ⟨a, rfl⟩ : ∃ a, zs = [a] := by
      match zs, g1 with
      | [a], _ => exact ⟨a, rfl⟩
    obtain ⟨c, rfl⟩ : ∃ c, cs = [c] := by
      match cs, g2 with
      | [c], _ => exact ⟨c, rfl⟩
    have fa : ∀ h, fine h (.int a) = true := fun h => fine_small (by have := g3 a (by simp); omega) (by have := g3 a (by simp); omega)
    have fc : ∀ h, fine h (.int c) = true := fun h => fine_small (hn c (by simp)).1 (hn c (by simp)).2
    have ff := And.intro fa fc
    rw [Z_cons]; generalize hK : evZ ft _ _ _ = K; simp -implicitDefEqProofs [cutm1, cut_t0, cut_t1, loopF_cons, lO1]; subst hK
    rw [Z_cons]; generalize hK : evZ ft _ _ _ = K; simp -implicitDefEqProofs [cutm1, cut_t0, cut_t1, loopF_cons, lO1]; subst hK
    rw [Z_cons]; generalize hK : evZ ft _ _ _ = K; simp -implicitDefEqProofs [cutm1, cut_t0, cut_t1, loopF_cons, lO1]; subst hK
    rw [Z_nil, thenF_nx]
    refine (fin _ _ _ _ _ (badG_app hO (badG_all ?_ ?_ ?_)) lF ?_).imp hQ
    · simp -implicitDefEqProofs [gridD, ptD, intsD, isGrid_3]
    · simp -implicitDefEqProofs [gridD, ptD, intsD, ff, f0, fine_int, fine_lit s1, fine_lit s3]
    · simp -implicitDefEqProofs [gridD, ptD, intsD]
    · simp; omega
  · obtain ⟨a, b, rfl⟩ : ∃ a b, zs = [a, b] := by
      match zs, g1 with
      | [a, b], _ => exact ⟨a, b, rfl⟩
    obtain ⟨c, e, rfl⟩ : ∃ c e, cs = [c, e] := by
      match cs, g2 with
      | [c, e], _ => exact ⟨c, e, rfl⟩
    have fa : ∀ h, fine h (.int a) = true := fun h => fine_small (by have := g3 a (by simp); omega) (by have := g3 a (by simp); omega)
    have fb : ∀ h, fine h (.int b) = true := fun h => fine_small (by have := g3 b (by simp); omega) (by have := g3 b (by simp); omega)
    have fc : ∀ h, fine h (.int c) = true := fun h => fine_small (hn c (by simp)).1 (hn c (by simp)).2
    have fe : ∀ h, fine h (.int e) = true := fun h => fine_small (hn e (by simp)).1 (hn e (by simp)).2
    have ff := And.intro (And.intro fa fb) (And.intro fc fe)
    rw [Z_cons]; generalize hK : evZ ft _ _ _ = K; simp -implicitDefEqProofs [cutm1, cut_t0, cut_t1, loopF_cons, lO1]; subst hK
    rw [Z_cons]; generalize hK : evZ ft _ _ _ = K; simp -implicitDefEqProofs [cutm1, cut_t0, cut_t1, loopF_cons, lO1]; subst hK
    rw [Z_cons]; generalize hK : evZ ft _ _ _ = K; simp -implicitDefEqProofs [cutm1, cut_t0, cut_t1, loopF_cons, lO1]; subst hK
    rw [Z_nil, thenF_nx]
    refine (fin _ _ _ _ _ (badG_app hO (badG_all ?_ ?_ ?_)) lF ?_).imp hQ
    · simp -implicitDefEqProofs [gridD, ptD, intsD, isGrid_3]
    · simp -implicitDefEqProofs [gridD, ptD, intsD, ff, f0, fine_int, fine_lit s1, fine_lit s3]
    · simp -implicitDefEqProofs [gridD, ptD, intsD]
    · simp; omega
set_option maxHeartbeats 1000000 in
/-- the odd grids -/
theorem c6_odds (cl : Cl) (d0 : Sv) (F GL : List D) (s rc : Int) (zs cs : List Int) (hsd : s = 1 ∨ s = 2) (g1 : (zs.length : Int) = s) (g2 : (cs.length : Int) = s) (g3 : ∀ x ∈ zs, 1 ≤ x ∧ x ≤ 60) (g4 : 0 ≤ rc ∧ rc ≤ 3) (hn : ∀ x ∈ cs, -(10 ^ 30) ≤ x ∧ x ≤ 10 ^ 30)
    (G1 : fines 2 GL = true) (G2 : wgts GL ≤ 96) (hl : GL.length ≤ 12) (hF : ∀ d ∈ F, BadR d) (lF : F.length ≤ 40) :
    Ok (evZ ft cl [] (fd6.body.drop 6) [some d0, some ⟨true, .list F⟩, none, none, some ⟨false, .int s⟩, some ⟨false, .tuple GL⟩, some ⟨false, ptD zs⟩, some ⟨false, ptD cs⟩, some ⟨false, .int rc⟩]) fun q => ∃ L e, q = (.rt true (.list L), e) ∧ (F.length ≤ L.length ∧ L.length ≤ 160) ∧ ∀ d ∈ L, BadR d := by
  refine Ok.by_ fun Q hQ => ?_
  have fin := c6_loops cl d0 F GL s rc zs cs hsd g1 g2 g3 g4 hn G1 G2 hl hF lF
  have hb : fd6.body.drop 6 = (fd6.body.drop 6).take 4 ++ fd6.body.drop 10 := rfl
  rw [hb, Z_append]
  generalize hT : fd6.body.drop 10 = T at *
  simp -implicitDefEqProofs only [fd6, List.drop_succ_cons, List.drop_zero, List.take_succ_cons, List.take_zero]
  have f0 : ∀ h, fine h (.int rc) = true := fun h => fine_small (by omega) (by omega)
  have s1 : (reprText (("1" : String) : Str)).length ≤ 41 := by decide +kernel
  have s3 : (reprText (("0" : String) : Str)).length ≤ 41 := by decide +kernel
  rcases hsd with rfl | rfl
  · obtain ⟨a, rfl⟩ : ∃ a, zs = [a] := by
      match zs, g1 with
      | [a], _ => exact ⟨a, rfl⟩
    obtain ⟨c, rfl⟩ : ∃ c, cs = [c] := by
      match cs, g2 with
      | [c], _ => exact ⟨c, rfl⟩
    have fa : ∀ h, fine h (.int a) = true := fun h => fine_small (by have := g3 a (by simp); omega) (by have := g3 a (by simp); omega)
    have fc : ∀ h, fine h (.int c) = true := fun h => fine_small (hn c (by simp)).1 (hn c (by simp)).2
    have ff := And.intro fa fc
    rw [Z_cons]; generalize hK : evZ ft _ _ _ = K; simp -implicitDefEqProofs; subst hK
    rw [Z_cons]; generalize hK : evZ ft _ _ _ = K; simp -implicitDefEqProofs; subst hK
    rw [Z_cons]; generalize hK : evZ ft _ _ _ = K; simp -implicitDefEqProofs [cut1]; subst hK
    rw [Z_cons]; generalize hK : evZ ft _ _ _ = K; simp -implicitDefEqProofs [cut1]; subst hK
    rw [Z_nil, thenF_nx]
    refine (fin _ ?_ ?_).imp hQ
    · refine badG_all ?_ ?_ ?_
      · simp -implicitDefEqProofs [gridD, ptD, intsD, isGrid_3]
      · simp -implicitDefEqProofs [gridD, ptD, intsD, ff, f0, fine_int, fine_lit s1, fine_lit s3]
      · simp -implicitDefEqProofs [gridD, ptD, intsD]
    · simp
  · obtain ⟨a, b, rfl⟩ : ∃ a b, zs = [a, b] := by
      match zs, g1 with
      | [a, b], _ => exact ⟨a, b, rfl⟩
    obtain ⟨c, e, rfl⟩ : ∃ c e, cs = [c, e] := by
      match cs, g2 with
      | [c, e], _ => exact ⟨c, e, rfl⟩
    have fa : ∀ h, fine h (.int a) = true := fun h => fine_small (by have := g3 a (by simp); omega) (by have := g3 a (by simp); omega)
    have fb : ∀ h, fine h (.int b) = true := fun h => fine_small (by have := g3 b (by simp); omega) (by have := g3 b (by simp); omega)
    have fc : ∀ h, fine h (.int c) = true := fun h => fine_small (hn c (by simp)).1 (hn c (by simp)).2
    have fe : ∀ h, fine h (.int e) = true := fun h => fine_small (hn e (by simp)).1 (hn e (by simp)).2
    have ff := And.intro (And.intro fa fb) (And.intro fc fe)
    rw [Z_cons]; generalize hK : evZ ft _ _ _ = K; simp -implicitDefEqProofs; subst hK
    rw [Z_cons]; generalize hK : evZ ft _ _ _ = K; simp -implicitDefEqProofs; subst hK
    rw [Z_cons]; generalize hK : evZ ft _ _ _ = K; simp -implicitDefEqProofs [cut1]; subst hK
    rw [Z_cons]; generalize hK : evZ ft _ _ _ = K; simp -implicitDefEqProofs [cut1]; subst hK
    rw [Z_nil, thenF_nx]
    refine (fin _ ?_ ?_).imp hQ
    · refine badG_all ?_ ?_ ?_
      · simp -implicitDefEqProofs [gridD, ptD, intsD, isGrid_3]
      · simp -implicitDefEqProofs [gridD, ptD, intsD, ff, f0, fine_int, fine_lit s1, fine_lit s3]
      · simp -implicitDefEqProofs [gridD, ptD, intsD]
    · simp
set_option maxHeartbeats 1000000 in
theorem c6 (n : Nat) {r : Rule} (h : RuleF r) : Ok (callN ft (n + 1) 6 [⟨false, ruleD r⟩]) fun o => ∃ L, o = ⟨true, .list L, [none]⟩ ∧ (0 < L.length ∧ L.length ≤ 160) ∧ ∀ d ∈ L, BadR d := by
  refine Ok.by_ fun Q hQ => ?_
  have hr := h.ok
  have hsd := hr.sides
  have hlen := hr.some_
  obtain ⟨s, hs⟩ : ∃ s, r.sides = s := ⟨_, rfl⟩
  obtain ⟨g, gr, hgs⟩ : ∃ g gr, r.grids = g :: gr := by
    match q : r.grids, hlen.1 with
    | g :: gr, _ => exact ⟨g, gr, rfl⟩
  have hg := hr.grids g (by rw [hgs]; simp)
  have hn := h.near g (by rw [hgs]; simp)
  have G1 : fines 2 (r.grids.map gridD) = true := fines_iff.mpr fun x hx => (h.grids x hx).1
  have G2 := wgts_le (l := r.grids.map gridD) (k := 8) fun x hx => (h.grids x hx).2
  have hd : ruleD r = .tuple [.int s, .tuple (r.grids.map gridD)] := by rw [ruleD, hs]
  have gix : atI (r.grids.map gridD) 0 = some (gridD g) := by rw [hgs]; simp
  have hlen' : 1 ≤ (r.grids.map gridD).length ∧ (r.grids.map gridD).length ≤ 12 := by simpa using hlen
  have no3 : ∃ x, x ∈ r.grids.map gridD ∧ isGrid (3 - s) x = false := by
    refine ⟨gridD g, by rw [hgs]; simp, ?_⟩
    have h1 := hg.sizes
    have : ¬ (g.sizes.length : Int) = 3 - s := by omega
    simp [gridD, isGrid_3, isPt_pt, this]
  generalize r.grids.map gridD = GL at *
  have hl13 : GL.length ≤ 1000 ∧ GL.length + 1 ≤ 16777216 := by omega
  have fin := fun F => c6_odds (callN ft n) ⟨false, ruleD r⟩ F GL s g.reach g.sizes g.shifts (by omega) (by rw [hg.sizes, hs]) (by rw [hg.shifts, hs]) hg.size hg.reach hn G1 (by omega) (by omega)
  rw [run6, evSs_Z]
  have hb : fd6.body = fd6.body.take 6 ++ fd6.body.drop 6 := rfl
  rw [hb, Z_append]
  generalize hT : fd6.body.drop 6 = T at *
  simp -implicitDefEqProofs only [fd6, List.take_succ_cons, List.take_zero, enterN_cons, enterN_nil, slotsN_s, slotsN_0, List.length_cons, List.length_nil, Nat.reduceAdd, if_true]
  rw [hd]
  rw [hd] at fin
  rw [Z_cons]; generalize hK : evZ ft _ _ _ = K; simp -implicitDefEqProofs; subst hK
  rw [Z_cons]; generalize hK : evZ ft _ _ _ = K; simp -implicitDefEqProofs [gix, gridD]; subst hK
  rw [Z_cons]; generalize hK : evZ ft _ _ _ = K; simp -implicitDefEqProofs; subst hK
  rw [Z_cons]; generalize hK : evZ ft _ _ _ = K; simp -implicitDefEqProofs [gix]; subst hK
  rw [Z_cons]; generalize hK : evZ ft _ _ _ = K; simp -implicitDefEqProofs [hl13]; subst hK
  rw [Z_cons]; generalize hK : evZ ft _ _ _ = K; simp -implicitDefEqProofs [hl13]; subst hK
  rw [Z_nil, thenF_nx]
  have s1 : (reprText (("1" : String) : Str)).length ≤ 41 := by decide +kernel
  have s2 : (reprText (("" : String) : Str)).length ≤ 41 := by decide +kernel
  have fs : ∀ h, fine h (.int s) = true := fun h => fine_small (by omega) (by omega)
  have fs3 : ∀ h, fine h (.int (3 - s)) = true := fun h => fine_small (by omega) (by omega)
  have f0 : ∀ h, fine h (.int g.reach) = true := fun h => by have := hg.reach; exact fine_small (by omega) (by omega)
  have fzs : ∀ h, fines h (intsD g.sizes) = true := fun h => fines_ints fun x hx => by have := hg.size x hx; omega
  have fcs : ∀ h, fines h (intsD g.shifts) = true := fun h => fines_ints hn
  have fG3 := fines_le G1 (show 2 ≤ 3 by decide)
  have fG4 := fines_le G1 (show 2 ≤ 4 by decide)
  have fG5 := fines_le G1 (show 2 ≤ 5 by decide)
  have fG6 := fines_le G1 (show 2 ≤ 6 by decide)
  have fG7 := fines_le G1 (show 2 ≤ 7 by decide)
  have hz := hg.sizes
  have hc := hg.shifts
  refine Ok.bind (fin _ ?_ ?_) ?_
  · refine badR_all ?_ ?_ ?_
    · have q13 : ¬ GL.length + (GL.length + (GL.length + (GL.length + (GL.length + (GL.length + (GL.length + (GL.length + (GL.length + (GL.length + (GL.length + (GL.length + GL.length))))))))))) ≤ 12 := by omega
      simp -implicitDefEqProofs [gridD, isRule_2, isGrid_3, q13]
      exact .inr (.inr no3)
    · simp -implicitDefEqProofs [gridD, fs, fs3, fzs, fcs, f0, fG3, fG4, fG5, fG6, fG7, fine_int, fine_lit s1, fine_lit s2]
    · simp -implicitDefEqProofs [gridD]
      omega
  · simp
  · rintro _ ⟨L, e, rfl, hL, hb⟩
    exact Ok.ok (hQ _ ⟨L, rfl, by simp at hL; omega, hb⟩)
end Nm
set_option Elab.async false
set_option maxRecDepth 100000
set_option linter.all false
/-! walls.py: borders, walls. -/
namespace Nm
open PySem L2
/-- a cell of the grid begins there -/
def brd (g : Grid) (i : Nat) (c : Int) : Bool := decide ((c - nth g.shifts i) % nth g.sizes i = 0)
def allB (r : Rule) (i : Nat) (c : Int) : Bool := r.grids.all fun g => brd g i c
theorem brd_dvd {g : Grid} {i : Nat} {c : Int} : brd g i c = true ↔ nth g.sizes i ∣ c - nth g.shifts i := by
  rw [brd, decide_eq_true_eq, Int.dvd_iff_emod_eq_zero]
theorem allB_iff {r : Rule} {i : Nat} {c : Int} : allB r i c = true ↔ ∀ g ∈ r.grids, brd g i c = true := List.all_eq_true
theorem spots_iff {g o : Grid} {i : Nat} (h2 : 0 < nth o.sizes i) : (∃ k : Nat, (k : Int) < nth o.sizes i ∧ brd o i (nth g.shifts i + nth g.sizes i * k) = true) ↔ ∃ c, brd g i c = true ∧ brd o i c = true := by
  constructor
  · rintro ⟨k, _, h⟩
    exact ⟨_, brd_dvd.mpr ⟨k, by omega⟩, h⟩
  · rintro ⟨c, hg, ho⟩
    obtain ⟨m, hm⟩ := brd_dvd.mp hg
    have a1 := Int.emod_nonneg m (show nth o.sizes i ≠ 0 by omega)
    have a2 := Int.emod_lt_of_pos m h2
    obtain ⟨k, hk⟩ : ∃ k : Nat, m % nth o.sizes i = k := ⟨_, (Int.toNat_of_nonneg a1).symm⟩
    refine ⟨k, by omega, ?_⟩
    have ho := brd_dvd.mp ho
    rw [brd_dvd]
    have e : nth g.shifts i + nth g.sizes i * (k : Int) - nth o.shifts i = (c - nth o.shifts i) - nth o.sizes i * (nth g.sizes i * (m / nth o.sizes i)) := by
      have := Int.emod_add_mul_ediv m (nth o.sizes i)
      rw [hk] at this
      have h3 : nth g.sizes i * m = nth g.sizes i * (k : Int) + nth o.sizes i * (nth g.sizes i * (m / nth o.sizes i)) := by
        conv => lhs; rw [← this]
        rw [Int.mul_add, ← Int.mul_assoc, ← Int.mul_assoc, Int.mul_comm (nth g.sizes i) (nth o.sizes i)]
      omega
    rw [e]
    exact Int.dvd_sub ho (Int.dvd_mul_right _ _)
/-- where each two grids have a common border, all have -/
theorem all_border {r : Rule} {i : Nat} (h : ∀ g ∈ r.grids, 0 < nth g.sizes i) (hc : ∀ g ∈ r.grids, ∀ o ∈ r.grids, ∃ c, brd g i c = true ∧ brd o i c = true) : ∃ c, allB r i c = true := by
  obtain ⟨c, hc⟩ := crt (r.grids.map fun g => ((nth g.sizes i).toNat, nth g.shifts i)) (fun p hp => by
    obtain ⟨g, hg, rfl⟩ := List.mem_map.mp hp
    have := h g hg
    show 0 < (nth g.sizes i).toNat
    omega) fun p hp q hq => by
      obtain ⟨g, hg, rfl⟩ := List.mem_map.mp hp
      obtain ⟨o, ho, rfl⟩ := List.mem_map.mp hq
      obtain ⟨c, h1, h2⟩ := hc g hg o ho
      have z1 := h g hg
      have z2 := h o ho
      refine ⟨c, ?_, ?_⟩
      · rw [Int.toNat_of_nonneg (by omega)]; exact brd_dvd.mp h1
      · rw [Int.toNat_of_nonneg (by omega)]; exact brd_dvd.mp h2
  refine ⟨c, allB_iff.mpr fun g hg => brd_dvd.mpr ?_⟩
  have := hc _ (List.mem_map.mpr ⟨g, hg, rfl⟩)
  have z := h g hg
  rwa [Int.toNat_of_nonneg (by omega)] at this
theorem per_dvd {r : Rule} {i : Nat} {g : Grid} (hg : g ∈ r.grids) (h : 0 < nth g.sizes i) : nth g.sizes i ∣ (per r i : Int) := by
  have := Int.natCast_dvd_natCast.mpr (per_mem (i := i) hg)
  rwa [Int.toNat_of_nonneg (by omega)] at this
/-- two common borders: their difference is whole periods -/
theorem borders_per {r : Rule} {i : Nat} (h : ∀ g ∈ r.grids, 0 < nth g.sizes i) {f : Int} (hf : allB r i f = true) (c : Int) : allB r i c = true ↔ (c - f) % (per r i : Int) = 0 := by
  rw [← Int.dvd_iff_emod_eq_zero]
  constructor
  · intro hc
    have : per r i ∣ (c - f).natAbs := perL_dvd.mpr fun x hx => by
      obtain ⟨g, hg, rfl⟩ := List.mem_map.mp hx
      have h1 := brd_dvd.mp (allB_iff.mp hf g hg)
      have h2 := brd_dvd.mp (allB_iff.mp hc g hg)
      have h3 := Int.dvd_sub h2 h1
      have : c - nth g.shifts i - (f - nth g.shifts i) = c - f := by omega
      rw [this] at h3
      have z := h g hg
      refine Int.ofNat_dvd_left.mp ?_
      rwa [Int.toNat_of_nonneg (by omega)]
    exact Int.ofNat_dvd_left.mpr this
  · intro hc
    refine allB_iff.mpr fun g hg => brd_dvd.mpr ?_
    have h1 := brd_dvd.mp (allB_iff.mp hf g hg)
    have h2 := Int.dvd_trans (per_dvd hg (h g hg)) hc
    have : c - nth g.shifts i = (f - nth g.shifts i) + (c - f) := by omega
    rw [this]
    exact Int.dvd_add h1 h2
theorem c257 (n : Nat) {s : Int} {g : Grid} (h : GridOk s g) {i : Nat} (hi : (i : Int) < s) (c : Int) : callN ft (n + 1) 257 [⟨false, gridD g⟩, ⟨false, .int i⟩, ⟨false, .int c⟩] = .ok ⟨false, .bool (brd g i c), [none, none, none]⟩ := by
  have a1 : atI (intsD g.sizes) (i : Int) = _ := atI_nth (show i < g.sizes.length by have := h.sizes; omega)
  have a2 : atI (intsD g.shifts) (i : Int) = _ := atI_nth (show i < g.shifts.length by have := h.shifts; omega)
  have z := h.sz hi
  have z1 : 0 < nth g.sizes i := by omega
  rw [run257, evSs_Z]
  simp -implicitDefEqProofs [fd257, grid_ix0, grid_ix1, a1, a2, z1, brd]
theorem c261 (n : Nat) {s : Int} {g : Grid} (h : GridOk s g) {i : Nat} (hi : (i : Int) < s) (c : Int) : callN ft (n + 1) 261 [⟨false, gridD g⟩, ⟨false, .int i⟩, ⟨false, .int c⟩] = .ok ⟨false, .bool (brd g i c), [none, none, none]⟩ := by
  have a1 : atI (intsD g.sizes) (i : Int) = _ := atI_nth (show i < g.sizes.length by have := h.sizes; omega)
  have a2 : atI (intsD g.shifts) (i : Int) = _ := atI_nth (show i < g.shifts.length by have := h.shifts; omega)
  have z := h.sz hi
  have z1 : 0 < nth g.sizes i := by omega
  rw [run261, evSs_Z]
  simp -implicitDefEqProofs [fd261, grid_ix0, grid_ix1, a1, a2, z1, brd]
theorem c258 (n : Nat) {r : Rule} (h : RuleOk r) {i : Nat} (hi : (i : Int) < r.sides) : Ok (callN ft (n + 2) 258 [⟨false, ruleD r⟩, ⟨false, .int i⟩]) fun o =>
    (o = ⟨false, .none, [none, none]⟩ ∧ ∀ j k (hj : j < k) (hk : k < r.grids.length), ∃ c, brd (r.grids[j]'(by omega)) i c = true ∧ brd r.grids[k] i c = true) ∨
    ∃ j k, ∃ (hj : j < k) (hk : k < r.grids.length), o = ⟨false, .tuple [.int (j : Nat), .int (k : Nat)], [none, none]⟩ ∧ ∀ c, ¬ (brd (r.grids[j]'(by omega)) i c = true ∧ brd r.grids[k] i c = true) := by
  refine Ok.by_ fun Q hQ' => ?_
  have hlen := h.some_
  rw [run258, evSs_Z]
  simp -implicitDefEqProofs only [fd258]
  rw [Z_cons]; generalize hK : evZ ft _ _ _ = K
  simp -implicitDefEqProofs [rule_ix1]
  rw [enumL_map0]
  refine loopE (fun m e => ∃ v2 v3 v4 v5 v6, e = [some ⟨false, ruleD r⟩, some ⟨false, .int i⟩, v2, v3, v4, v5, v6, none, none] ∧ ∀ j k (hj : j < k) (hk : k < r.grids.length), k < m → ∃ c, brd (r.grids[j]'(by omega)) i c = true ∧ brd r.grids[k] i c = true)
    ⟨none, none, none, none, none, rfl, fun _ _ _ _ z => by omega⟩ ?_ ?_
  · rintro k hk _ ⟨v2, v3, v4, v5, v6, rfl, hd⟩
    have hk' : k < r.grids.length := by simpa using hk
    obtain ⟨o, ho⟩ : ∃ o, r.grids[k] = o := ⟨_, rfl⟩
    have hoo := h.grids o (by rw [← ho]; exact List.getElem_mem hk')
    have zo := hoo.sz hi
    have ek : (r.grids.zipIdx)[k] = (o, k) := by simp [ho]
    have ct : cutD (r.grids.map gridD) none (some (k : Int)) = (r.grids.take k).map gridD := by rw [cut_to, List.map_take]
    refine Ok.by_ fun Q1 hQ1 => ?_
    rw [ek]
    simp -implicitDefEqProofs [rule_ix1, ct]
    rw [← List.map_take, enumL_map0]
    refine loopE' (fun m e => ∃ v4 v5 v6, e = [some ⟨false, ruleD r⟩, some ⟨false, .int i⟩, some ⟨false, .int k⟩, some ⟨false, gridD o⟩, v4, v5, v6, none, none] ∧ ∀ j (hj : j < k), j < m → ∃ c, brd (r.grids[j]'(by omega)) i c = true ∧ brd r.grids[k] i c = true)
      ⟨v4, v5, v6, rfl, fun _ _ z => by omega⟩ ?_ ?_
    · rintro j hj _ ⟨v4, v5, v6, rfl, hd2⟩
      have hj' : j < k := by have : j < (r.grids.take k).length := by simpa using hj
                             rw [List.length_take] at this; omega
      obtain ⟨g, hg⟩ : ∃ g, r.grids[j] = g := ⟨_, rfl⟩
      have hgo := h.grids g (by rw [← hg]; exact List.getElem_mem (by omega))
      have zg := hgo.sz hi
      have ej : ((r.grids.take k).zipIdx)[j] = (g, j) := by simp [hg]
      have a1 : atI (intsD g.sizes) (i : Int) = _ := atI_nth (show i < g.sizes.length by have := hgo.sizes; omega)
      have a2 : atI (intsD g.shifts) (i : Int) = _ := atI_nth (show i < g.shifts.length by have := hgo.shifts; omega)
      have a3 : atI (intsD o.sizes) (i : Int) = _ := atI_nth (show i < o.sizes.length by have := hoo.sizes; omega)
      obtain ⟨z, hz⟩ : ∃ z : Nat, nth o.sizes i = z := ⟨(nth o.sizes i).toNat, by omega⟩
      have hzs := smallN (s := z) (by omega)
      have sp := spots_iff (g := g) (o := o) (i := i) (by omega)
      rw [hz] at sp
      refine Ok.by_ fun Q2 hQ2 => ?_
      rw [ej]
      simp -implicitDefEqProofs [grid_ix0, grid_ix1, a3, hz, hzs]
      rw [runC_map (fun (m : Nat) => .int (nth g.shifts i + nth g.sizes i * m)) (fun m hm => by
        have hm : m < z := by simpa using hm
        have mb := mulB (i := nth g.sizes i) (j := m) (by omega) (by omega) (by omega) (by omega)
        simp -implicitDefEqProofs [grid_ix0, grid_ix1, a1, a2, mb, -mul_int])]
      simp -implicitDefEqProofs
      rw [runC_map (fun (m : Nat) => .bool (brd o i (nth g.shifts i + nth g.sizes i * m))) (fun m hm => by
        have e := c257 n hoo hi (nth g.shifts i + nth g.sizes i * m)
        simp -implicitDefEqProofs [e])]
      simp -implicitDefEqProofs
      by_cases q : ∃ c, brd g i c = true ∧ brd o i c = true
      · obtain ⟨m, hm, hb⟩ := sp.mpr q
        have e : ¬ ∀ x : Nat, x < z → brd o i (nth g.shifts i + nth g.sizes i * (x : Int)) = false := fun f => by
          rw [f m (by omega)] at hb; cases hb
        simp -implicitDefEqProofs [eq_false e]
        refine Ok.ok (hQ2 _ ⟨_, _, _, rfl, fun j' hj1 hj2 => ?_⟩)
        by_cases ej : j' < j
        · exact hd2 j' hj1 ej
        · have : j' = j := by omega
          subst this
          obtain ⟨c, q1, q2⟩ := q
          exact ⟨c, by rw [hg]; exact q1, by rw [ho]; exact q2⟩
      · have e : ∀ x : Nat, x < z → brd o i (nth g.shifts i + nth g.sizes i * (x : Int)) = false := fun x hx => by
          cases b : brd o i (nth g.shifts i + nth g.sizes i * (x : Int))
          · rfl
          · exact absurd (sp.mp ⟨x, by omega, b⟩) q
        simp -implicitDefEqProofs [eq_true e]
        refine Ok.ok (hQ2 _ (hQ1 _ (Ok.ok (hQ' _ (.inr ⟨j, k, hj', hk', rfl, fun c ⟨q1, q2⟩ => q ⟨c, by rw [hg] at q1; exact q1, by rw [ho] at q2; exact q2⟩⟩)))))
    · rintro _ ⟨v4, v5, v6, rfl, hd2⟩
      simp -implicitDefEqProofs
      refine Ok.ok (hQ1 _ ⟨_, _, _, _, _, rfl, fun j k' hj hk' hm => ?_⟩)
      by_cases e : k' < k
      · exact hd j k' hj hk' e
      · have : k' = k := by omega
        subst this
        exact hd2 j hj (by simp; omega)
  · rintro _ ⟨v2, v3, v4, v5, v6, rfl, hd⟩
    subst hK
    simp -implicitDefEqProofs
    exact Ok.ok (hQ' _ (.inl ⟨rfl, fun j k hj hk => hd j k hj hk (by simpa using hk)⟩))
/-- what is told of a side -/
inductive WallR (r : Rule) (i : Nat) : D → Prop
  | reach (k : Nat) (hk : k < r.grids.length) (h : 0 < r.grids[k].reach) : WallR r i (.tuple [.str "open", .tuple [.str "reach", .int k]])
  | never (j k : Nat) (hj : j < k) (hk : k < r.grids.length) (h : ∀ c, ¬ (brd (r.grids[j]'(by omega)) i c = true ∧ brd r.grids[k] i c = true)) : WallR r i (.tuple [.str "open", .tuple [.str "never", .int j, .int k]])
  | walls (f : Nat) (hf : f < per r i) (h0 : ∀ g ∈ r.grids, g.reach = 0) (h : ∀ c : Int, allB r i c = true ↔ (c - f) % (per r i : Int) = 0) : WallR r i (.tuple [.str "walls", .int f, .int (per r i)])
theorem atI_per {r : Rule} {i : Nat} (hi : (i : Int) < r.sides) : atI (intsD (periodsL r)) (i : Int) = some (.int (per r i)) := by
  have hl : i < (periodsL r).length := by simp [periodsL]; omega
  rw [atI_nth hl, nth_get hl]
  simp [periodsL]
theorem c259 (n : Nat) {r : Rule} (h : RuleOk r) {i : Nat} (hi : (i : Int) < r.sides) (hl : per r i < 10000000) : Ok (callN ft (n + 3) 259 [⟨false, ruleD r⟩, ⟨false, .int i⟩]) fun o => ∃ d, o = ⟨false, d, [none, none]⟩ ∧ WallR r i d := by
  refine Ok.by_ fun Q hQ => ?_
  have hlen := h.some_
  have hpos := h.per_pos hi
  have hsz : ∀ g ∈ r.grids, 0 < nth g.sizes i := fun g hg => by have := (h.grids g hg).sz hi; omega
  rw [run259, evSs_Z]
  simp -implicitDefEqProofs only [fd259]
  rw [Z_cons]; generalize hK : evZ ft _ _ _ = K
  simp -implicitDefEqProofs [rule_ix1]
  rw [enumL_map0]
  refine loopE (fun m e => ∃ v5 v6, e = [some ⟨false, ruleD r⟩, some ⟨false, .int i⟩, none, none, none, v5, v6] ∧ unown v6 = v6 ∧ ∀ k (hk : k < r.grids.length), k < m → r.grids[k].reach = 0)
    ⟨none, none, rfl, rfl, fun _ _ z => by omega⟩ ?_ ?_
  · rintro k hk _ ⟨v5, v6, rfl, _, hd⟩
    have hk' : k < r.grids.length := by simpa using hk
    obtain ⟨g, hg⟩ : ∃ g, r.grids[k] = g := ⟨_, rfl⟩
    have hgo := h.grids g (by rw [← hg]; exact List.getElem_mem hk')
    have ek : (r.grids.zipIdx)[k] = (g, k) := by simp [hg]
    refine Ok.by_ fun Q1 hQ1 => ?_
    rw [ek]
    by_cases q : 0 < g.reach
    · simp -implicitDefEqProofs [grid_ix2, q]
      refine Ok.ok (hQ1 _ (Ok.ok (hQ _ ⟨_, rfl, .reach k hk' (by rw [hg]; exact q)⟩)))
    · simp -implicitDefEqProofs [grid_ix2, q]
      refine Ok.ok (hQ1 _ ⟨_, _, rfl, rfl, fun k' hk2 hm => ?_⟩)
      by_cases e : k' < k
      · exact hd k' hk2 e
      · have : k' = k := by omega
        subst this
        rw [hg]
        have := hgo.reach
        omega
  · rintro _ ⟨v5, v6, rfl, hv6, hd⟩
    have hz : ∀ g ∈ r.grids, g.reach = 0 := fun g hg => by
      obtain ⟨k, hk, rfl⟩ := List.mem_iff_getElem.mp hg
      exact hd k hk (by simpa using hk)
    subst hK
    rw [Z_cons]; generalize hK : evZ ft _ _ _ = K
    simp -implicitDefEqProofs
    generalize hR : callN ft _ 258 _ = R
    have hc := c258 n h hi
    rw [hR] at hc
    obtain ⟨o, rfl, ho⟩ := hc
    rcases ho with ⟨rfl, hall⟩ | ⟨j, k, hj, hk, rfl, hn⟩
    · simp -implicitDefEqProofs
      subst hK
      have e34 := c34 n h
      have hp := smallN (s := per r i) (by omega)
      obtain ⟨c, hc⟩ := all_border hsz fun g hg o ho => by
        obtain ⟨a, ha, rfl⟩ := List.mem_iff_getElem.mp hg
        obtain ⟨b, hb, rfl⟩ := List.mem_iff_getElem.mp ho
        by_cases e : a = b
        · subst e
          exact ⟨nth r.grids[a].shifts i, by simp [brd], by simp [brd]⟩
        · by_cases e2 : a < b
          · exact hall a b e2 hb
          · obtain ⟨c, q1, q2⟩ := hall b a (by omega) ha
            exact ⟨c, q2, q1⟩
      have hin : ∃ f : Nat, f < per r i ∧ allB r i f = true := by
        have a1 := Int.emod_nonneg c (show (per r i : Int) ≠ 0 by omega)
        have a2 := Int.emod_lt_of_pos c (show 0 < (per r i : Int) by omega)
        refine ⟨(c % per r i).toNat, by omega, ?_⟩
        rw [Int.toNat_of_nonneg a1, borders_per hsz hc]
        have := Int.emod_add_mul_ediv c (per r i : Int)
        have e : c % per r i - c = (per r i : Int) * (-(c / per r i)) := by rw [Int.mul_neg]; omega
        rw [e, Int.mul_emod_right]
      obtain ⟨f, fr, hf⟩ : ∃ f fr, (List.range (per r i)).filter (fun (k : Nat) => allB r i k) = f :: fr := by
        obtain ⟨f, h1, h2⟩ := hin
        cases q : (List.range (per r i)).filter (fun (k : Nat) => allB r i k) with
        | nil =>
          rw [List.filter_eq_nil_iff] at q
          exact absurd h2 (q f (by simpa using h1))
        | cons f fr => exact ⟨f, fr, rfl⟩
      have hfm : f ∈ (List.range (per r i)).filter (fun (k : Nat) => allB r i k) := by rw [hf]; simp
      rw [List.mem_filter, List.mem_range] at hfm
      simp -implicitDefEqProofs [e34, atI_per hi, hp]
      rw [runC_filter (fun (k : Nat) => allB r i k) (fun (k : Nat) => .int k) (fun k hk => by
        have ba : biop .all [.list (r.grids.map fun g => .bool (brd g i k))] = .ok (.v false (.bool (allB r i k))) := bi_allM
        simp -implicitDefEqProofs [rule_ix1]
        rw [runC_map (fun g => .bool (brd g i k)) (fun g hg => by simp -implicitDefEqProofs [c257 (n + 1) (h.grids g hg) hi k])]
        cases q : allB r i k <;> rw [q] at ba <;> simp -implicitDefEqProofs [ba, -bi_all, hv6])]
      rw [hf]
      simp -implicitDefEqProofs
      exact Ok.ok (hQ _ ⟨_, rfl, .walls f hfm.1 hz (borders_per hsz hfm.2)⟩)
    · simp -implicitDefEqProofs
      subst hK
      simp -implicitDefEqProofs
      exact Ok.ok (hQ _ ⟨_, rfl, .never j k hj hk hn⟩)
theorem WallR.fine {r : Rule} {i : Nat} {d : D} (h : WallR r i d) (hl : per r i < 10000000) (hg : r.grids.length ≤ 12) : fine 2 d = true ∧ wgt d ≤ 10 := by
  have s1 : (reprText (("open" : String) : Str)).length ≤ 41 := by decide +kernel
  have s2 : (reprText (("reach" : String) : Str)).length ≤ 41 := by decide +kernel
  have s3 : (reprText (("never" : String) : Str)).length ≤ 41 := by decide +kernel
  have s4 : (reprText (("walls" : String) : Str)).length ≤ 41 := by decide +kernel
  have fi : ∀ (k : Nat) h, k < 10000000 → Nm.fine h (.int (k : Int)) = true := fun k h q => fine_small (by omega) (by omega)
  cases h with
  | reach k hk h => exact ⟨by simp [fine_lit s1, fine_lit s2, fi k _ (by omega)], by simp⟩
  | never j k hj hk h => exact ⟨by simp [fine_lit s1, fine_lit s3, fi k _ (by omega), fi j _ (by omega)], by simp⟩
  | walls f hf h0 h => exact ⟨by simp [fine_lit s4, fi f _ (by omega), fi (per r i) _ (by omega)], by simp⟩
theorem c260 (n : Nat) {r : Rule} (h : RuleOk r) (hl : ∀ i : Nat, (i : Int) < r.sides → per r i < 10000000) : Ok (callN ft (n + 6) 260 [⟨false, ruleD r⟩]) fun o => ∃ ds, o = ⟨true, .list ds, [none]⟩ ∧ F2 (fun i d => WallR r i d) (List.range r.sides.toNat) ds := by
  refine Ok.by_ fun Q hQ => ?_
  have hs := h.sides
  obtain ⟨s, hs0⟩ : ∃ s : Nat, r.sides = s := ⟨r.sides.toNat, by omega⟩
  have hb := smallN (s := s) (by omega)
  have e1 := c13r n h
  rw [run260, evSs_Z]
  simp -implicitDefEqProofs only [fd260]
  simp -implicitDefEqProofs [e1, rule_ix0, hs0, hb]
  generalize hR : runC _ _ _ = R
  have key := runC_ok (t := turnN ft (callN ft (n + 5)) (.call 259 (.cons (.var 0) (.cons (.var 1) .nil))) .nil (.nm 1) [1]) (f := fun (k : Nat) => PyData.int (k : Int)) (l := List.range s) (fun (_ : Unit) => [some ⟨false, ruleD r⟩, none]) (fun i d => WallR r i d) (fun i hi _ => Ok.by_ fun Q hQ => by
    have hi : (i : Int) < r.sides := by have : i < s := by simpa using hi
                                        omega
    simp -implicitDefEqProofs
    generalize hR : callN ft _ 259 _ = R
    have hc := c259 (n + 2) h hi (hl i hi)
    rw [hR] at hc
    obtain ⟨_, rfl, d, rfl, hd⟩ := hc
    have nd_ := nd_notD (fine_nd (hd.fine (hl i hi) h.some_.2).1)
    simp -implicitDefEqProofs [nd_]
    exact Ok.ok (hQ _ ⟨(), _, rfl, hd⟩)) ()
  rw [hR] at key
  obtain ⟨_, rfl, ds, _, rfl, hds⟩ := key
  simp -implicitDefEqProofs
  exact Ok.ok (hQ _ ⟨ds, rfl, by rw [hs0]; exact hds⟩)
end Nm
set_option Elab.async false
set_option maxRecDepth 100000
set_option linter.all false
/-! k50: the law's own look at walls. -/
namespace Nm
open PySem L2
theorem per_drawn {s most : Int} {r : Rule} (h : Drawn s most r) (hs : s = 1 ∨ s = 2) {i : Nat} (hi : (i : Int) < r.sides) : per r i ≤ 240 := by
  obtain ⟨L, hL, hlot, hg⟩ := h.grids
  have hi' : i < L.length := by have := h.sides; omega
  obtain ⟨lot, hl⟩ : ∃ lot, L[i] = lot := ⟨_, rfl⟩
  have hm : lot ∈ lots s := hlot _ (by rw [← hl]; exact List.getElem_mem hi')
  have hd : per r i ∣ perL lot := perL_dvd.mpr fun x hx => by
    obtain ⟨g, hgm, rfl⟩ := List.mem_map.mp hx
    have f := (hg g hgm).sizes
    have hi2 : i < g.sizes.length := by rw [← f.len]; exact hi'
    have := f.get i hi' hi2
    rw [hl] at this
    rw [nth_get hi2]
    exact perL_mem this
  have k1 : ∀ lot ∈ lots1, 0 < perL lot ∧ perL lot ≤ 240 := by decide +kernel
  have k2 : ∀ lot ∈ lots2, 0 < perL lot ∧ perL lot ≤ 240 := by decide +kernel
  have k : 0 < perL lot ∧ perL lot ≤ 240 := by
    unfold lots at hm
    split at hm
    · exact k1 lot hm
    · exact k2 lot hm
  exact Nat.le_trans (Nat.le_of_dvd k.1 hd) k.2
def anyReach (r : Rule) : Bool := r.grids.any fun g => decide (0 < g.reach)
theorem c262 (n : Nat) {r : Rule} (h : RuleOk r) {i : Nat} (hi : (i : Int) < r.sides) (ns : List Int) (hn : ns.length ≤ 10000000) : callN ft (n + 2) 262 [⟨false, ruleD r⟩, ⟨false, .int i⟩, ⟨false, .list (intsD ns)⟩] = .ok ⟨true, .list (if anyReach r = true then [] else intsD (ns.filter (allB r i))), [none, none, none]⟩ := by
  suffices t : Ok (callN ft (n + 2) 262 [⟨false, ruleD r⟩, ⟨false, .int i⟩, ⟨false, .list (intsD ns)⟩]) fun o => o = ⟨true, .list (if anyReach r = true then [] else intsD (ns.filter (allB r i))), [none, none, none]⟩ by
    obtain ⟨_, e, rfl⟩ := t; exact e
  refine Ok.by_ fun Q hQ => ?_
  rw [run262, evSs_Z]
  simp -implicitDefEqProofs only [fd262]
  rw [Z_cons]; generalize hK : evZ ft _ _ _ = K
  simp -implicitDefEqProofs [rule_ix1]
  rw [runC_filter (fun g => decide (0 < g.reach)) gridD (fun g hg => by
    by_cases q : 0 < g.reach <;> simp -implicitDefEqProofs [grid_ix2, q])]
  simp -implicitDefEqProofs
  by_cases q : anyReach r = true
  · obtain ⟨g, hg, hq⟩ := List.any_eq_true.mp q
    have : ∃ x, x ∈ r.grids ∧ 0 < x.reach := ⟨g, hg, of_decide_eq_true hq⟩
    simp -implicitDefEqProofs [this]
    exact Ok.ok (hQ _ (by rw [if_pos q]))
  · have : ¬ ∃ x, x ∈ r.grids ∧ 0 < x.reach := fun ⟨g, hg, hq⟩ => q (List.any_eq_true.mpr ⟨g, hg, decide_eq_true hq⟩)
    simp -implicitDefEqProofs [this]
    subst hK
    rw [Z_cons]; generalize hK : evZ ft _ _ _ = K; simp -implicitDefEqProofs; subst hK
    rw [Z_cons]; generalize hK : evZ ft _ _ _ = K; simp -implicitDefEqProofs
    refine loopI (fun k e => ∃ v4, e = [some ⟨false, ruleD r⟩, some ⟨false, .int i⟩, some ⟨false, .list (intsD ns)⟩, some ⟨true, .list (intsD ((ns.take k).filter (allB r i)))⟩, v4, none]) ⟨none, rfl⟩ ?_ ?_
    · rintro k hk _ ⟨v4, rfl⟩
      refine Ok.by_ fun Q hQ => ?_
      have hf := List.length_filter_le (allB r i) (ns.take k)
      have hlt : (ns.take k).length ≤ ns.length := by rw [List.length_take]; omega
      have et : ns.take (k + 1) = ns.take k ++ [ns[k]] := by rw [List.take_add_one, List.getElem?_eq_getElem hk]; rfl
      have ef : (ns.take (k + 1)).filter (allB r i) = (ns.take k).filter (allB r i) ++ if allB r i ns[k] = true then [ns[k]] else [] := by
        rw [et, List.filter_append]
        congr 1
        rw [List.filter_cons, List.filter_nil]
      generalize ns[k] = x at *
      rw [ef] at hQ
      generalize (ns.take k).filter (allB r i) = F at *
      have hF : F.length < 16777216 := by omega
      simp -implicitDefEqProofs [rule_ix1]
      rw [runC_filter (fun g => !brd g i x) gridD (fun g hg => by
        cases q : brd g i x <;> simp -implicitDefEqProofs [c261 n (h.grids g hg) hi x, q])]
      simp -implicitDefEqProofs
      by_cases q2 : allB r i x = true
      · have : ∀ g ∈ r.grids, brd g i x = true := allB_iff.mp q2
        simp -implicitDefEqProofs [eq_true this, hF]
        exact Ok.ok (hQ _ ⟨_, rfl, some ⟨false, .int x⟩, by simp [q2]⟩)
      · have : ¬ ∀ g ∈ r.grids, brd g i x = true := fun z => q2 (allB_iff.mpr z)
        simp -implicitDefEqProofs [eq_false this]
        exact Ok.ok (hQ _ ⟨_, rfl, some ⟨false, .int x⟩, by simp [q2]⟩)
    · rintro _ ⟨v4, rfl⟩
      rw [List.take_of_length_le (Nat.le_refl _)]
      subst hK
      simp -implicitDefEqProofs
      exact Ok.ok (hQ _ (by rw [if_neg q]))
theorem rangeL_ints (lo hi : Int) : rangeL lo hi = intsD ((List.range (hi - lo).toNat).map fun (k : Nat) => lo + (k : Int)) := by
  rw [rangeL_map, intsD, List.map_map]; rfl
theorem runC_nil {t : D → En → R (Option D × En)} {w : En} : runC t [] w = .ok ([], w) := rfl
def runT (m : R (List D × En)) (o : Option D) : R (List D × En) := m >>= fun q => .ok (consO o q.1, q.2)
@[simp] theorem runT_ok {l : List D} {w : En} {o : Option D} : runT (.ok (l, w)) o = .ok (consO o l, w) := rfl
def runS (m : R (Option D × En)) (t : D → En → R (Option D × En)) (xs : List D) : R (List D × En) := m >>= fun p => runT (runC t xs p.2) p.1
@[simp] theorem runS_ok {o : Option D} {w : En} {t : D → En → R (Option D × En)} {xs : List D} : runS (.ok (o, w)) t xs = runT (runC t xs w) o := rfl
theorem runC_cons {t : D → En → R (Option D × En)} {x : D} {xs : List D} {w : En} : runC t (x :: xs) w = runS (t x w) t xs := rfl
@[simp] theorem consO_some {d : D} {l : List D} : consO (some d) l = d :: l := rfl
@[simp] theorem consO_none {l : List D} : consO none l = l := rfl
theorem eq_lit {a b : D} (h1 : eqOk a b = true) {t : Bool} (h2 : PyData.eqv a b = t) : cmpop .eq a b = .ok t := by rw [cmp_eq, if_pos h1, h2]
theorem ne_lit {a b : D} (h1 : eqOk a b = true) {t : Bool} (h2 : PyData.eqv a b = t) : cmpop .ne a b = .ok (!t) := by rw [cmp_ne, if_pos h1, h2]
theorem r_rr : cmpop .eq (.tuple [.str "reach"]) (.tuple [.str "reach"]) = .ok true := eq_lit (by decide +kernel) (by decide +kernel)
theorem r_nr : cmpop .eq (.tuple [.str "never"]) (.tuple [.str "reach"]) = .ok false := eq_lit (by decide +kernel) (by decide +kernel)
theorem r_nn : cmpop .ne (.tuple [.str "never"]) (.tuple [.str "never"]) = .ok false := ne_lit (a := .tuple [.str "never"]) (b := .tuple [.str "never"]) (t := true) (by decide +kernel) (by decide +kernel)
/-- the law's look at a reason -/
theorem c263r (n : Nat) {r : Rule} (h : RuleOk r) {i : Nat} {k : Nat} (hk : k < r.grids.length) (hr : 0 < r.grids[k].reach) : callN ft (n + 2) 263 [⟨false, ruleD r⟩, ⟨false, .int i⟩, ⟨false, .tuple [.str "reach", .int k]⟩] = .ok ⟨false, .bool true, [none, none, none]⟩ := by
  have e7 := c7 n (.int k) rfl
  have ak : atI (r.grids.map gridD) (k : Int) = some (gridD r.grids[k]) := by rw [atI_map', atI_lt hk]; rfl
  have hneg : ¬ (k : Int) < 0 := by omega
  have hge : ¬ (r.grids.length : Int) ≤ k := by omega
  have c1 : ∀ a : D, cutD [a, .int k] (some 1) none = [.int k] := fun a => cut1
  have c2 : ∀ a : D, cutD [a, .int k] none (some 1) = [a] := fun a => cut_t1
  rw [run263, evSs_Z]
  simp -implicitDefEqProofs only [fd263]
  simp -implicitDefEqProofs [c1, c2, runC_cons, runC_nil, e7, hneg, hge, rule_ix1, r_rr, ak, grid_ix2, hr]
theorem c263n (n : Nat) {r : Rule} (h : RuleOk r) {i : Nat} (hi : (i : Int) < r.sides) {j k : Nat} (hj : j < k) (hk : k < r.grids.length) (hn : ∀ c, ¬ (brd (r.grids[j]'(by omega)) i c = true ∧ brd r.grids[k] i c = true)) : callN ft (n + 2) 263 [⟨false, ruleD r⟩, ⟨false, .int i⟩, ⟨false, .tuple [.str "never", .int j, .int k]⟩] = .ok ⟨false, .bool true, [none, none, none]⟩ := by
  have hj2 : j < r.grids.length := by omega
  have e7 := fun m : Nat => c7 n (.int m) rfl
  have ak : atI (r.grids.map gridD) (k : Int) = some (gridD r.grids[k]) := by rw [atI_map', atI_lt hk]; rfl
  have aj : atI (r.grids.map gridD) (j : Int) = some (gridD r.grids[j]) := by rw [atI_map', atI_lt hj2]; rfl
  have hneg : ∀ m : Nat, ¬ (m : Int) < 0 := fun m => by omega
  have hge : ¬ (r.grids.length : Int) ≤ k ∧ ¬ (r.grids.length : Int) ≤ j := by omega
  have c1 : ∀ a : D, cutD [a, .int j, .int k] (some 1) none = [.int j, .int k] := fun a => cut1
  have c2 : ∀ a : D, cutD [a, .int j, .int k] none (some 1) = [a] := fun a => cut_t1
  have g1 := h.grids _ (List.getElem_mem hk)
  have g2 := h.grids _ (List.getElem_mem hj2)
  rw [run263, evSs_Z]
  simp -implicitDefEqProofs only [fd263]
  simp -implicitDefEqProofs [c1, c2, runC_cons, runC_nil, e7, hneg, hge, hj, rule_ix1, r_nr, r_nn, ak, aj, show rangeL 0 3600 = (List.range 3600).map fun (k : Nat) => PyData.int (k : Int) from rangeL_0 3600]
  rw [runC_filter (fun _ => false) (fun (k : Nat) => .int k) (fun m hm => by
    have e1 := c261 n g1 hi m
    have e2 := c261 n g2 hi m
    cases q1 : brd r.grids[j] i m
    · simp -implicitDefEqProofs [e2, q1]
    · cases q2 : brd r.grids[k] i m
      · simp -implicitDefEqProofs [e1, e2, q1, q2]
      · exact absurd ⟨q1, q2⟩ (hn m))]
  simp -implicitDefEqProofs
theorem eqOk_nilT {l : List D} : eqOk (.tuple l) (.tuple []) = true := by
  unfold eqOk
  have : PyData.depth (.tuple []) = 1 := rfl
  rw [decide_eq_true (by omega)]
  rfl
@[simp] theorem eq_nilT {l : List D} : cmpop .eq (.tuple l) (.tuple []) = .ok l.isEmpty := by
  rw [cmp_eq, if_pos eqOk_nilT]
  cases l <;> rfl
theorem s_wo : cmpop .eq (.str "walls") (.str "open") = .ok false := eq_lit (by decide +kernel) (by decide +kernel)
theorem no_due {r : Rule} {i : Nat} {ns : List Int} (h : anyReach r = true ∨ ∀ c, allB r i c = false) : (if anyReach r = true then ([] : List D) else intsD (ns.filter (allB r i))) = [] := by
  rcases h with h | h
  · rw [if_pos h]
  · have : ns.filter (allB r i) = [] := List.filter_eq_nil_iff.mpr fun c _ => by rw [h c]; decide
    rw [this]
    split <;> rfl
/-- the law's look at what is told of a side -/
theorem c264 (n : Nat) {r : Rule} (h : RuleOk r) {i : Nat} (hi : (i : Int) < r.sides) (hl : ∀ i : Nat, (i : Int) < r.sides → per r i < 1000000) {d : D} (hw : WallR r i d) : callN ft (n + 3) 264 [⟨false, ruleD r⟩, ⟨false, .int i⟩, ⟨false, d⟩] = .ok ⟨false, .bool true, [none, none, none]⟩ := by
  have hl2 : ∀ i : Nat, (i : Int) < r.sides → per r i < 100000000 := fun i hi => by have := hl i hi; omega
  have e37 := c37 n h hl2
  have hP := hl i hi
  have hP0 := h.per_pos hi
  obtain ⟨P, hPe⟩ : ∃ P, per r i = P := ⟨_, rfl⟩
  have mb : binop .mul (.int 2) (.int (P : Int)) = .ok (.v false (.int (2 * (P : Int)))) := mulB (by decide) (by decide) (by omega) (by omega)
  have er := rangeL_ints (-(P : Int)) (2 * P)
  have hns : ((List.range (2 * (P : Int) - -(P : Int)).toNat).map fun (k : Nat) => -(P : Int) + (k : Int)).length ≤ 10000000 := by
    rw [List.length_map, List.length_range]; omega
  generalize ((List.range (2 * (P : Int) - -(P : Int)).toNat).map fun (k : Nat) => -(P : Int) + (k : Int)) = ns at er hns
  have e262 := c262 n h hi ns hns
  have rb : -4611686018427387904 ≤ -(P : Int) ∧ -(P : Int) < 4611686018427387904 ∧ -4611686018427387904 ≤ 2 * (P : Int) ∧ 2 * (P : Int) < 4611686018427387904 ∧ 2 * (P : Int) + (P : Int) ≤ 16777216 := by omega
  have ap := atI_per hi
  rw [hPe] at ap
  rw [run264, evSs_Z]
  simp -implicitDefEqProofs only [fd264]
  cases hw with
  | reach k hk hr =>
    have hd : anyReach r = true := List.any_eq_true.mpr ⟨r.grids[k], List.getElem_mem hk, decide_eq_true hr⟩
    rw [no_due (.inl hd)] at e262
    have e263 := c263r n h (i := i) hk hr
    simp -implicitDefEqProofs [e37, ap, mb, er, rb, e262, e263, -mul_int]
  | never j k hj hk hn =>
    have hd : ∀ c, allB r i c = false := fun c => by
      cases q : allB r i c
      · rfl
      · have := allB_iff.mp q
        exact absurd ⟨this _ (List.getElem_mem _), this _ (List.getElem_mem _)⟩ (hn c)
    rw [no_due (.inr hd)] at e262
    have e263 := c263n n h hi hj hk hn
    simp -implicitDefEqProofs [e37, ap, mb, er, rb, e262, e263, -mul_int]
  | walls f hf h0 hb =>
    have hd : anyReach r = false := by
      cases q : anyReach r
      · rfl
      · obtain ⟨g, hg, hq⟩ := List.any_eq_true.mp q
        have := h0 g hg
        simp [this] at hq
    rw [hd, if_neg (by decide)] at e262
    rw [hPe]
    rw [hPe] at hf hb
    have e7 := fun m : Nat => c7 (n + 1) (.int m) rfl
    have z1 : ¬ (P : Int) < 1 ∧ ¬ (f : Int) < 0 ∧ ¬ (P : Int) ≤ f := by omega
    simp -implicitDefEqProofs [e37, ap, mb, er, rb, e262, s_wo, e7, z1, -mul_int]
    have hPp : 0 < P := by omega
    rw [runC_filter (fun x => decide ((x - (f : Int)) % (P : Int) = 0)) (fun x => .int x) (fun x hx => by
      by_cases q : (x - (f : Int)) % (P : Int) = 0 <;> simp -implicitDefEqProofs [hPp, q])]
    have ef : ns.filter (allB r i) = ns.filter fun x => decide ((x - (f : Int)) % (P : Int) = 0) := List.filter_congr fun x _ => by
      rw [Bool.eq_iff_iff, hb x, decide_eq_true_eq]
    rw [← ef]
    have ee := eq_ints (l := ns.filter (allB r i))
    simp -implicitDefEqProofs [ee]
theorem atI_D {xs : List D} {i : Nat} (h : i < xs.length) : atI xs (i : Int) = some xs[i] := atI_lt h
/-- what is asked of each rule -/
theorem c265 (n : Nat) {r : Rule} (hf : RuleF r) (hl : ∀ i : Nat, (i : Int) < r.sides → per r i < 1000000) : callN ft (n + 7) 265 [⟨false, ruleD r⟩] = .ok ⟨false, .bool true, [none]⟩ := by
  have h := hf.ok
  have hs := h.sides
  obtain ⟨s, hs0⟩ : ∃ s : Nat, r.sides = s := ⟨r.sides.toNat, by omega⟩
  have hb := smallN (s := s) (by omega)
  have hrep : reprOk (ruleD r) = true := fine_repr hf.fine.1 (by decide) (by have := hf.fine.2; omega)
  obtain ⟨_, e260, ds, rfl, hds⟩ := c260 n h (fun i hi => by have := hl i hi; omega)
  have hlen := hds.len
  rw [List.length_range, hs0, Int.toNat_natCast] at hlen
  have hw : ∀ i (hi : i < ds.length), WallR r i ds[i] := fun i hi => by
    have h1 : i < (List.range r.sides.toNat).length := by rw [hds.len]; exact hi
    have := hds.get i h1 hi
    rwa [List.getElem_range] at this
  have hfine : ∀ d ∈ ds, fine 2 d = true ∧ wgt d ≤ 10 := fun d hd => by
    obtain ⟨i, hi, rfl⟩ := List.mem_iff_getElem.mp hd
    have hi2 : (i : Int) < r.sides := by omega
    exact (hw i hi).fine (by have := hl i hi2; omega) h.some_.2
  have hrd : reprOk (.list ds) = true := fine_repr (h := 3) (fines_iff.mpr fun d hd => (hfine d hd).1) (by decide) (by
    have := wgts_le (l := ds) (k := 10) fun d hd => (hfine d hd).2
    simp; omega)
  rw [run265, evSs_Z]
  simp -implicitDefEqProofs only [fd265]
  have hlt : ds.length < 16777216 := by omega
  have hll : (ds.length : Int) = s := by omega
  rw [Z_cons]; generalize hK : evZ ft _ _ _ = K; simp -implicitDefEqProofs [bi_repr, hrep]; subst hK
  rw [Z_cons]; generalize hK : evZ ft _ _ _ = K; simp -implicitDefEqProofs [e260]; subst hK
  rw [Z_cons]; generalize hK : evZ ft _ _ _ = K; simp -implicitDefEqProofs [bi_repr, hrep, rule_ix0, hs0, hll]; subst hK
  rw [Z_cons]; generalize hK : evZ ft _ _ _ = K; simp -implicitDefEqProofs [rule_ix0, hs0, hb]
  rw [runC_filter (fun _ => false) (fun (k : Nat) => .int k) (fun k hk => by
    have hk : k < s := by simpa using hk
    have ak := atI_D (xs := ds) (i := k) (by omega)
    have e := c264 (n + 3) h (i := k) (by omega) hl (hw k (by omega))
    simp -implicitDefEqProofs [ak, e])]
  simp -implicitDefEqProofs
  subst hK
  rw [Z_cons]; generalize hK : evZ ft _ _ _ = K; simp -implicitDefEqProofs [bi_repr, hrd]; subst hK
  rw [Z_cons]; generalize hK : evZ ft _ _ _ = K; simp -implicitDefEqProofs [hlt]; subst hK
  simp -implicitDefEqProofs [e260, bi_repr, hrd]
theorem loopL' {body : En → R (Fl × En)} {tg : Tg} {K : En → R (Fl × En)} {Q : Fl × En → Prop} {l : List D} {e : En} (I : En → Prop) (h0 : I e)
    (hs : ∀ d ∈ l, ∀ e, I e → Ok (bindT tg d e >>= body) fun p => ∃ e', p = (.nx, e') ∧ I e')
    (hE : ∀ e, I e → Ok (K e) Q) : Ok (thenF (loopF body tg l e) K) Q := by
  have e1 : ∀ m : R (Fl × En), (m >>= R.ok) = m := fun m => by cases m <;> rfl
  have := loopL (body := body) (tg := tg) (K := K) (f := R.ok) (Q := Q) I h0 hs (fun e hI => by rw [e1]; exact hE e hI)
  rwa [e1] at this
end Nm
set_option Elab.async false
set_option maxRecDepth 100000
set_option linter.all false
/-! What the laws ask of a caught thing. -/
namespace Nm
open PySem L2
@[simp] theorem isTy_exc {k j : Nat} {fs : List D} : isTy (.exc k) (excD j fs) = .ok (k == 0 || k == 100 || k == j) := rfl
@[simp] theorem isTy_excN {k : Nat} : isTy (.exc k) .none = .ok false := rfl
@[simp] theorem notD_exc {j : Nat} {fs : List D} : notD (excD j fs) = false := rfl
@[simp] theorem plainV_exc {j : Nat} {fs : List D} : plainV (excD j fs) = plainX j := rfl
theorem c435n (n : Nat) : callN ft (n + 1) 435 [⟨false, .none⟩] = .ok ⟨true, .list [], [none]⟩ := by rw [run435]; rfl
theorem zip2_cons {x y : D} {xs ys : List D} : zip2 (x :: xs) (y :: ys) = .tuple [x, y] :: zip2 xs ys := rfl
theorem zip2_nil {ys : List D} : zip2 [] ys = [] := rfl
theorem c435a (n : Nat) (fs : List D) : callN ft (n + 1) 435 [⟨false, excD 1 fs⟩] = .ok ⟨true, .list [.str "rule", .str "value", .str "error"], [none]⟩ := by
  rw [run435, evSs_Z]
  simp -implicitDefEqProofs [fd435, zip2_cons, zip2_nil, runC_cons, runC_nil]
theorem c435b (n : Nat) (fs : List D) : callN ft (n + 1) 435 [⟨false, excD 2 fs⟩] = .ok ⟨true, .list [.str "point", .str "value", .str "error"], [none]⟩ := by
  rw [run435, evSs_Z]
  simp -implicitDefEqProofs [fd435, zip2_cons, zip2_nil, runC_cons, runC_nil]
theorem l_ee : cmpop .eq (.list []) (.list []) = .ok true := eq_lit (by decide +kernel) (by decide +kernel)
theorem l_r0 : cmpop .eq (.list [.str "rule", .str "value", .str "error"]) (.list []) = .ok false := eq_lit (by decide +kernel) (by decide +kernel)
theorem l_p0 : cmpop .eq (.list [.str "point", .str "value", .str "error"]) (.list []) = .ok false := eq_lit (by decide +kernel) (by decide +kernel)
theorem l_ve : cmpop .ne (.list [.str "value", .str "error"]) (.list [.str "value", .str "error"]) = .ok false := ne_lit (t := true) (by decide +kernel) (by decide +kernel)
theorem c436n (n : Nat) : callN ft (n + 2) 436 [⟨false, .none⟩] = .ok ⟨false, .str "", [none]⟩ := by
  rw [run436, evSs_Z]
  simp -implicitDefEqProofs [fd436, c435n n, l_ee]
theorem c436a (n : Nat) (fs : List D) : callN ft (n + 2) 436 [⟨false, excD 1 fs⟩] = .ok ⟨false, .str "rule", [none]⟩ := by
  rw [run436, evSs_Z]
  simp -implicitDefEqProofs [fd436, c435a n, l_r0, l_ve, cut1]
theorem c436b (n : Nat) (fs : List D) : callN ft (n + 2) 436 [⟨false, excD 2 fs⟩] = .ok ⟨false, .str "point", [none]⟩ := by
  rw [run436, evSs_Z]
  simp -implicitDefEqProofs [fd436, c435b n, l_p0, l_ve, cut1]
end Nm
set_option Elab.async false
set_option maxRecDepth 100000
set_option linter.all false
/-! k01: the law's own checks are the program's. -/
namespace Nm
open PySem L2
theorem filter_not_nil {l : List D} {c : D → Bool} : (l.filter fun d => !c d).isEmpty = l.all c := by
  rw [Bool.eq_iff_iff]
  simp [List.filter_eq_nil_iff]
theorem c18 (n : Nat) (d : D) (s : Int) (h : nd d) : callN ft (n + 2) 18 [⟨false, d⟩, ⟨false, .int s⟩] = .ok ⟨false, .bool (isPt s d), [none, none]⟩ := by
  rw [run18]
  cases d
  case tuple l =>
    have hl := nd_tuple.mp h
    by_cases hs : (l.length : Int) = s
    · simp -implicitDefEqProofs [fd18, hs, isTy]
      rw [runC_listF (fun d => !isWhole d) (fun d => d) (fun a ha => by
        have e := c7 n a (nd_notD (hl a ha))
        have := nd_notD (hl a ha)
        cases hw : isWhole a <;> simp -implicitDefEqProofs [turnC, e, hw, this])]
      simp -implicitDefEqProofs [hs]
      rw [← filter_not_nil]
    · simp -implicitDefEqProofs [fd18, hs, isTy]
  case dict => exact (nd_dict h).elim
  all_goals (simp -implicitDefEqProofs [fd18, isTy, isPt])
def small (d : D) : Bool := match d with
  | .int i => decide (i < 1) || decide (60 < i)
  | _ => false
theorem c21 (n : Nat) (d : D) (s : Int) (h : nd d) : callN ft (n + 3) 21 [⟨false, d⟩, ⟨false, .int s⟩] = .ok ⟨false, .bool (isGrid s d), [none, none]⟩ := by
  rw [run21]
  cases d
  case tuple l =>
    have hl := nd_tuple.mp h
    by_cases hs : l.length = 3
    · obtain ⟨a, b, c, rfl⟩ : ∃ a b c, l = [a, b, c] := by
        match l, hs with
        | [a, b, c], _ => exact ⟨a, b, c, rfl⟩
      have ha := hl a (by simp)
      have hb := hl b (by simp)
      have hc := hl c (by simp)
      have e18 := c18 n a s ha
      have e18' := c18 n b s hb
      have e7 := c7 (n + 1) c (nd_notD hc)
      cases q1 : isPt s a
      · simp -implicitDefEqProofs [fd21, isTy, e18, q1]
      · cases q2 : isPt s b
        · simp -implicitDefEqProofs [fd21, isTy, e18, q1, e18', q2]
        · cases c <;> try (simp -implicitDefEqProofs [fd21, isTy, e18, q1, e18', q2, e7, isWhole, within]; done)
          rename_i i
          cases a <;> try (simp [isPt] at q1; done)
          rename_i la
          have hw : ∀ x ∈ la, ∃ j, x = .int j := by
            intro x hx
            have q := q1
            simp only [isPt_tuple, Bool.and_eq_true, List.all_eq_true] at q
            have := q.2 x hx
            cases x <;> first | exact ⟨_, rfl⟩ | cases this
          simp -implicitDefEqProofs [fd21, isTy, e18, q1, e18', q2, e7]
          rw [runC_listF small (fun d => d) (fun x hx => by
            obtain ⟨j, rfl⟩ := hw x hx
            by_cases c1 : j < 1 <;> by_cases c2 : 60 < j <;> simp -implicitDefEqProofs [turnC, small, c1, c2])]
          simp -implicitDefEqProofs
          have key : (la.filter small).isEmpty = la.all (within 1 60) := by
            rw [Bool.eq_iff_iff]
            simp only [List.isEmpty_iff, List.filter_eq_nil_iff, List.all_eq_true]
            constructor
            · intro g x hx
              obtain ⟨j, rfl⟩ := hw x hx
              have := g _ hx
              simp [small] at this
              simp [within]; omega
            · intro g x hx
              obtain ⟨j, rfl⟩ := hw x hx
              have := g _ hx
              simp [within] at this
              simp [small]; omega
          have key2 : (∀ a ∈ la, small a = false) ↔ la.all (within 1 60) = true := by rw [← key]; simp
          have k3 : decide (i < 4) = decide (i ≤ 3) := decide_eq_decide.mpr (by omega)
          by_cases g : ∀ a ∈ la, small a = false
          · rw [if_pos g, key2.mp g]
            by_cases c1 : 0 ≤ i <;> simp -implicitDefEqProofs [c1, k3]
          · rw [if_neg g]
            have : la.all (within 1 60) = false := by
              cases q : la.all (within 1 60)
              · rfl
              · exact absurd (key2.mpr q) g
            simp -implicitDefEqProofs [this]
    · have hs' : ¬ (l.length : Int) = 3 := by omega
      have : isGrid s (.tuple l) = false := by
        unfold isGrid
        split
        · rename_i heq; cases heq; exact absurd rfl hs
        · rfl
      simp -implicitDefEqProofs [fd21, isTy, hs', this]
  case dict => exact (nd_dict h).elim
  all_goals (simp -implicitDefEqProofs [fd21, isTy, isGrid])
set_option maxHeartbeats 1000000 in
theorem c22 (n : Nat) (d : D) (h : nd d) : callN ft (n + 4) 22 [⟨false, d⟩] = .ok ⟨false, .bool (isRule d), [none]⟩ := by
  rw [run22]
  cases d
  case tuple l =>
    have hl := nd_tuple.mp h
    by_cases hs : l.length = 2
    · obtain ⟨a, b, rfl⟩ : ∃ a b, l = [a, b] := by
        match l, hs with
        | [a, b], _ => exact ⟨a, b, rfl⟩
      have ha := hl a (by simp)
      have hb := hl b (by simp)
      have e7 := c7 (n + 2) a (nd_notD ha)
      cases a <;> try (simp -implicitDefEqProofs [fd22, isTy, e7, isWhole, within]; done)
      rename_i s
      cases b <;> try (simp -implicitDefEqProofs [fd22, isTy, e7, isWhole, gridsOk]; done)
      case dict => exact (nd_dict hb).elim
      rename_i gs
      have hgs := nd_tuple.mp hb
      by_cases q1 : s < 1
      · have z : ¬ 1 ≤ s := by omega
        simp -implicitDefEqProofs [fd22, isTy, e7, q1, z]
      · by_cases q2 : 2 < s
        · have z : ¬ s ≤ 2 := by omega
          simp -implicitDefEqProofs [fd22, isTy, e7, q1, q2, z]
        · by_cases q3 : (gs.length : Int) < 1
          · have z : ¬ 1 ≤ gs.length := by omega
            simp -implicitDefEqProofs [fd22, isTy, e7, q1, q2, q3, z, gridsOk]
          · by_cases q4 : (12 : Int) < gs.length
            · have z : ¬ gs.length ≤ 12 := by omega
              simp -implicitDefEqProofs [fd22, isTy, e7, q1, q2, q3, q4, z, gridsOk]
            · have z1 : 1 ≤ s := by omega
              have z2 : s ≤ 2 := by omega
              have z3 : 1 ≤ gs.length := by omega
              have z4 : gs.length ≤ 12 := by omega
              simp -implicitDefEqProofs [fd22, isTy, e7, q1, q2, q3, q4]
              rw [runC_listF (fun d => !isGrid s d) (fun d => d) (fun a ha => by
                have e := c21 n a s (hgs a ha)
                have := nd_notD (hgs a ha)
                cases hw : isGrid s a <;> simp -implicitDefEqProofs [turnC, e, hw, this])]
              rw [List.map_id', bind_ok, filter_not_nil]
              simp -implicitDefEqProofs [z1, z2, z3, z4, gridsOk]
    · have hs' : ¬ (l.length : Int) = 2 := by omega
      have : isRule (.tuple l) = false := by
        unfold isRule
        split
        · rename_i heq; cases heq; exact absurd rfl hs
        · rfl
      simp -implicitDefEqProofs [fd22, isTy, hs', this]
  case dict => exact (nd_dict h).elim
  all_goals (simp -implicitDefEqProofs [fd22, isTy, isRule])
end Nm
set_option Elab.async false
set_option maxRecDepth 100000
set_option linter.all false
/-! k01: things bent; points and things that are none. -/
namespace Nm
open PySem L2
/-- a thing that no point with s sides is -/
structure BadP (s : Int) (d : D) : Prop where
  no : isPt s d = false
  fine : fine 3 d = true
  wgt : wgt d ≤ 20
theorem badP_all {s : Int} {l : List D} (h1 : (l.all fun d => !isPt s d) = true) (h2 : fines 3 l = true) (h3 : (l.all fun d => decide (wgt d ≤ 20)) = true) : ∀ d ∈ l, BadP s d := fun d hd =>
  ⟨by have := List.all_eq_true.mp h1 d hd; simpa using this, fines_iff.mp h2 d hd, of_decide_eq_true (List.all_eq_true.mp h3 d hd)⟩
@[simp] theorem mul_str {x : Str} {k : Int} : binop .mul (.str x) (.int k) = if -1000 ≤ k ∧ k ≤ 1000 ∧ x.length ≤ 1000 ∧ (strRep x k).length ≤ sizeLine then .ok (.v false (.str (strRep x k))) else .no := rfl
theorem rep0_1 : strRep ("0" : String) 1 = ("0" : String) := by decide +kernel
theorem rep0_2 : strRep ("0" : String) 2 = ("00" : String) := by decide +kernel
theorem c15 (n : Nat) (s : Int) (hs : s = 1 ∨ s = 2) : Ok (callN ft (n + 1) 15 [⟨false, .int s⟩]) fun o => ∃ L, o = ⟨true, .list L, [none]⟩ ∧ L.length = 13 ∧ ∀ d ∈ L, BadP s d := by
  refine Ok.by_ fun Q hQ => ?_
  have l1 : Str.length ("0" : String) = 1 := by decide +kernel
  have l2 : Str.length ("00" : String) = 2 := by decide +kernel
  have s1 : (reprText (("00" : String) : Str)).length ≤ 41 := by decide +kernel
  have s2 : (reprText (("" : String) : Str)).length ≤ 41 := by decide +kernel
  have s3 : (reprText (("0" : String) : Str)).length ≤ 41 := by decide +kernel
  rw [run15, evSs_Z]
  simp -implicitDefEqProofs only [fd15]
  rcases hs with rfl | rfl
  · simp -implicitDefEqProofs [rep0_1, l1]
    refine Ok.ok (hQ _ ⟨_, rfl, by simp, badP_all ?_ ?_ ?_⟩)
    · simp -implicitDefEqProofs
    · simp -implicitDefEqProofs [fine_int, fine_lit s1, fine_lit s2, fine_lit s3]
    · simp -implicitDefEqProofs
  · simp -implicitDefEqProofs [rep0_2, l1, l2]
    refine Ok.ok (hQ _ ⟨_, rfl, by simp, badP_all ?_ ?_ ?_⟩)
    · simp -implicitDefEqProofs
    · simp -implicitDefEqProofs [fine_int, fine_lit s1, fine_lit s2, fine_lit s3]
    · simp -implicitDefEqProofs
/-- is it a point? -/
theorem c14 (n : Nat) {r : Rule} (h : RuleOk r) (d : D) (hd : nd d) : callN ft (n + 6) 14 [⟨false, ruleD r⟩, ⟨false, d⟩] = .ok ⟨false, .bool (isPt r.sides d), [none, none]⟩ := by
  have e1 := c13r n h
  have e2 := c9 (n + 3) d r.sides hd
  rw [run14, evSs_Z]
  simp -implicitDefEqProofs [fd14, e1, e2, rule_ix0]
/-- what is asked of each thing -/
theorem c23 (n : Nat) (d : D) {h : Nat} (f : fine h d = true) (hh : h ≤ 64) (hw : wgt d ≤ 390000) : callN ft (n + 6) 23 [⟨false, d⟩] = .ok ⟨false, .bool true, [none]⟩ := by
  have q := fine_nd f
  have e1 := c12 n d q
  have e2 := c22 (n + 1) d q
  have e3 := fine_repr f hh hw
  rw [run23, evSs_Z]
  simp -implicitDefEqProofs [fd23, e1, e2, bi_repr, e3]
theorem fines_take {h k : Nat} {l : List D} (f : fines h l = true) : fines h (l.take k) = true := fines_iff.mpr fun x hx => fines_iff.mp f x (List.mem_of_mem_take hx)
theorem fines_drop {h k : Nat} {l : List D} (f : fines h l = true) : fines h (l.drop k) = true := fines_iff.mpr fun x hx => fines_iff.mp f x (List.mem_of_mem_drop hx)
theorem wgts_take {k : Nat} {l : List D} : wgts (l.take k) ≤ wgts l := by
  have : wgts (l.take k ++ l.drop k) = wgts l := by rw [List.take_append_drop]
  rw [wgts_append] at this; omega
theorem wgts_drop {k : Nat} {l : List D} : wgts (l.drop k) ≤ wgts l := by
  have : wgts (l.take k ++ l.drop k) = wgts l := by rw [List.take_append_drop]
  rw [wgts_append] at this; omega
/-- something put in the place of one -/
def inPlace (l : List D) (k : Nat) (d : D) : List D := l.take k ++ [d] ++ l.drop (k + 1)
theorem fines_in {h k : Nat} {l : List D} {d : D} (f : fines h l = true) (g : fine h d = true) : fines h (inPlace l k d) = true := by
  simp [inPlace, fines_take f, fines_drop f, g]
theorem wgts_in {k : Nat} {l : List D} {d : D} : wgts (inPlace l k d) ≤ wgts l + wgts l + wgt d := by
  have h1 := wgts_take (k := k) (l := l)
  have h2 := wgts_drop (k := k + 1) (l := l)
  simp [inPlace]
  omega
theorem len_in {k : Nat} {l : List D} {d : D} : (inPlace l k d).length ≤ l.length + 1 := by
  simp [inPlace]; omega
end Nm
set_option Elab.async false
set_option maxRecDepth 100000
set_option linter.all false
/-! k03: looked, far: what right and wrong arguments do. -/
namespace Nm
open PySem L2
theorem c42 (n : Nat) (cell : List Int) (ρ : Nat) (hc : cell.length ≤ 2) (hr : ρ ≤ 3) : Ok (callN ft (n + 1) 42 [⟨false, ptD cell⟩, ⟨false, .int ρ⟩]) fun o => ∃ L : List (List Int), o = ⟨true, .list (L.map ptD), [none, none]⟩ ∧ L.length ≤ 343 := by
  refine Ok.by_ fun Q hQ => ?_
  rw [run42, evSs_Z]
  simp -implicitDefEqProofs only [fd42]
  rw [Z_cons]; generalize hK : evZ ft _ _ _ = K; simp -implicitDefEqProofs; subst hK
  rw [Z_cons]; generalize hK : evZ ft _ _ _ = K; simp -implicitDefEqProofs
  refine loopI (fun m e => ∃ (L : List (List Int)) (v3 : Option Sv), e = [some ⟨false, ptD cell⟩, some ⟨false, .int ρ⟩, some ⟨true, .list (L.map ptD)⟩, v3, none, none] ∧ L.length ≤ 7 ^ m ∧ ∀ z ∈ L, z.length = m) ⟨[[]], none, rfl, by simp, by simp⟩ ?_ ?_
  · rintro k hk _ ⟨L, v3, rfl, hL, hz⟩
    refine Ok.by_ fun Q hQ => ?_
    obtain ⟨x, hx⟩ : ∃ x, cell[k] = x := ⟨_, rfl⟩
    rw [hx]
    simp -implicitDefEqProofs
    generalize hR : loopC2 _ _ _ _ _ _ _ _ _ _ = R
    have key := loopC2_flat (el := elF ft (callN ft n) (.bin .add (.var 4) (.tup (.cons (.bin .add (.var 3) (.var 5)) .nil)))) (ts := tsF ft (callN ft n) .nil) (it1 := itF ft (callN ft n) (.rng (.cons (.neg (.var 1)) (.cons (.bin .add (.var 1) (.cst (.int 1))) .nil)))) (tg := .nm 4) (own := [4, 5]) (tg1 := .nm 5) (own1 := [5]) (f := ptD)
      (W := [some ⟨false, ptD cell⟩, some ⟨false, .int ρ⟩, some ⟨false, .list (L.map ptD)⟩, some ⟨false, .int x⟩, none, none]) (fun z : List Int => (List.range (2 * ρ + 1)).map fun (j : Nat) => ptD (z ++ [x + (-(ρ : Int) + j)])) 7 (by simp) (l := L) (fun z hz' => ?_) 0 [some ⟨false, ptD cell⟩, some ⟨false, .int ρ⟩, some ⟨false, .list (L.map ptD)⟩, some ⟨false, .int x⟩, none, none] rfl ?_
    · rw [hR] at key
      obtain ⟨e', rfl, hw⟩ := key
      have hL2 : L.flatMap (fun z => (List.range (2 * ρ + 1)).map fun (j : Nat) => ptD (z ++ [x + (-(ρ : Int) + j)])) = (L.flatMap fun z => (List.range (2 * ρ + 1)).map fun (j : Nat) => z ++ [x + (-(ρ : Int) + j)]).map ptD := by
        rw [List.map_flatMap]
        congr 1; funext z
        rw [List.map_map]; rfl
      rw [hL2]
      generalize hL3 : (L.flatMap fun z => (List.range (2 * ρ + 1)).map fun (j : Nat) => z ++ [x + (-(ρ : Int) + j)]) = L'
      have hlen : ∀ l : List (List Int), (l.flatMap fun z => (List.range (2 * ρ + 1)).map fun (j : Nat) => z ++ [x + (-(ρ : Int) + j)]).length = l.length * (2 * ρ + 1) := fun l => by
        induction l with
        | nil => simp
        | cons a l ih => rw [List.flatMap_cons, List.length_append, ih, List.length_map, List.length_range, List.length_cons, show (l.length + 1) * (2 * ρ + 1) = l.length * (2 * ρ + 1) + (2 * ρ + 1) from Nat.succ_mul _ _]; omega
      simp -implicitDefEqProofs only [comp2B_ok]
      rw [← back_wipe, hw]
      simp -implicitDefEqProofs
      refine Ok.ok (hQ _ ⟨_, rfl, L', _, rfl, ?_, fun z hz' => ?_⟩)
      · rw [← hL3, hlen, Nat.pow_succ]
        exact Nat.mul_le_mul hL (by omega)
      · rw [← hL3, List.mem_flatMap] at hz'
        obtain ⟨y, hy, hz'⟩ := hz'
        obtain ⟨j, _, rfl⟩ := List.mem_map.mp hz'
        simp [hz y hy]
    · have := hz z hz'
      have hk2 : k < 2 := by omega
      have hsm : -4611686018427387904 ≤ -(ρ : Int) ∧ -(ρ : Int) < 4611686018427387904 ∧ -4611686018427387904 ≤ (ρ : Int) + 1 ∧ (ρ : Int) + 1 < 4611686018427387904 ∧ (ρ : Int) + 1 - -(ρ : Int) ≤ 16777216 ∧ (ρ : Int) + 1 + ρ ≤ 16777216 := by omega
      have hrg : rangeL (-(ρ : Int)) (ρ + 1) = (List.range (2 * ρ + 1)).map fun (j : Nat) => PyData.int (-(ρ : Int) + j) := by
        unfold rangeL
        rw [show ((ρ : Int) + 1 - -(ρ : Int)).toNat = 2 * ρ + 1 by omega]
      have hzl : z.length + 1 ≤ 16777216 := by omega
      refine ⟨[some ⟨false, ptD cell⟩, some ⟨false, .int ρ⟩, some ⟨false, .list (L.map ptD)⟩, some ⟨false, .int x⟩, some ⟨false, ptD z⟩, none], rangeL (-(ρ : Int)) (ρ + 1), [some ⟨false, ptD cell⟩, some ⟨false, .int ρ⟩, some ⟨false, .list (L.map ptD)⟩, some ⟨false, .int x⟩, some ⟨false, ptD z⟩, none], [some ⟨false, ptD cell⟩, some ⟨false, .int ρ⟩, some ⟨false, .list (L.map ptD)⟩, some ⟨false, .int x⟩, some ⟨false, ptD z⟩, none], ?_, ?_, ?_, ?_, ?_, ?_⟩
      · simp -implicitDefEqProofs
      · simp -implicitDefEqProofs [hsm]
      · rw [hrg]; simp; omega
      · rw [hrg]
        refine runC_map (fun (j : Nat) => ptD (z ++ [x + (-(ρ : Int) + j)])) fun j hj => ?_
        show turnN ft (callN ft n) (.bin .add (.var 4) (.tup (.cons (.bin .add (.var 3) (.var 5)) .nil))) .nil (.nm 5) [5] _ _ = _
        simp -implicitDefEqProofs [hzl]
      · simp; omega
      · rfl
    · have : 7 ^ k ≤ 7 ^ 2 := Nat.pow_le_pow_right (by decide) (by omega)
      omega
  · rintro _ ⟨L, v3, rfl, hL, hz⟩
    subst hK
    simp -implicitDefEqProofs
    have : 7 ^ cell.length ≤ 7 ^ 2 := Nat.pow_le_pow_right (by decide) hc
    exact Ok.ok (hQ _ ⟨L, rfl, by omega⟩)
def badWays : List D := [.none, .int 0, .str "", .str "Side", .str "sides", .str "sum ", .list [.str "side"], .tuple [.str "sum"], .bool true, .str "max"]
theorem c56 (n : Nat) : callN ft (n + 1) 56 [] = .ok ⟨true, .list badWays, []⟩ := by
  rw [run56, evSs_Z]
  simp -implicitDefEqProofs [fd56, badWays]
theorem notin_lit {d : D} {xs : List D} {t : Bool} (h1 : eqOk d (.tuple xs) = true) (h2 : mem d xs = t) : cmpop .notin d (.tuple xs) = .ok (!t) := by
  show (if eqOk d (.tuple xs) = true then R.ok (!mem d xs) else R.no) = _
  rw [if_pos h1, h2]
theorem w_1 : cmpop .notin (.str "") (.tuple [.str "side", .str "sum"]) = .ok true := notin_lit (t := false) (by decide +kernel) (by decide +kernel)
theorem w_2 : cmpop .notin (.str "Side") (.tuple [.str "side", .str "sum"]) = .ok true := notin_lit (t := false) (by decide +kernel) (by decide +kernel)
theorem w_3 : cmpop .notin (.str "sides") (.tuple [.str "side", .str "sum"]) = .ok true := notin_lit (t := false) (by decide +kernel) (by decide +kernel)
theorem w_4 : cmpop .notin (.str "sum ") (.tuple [.str "side", .str "sum"]) = .ok true := notin_lit (t := false) (by decide +kernel) (by decide +kernel)
theorem w_5 : cmpop .notin (.str "max") (.tuple [.str "side", .str "sum"]) = .ok true := notin_lit (t := false) (by decide +kernel) (by decide +kernel)
theorem w_6 : cmpop .notin (.str "side") (.tuple [.str "side", .str "sum"]) = .ok false := notin_lit (t := true) (by decide +kernel) (by decide +kernel)
theorem w_7 : cmpop .notin (.str "sum") (.tuple [.str "side", .str "sum"]) = .ok false := notin_lit (t := true) (by decide +kernel) (by decide +kernel)
theorem isS_n : isTy .str .none = .ok false := rfl
theorem isS_i {i : Int} : isTy .str (.int i) = .ok false := rfl
theorem isS_b {b : Bool} : isTy .str (.bool b) = .ok false := rfl
theorem isS_s {x : Str} : isTy .str (.str x) = .ok true := rfl
theorem isS_l {l : List D} : isTy .str (.list l) = .ok false := rfl
theorem isS_t {l : List D} : isTy .str (.tuple l) = .ok false := rfl
theorem c50_bad (n : Nat) {w : D} (h : w ∈ badWays) : callN ft (n + 1) 50 [⟨false, w⟩] = .ex (excD 4 [.str "not a way"]) := by
  simp only [badWays, List.mem_cons, List.not_mem_nil, or_false] at h
  rw [run50, evSs_Z]
  simp -implicitDefEqProofs only [fd50]
  rw [Z_cons]; generalize hK : evZ ft _ _ [] = K
  rcases h with rfl | rfl | rfl | rfl | rfl | rfl | rfl | rfl | rfl | rfl <;> simp -implicitDefEqProofs [w_1, w_2, w_3, w_4, w_5, isS_n, isS_i, isS_b, isS_s, isS_l, isS_t]
theorem c50_ok (n : Nat) {w : D} (h : w = .str "side" ∨ w = .str "sum") : callN ft (n + 1) 50 [⟨false, w⟩] = .ok ⟨false, .none, [none]⟩ := by
  rw [run50, evSs_Z]
  simp -implicitDefEqProofs only [fd50]
  rcases h with rfl | rfl <;> simp -implicitDefEqProofs [w_6, w_7, isS_s]
/-- looked of right arguments -/
theorem c43 (n : Nat) {r : Rule} (h : RuleOk r) {p : List Int} (hp : (p.length : Int) = r.sides) : Ok (callN ft (n + 6) 43 [⟨false, ruleD r⟩, ⟨false, ptD p⟩]) fun _ => True := by
  refine Ok.by_ fun Q hQ => ?_
  have hs := h.sides
  have hlen := h.some_
  have e1 := c13r n h
  have e2 := c27p (n + 2) (r := r) hp
  rw [run43, evSs_Z]
  simp -implicitDefEqProofs only [fd43]
  rw [Z_cons]; generalize hK : evZ ft _ _ _ = K; simp -implicitDefEqProofs [e1]; subst hK
  rw [Z_cons]; generalize hK : evZ ft _ _ _ = K; simp -implicitDefEqProofs [e2]; subst hK
  rw [Z_cons]; generalize hK : evZ ft _ _ _ = K; simp -implicitDefEqProofs; subst hK
  rw [Z_cons]; generalize hK : evZ ft _ _ _ = K; simp -implicitDefEqProofs [rule_ix1]
  rw [enumL_map0]
  refine loopI (fun m e => ∃ (Z : List D) (v3 v4 : Option Sv), e = [some ⟨false, ruleD r⟩, some ⟨false, ptD p⟩, some ⟨true, .list Z⟩, v3, v4, none] ∧ Z.length ≤ m * 343) ⟨[], none, none, rfl, by simp⟩ ?_ ?_
  · rintro k hk _ ⟨Z, v3, v4, rfl, hZ⟩
    have hk' : k < r.grids.length := by simpa using hk
    refine Ok.by_ fun Q hQ => ?_
    obtain ⟨g, hg⟩ : ∃ g, r.grids[k] = g := ⟨_, rfl⟩
    have hgm : g ∈ r.grids := by rw [← hg]; exact List.getElem_mem hk'
    have hgo := h.grids g hgm
    have hre := hgo.reach
    obtain ⟨ρ, hρ⟩ : ∃ ρ : Nat, g.reach = ρ := ⟨g.reach.toNat, by omega⟩
    have e28 := c28 (n + 4) p hgo.size
    have ek : (r.grids.zipIdx)[k] = (g, k) := by simp [hg]
    rw [ek]
    simp -implicitDefEqProofs [e28, grid_ix2, hρ]
    generalize hR : callN ft _ 42 _ = R
    have hc := c42 (n + 4) (cellOf g p) ρ (by unfold cellOf; simp; omega) (by omega)
    rw [hR] at hc
    obtain ⟨_, rfl, L, rfl, hL⟩ := hc
    simp -implicitDefEqProofs
    rw [runC_map (fun (z : List Int) => PyData.tuple [.int k, ptD z]) (fun z hz => by simp -implicitDefEqProofs)]
    have hsz : Z.length + L.length ≤ 16777216 := by omega
    simp -implicitDefEqProofs [hsz]
    refine Ok.ok (hQ _ ⟨_, rfl, _, _, _, rfl, by simp; omega⟩)
  · rintro _ ⟨Z, v3, v4, rfl, hZ⟩
    subst hK
    simp -implicitDefEqProofs
    exact Ok.ok (hQ _ trivial)
theorem c43_rule (n : Nat) {d x : D} (h : nd d) (hb : isRule d = false) : callN ft (n + 6) 43 [⟨false, d⟩, ⟨false, x⟩] = .ex (excD 1 [.str "not a rule"]) := by
  have e1 := c13 n d h
  rw [hb, if_neg Bool.false_ne_true] at e1
  rw [run43, evSs_Z]
  simp -implicitDefEqProofs only [fd43]
  rw [Z_cons]; generalize hK : evZ ft _ _ _ = K
  simp -implicitDefEqProofs [e1]
theorem c43_p (n : Nat) {r : Rule} (h : RuleOk r) {x : D} (hx : nd x) (hb : isPt r.sides x = false) : callN ft (n + 6) 43 [⟨false, ruleD r⟩, ⟨false, x⟩] = .ex (excD 2 [.str "not a point"]) := by
  have e1 := c13r n h
  have e2 := c27 (n + 2) r x hx
  rw [hb, if_neg Bool.false_ne_true] at e2
  rw [run43, evSs_Z]
  simp -implicitDefEqProofs only [fd43]
  rw [Z_cons]; generalize hK : evZ ft _ _ _ = K
  simp -implicitDefEqProofs [e1]
  subst hK
  rw [Z_cons]; generalize hK : evZ ft _ _ _ = K
  simp -implicitDefEqProofs [e2]
theorem c35_rule (n : Nat) {d : D} (h : nd d) (hb : isRule d = false) : callN ft (n + 6) 35 [⟨false, d⟩] = .ex (excD 1 [.str "not a rule"]) := by
  have e1 := c13 n d h
  rw [hb, if_neg Bool.false_ne_true] at e1
  rw [run35, evSs_Z]
  simp -implicitDefEqProofs only [fd35]
  rw [Z_cons]; generalize hK : evZ ft _ _ _ = K
  simp -implicitDefEqProofs [e1]
theorem c14_rule (n : Nat) {d x : D} (h : nd d) (hb : isRule d = false) : callN ft (n + 6) 14 [⟨false, d⟩, ⟨false, x⟩] = .ex (excD 1 [.str "not a rule"]) := by
  have e1 := c13 n d h
  rw [hb, if_neg Bool.false_ne_true] at e1
  rw [run14, evSs_Z]
  simp -implicitDefEqProofs only [fd14]
  rw [Z_cons]; generalize hK : evZ ft _ _ _ = K
  simp -implicitDefEqProofs [e1]
theorem c32_rule (n : Nat) {d x : D} (h : nd d) (hb : isRule d = false) : callN ft (n + 6) 32 [⟨false, d⟩, ⟨false, x⟩] = .ex (excD 1 [.str "not a rule"]) := by
  have e1 := c13 n d h
  rw [hb, if_neg Bool.false_ne_true] at e1
  rw [run32, evSs_Z]
  simp -implicitDefEqProofs only [fd32]
  rw [Z_cons]; generalize hK : evZ ft _ _ _ = K
  simp -implicitDefEqProofs [e1]
theorem c32_p (n : Nat) {r : Rule} (h : RuleOk r) {x : D} (hx : nd x) (hb : isPt r.sides x = false) : callN ft (n + 6) 32 [⟨false, ruleD r⟩, ⟨false, x⟩] = .ex (excD 2 [.str "not a point"]) := by
  have e1 := c13r n h
  have e2 := c27 (n + 2) r x hx
  rw [hb, if_neg Bool.false_ne_true] at e2
  rw [run32, evSs_Z]
  simp -implicitDefEqProofs only [fd32]
  rw [Z_cons]; generalize hK : evZ ft _ _ _ = K
  simp -implicitDefEqProofs [e1]
  subst hK
  rw [Z_cons]; generalize hK : evZ ft _ _ _ = K
  simp -implicitDefEqProofs [e2]
theorem c31_rule (n : Nat) {d x y : D} (h : nd d) (hb : isRule d = false) : callN ft (n + 6) 31 [⟨false, d⟩, ⟨false, x⟩, ⟨false, y⟩] = .ex (excD 1 [.str "not a rule"]) := by
  have e1 := c13 n d h
  rw [hb, if_neg Bool.false_ne_true] at e1
  rw [run31, evSs_Z]
  simp -implicitDefEqProofs only [fd31]
  rw [Z_cons]; generalize hK : evZ ft _ _ _ = K
  simp -implicitDefEqProofs [e1]
theorem c31_p (n : Nat) {r : Rule} (h : RuleOk r) {x y : D} (hx : nd x) (hb : isPt r.sides x = false) : callN ft (n + 6) 31 [⟨false, ruleD r⟩, ⟨false, x⟩, ⟨false, y⟩] = .ex (excD 2 [.str "not a point"]) := by
  have e1 := c13r n h
  have e2 := c27 (n + 2) r x hx
  rw [hb, if_neg Bool.false_ne_true] at e2
  rw [run31, evSs_Z]
  simp -implicitDefEqProofs only [fd31]
  rw [Z_cons]; generalize hK : evZ ft _ _ _ = K
  simp -implicitDefEqProofs [e1]
  subst hK
  rw [Z_cons]; generalize hK : evZ ft _ _ _ = K
  simp -implicitDefEqProofs [e2]
theorem c31_q (n : Nat) {r : Rule} (h : RuleOk r) {p : List Int} (hp : (p.length : Int) = r.sides) {y : D} (hx : nd y) (hb : isPt r.sides y = false) : callN ft (n + 6) 31 [⟨false, ruleD r⟩, ⟨false, ptD p⟩, ⟨false, y⟩] = .ex (excD 2 [.str "not a point"]) := by
  have e1 := c13r n h
  have e2 := c27p (n + 2) (r := r) hp
  have e3 := c27 (n + 2) r y hx
  rw [hb, if_neg Bool.false_ne_true] at e3
  rw [run31, evSs_Z]
  simp -implicitDefEqProofs only [fd31]
  rw [Z_cons]; generalize hK : evZ ft _ _ _ = K
  simp -implicitDefEqProofs [e1]
  subst hK
  rw [Z_cons]; generalize hK : evZ ft _ _ _ = K
  simp -implicitDefEqProofs [e2]
  subst hK
  rw [Z_cons]; generalize hK : evZ ft _ _ _ = K
  simp -implicitDefEqProofs [e3]
theorem c52_rule (n : Nat) {d x y w : D} (h : nd d) (hb : isRule d = false) : callN ft (n + 6) 52 [⟨false, d⟩, ⟨false, x⟩, ⟨false, y⟩, ⟨false, w⟩] = .ex (excD 1 [.str "not a rule"]) := by
  have e1 := c13 n d h
  rw [hb, if_neg Bool.false_ne_true] at e1
  rw [run52, evSs_Z]
  simp -implicitDefEqProofs only [fd52]
  rw [Z_cons]; generalize hK : evZ ft _ _ _ = K
  simp -implicitDefEqProofs [e1]
theorem c52_p (n : Nat) {r : Rule} (h : RuleOk r) {x y w : D} (hx : nd x) (hb : isPt r.sides x = false) : callN ft (n + 6) 52 [⟨false, ruleD r⟩, ⟨false, x⟩, ⟨false, y⟩, ⟨false, w⟩] = .ex (excD 2 [.str "not a point"]) := by
  have e1 := c13r n h
  have e2 := c27 (n + 2) r x hx
  rw [hb, if_neg Bool.false_ne_true] at e2
  rw [run52, evSs_Z]
  simp -implicitDefEqProofs only [fd52]
  rw [Z_cons]; generalize hK : evZ ft _ _ _ = K
  simp -implicitDefEqProofs [e1]
  subst hK
  rw [Z_cons]; generalize hK : evZ ft _ _ _ = K
  simp -implicitDefEqProofs [e2]
theorem c52_q (n : Nat) {r : Rule} (h : RuleOk r) {p : List Int} (hp : (p.length : Int) = r.sides) {y w : D} (hx : nd y) (hb : isPt r.sides y = false) : callN ft (n + 6) 52 [⟨false, ruleD r⟩, ⟨false, ptD p⟩, ⟨false, y⟩, ⟨false, w⟩] = .ex (excD 2 [.str "not a point"]) := by
  have e1 := c13r n h
  have e2 := c27p (n + 2) (r := r) hp
  have e3 := c27 (n + 2) r y hx
  rw [hb, if_neg Bool.false_ne_true] at e3
  rw [run52, evSs_Z]
  simp -implicitDefEqProofs only [fd52]
  rw [Z_cons]; generalize hK : evZ ft _ _ _ = K
  simp -implicitDefEqProofs [e1]
  subst hK
  rw [Z_cons]; generalize hK : evZ ft _ _ _ = K
  simp -implicitDefEqProofs [e2]
  subst hK
  rw [Z_cons]; generalize hK : evZ ft _ _ _ = K
  simp -implicitDefEqProofs [e3]
theorem c35 (n : Nat) {r : Rule} (h : RuleOk r) : callN ft (n + 6) 35 [⟨false, ruleD r⟩] = .ok ⟨false, ptD (periodsL r), [none]⟩ := by
  have e1 := c13r n h
  have e2 := c34 (n + 3) h
  rw [run35, evSs_Z]
  simp -implicitDefEqProofs only [fd35]
  simp -implicitDefEqProofs [e1, e2]
theorem s_ss : cmpop .eq (.str "side") (.str "sum") = .ok false := eq_lit (by decide +kernel) (by decide +kernel)
theorem s_uu : cmpop .eq (.str "sum") (.str "sum") = .ok true := eq_lit (by decide +kernel) (by decide +kernel)
theorem c51 (n : Nat) {p q : List Int} {s : Nat} (hs : s = 1 ∨ s = 2) (hp : p.length = s) (hq : q.length = s) {w : D} (hw : w = .str "side" ∨ w = .str "sum") : Ok (callN ft (n + 1) 51 [⟨false, ptD p⟩, ⟨false, ptD q⟩, ⟨false, w⟩]) fun _ => True := by
  refine Ok.by_ fun Q hQ => ?_
  rw [run51, evSs_Z]
  simp -implicitDefEqProofs only [fd51]
  rcases hs with rfl | rfl
  · obtain ⟨a, rfl⟩ : ∃ a, p = [a] := by
      match p, hp with
      | [a], _ => exact ⟨a, rfl⟩
    obtain ⟨b, rfl⟩ : ∃ b, q = [b] := by
      match q, hq with
      | [b], _ => exact ⟨b, rfl⟩
    rcases hw with rfl | rfl
    · simp -implicitDefEqProofs [zip2_cons, zip2_nil, runC_cons, runC_nil, s_ss]
      exact Ok.ok (hQ _ trivial)
    · simp -implicitDefEqProofs [zip2_cons, zip2_nil, runC_cons, runC_nil, s_uu]
      exact Ok.ok (hQ _ trivial)
  · obtain ⟨a, a2, rfl⟩ : ∃ a a2, p = [a, a2] := by
      match p, hp with
      | [a, a2], _ => exact ⟨a, a2, rfl⟩
    obtain ⟨b, b2, rfl⟩ : ∃ b b2, q = [b, b2] := by
      match q, hq with
      | [b, b2], _ => exact ⟨b, b2, rfl⟩
    rcases hw with rfl | rfl
    · simp -implicitDefEqProofs [zip2_cons, zip2_nil, runC_cons, runC_nil, s_ss]
      exact Ok.ok (hQ _ trivial)
    · simp -implicitDefEqProofs [zip2_cons, zip2_nil, runC_cons, runC_nil, s_uu]
      exact Ok.ok (hQ _ trivial)
theorem c52 (n : Nat) {r : Rule} (h : RuleOk r) {p q : List Int} (hp : (p.length : Int) = r.sides) (hq : (q.length : Int) = r.sides) {w : D} (hw : w = .str "side" ∨ w = .str "sum") : Ok (callN ft (n + 6) 52 [⟨false, ruleD r⟩, ⟨false, ptD p⟩, ⟨false, ptD q⟩, ⟨false, w⟩]) fun _ => True := by
  refine Ok.by_ fun Q hQ => ?_
  have hs := h.sides
  have e1 := c13r n h
  have e2 := c27p (n + 2) (r := r) hp
  have e3 := c27p (n + 2) (r := r) hq
  have e4 := c50_ok (n + 4) hw
  have nw : notD w = true := by rcases hw with rfl | rfl <;> rfl
  rw [run52, evSs_Z]
  simp -implicitDefEqProofs only [fd52]
  rw [Z_cons]; generalize hK : evZ ft _ _ _ = K; simp -implicitDefEqProofs [e1]; subst hK
  rw [Z_cons]; generalize hK : evZ ft _ _ _ = K; simp -implicitDefEqProofs [e2]; subst hK
  rw [Z_cons]; generalize hK : evZ ft _ _ _ = K; simp -implicitDefEqProofs [e3]; subst hK
  rw [Z_cons]; generalize hK : evZ ft _ _ _ = K; simp -implicitDefEqProofs [e4]; subst hK
  simp -implicitDefEqProofs
  generalize hR : callN ft _ 51 _ = R
  have hc := c51 (n + 4) (p := p) (q := q) (s := p.length) (by omega) rfl (by omega) hw
  rw [hR] at hc
  obtain ⟨o, rfl, _⟩ := hc
  simp -implicitDefEqProofs
  exact Ok.ok (hQ _ trivial)
theorem c52_w (n : Nat) {r : Rule} (h : RuleOk r) {p q : List Int} (hp : (p.length : Int) = r.sides) (hq : (q.length : Int) = r.sides) {w : D} (hw : w ∈ badWays) : callN ft (n + 6) 52 [⟨false, ruleD r⟩, ⟨false, ptD p⟩, ⟨false, ptD q⟩, ⟨false, w⟩] = .ex (excD 4 [.str "not a way"]) := by
  have e1 := c13r n h
  have e2 := c27p (n + 2) (r := r) hp
  have e3 := c27p (n + 2) (r := r) hq
  have e4 := c50_bad (n + 4) hw
  rw [run52, evSs_Z]
  simp -implicitDefEqProofs only [fd52]
  rw [Z_cons]; generalize hK : evZ ft _ _ _ = K; simp -implicitDefEqProofs [e1]; subst hK
  rw [Z_cons]; generalize hK : evZ ft _ _ _ = K; simp -implicitDefEqProofs [e2]; subst hK
  rw [Z_cons]; generalize hK : evZ ft _ _ _ = K; simp -implicitDefEqProofs [e3]; subst hK
  rw [Z_cons]; generalize hK : evZ ft _ _ _ = K; simp -implicitDefEqProofs [e4]
/-! the caught thing's word -/
theorem count_lit {d : D} {xs : List D} {k : Nat} (h1 : eqOk d (.list xs) = true) (h2 : (xs.countP fun y => PyData.eqv y d) = k) : mthD .count (.list xs) [d] = .ok (.v false (.int k)) := by
  show (if eqOk d (.list xs) = true then R.ok (Res.v false (.int ((xs.countP fun y => PyData.eqv y d : Nat) : Int))) else .no) = _
  rw [if_pos h1, h2]
theorem index_lit {d : D} {xs : List D} {k : Nat} (h1 : eqOk d (.list xs) = true) (h2 : (xs.findIdx? fun y => PyData.eqv y d) = some k) : mthD .index (.list xs) [d] = .ok (.v false (.int k)) := by
  show (if eqOk d (.list xs) = true then (match xs.findIdx? fun y => PyData.eqv y d with | some j => R.ok (Res.v false (.int j)) | none => .no) else .no) = _
  rw [if_pos h1, h2]
def flg (k : Nat) : List D := [.bool (k == 1), .bool (k == 2), .bool false, .bool (k == 4), .bool false, .bool false, .bool false, .bool false, .bool false]
theorem m_c {k : Nat} (hk : k = 1 ∨ k = 2 ∨ k = 4) : mthD .count (.list (flg k)) [.bool true] = .ok (.v false (.int 1)) := by
  rcases hk with rfl | rfl | rfl <;> exact count_lit (k := 1) (by decide +kernel) (by decide +kernel)
theorem m_i {k : Nat} (hk : k = 1 ∨ k = 2 ∨ k = 4) : mthD .index (.list (flg k)) [.bool true] = .ok (.v false (.int ((k : Int) - 1))) := by
  rcases hk with rfl | rfl | rfl
  · exact index_lit (k := 0) (by decide +kernel) (by decide +kernel)
  · exact index_lit (k := 1) (by decide +kernel) (by decide +kernel)
  · exact index_lit (k := 3) (by decide +kernel) (by decide +kernel)
theorem c416 (n k : Nat) (fs : List D) (hk : k = 1 ∨ k = 2 ∨ k = 4) : callN ft (n + 1) 416 [⟨false, excD k fs⟩] = .ok ⟨true, .list (flg k), [none]⟩ := by
  rw [run416, evSs_Z]
  rcases hk with rfl | rfl | rfl <;> simp -implicitDefEqProofs [fd416, flg]
theorem atI_3' {x y z u : D} {l : List D} : atI (x :: y :: z :: u :: l) 3 = some u := atI_nat (j := 3) rfl
theorem isNone_exc {k : Nat} {fs : List D} : isNone (excD k fs) = false := rfl
def wordE (k : Nat) : D := .str (if k = 0 then "" else if k = 1 then "rule" else if k = 2 then "point" else "way")
theorem c417n (n : Nat) : callN ft (n + 2) 417 [⟨false, .none⟩] = .ok ⟨false, wordE 0, [none]⟩ := by
  rw [run417, evSs_Z]
  simp -implicitDefEqProofs [fd417, wordE]
theorem c417 (n k : Nat) (fs : List D) (hk : k = 1 ∨ k = 2 ∨ k = 4) : callN ft (n + 2) 417 [⟨false, excD k fs⟩] = .ok ⟨false, wordE k, [none]⟩ := by
  have e1 := c416 n k fs hk
  have e2 := m_c hk
  have e3 := m_i hk
  rw [run417, evSs_Z]
  simp -implicitDefEqProofs only [fd417]
  generalize flg k = F at *
  rcases hk with rfl | rfl | rfl <;> simp -implicitDefEqProofs [e1, e2, e3, wordE, isNone_exc, atI_3']
def thenN (M : R Out) : R Out := match M with
  | .ok _ => .ok ⟨false, .none, [none, none, none, none, none]⟩
  | .ex v => .ex v
  | .no => .no
theorem c53_0 (n : Nat) {d x y w : D} {R : R Out} (hn : R ≠ .no) (hR : callN ft (n + 6) 35 [⟨false, d⟩] = R) : callN ft (n + 7) 53 [⟨false, .int 0⟩, ⟨false, d⟩, ⟨false, x⟩, ⟨false, y⟩, ⟨false, w⟩] = thenN R := by
  rw [run53, evSs_Z]
  cases R with
  | no => exact absurd rfl hn
  | ok o => simp -implicitDefEqProofs [fd53, hR, thenN]
  | ex v => simp -implicitDefEqProofs [fd53, hR, thenN]
theorem c53_1 (n : Nat) {d x y w : D} {R : R Out} (hn : R ≠ .no) (hR : callN ft (n + 6) 14 [⟨false, d⟩, ⟨false, x⟩] = R) : callN ft (n + 7) 53 [⟨false, .int 1⟩, ⟨false, d⟩, ⟨false, x⟩, ⟨false, y⟩, ⟨false, w⟩] = thenN R := by
  rw [run53, evSs_Z]
  cases R with
  | no => exact absurd rfl hn
  | ok o => simp -implicitDefEqProofs [fd53, hR, thenN]
  | ex v => simp -implicitDefEqProofs [fd53, hR, thenN]
theorem c53_2 (n : Nat) {d x y w : D} {R : R Out} (hn : R ≠ .no) (hR : callN ft (n + 6) 32 [⟨false, d⟩, ⟨false, x⟩] = R) : callN ft (n + 7) 53 [⟨false, .int 2⟩, ⟨false, d⟩, ⟨false, x⟩, ⟨false, y⟩, ⟨false, w⟩] = thenN R := by
  rw [run53, evSs_Z]
  cases R with
  | no => exact absurd rfl hn
  | ok o => simp -implicitDefEqProofs [fd53, hR, thenN]
  | ex v => simp -implicitDefEqProofs [fd53, hR, thenN]
theorem c53_3 (n : Nat) {d x y w : D} {R : R Out} (hn : R ≠ .no) (hR : callN ft (n + 6) 43 [⟨false, d⟩, ⟨false, x⟩] = R) : callN ft (n + 7) 53 [⟨false, .int 3⟩, ⟨false, d⟩, ⟨false, x⟩, ⟨false, y⟩, ⟨false, w⟩] = thenN R := by
  rw [run53, evSs_Z]
  cases R with
  | no => exact absurd rfl hn
  | ok o => simp -implicitDefEqProofs [fd53, hR, thenN]
  | ex v => simp -implicitDefEqProofs [fd53, hR, thenN]
theorem c53_4 (n : Nat) {d x y w : D} {R : R Out} (hn : R ≠ .no) (hR : callN ft (n + 6) 31 [⟨false, d⟩, ⟨false, x⟩, ⟨false, y⟩] = R) : callN ft (n + 7) 53 [⟨false, .int 4⟩, ⟨false, d⟩, ⟨false, x⟩, ⟨false, y⟩, ⟨false, w⟩] = thenN R := by
  rw [run53, evSs_Z]
  cases R with
  | no => exact absurd rfl hn
  | ok o => simp -implicitDefEqProofs [fd53, hR, thenN]
  | ex v => simp -implicitDefEqProofs [fd53, hR, thenN]
theorem c53_5 (n : Nat) {d x y w : D} {R : R Out} (hn : R ≠ .no) (hR : callN ft (n + 6) 52 [⟨false, d⟩, ⟨false, x⟩, ⟨false, y⟩, ⟨false, w⟩] = R) : callN ft (n + 7) 53 [⟨false, .int 5⟩, ⟨false, d⟩, ⟨false, x⟩, ⟨false, y⟩, ⟨false, w⟩] = thenN R := by
  rw [run53, evSs_Z]
  cases R with
  | no => exact absurd rfl hn
  | ok o => simp -implicitDefEqProofs [fd53, hR, thenN]
  | ex v => simp -implicitDefEqProofs [fd53, hR, thenN]
def dueK (j : Nat) (g0 g1 g2 g3 : Bool) : Nat := if g0 = false then 1 else if (1 < j ∧ g1 = false) ∨ (3 < j ∧ g2 = false) then 2 else if j = 5 ∧ g3 = false then 4 else 0
def TR (r : Rule) : Bool → D → Prop
  | true, d => d = ruleD r
  | false, d => nd d ∧ isRule d = false
def TP (r : Rule) : Bool → D → Prop
  | true, x => ∃ p : List Int, x = ptD p ∧ (p.length : Int) = r.sides
  | false, x => nd x ∧ isPt r.sides x = false
def TW : Bool → D → Prop
  | true, w => w = .str "side" ∨ w = .str "sum"
  | false, w => w ∈ badWays
def Outc (k : Nat) (M : R Out) : Prop := (k = 0 ∧ ∃ o, M = .ok o) ∨ ((k = 1 ∨ k = 2 ∨ k = 4) ∧ ∃ fs, M = .ex (excD k fs))
theorem Outc.ok {o : Out} {M : R Out} (h : M = .ok o) : Outc 0 M := .inl ⟨rfl, o, h⟩
theorem Outc.ex {k : Nat} {fs : List D} {M : R Out} (hk : k = 1 ∨ k = 2 ∨ k = 4) (h : M = .ex (excD k fs)) : Outc k M := .inr ⟨hk, fs, h⟩
theorem Outc.thru {k : Nat} {M S : R Out} (h : Outc k M) (hS : ∀ R', R' ≠ .no → M = R' → S = thenN R') : Outc k S := by
  rcases h with ⟨rfl, o, e⟩ | ⟨hk, fs, e⟩
  · exact .ok (hS (.ok o) (fun z => by cases z) e)
  · exact .ex hk (hS (.ex (excD k fs)) (fun z => by cases z) e)
theorem c53 (n : Nat) {r : Rule} (h : RuleOk r) {j : Nat} (hj : j < 6) {g0 g1 g2 g3 : Bool} {d x y w : D} (hd : TR r g0 d) (hx : TP r g1 x) (hy : TP r g2 y) (hw : TW g3 w) : Outc (dueK j g0 g1 g2 g3) (callN ft (n + 7) 53 [⟨false, .int j⟩, ⟨false, d⟩, ⟨false, x⟩, ⟨false, y⟩, ⟨false, w⟩]) := by
  have hcs : j = 0 ∨ j = 1 ∨ j = 2 ∨ j = 3 ∨ j = 4 ∨ j = 5 := by omega
  cases g0 with
  | false =>
    obtain ⟨n1, n2⟩ := hd
    rcases hcs with rfl | rfl | rfl | rfl | rfl | rfl
    · exact (Outc.ex (.inl rfl) (c35_rule n n1 n2)).thru fun R' hn hR => c53_0 n hn hR
    · exact (Outc.ex (.inl rfl) (c14_rule n n1 n2)).thru fun R' hn hR => c53_1 n hn hR
    · exact (Outc.ex (.inl rfl) (c32_rule n n1 n2)).thru fun R' hn hR => c53_2 n hn hR
    · exact (Outc.ex (.inl rfl) (c43_rule n n1 n2)).thru fun R' hn hR => c53_3 n hn hR
    · exact (Outc.ex (.inl rfl) (c31_rule n n1 n2)).thru fun R' hn hR => c53_4 n hn hR
    · exact (Outc.ex (.inl rfl) (c52_rule n n1 n2)).thru fun R' hn hR => c53_5 n hn hR
  | true =>
    cases hd
    have ndx : nd x := by
      cases g1 with
      | true => obtain ⟨p, rfl, _⟩ := hx; exact nd_pt
      | false => exact hx.1
    rcases hcs with rfl | rfl | hcs
    · exact (Outc.ok (c35 n h)).thru fun R' hn hR => c53_0 n hn hR
    · exact (Outc.ok (c14 n h x ndx)).thru fun R' hn hR => c53_1 n hn hR
    · cases g1 with
      | false =>
        obtain ⟨n1, n2⟩ := hx
        rcases hcs with rfl | rfl | rfl | rfl
        · exact (Outc.ex (.inr (.inl rfl)) (c32_p n h n1 n2)).thru fun R' hn hR => c53_2 n hn hR
        · exact (Outc.ex (.inr (.inl rfl)) (c43_p n h n1 n2)).thru fun R' hn hR => c53_3 n hn hR
        · exact (Outc.ex (.inr (.inl rfl)) (c31_p n h n1 n2)).thru fun R' hn hR => c53_4 n hn hR
        · exact (Outc.ex (.inr (.inl rfl)) (c52_p n h n1 n2)).thru fun R' hn hR => c53_5 n hn hR
      | true =>
        obtain ⟨p, rfl, hp⟩ := hx
        rcases hcs with rfl | rfl | hcs
        · exact (Outc.ok (c32 n h hp)).thru fun R' hn hR => c53_2 n hn hR
        · obtain ⟨o, e, _⟩ := c43 n h hp
          exact (Outc.ok e).thru fun R' hn hR => c53_3 n hn hR
        · cases g2 with
          | false =>
            obtain ⟨n1, n2⟩ := hy
            rcases hcs with rfl | rfl
            · exact (Outc.ex (.inr (.inl rfl)) (c31_q n h hp n1 n2)).thru fun R' hn hR => c53_4 n hn hR
            · exact (Outc.ex (.inr (.inl rfl)) (c52_q n h hp n1 n2)).thru fun R' hn hR => c53_5 n hn hR
          | true =>
            obtain ⟨q, rfl, hq⟩ := hy
            rcases hcs with rfl | rfl
            · exact (Outc.ok (c31 n h hp hq)).thru fun R' hn hR => c53_4 n hn hR
            · cases g3 with
              | false => exact (Outc.ex (.inr (.inr rfl)) (c52_w n h hp hq hw)).thru fun R' hn hR => c53_5 n hn hR
              | true =>
                obtain ⟨o, e, _⟩ := c52 n h hp hq hw
                exact (Outc.ok e).thru fun R' hn hR => c53_5 n hn hR
theorem c55 (n : Nat) {j : Nat} (hj : j < 6) (g0 g1 g2 g3 : Bool) : callN ft (n + 1) 55 [⟨false, .int j⟩, ⟨false, .list [.bool g0, .bool g1, .bool g2, .bool g3]⟩] = .ok ⟨false, wordE (dueK j g0 g1 g2 g3), [none, none]⟩ := by
  have hcs : j = 0 ∨ j = 1 ∨ j = 2 ∨ j = 3 ∨ j = 4 ∨ j = 5 := by omega
  rw [run55, evSs_Z]
  simp -implicitDefEqProofs only [fd55]
  cases g0
  · rw [Z_cons]; generalize hK : evZ ft _ _ _ = K
    simp -implicitDefEqProofs [wordE, dueK]
  · rw [Z_cons]; generalize hK : evZ ft _ _ _ = K
    simp -implicitDefEqProofs
    subst hK
    rcases hcs with rfl | rfl | rfl | rfl | rfl | rfl <;> cases g1 <;> cases g2 <;> cases g3 <;> simp -implicitDefEqProofs [wordE, dueK, atI_3']
/-- what is handed in: it can be written -/
structure Look4 (d x y w : D) : Prop where
  d1 : fine 8 d = true ∧ wgt d ≤ 3000
  x1 : fine 8 x = true ∧ wgt x ≤ 3000
  y1 : fine 8 y = true ∧ wgt y ≤ 3000
  w1 : fine 8 w = true ∧ wgt w ≤ 3000
theorem Look4.repr {d x y w : D} (h : Look4 d x y w) : reprOk (.list [d, x, y, w]) = true :=
  fine_repr (h := 9) (by simp [h.d1.1, h.x1.1, h.y1.1, h.w1.1]) (by decide) (by simp; have := h.d1.2; have := h.x1.2; have := h.y1.2; have := h.w1.2; omega)
theorem c418 (n : Nat) {k j : Nat} {d x y w : D} (hl : Look4 d x y w) (ho : Outc k (callN ft (n + 7) 53 [⟨false, .int j⟩, ⟨false, d⟩, ⟨false, x⟩, ⟨false, y⟩, ⟨false, w⟩])) : callN ft (n + 8) 418 [⟨false, .int j⟩, ⟨false, .list [d, x, y, w]⟩] = .ok ⟨false, wordE k, [none, none]⟩ := by
  have n1 := nd_notD (fine_nd hl.d1.1)
  have n2 := nd_notD (fine_nd hl.x1.1)
  have n3 := nd_notD (fine_nd hl.y1.1)
  have n4 := nd_notD (fine_nd hl.w1.1)
  have hr := hl.repr
  rw [run418, evSs_Z]
  simp -implicitDefEqProofs only [fd418]
  rw [Z_cons]; generalize hK : evZ ft _ _ _ = K
  simp -implicitDefEqProofs [bi_repr, hr, n1, n2, n3, n4]
  subst hK
  rw [Z_cons]; generalize hK : evZ ft _ _ _ = K
  simp -implicitDefEqProofs
  subst hK
  rw [Z_cons]; generalize hK : evZ ft _ _ [Sm.ife _ _ _, _] = K
  rcases ho with ⟨rfl, o, e⟩ | ⟨hk, fs, e⟩
  · have e1 := c417n (n + 5)
    simp -implicitDefEqProofs [e, n1, n2, n3, n4, atI_3']
    subst hK
    simp -implicitDefEqProofs [bi_repr, hr, n1, n2, n3, n4, e1]
  · have e1 := c417 (n + 5) k fs hk
    have hp : plainX k = true := by rcases hk with rfl | rfl | rfl <;> rfl
    simp -implicitDefEqProofs [e, n1, n2, n3, n4, hp, atI_3']
    subst hK
    simp -implicitDefEqProofs [bi_repr, hr, n1, n2, n3, n4, e1]
end Nm
set_option Elab.async false
set_option maxRecDepth 100000
set_option linter.all false
/-! k03: the law. -/
namespace Nm
open PySem L2
def forB : Sm → List Sm
  | .for_ _ _ b => b
  | _ => []
def body419 : List Sm := forB ((forB ((forB (fd419.body.getD 0 .pass)).getD 4 .pass)).getD 0 .pass)
theorem atI_bool {a b : D} {g : Bool} : atI [a, b] (if g = true then 1 else 0) = some (if g = true then b else a) := by cases g <;> simp
abbrev FineW (d : D) : Prop := fine 8 d = true ∧ wgt d ≤ 3000
theorem fineW_none : FineW .none := ⟨rfl, by decide⟩
theorem fineW_ways : ∀ w ∈ badWays, FineW w := by
  have h : (badWays.all fun w => fine 8 w && decide (wgt w ≤ 3000)) = true := by decide +kernel
  intro w hw
  have := List.all_eq_true.mp h w hw
  simpa using this
theorem fineW_way {w : D} (h : w = .str "side" ∨ w = .str "sum") : FineW w := by rcases h with rfl | rfl <;> exact ⟨by decide +kernel, by decide +kernel⟩
theorem fine_pt' {h : Nat} {l : List Int} (hl : ∀ x ∈ l, -100 ≤ x ∧ x ≤ 100) : fine (h + 1) (ptD l) = true := by
  have := fines_ints (h := h) (l := l) fun x hx => by have := hl x hx; omega
  simpa [ptD] using this
theorem wgt_pt' {l : List Int} : wgt (ptD l) = l.length + 1 := by simp [ptD]
theorem imm_word {k : Nat} : imm (wordE k) = true := rfl
theorem ne_word {k : Nat} : cmpop .ne (wordE k) (wordE k) = .ok false := by
  have a : ∀ z ∈ [("" : Str), "rule", "point", "way"], cmpop .ne (.str z) (.str z) = .ok false := by
    intro z hz
    simp only [List.mem_cons, List.not_mem_nil, or_false] at hz
    rcases hz with rfl | rfl | rfl | rfl <;> exact ne_lit (t := true) (by decide +kernel) (by decide +kernel)
  unfold wordE
  refine a _ ?_
  split
  · simp
  · split
    · simp
    · split <;> simp
theorem pickR {r : Rule} {g : Bool} {d e : D} (h : BadR d) (fr : FineW (ruleD r)) (he : (if g = true then ruleD r else d) = e) : TR r g e ∧ FineW e := by
  subst he
  cases g
  · exact ⟨⟨fine_nd h.fine, h.no⟩, h.fine, h.wgt⟩
  · exact ⟨rfl, fr⟩
theorem pickP {r : Rule} {g : Bool} {P : List Int} {d e : D} (h : BadP r.sides d) (hP : (P.length : Int) = r.sides) (fr : FineW (ptD P)) (he : (if g = true then ptD P else d) = e) : TP r g e ∧ FineW e := by
  subst he
  cases g
  · exact ⟨⟨fine_nd h.fine, h.no⟩, fine_le h.fine (by decide), by have := h.wgt; simp only [Bool.false_eq_true, if_false]; omega⟩
  · exact ⟨⟨P, rfl, hP⟩, fr⟩
theorem pickW {g : Bool} {w d e : D} (h : d ∈ badWays) (hw : w = .str "side" ∨ w = .str "sum") (he : (if g = true then w else d) = e) : TW g e ∧ FineW e := by
  subst he
  cases g
  · exact ⟨h, fineW_ways d h⟩
  · exact ⟨hw, fineW_way hw⟩
set_option maxHeartbeats 4000000 in
theorem c419_turn (n : Nat) (ns : List Int) (i : Nat) (p : Int) {r : Rule} (hf : RuleF r) {s : Nat} (hs : s = 1 ∨ s = 2) (hrs : r.sides = s) {P Q' : List Int} (hP : P.length = s) (hQ' : Q'.length = s) (fP : FineW (ptD P)) (fQ : FineW (ptD Q')) {wy : D} (hwy : wy = .str "side" ∨ wy = .str "sum") {j : Nat} (hj : j < 6) (code : Nat) (hc : code < 16) (v6 v10 v11 v12 : Option Sv) :
    Ok (evZ ft (callN ft (n + 19)) [] body419 [some ⟨false, scrD ns⟩, some ⟨false, .int i⟩, some ⟨true, pileD p⟩, some ⟨false, ruleD r⟩, some ⟨false, wy⟩, some ⟨false, .int j⟩, v6, some ⟨false, ptD P⟩, some ⟨false, ptD Q'⟩, some ⟨false, .int code⟩, v10, v11, v12, none]) fun q =>
      ∃ p' w11 w12, q = (.nx, [some ⟨false, scrD ns⟩, some ⟨false, .int i⟩, some ⟨true, pileD p'⟩, some ⟨false, ruleD r⟩, some ⟨false, wy⟩, some ⟨false, .int j⟩, v6, some ⟨false, ptD P⟩, some ⟨false, ptD Q'⟩, some ⟨false, .int code⟩, v10, w11, w12, none]) := by
  refine Ok.by_ fun Q hQ => ?_
  have hro := hf.ok
  have fr : FineW (ruleD r) := ⟨fine_le hf.fine.1 (by decide), by have := hf.fine.2; omega⟩
  have nwy : notD wy = true := by rcases hwy with rfl | rfl <;> rfl
  simp -implicitDefEqProofs only [body419, fd419, forB, List.getD_cons_zero, List.getD_cons_succ]
  rw [Z_cons]; generalize hK : evZ ft _ _ _ = K
  have nb : 1 < bigN ∧ 2 < bigN ∧ 4 < bigN ∧ 8 < bigN := by
    have : (8 : Int).natAbs < bigN := bigN_of (by decide) (by decide)
    have : 8 < bigN := by simpa using this
    omega
  simp -implicitDefEqProofs [runC_cons, runC_nil, nb]
  obtain ⟨g0, hg0⟩ : ∃ g, decide ((code : Int) % 2 = 1) = g := ⟨_, rfl⟩
  obtain ⟨g1, hg1⟩ : ∃ g, decide ((code : Int) / 2 % 2 = 1) = g := ⟨_, rfl⟩
  obtain ⟨g2, hg2⟩ : ∃ g, decide ((code : Int) / 4 % 2 = 1) = g := ⟨_, rfl⟩
  obtain ⟨g3, hg3⟩ : ∃ g, decide ((code : Int) / 8 % 2 = 1) = g := ⟨_, rfl⟩
  subst hK
  rw [Z_cons]; generalize hK : evZ ft _ _ _ = K
  simp -implicitDefEqProofs [hg0, hg1, hg2, hg3]
  generalize hR : callN ft _ 6 _ = R
  have hc := c6 (n + 18) hf
  rw [hR] at hc
  obtain ⟨_, rfl, L, rfl, hL, hb⟩ := hc
  simp -implicitDefEqProofs
  generalize hR : callN ft _ 57 _ = R
  have hc := c57 (n + 17) p L (by omega) (by omega)
  rw [hR] at hc
  obtain ⟨_, rfl, d0, p1, rfl, hd0⟩ := hc
  have nd0 := nd_notD (fine_nd (hb d0 hd0).fine)
  obtain ⟨D0, hD0⟩ : ∃ e, (if g0 = true then ruleD r else d0) = e := ⟨_, rfl⟩
  obtain ⟨t0, f0⟩ := pickR (hb d0 hd0) fr hD0
  have nD0 := nd_notD (fine_nd f0.1)
  simp -implicitDefEqProofs [nd0, atI_bool, notD_rule, hD0, nD0]
  subst hK
  rw [Z_cons]; generalize hK : evZ ft _ _ _ = K
  simp -implicitDefEqProofs [rule_ix0, hrs]
  generalize hR : callN ft _ 15 _ = R
  have hc := c15 (n + 18) s (by omega)
  rw [hR] at hc
  obtain ⟨_, rfl, L1, rfl, hL1, hb1⟩ := hc
  simp -implicitDefEqProofs
  generalize hR : callN ft _ 57 _ = R
  have hc := c57 (n + 17) p1 L1 (by omega) (by omega)
  rw [hR] at hc
  obtain ⟨_, rfl, d1, p2, rfl, hd1⟩ := hc
  have nd1 := nd_notD (fine_nd (hb1 d1 hd1).fine)
  obtain ⟨D1, hD1⟩ : ∃ e, (if g1 = true then ptD P else d1) = e := ⟨_, rfl⟩
  obtain ⟨t1, f1⟩ := pickP (r := r) (by rw [hrs]; exact hb1 d1 hd1) (by omega) fP hD1
  have nD1 := nd_notD (fine_nd f1.1)
  simp -implicitDefEqProofs [nd1, atI_bool, hD1, nD1]
  subst hK
  rw [Z_cons]; generalize hK : evZ ft _ _ _ = K
  simp -implicitDefEqProofs [rule_ix0, hrs]
  generalize hR : callN ft _ 15 _ = R
  have hc := c15 (n + 18) s (by omega)
  rw [hR] at hc
  obtain ⟨_, rfl, L2, rfl, hL2, hb2⟩ := hc
  simp -implicitDefEqProofs
  generalize hR : callN ft _ 57 _ = R
  have hc := c57 (n + 17) p2 L2 (by omega) (by omega)
  rw [hR] at hc
  obtain ⟨_, rfl, d2, p3, rfl, hd2⟩ := hc
  have nd2 := nd_notD (fine_nd (hb2 d2 hd2).fine)
  obtain ⟨D2, hD2⟩ : ∃ e, (if g2 = true then ptD Q' else d2) = e := ⟨_, rfl⟩
  obtain ⟨t2, f2⟩ := pickP (r := r) (by rw [hrs]; exact hb2 d2 hd2) (by omega) fQ hD2
  have nD2 := nd_notD (fine_nd f2.1)
  simp -implicitDefEqProofs [nd2, atI_bool, hD2, nD2]
  subst hK
  rw [Z_cons]; generalize hK : evZ ft _ _ _ = K
  have e56 := c56 (n + 18)
  simp -implicitDefEqProofs [e56]
  generalize hR : callN ft _ 57 _ = R
  have hc := c57 (n + 17) p3 badWays (by decide) (by decide)
  rw [hR] at hc
  obtain ⟨_, rfl, d3, p4, rfl, hd3⟩ := hc
  have nd3 : notD d3 = true := nd_notD (fine_nd (fineW_ways d3 hd3).1)
  obtain ⟨D3, hD3⟩ : ∃ e, (if g3 = true then wy else d3) = e := ⟨_, rfl⟩
  obtain ⟨t3, f3⟩ := pickW hd3 hwy hD3
  have nD3 := nd_notD (fine_nd f3.1)
  simp -implicitDefEqProofs [nd3, nwy, atI_bool, atI_3', hD3, nD3]
  subst hK
  rw [Z_cons]; generalize hK : evZ ft _ _ _ = K
  have e418 := c418 (n + 11) ⟨f0, f1, f2, f3⟩ (c53 (n + 11) hro hj t0 t1 t2 t3)
  have e55 := c55 (n + 18) hj g0 g1 g2 g3
  simp -implicitDefEqProofs [e418, e55, ne_word, imm_word]
  subst hK
  simp -implicitDefEqProofs
  exact Ok.ok (hQ _ ⟨_, _, _, rfl⟩)
theorem loopR' {n : Nat} {body : En → R (Fl × En)} {tg : Tg} {K : En → R (Fl × En)} {Q : Fl × En → Prop} {e : En} (I : Nat → En → Prop) (h0 : I 0 e)
    (hs : ∀ i, i < n → ∀ e, I i e → Ok (bindT tg (.int (i : Int)) e >>= body) fun p => ∃ e', p = (.nx, e') ∧ I (i + 1) e')
    (hE : ∀ e, I n e → Ok (K e) Q) : Ok (thenF (loopF body tg ((List.range n).map fun (k : Nat) => PyData.int (k : Int)) e) K) Q := by
  have e1 : ∀ m : R (Fl × En), (m >>= R.ok) = m := fun m => by cases m <;> rfl
  have := loopR (body := body) (tg := tg) (K := K) (f := R.ok) (Q := Q) I h0 hs (fun e hI => by rw [e1]; exact hE e hI)
  rwa [e1] at this
theorem n_rule : cmpop .ne (.str "rule") (.str "rule") = .ok false := ne_lit (t := true) (by decide +kernel) (by decide +kernel)
theorem n_way : cmpop .ne (.str "way") (.str "way") = .ok false := ne_lit (t := true) (by decide +kernel) (by decide +kernel)
theorem n_pts : cmpop .ne (.list [.str "point", .str "point", .str "point", .str "point", .str "point", .str "point"]) (.list [.str "point", .str "point", .str "point", .str "point", .str "point", .str "point"]) = .ok false := ne_lit (t := true) (by decide +kernel) (by decide +kernel)
theorem l_nn : cmpop .ne (.list []) (.list []) = .ok false := ne_lit (t := true) (by decide +kernel) (by decide +kernel)
def e419 (ns : List Int) (i : Nat) (p : Int) (r : Rule) (wy : D) (v5 v6 : Option Sv) (P Q : List Int) (v9 v10 v11 v12 : Option Sv) : En := [some ⟨false, scrD ns⟩, some ⟨false, .int i⟩, some ⟨true, pileD p⟩, some ⟨false, ruleD r⟩, some ⟨false, wy⟩, v5, v6, some ⟨false, ptD P⟩, some ⟨false, ptD Q⟩, v9, v10, v11, v12, none]
theorem c53_w (n : Nat) {r : Rule} (h : RuleOk r) {j k : Nat} (hj : j < 6) {g0 g1 g2 g3 : Bool} {d x y w : D} (hd : TR r g0 d) (hx : TP r g1 x) (hy : TP r g2 y) (hw : TW g3 w) (hl : Look4 d x y w) (hk : dueK j g0 g1 g2 g3 = k) : callN ft (n + 8) 418 [⟨false, .int j⟩, ⟨false, .list [d, x, y, w]⟩] = .ok ⟨false, wordE k, [none, none]⟩ := by
  rw [← hk]
  exact c418 n hl (c53 n h hj hd hx hy hw)
theorem none_p {r : Rule} : TP r false .none := ⟨rfl, rfl⟩
theorem none_w : TW false .none := by show PyData.none ∈ badWays; simp [badWays]
set_option maxHeartbeats 4000000 in
theorem c419 (n : Nat) (ns : List Int) (h : ns.length ≤ 63) : Ok (callN ft (n + 20) 419 [⟨false, scrD ns⟩]) fun o => o = ⟨false, .bool true, [none]⟩ := by
  refine Ok.by_ fun Q hQ => ?_
  rw [run419, evSs_Z]
  obtain ⟨Bd, hBd⟩ : ∃ B, body419 = B := ⟨_, rfl⟩
  simp -implicitDefEqProofs only [fd419]
  obtain ⟨N, hN⟩ : ∃ N : Int, (if (if (4 : Int) < ns.length then (4 : Int) else ns.length) > 2 then (if (4 : Int) < ns.length then (4 : Int) else ns.length) else 2) = N := ⟨_, rfl⟩
  have hN1 : 2 ≤ N ∧ N ≤ 4 := by
    rw [← hN]
    split <;> split <;> omega
  obtain ⟨m, rfl⟩ := Int.eq_ofNat_of_zero_le (show 0 ≤ N by omega)
  have hm : (m : Int) ≤ 16777216 ∧ -4611686018427387904 ≤ (m : Int) ∧ (m : Int) < 4611686018427387904 := by omega
  rw [Z_cons]; generalize hK : evZ ft _ _ _ = K
  simp -implicitDefEqProofs [hN, hm]
  refine loopR (fun i e => ∃ v1 v2 v3 v4 v5 v6 v7 v8 v9 v10 v11 v12, e = [some ⟨false, scrD ns⟩, v1, v2, v3, v4, v5, v6, v7, v8, v9, v10, v11, v12, none]) ⟨none, none, none, none, none, none, none, none, none, none, none, none, rfl⟩ ?_ ?_
  · rintro i hi _ ⟨v1, v2, v3, v4, v5, v6, v7, v8, v9, v10, v11, v12, rfl⟩
    refine Ok.by_ fun Q hQ => ?_
    simp -implicitDefEqProofs only [bindT_nm, List.length_cons, List.length_nil, List.set_cons_succ, List.set_cons_zero, Nat.reduceAdd, Nat.reduceLT, if_true, bind_ok, bodyF_app]
    rw [Z_cons]; generalize hK : evZ ft _ _ _ = K
    simp -implicitDefEqProofs
    generalize hR : callN ft _ 2 _ = R
    have hc := c2 (n + 17) ns i (by omega)
    rw [hR] at hc
    obtain ⟨_, rfl, p, rfl⟩ := hc
    simp -implicitDefEqProofs
    subst hK
    obtain ⟨s, hs0⟩ : ∃ s : Nat, 1 + (i : Int) % 2 = s := ⟨(1 + (i : Int) % 2).toNat, by omega⟩
    have hs : s = 1 ∨ s = 2 := by omega
    rw [Z_cons]; generalize hK : evZ ft _ _ _ = K
    simp -implicitDefEqProofs [hs0]
    generalize hR : callN ft _ 5 _ = R
    have hc := c5 (n + 16) p s 3 (by omega) (by omega) (by omega)
    rw [hR] at hc
    obtain ⟨_, rfl, r, p1, rfl, hr⟩ := hc
    simp -implicitDefEqProofs
    subst hK
    have hf := (hr.bent (by omega) (by omega)).f (by omega) (by omega)
    have hrs := hr.sides
    have hro := hf.ok
    have fr : FineW (ruleD r) := ⟨fine_le hf.fine.1 (by decide), by have := hf.fine.2; omega⟩
    rw [Z_cons]; generalize hK : evZ ft _ _ _ = K
    simp -implicitDefEqProofs [rule_ix0, hrs]
    generalize hR : callN ft _ 16 _ = R
    have hc := c16 (n + 17) p1 s 30 (by omega) (by omega)
    rw [hR] at hc
    obtain ⟨_, rfl, P, p2, rfl, hP, hPb⟩ := hc
    simp -implicitDefEqProofs [rule_ix0, hrs]
    generalize hR : callN ft _ 16 _ = R
    have hc := c16 (n + 17) p2 s 30 (by omega) (by omega)
    rw [hR] at hc
    obtain ⟨_, rfl, Q', p3, rfl, hQ', hQb⟩ := hc
    simp -implicitDefEqProofs
    subst hK
    have hPl : P.length = s := by omega
    have hQl : Q'.length = s := by omega
    have fP : FineW (ptD P) := ⟨fine_pt' fun x hx => by have := hPb x hx; omega, by rw [wgt_pt']; omega⟩
    have fQ : FineW (ptD Q') := ⟨fine_pt' fun x hx => by have := hQb x hx; omega, by rw [wgt_pt']; omega⟩
    have tP : TP r true (ptD P) := ⟨P, rfl, by omega⟩
    have tQ : TP r true (ptD Q') := ⟨Q', rfl, by omega⟩
    have tr : TR r true (ruleD r) := rfl
    -- the way
    obtain ⟨b, hb, hb2⟩ := digit p3 2 (by decide)
    rw [Z_cons]; generalize hK : evZ ft _ _ _ = K
    simp -implicitDefEqProofs [c3, hb]
    obtain ⟨wy, hwa, hwy⟩ : ∃ wy, atI [PyData.str "side", PyData.str "sum"] (b : Int) = some wy ∧ (wy = .str "side" ∨ wy = .str "sum") := by
      have : b = 0 ∨ b = 1 := by omega
      rcases this with rfl | rfl
      · exact ⟨_, atI_0, .inl rfl⟩
      · exact ⟨_, atI_1, .inr rfl⟩
    have nwy : notD wy = true := by rcases hwy with rfl | rfl <;> rfl
    have fwy := fineW_way hwy
    simp -implicitDefEqProofs [hwa]
    subst hK
    -- each of the six
    rw [Z_cons]; generalize hK : evZ ft _ _ _ = K
    simp -implicitDefEqProofs [show rangeL 0 6 = (List.range 6).map fun (k : Nat) => PyData.int (k : Int) from rangeL_0 6]
    refine loopR' (fun j e => ∃ p v5 v6 v9 v10 v11 v12, e = [some ⟨false, scrD ns⟩, some ⟨false, .int i⟩, some ⟨true, pileD p⟩, some ⟨false, ruleD r⟩, some ⟨false, wy⟩, v5, v6, some ⟨false, ptD P⟩, some ⟨false, ptD Q'⟩, v9, v10, v11, v12, none]) ⟨_, _, _, _, _, _, _, rfl⟩ ?_ ?_
    · rintro j hj _ ⟨p, v5, v6, v9, v10, v11, v12, rfl⟩
      refine Ok.by_ fun Q hQ => ?_
      simp -implicitDefEqProofs only [bindT_nm, List.length_cons, List.length_nil, List.set_cons_succ, List.set_cons_zero, Nat.reduceAdd, Nat.reduceLT, if_true, bind_ok, bodyF_app]
      rw [Z_cons]; generalize hK : evZ ft _ _ _ = K
      simp -implicitDefEqProofs [show rangeL 0 16 = (List.range 16).map fun (k : Nat) => PyData.int (k : Int) from rangeL_0 16]
      refine loopR' (fun _ e => ∃ p v9 v11 v12, e = [some ⟨false, scrD ns⟩, some ⟨false, .int i⟩, some ⟨true, pileD p⟩, some ⟨false, ruleD r⟩, some ⟨false, wy⟩, some ⟨false, .int j⟩, v6, some ⟨false, ptD P⟩, some ⟨false, ptD Q'⟩, v9, v10, v11, v12, none]) ⟨_, _, _, _, rfl⟩ ?_ ?_
      · rintro code hcode _ ⟨p, v9, v11, v12, rfl⟩
        simp -implicitDefEqProofs only [bindT_nm, List.length_cons, List.length_nil, List.set_cons_succ, List.set_cons_zero, Nat.reduceAdd, Nat.reduceLT, if_true, bind_ok, bodyF_app]
        refine Ok.imp (c419_turn n ns i p hf hs hrs hPl hQl fP fQ hwy hj code hcode v6 v10 v11 v12) ?_
        rintro _ ⟨p', w11, w12, rfl⟩
        exact ⟨_, rfl, _, _, _, _, rfl⟩
      · rintro _ ⟨p, v9, v11, v12, rfl⟩
        subst hK
        rw [Z_cons]; generalize hK : evZ ft _ _ _ = K
        simp -implicitDefEqProofs
        generalize hR : callN ft _ 6 _ = R
        have hc := c6 (n + 18) hf
        rw [hR] at hc
        obtain ⟨_, rfl, L, rfl, hL, hb⟩ := hc
        simp -implicitDefEqProofs
        rw [runC_listF (fun _ => false) (fun d => d) (fun d hd => by
          have hbd := hb d hd
          have e1 : callN ft (n + 11 + 8) 418 [⟨false, .int j⟩, ⟨false, .list [d, ptD P, ptD Q', wy]⟩] = .ok ⟨false, .str "rule", [none, none]⟩ := c53_w (n + 11) (k := 1) hro hj (g0 := false) (g3 := true) ⟨fine_nd hbd.fine, hbd.no⟩ tP tQ hwy ⟨⟨hbd.fine, hbd.wgt⟩, fP, fQ, fwy⟩ rfl
          simp -implicitDefEqProofs [e1, nd_notD (fine_nd hbd.fine), nwy, n_rule])]
        simp -implicitDefEqProofs [l_nn]
        subst hK
        simp -implicitDefEqProofs
        exact Ok.ok (hQ _ ⟨_, rfl, _, _, _, _, _, _, _, rfl⟩)
    · rintro _ ⟨p, v5, v6, v9, v10, v11, v12, rfl⟩
      subst hK
      rw [Z_cons]; generalize hK : evZ ft _ _ _ = K
      simp -implicitDefEqProofs [rule_ix0, hrs]
      generalize hR : callN ft _ 15 _ = R
      have hc := c15 (n + 18) s (by omega)
      rw [hR] at hc
      obtain ⟨_, rfl, L, rfl, hL, hb⟩ := hc
      simp -implicitDefEqProofs
      refine loopL' (fun e => ∃ v5 v6 v10, e = [some ⟨false, scrD ns⟩, some ⟨false, .int i⟩, some ⟨true, pileD p⟩, some ⟨false, ruleD r⟩, some ⟨false, wy⟩, v5, v6, some ⟨false, ptD P⟩, some ⟨false, ptD Q'⟩, v9, v10, v11, v12, none]) ⟨_, _, _, rfl⟩ ?_ ?_
      · rintro d hd _ ⟨v5, v6, v10, rfl⟩
        refine Ok.by_ fun Q hQ => ?_
        have hbd := hb d hd
        have fd_ : FineW d := ⟨fine_le hbd.fine (by decide), by have := hbd.wgt; omega⟩
        have tb : TP r false d := ⟨fine_nd hbd.fine, by rw [hrs]; exact hbd.no⟩
        have ndd := nd_notD (fine_nd hbd.fine)
        have a : ∀ j, 1 < j → j < 6 → callN ft (n + 11 + 8) 418 [⟨false, .int (j : Nat)⟩, ⟨false, .list [ruleD r, d, .none, .none]⟩] = .ok ⟨false, .str "point", [none, none]⟩ := fun j h1 h2 =>
          c53_w (n + 11) (k := 2) hro h2 (g0 := true) (g1 := false) (g2 := false) (g3 := false) tr tb none_p none_w ⟨fr, fd_, fineW_none, fineW_none⟩ (by simp [dueK]; omega)
        have b : ∀ j, 3 < j → j < 6 → callN ft (n + 11 + 8) 418 [⟨false, .int (j : Nat)⟩, ⟨false, .list [ruleD r, ptD P, d, .none]⟩] = .ok ⟨false, .str "point", [none, none]⟩ := fun j h1 h2 =>
          c53_w (n + 11) (k := 2) hro h2 (g0 := true) (g1 := true) (g2 := false) (g3 := false) tr tP tb none_w ⟨fr, fP, fd_, fineW_none⟩ (by simp [dueK]; omega)
        have a2 := a 2 (by decide) (by decide)
        have a3 := a 3 (by decide) (by decide)
        have a4 := a 4 (by decide) (by decide)
        have a5 := a 5 (by decide) (by decide)
        have b4 := b 4 (by decide) (by decide)
        have b5 := b 5 (by decide) (by decide)
        simp only [Int.cast_ofNat_Int] at a2 a3 a4 a5 b4 b5
        simp -implicitDefEqProofs [a2, a3, a4, a5, b4, b5, runC_cons, runC_nil, ndd, notD_rule, n_pts]
        exact Ok.ok (hQ _ ⟨_, rfl, _, _, _, rfl⟩)
      · rintro _ ⟨v5, v6, v10, rfl⟩
        subst hK
        rw [Z_cons]; generalize hK : evZ ft _ _ _ = K
        have e56 := c56 (n + 18)
        simp -implicitDefEqProofs [e56]
        rw [runC_listF (fun _ => false) (fun d => d) (fun d hd => by
          have e1 : callN ft (n + 11 + 8) 418 [⟨false, .int (5 : Nat)⟩, ⟨false, .list [ruleD r, ptD P, ptD Q', d]⟩] = .ok ⟨false, .str "way", [none, none]⟩ := c53_w (n + 11) (k := 4) hro (by decide) (g0 := true) (g3 := false) tr tP tQ hd ⟨fr, fP, fQ, fineW_ways d hd⟩ rfl
          simp only [Int.cast_ofNat_Int] at e1
          simp -implicitDefEqProofs [e1, nd_notD (fine_nd (fineW_ways d hd).1), notD_rule, n_way])]
        simp -implicitDefEqProofs [l_nn]
        subst hK
        simp -implicitDefEqProofs
        exact Ok.ok (hQ _ ⟨_, rfl, _, _, _, _, _, _, _, _, _, _, _, _, rfl⟩)
  · rintro _ ⟨v1, v2, v3, v4, v5, v6, v7, v8, v9, v10, v11, v12, rfl⟩
    subst hK
    simp -implicitDefEqProofs
    exact Ok.ok (hQ _ rfl)
theorem law_ev (ns : List Int) (h : ns.length ≤ 63) : ∃ outs, callN ft 40 419 [⟨false, scrD ns⟩] = .ok ⟨false, .bool true, outs⟩ := by
  obtain ⟨o, e, rfl⟩ := c419 20 ns h
  exact ⟨_, e⟩
end Nm
set_option Elab.async false
set_option maxRecDepth 100000
set_option linter.all false
set_option maxHeartbeats 0
/-! The law's text is the table's. -/
namespace Nm
open PySem L2 PyProof.Rows
def topS (i : Nat) : Stmt := PySem.Challenge.pw_nearmeets_k03_refused_rules.main.body.getD i (.Pass ⟨0, 0, 0, 0⟩)
def mkD (x : Str) (i : Nat) : He.DefD := ⟨(x, none), x, x, defArgs (topS i), defBody (topS i), defScope (topS i), [], []⟩
def ent0 : Ent := ⟨7, ["thing"], mkD "is_whole" 15, ["thing"]⟩
def ent1 : Ent := ⟨8, ["thing", "low", "high"], mkD "is_within" 16, ["thing", "low", "high"]⟩
def ent2 : Ent := ⟨9, ["sides", "thing", "number"], mkD "is_right_point" 17, ["sides", "thing"]⟩
def ent3 : Ent := ⟨10, ["sides", "thing", "size"], mkD "is_grid" 18, ["sides", "thing"]⟩
def ent4 : Ent := ⟨11, ["thing", "grid"], mkD "is_right_rule" 19, ["thing"]⟩
def ent5 : Ent := ⟨13, ["rule"], mkD "look_at_rule" 20, ["rule"]⟩
def ent6 : Ent := ⟨27, ["rule", "point"], mkD "look_at_point" 21, ["rule", "point"]⟩
def ent7 : Ent := ⟨50, ["way"], mkD "look_at_way" 22, ["way"]⟩
def ent8 : Ent := ⟨14, ["rule", "thing"], mkD "is_point" 23, ["rule", "thing"]⟩
def ent9 : Ent := ⟨28, ["grid", "point", "number", "size", "shift"], mkD "cell_of" 24, ["grid", "point"]⟩
def ent10 : Ent := ⟨32, ["rule", "point", "grid"], mkD "cells" 25, ["rule", "point"]⟩
def ent11 : Ent := ⟨42, ["cell", "reach", "found", "number", "some", "more"], mkD "cells_beside" 26, ["cell", "reach"]⟩
def ent12 : Ent := ⟨43, ["rule", "point", "found", "number", "grid", "cell"], mkD "looked" 27, ["rule", "point"]⟩
def ent13 : Ent := ⟨29, ["grid", "p", "q", "one", "other"], mkD "meets_in" 28, ["grid", "p", "q"]⟩
def ent14 : Ent := ⟨30, ["rule", "p", "q", "number", "grid"], mkD "all_meets" 29, ["rule", "p", "q"]⟩
def ent15 : Ent := ⟨31, ["rule", "p", "q"], mkD "meets" 30, ["rule", "p", "q"]⟩
def ent16 : Ent := ⟨33, ["one", "other", "low", "high"], mkD "common" 31, ["one", "other"]⟩
def ent17 : Ent := ⟨34, ["rule", "found", "sizes", "shifts", "reach", "period", "size"], mkD "periods_of" 32, ["rule"]⟩
def ent18 : Ent := ⟨35, ["rule"], mkD "periods" 33, ["rule"]⟩
def ent19 : Ent := ⟨51, ["p", "q", "way", "differences", "one", "other"], mkD "distance" 35, ["p", "q", "way"]⟩
def ent20 : Ent := ⟨52, ["rule", "p", "q", "way"], mkD "far" 36, ["rule", "p", "q", "way"]⟩
def ent21 : Ent := ⟨1, ["_law_cell", "_law_k", "_law_number"], mkD "_law_mixed" 38, ["_law_cell", "_law_k"]⟩
def ent22 : Ent := ⟨2, ["_law_script", "_law_k", "_law_cell", "_law_found", "_law_j"], mkD "_law_pile" 39, ["_law_script", "_law_k"]⟩
def ent23 : Ent := ⟨3, ["_law_pile_here", "_law_size", "_law_digit"], mkD "_law_take" 40, ["_law_pile_here", "_law_size"]⟩
def ent24 : Ent := ⟨57, ["_law_pile_here", "_law_some"], mkD "_law_pick" 41, ["_law_pile_here", "_law_some"]⟩
def ent25 : Ent := ⟨4, ["_law_pile_here", "_law_sides", "_law_many", "_law_lots", "_law_lot", "_law_size", "_law_k"], mkD "_law_sizes" 42, ["_law_pile_here", "_law_sides", "_law_many"]⟩
def ent26 : Ent := ⟨5, ["_law_pile_here", "_law_sides", "_law_most", "_law_many", "_law_reach", "_law_way", "_law_rows", "_law_grids", "_law_k", "_law_sizes_here", "_law_shifts", "_law_own", "_law_side", "_law_more", "_law_row"], mkD "_law_rule" 43, ["_law_pile_here", "_law_sides", "_law_most"]⟩
def ent27 : Ent := ⟨16, ["_law_pile_here", "_law_sides", "_law_most", "_law_side"], mkD "_law_point" 44, ["_law_pile_here", "_law_sides", "_law_most"]⟩
def ent28 : Ent := ⟨416, ["_law_caught", "_law_flags_here"], mkD "_law_flags" 45, ["_law_caught"]⟩
def ent29 : Ent := ⟨417, ["_law_caught", "_law_flags_here"], mkD "_law_error" 46, ["_law_caught"]⟩
def ent30 : Ent := ⟨6, ["_law_rule_here", "_law_found", "_law_odds", "_law_odd", "_law_sides", "_law_grids", "_law_sizes_here", "_law_shifts", "_law_reach"], mkD "_law_bad_rules" 47, ["_law_rule_here"]⟩
def ent31 : Ent := ⟨15, ["_law_sides", "_law_found"], mkD "_law_bad_points" 48, ["_law_sides"]⟩
def ent32 : Ent := ⟨56, [], mkD "_law_bad_ways" 49, []⟩
def ent33 : Ent := ⟨53, ["_law_which", "_law_rule_here", "_law_p", "_law_q", "_law_way"], mkD "_law_asked" 50, ["_law_which", "_law_rule_here", "_law_p", "_law_q", "_law_way"]⟩
def ent34 : Ent := ⟨418, ["_law_which", "_law_things", "_law_kept", "_law_caught", "e"], mkD "_law_word" 51, ["_law_which", "_law_things"]⟩
def ent35 : Ent := ⟨55, ["_law_which", "_law_good"], mkD "_law_due" 52, ["_law_which", "_law_good"]⟩
def ent36 : Ent := ⟨419, ["_law_script", "_law_k", "_law_pile_here", "_law_rule_here", "_law_way", "_law_which", "_law_bad", "_law_p", "_law_q", "_law_code", "_law_told", "_law_good", "_law_things", "_law_place"], mkD "law" 53, ["_law_script"]⟩
def ents : List Ent := [ent0, ent1, ent2, ent3, ent4, ent5, ent6, ent7, ent8, ent9, ent10, ent11, ent12, ent13, ent14, ent15, ent16, ent17, ent18, ent19, ent20, ent21, ent22, ent23, ent24, ent25, ent26, ent27, ent28, ent29, ent30, ent31, ent32, ent33, ent34, ent35, ent36]
def gi : Gi := ⟨[(("is_whole" : Str), 7), (("is_within" : Str), 8), (("is_right_point" : Str), 9), (("is_grid" : Str), 10), (("is_right_rule" : Str), 11), (("look_at_rule" : Str), 13), (("look_at_point" : Str), 27), (("look_at_way" : Str), 50), (("is_point" : Str), 14), (("cell_of" : Str), 28), (("cells" : Str), 32), (("cells_beside" : Str), 42), (("looked" : Str), 43), (("meets_in" : Str), 29), (("all_meets" : Str), 30), (("meets" : Str), 31), (("common" : Str), 33), (("periods_of" : Str), 34), (("periods" : Str), 35), (("distance" : Str), 51), (("far" : Str), 52), (("_law_mixed" : Str), 1), (("_law_pile" : Str), 2), (("_law_take" : Str), 3), (("_law_pick" : Str), 57), (("_law_sizes" : Str), 4), (("_law_rule" : Str), 5), (("_law_point" : Str), 16), (("_law_flags" : Str), 416), (("_law_error" : Str), 417), (("_law_bad_rules" : Str), 6), (("_law_bad_points" : Str), 15), (("_law_bad_ways" : Str), 56), (("_law_asked" : Str), 53), (("_law_word" : Str), 418), (("_law_due" : Str), 55), (("law" : Str), 419)], [(("MOST_GRIDS" : Str), ((.int 12) : D)), (("MOST_REACH" : Str), ((.int 3) : D)), (("MOST_SIZE" : Str), ((.int 60) : D))], [("ValueError" : Str), ("abs" : Str), ("all" : Str), ("bool" : Str), ("e" : Str), ("enumerate" : Str), ("int" : Str), ("isinstance" : Str), ("len" : Str), ("list" : Str), ("max" : Str), ("min" : Str), ("range" : Str), ("repr" : Str), ("str" : Str), ("sum" : Str), ("tuple" : Str), ("zip" : Str)], [(("MeetsError" : Str), 0), (("Missed" : Str), 9), (("NoDistance" : Str), 3), (("NoPoint" : Str), 2), (("NoReach" : Str), 6), (("NoRule" : Str), 1), (("NoShifts" : Str), 7), (("NoSize" : Str), 5), (("NoWay" : Str), 4), (("Unlike" : Str), 8)], []⟩
theorem ok_ent0 : ent0.ok ft gi = true := by decide +kernel
theorem bd_ent0 : ent0.binds := fun _ _ _ _ _ _ us hl => match us, hl with | [_], _ => rfl
theorem ok_ent1 : ent1.ok ft gi = true := by decide +kernel
theorem bd_ent1 : ent1.binds := fun _ _ _ _ _ _ us hl => match us, hl with | [_, _, _], _ => rfl
theorem ok_ent2 : ent2.ok ft gi = true := by decide +kernel
theorem bd_ent2 : ent2.binds := fun _ _ _ _ _ _ us hl => match us, hl with | [_, _], _ => rfl
theorem ok_ent3 : ent3.ok ft gi = true := by decide +kernel
theorem bd_ent3 : ent3.binds := fun _ _ _ _ _ _ us hl => match us, hl with | [_, _], _ => rfl
theorem ok_ent4 : ent4.ok ft gi = true := by decide +kernel
theorem bd_ent4 : ent4.binds := fun _ _ _ _ _ _ us hl => match us, hl with | [_], _ => rfl
theorem ok_ent5 : ent5.ok ft gi = true := by decide +kernel
theorem bd_ent5 : ent5.binds := fun _ _ _ _ _ _ us hl => match us, hl with | [_], _ => rfl
theorem ok_ent6 : ent6.ok ft gi = true := by decide +kernel
theorem bd_ent6 : ent6.binds := fun _ _ _ _ _ _ us hl => match us, hl with | [_, _], _ => rfl
theorem ok_ent7 : ent7.ok ft gi = true := by decide +kernel
theorem bd_ent7 : ent7.binds := fun _ _ _ _ _ _ us hl => match us, hl with | [_], _ => rfl
theorem ok_ent8 : ent8.ok ft gi = true := by decide +kernel
theorem bd_ent8 : ent8.binds := fun _ _ _ _ _ _ us hl => match us, hl with | [_, _], _ => rfl
theorem ok_ent9 : ent9.ok ft gi = true := by decide +kernel
theorem bd_ent9 : ent9.binds := fun _ _ _ _ _ _ us hl => match us, hl with | [_, _], _ => rfl
theorem ok_ent10 : ent10.ok ft gi = true := by decide +kernel
theorem bd_ent10 : ent10.binds := fun _ _ _ _ _ _ us hl => match us, hl with | [_, _], _ => rfl
theorem ok_ent11 : ent11.ok ft gi = true := by decide +kernel
theorem bd_ent11 : ent11.binds := fun _ _ _ _ _ _ us hl => match us, hl with | [_, _], _ => rfl
theorem ok_ent12 : ent12.ok ft gi = true := by decide +kernel
theorem bd_ent12 : ent12.binds := fun _ _ _ _ _ _ us hl => match us, hl with | [_, _], _ => rfl
theorem ok_ent13 : ent13.ok ft gi = true := by decide +kernel
theorem bd_ent13 : ent13.binds := fun _ _ _ _ _ _ us hl => match us, hl with | [_, _, _], _ => rfl
theorem ok_ent14 : ent14.ok ft gi = true := by decide +kernel
theorem bd_ent14 : ent14.binds := fun _ _ _ _ _ _ us hl => match us, hl with | [_, _, _], _ => rfl
theorem ok_ent15 : ent15.ok ft gi = true := by decide +kernel
theorem bd_ent15 : ent15.binds := fun _ _ _ _ _ _ us hl => match us, hl with | [_, _, _], _ => rfl
theorem ok_ent16 : ent16.ok ft gi = true := by decide +kernel
theorem bd_ent16 : ent16.binds := fun _ _ _ _ _ _ us hl => match us, hl with | [_, _], _ => rfl
theorem ok_ent17 : ent17.ok ft gi = true := by decide +kernel
theorem bd_ent17 : ent17.binds := fun _ _ _ _ _ _ us hl => match us, hl with | [_], _ => rfl
theorem ok_ent18 : ent18.ok ft gi = true := by decide +kernel
theorem bd_ent18 : ent18.binds := fun _ _ _ _ _ _ us hl => match us, hl with | [_], _ => rfl
theorem ok_ent19 : ent19.ok ft gi = true := by decide +kernel
theorem bd_ent19 : ent19.binds := fun _ _ _ _ _ _ us hl => match us, hl with | [_, _, _], _ => rfl
theorem ok_ent20 : ent20.ok ft gi = true := by decide +kernel
theorem bd_ent20 : ent20.binds := fun _ _ _ _ _ _ us hl => match us, hl with | [_, _, _, _], _ => rfl
theorem ok_ent21 : ent21.ok ft gi = true := by decide +kernel
theorem bd_ent21 : ent21.binds := fun _ _ _ _ _ _ us hl => match us, hl with | [_, _], _ => rfl
theorem ok_ent22 : ent22.ok ft gi = true := by decide +kernel
theorem bd_ent22 : ent22.binds := fun _ _ _ _ _ _ us hl => match us, hl with | [_, _], _ => rfl
theorem ok_ent23 : ent23.ok ft gi = true := by decide +kernel
theorem bd_ent23 : ent23.binds := fun _ _ _ _ _ _ us hl => match us, hl with | [_, _], _ => rfl
theorem ok_ent24 : ent24.ok ft gi = true := by decide +kernel
theorem bd_ent24 : ent24.binds := fun _ _ _ _ _ _ us hl => match us, hl with | [_, _], _ => rfl
theorem ok_ent25 : ent25.ok ft gi = true := by decide +kernel
theorem bd_ent25 : ent25.binds := fun _ _ _ _ _ _ us hl => match us, hl with | [_, _, _], _ => rfl
theorem ok_ent26 : ent26.ok ft gi = true := by decide +kernel
theorem bd_ent26 : ent26.binds := fun _ _ _ _ _ _ us hl => match us, hl with | [_, _, _], _ => rfl
theorem ok_ent27 : ent27.ok ft gi = true := by decide +kernel
theorem bd_ent27 : ent27.binds := fun _ _ _ _ _ _ us hl => match us, hl with | [_, _, _], _ => rfl
theorem ok_ent28 : ent28.ok ft gi = true := by decide +kernel
theorem bd_ent28 : ent28.binds := fun _ _ _ _ _ _ us hl => match us, hl with | [_], _ => rfl
theorem ok_ent29 : ent29.ok ft gi = true := by decide +kernel
theorem bd_ent29 : ent29.binds := fun _ _ _ _ _ _ us hl => match us, hl with | [_], _ => rfl
theorem ok_ent30 : ent30.ok ft gi = true := by decide +kernel
theorem bd_ent30 : ent30.binds := fun _ _ _ _ _ _ us hl => match us, hl with | [_], _ => rfl
theorem ok_ent31 : ent31.ok ft gi = true := by decide +kernel
theorem bd_ent31 : ent31.binds := fun _ _ _ _ _ _ us hl => match us, hl with | [_], _ => rfl
theorem ok_ent32 : ent32.ok ft gi = true := by decide +kernel
theorem bd_ent32 : ent32.binds := fun _ _ _ _ _ _ us hl => match us, hl with | [], _ => rfl
theorem ok_ent33 : ent33.ok ft gi = true := by decide +kernel
theorem bd_ent33 : ent33.binds := fun _ _ _ _ _ _ us hl => match us, hl with | [_, _, _, _, _], _ => rfl
theorem ok_ent34 : ent34.ok ft gi = true := by decide +kernel
theorem bd_ent34 : ent34.binds := fun _ _ _ _ _ _ us hl => match us, hl with | [_, _], _ => rfl
theorem ok_ent35 : ent35.ok ft gi = true := by decide +kernel
theorem bd_ent35 : ent35.binds := fun _ _ _ _ _ _ us hl => match us, hl with | [_, _], _ => rfl
theorem ok_ent36 : ent36.ok ft gi = true := by decide +kernel
theorem bd_ent36 : ent36.binds := fun _ _ _ _ _ _ us hl => match us, hl with | [_], _ => rfl
theorem all_ents : ∀ e ∈ ents, e.ok ft gi = true ∧ e.d.at_ = (e.d.name, none) ∧ e.binds := by
  intro e he
  simp only [ents, List.mem_cons, List.not_mem_nil, or_false] at he
  rcases he with rfl | rfl | rfl | rfl | rfl | rfl | rfl | rfl | rfl | rfl | rfl | rfl | rfl | rfl | rfl | rfl | rfl | rfl | rfl | rfl | rfl | rfl | rfl | rfl | rfl | rfl | rfl | rfl | rfl | rfl | rfl | rfl | rfl | rfl | rfl | rfl | rfl
  · exact ⟨ok_ent0, rfl, bd_ent0⟩
  · exact ⟨ok_ent1, rfl, bd_ent1⟩
  · exact ⟨ok_ent2, rfl, bd_ent2⟩
  · exact ⟨ok_ent3, rfl, bd_ent3⟩
  · exact ⟨ok_ent4, rfl, bd_ent4⟩
  · exact ⟨ok_ent5, rfl, bd_ent5⟩
  · exact ⟨ok_ent6, rfl, bd_ent6⟩
  · exact ⟨ok_ent7, rfl, bd_ent7⟩
  · exact ⟨ok_ent8, rfl, bd_ent8⟩
  · exact ⟨ok_ent9, rfl, bd_ent9⟩
  · exact ⟨ok_ent10, rfl, bd_ent10⟩
  · exact ⟨ok_ent11, rfl, bd_ent11⟩
  · exact ⟨ok_ent12, rfl, bd_ent12⟩
  · exact ⟨ok_ent13, rfl, bd_ent13⟩
  · exact ⟨ok_ent14, rfl, bd_ent14⟩
  · exact ⟨ok_ent15, rfl, bd_ent15⟩
  · exact ⟨ok_ent16, rfl, bd_ent16⟩
  · exact ⟨ok_ent17, rfl, bd_ent17⟩
  · exact ⟨ok_ent18, rfl, bd_ent18⟩
  · exact ⟨ok_ent19, rfl, bd_ent19⟩
  · exact ⟨ok_ent20, rfl, bd_ent20⟩
  · exact ⟨ok_ent21, rfl, bd_ent21⟩
  · exact ⟨ok_ent22, rfl, bd_ent22⟩
  · exact ⟨ok_ent23, rfl, bd_ent23⟩
  · exact ⟨ok_ent24, rfl, bd_ent24⟩
  · exact ⟨ok_ent25, rfl, bd_ent25⟩
  · exact ⟨ok_ent26, rfl, bd_ent26⟩
  · exact ⟨ok_ent27, rfl, bd_ent27⟩
  · exact ⟨ok_ent28, rfl, bd_ent28⟩
  · exact ⟨ok_ent29, rfl, bd_ent29⟩
  · exact ⟨ok_ent30, rfl, bd_ent30⟩
  · exact ⟨ok_ent31, rfl, bd_ent31⟩
  · exact ⟨ok_ent32, rfl, bd_ent32⟩
  · exact ⟨ok_ent33, rfl, bd_ent33⟩
  · exact ⟨ok_ent34, rfl, bd_ent34⟩
  · exact ⟨ok_ent35, rfl, bd_ent35⟩
  · exact ⟨ok_ent36, rfl, bd_ent36⟩
theorem fns_ents : gi.fns = ents.map fun e => (e.d.name, e.k) := rfl
def fnD : List He.DefD := ents.map fun e => e.d
theorem ents_ok : ∀ e ∈ ents, e.d ∈ fnD ∧ e.ok ft gi = true ∧ e.d.at_ = (e.d.name, none) ∧ e.binds := fun e he => ⟨List.mem_map.mpr ⟨e, he, rfl⟩, all_ents e he⟩
theorem fns_ok : ∀ x k, gi.fns.contains (x, k) = true → ∃ e ∈ ents, e.k = k ∧ e.d.name = x := by
  intro x k h
  rw [fns_ents, List.contains_iff_mem, List.mem_map] at h
  obtain ⟨e, he, q⟩ := h
  cases q
  exact ⟨e, he, rfl, rfl⟩
theorem excs_ok : excsOk gi = true := by decide +kernel
abbrev RR0 : PySem.W.OpenRow := PySem.W.OpenLaw.row PySem.Challenge.rw_nearmeets_k03_refused_rules
abbrev hk : PySem.W.Hook := hookE 5 (faOf gi) fnD
def ob (s : PySem.W.SharedT) : He.AlD × Bool := obsE 5 (faOf gi) fnD (HandSHeadRun.getT s)
theorem ob_eq (s : PySem.W.SharedT) : ob s = hk.obs s.abs := obsE_eq (HandSHeadRun.getT_eq s)
def loose : List PySem.Str := [("MeetsError" : Str), ("NoRule" : Str), ("NoPoint" : Str), ("NoDistance" : Str), ("NoWay" : Str), ("NoSize" : Str), ("NoReach" : Str), ("NoShifts" : Str), ("Unlike" : Str), ("Missed" : Str), ("MOST_SIZE" : Str), ("MOST_REACH" : Str), ("MOST_GRIDS" : Str), ("is_whole" : Str), ("is_within" : Str), ("is_right_point" : Str), ("is_grid" : Str), ("is_right_rule" : Str), ("look_at_rule" : Str), ("look_at_point" : Str), ("look_at_way" : Str), ("is_point" : Str), ("cell_of" : Str), ("cells" : Str), ("cells_beside" : Str), ("looked" : Str), ("meets_in" : Str), ("all_meets" : Str), ("meets" : Str), ("common" : Str), ("periods_of" : Str), ("periods" : Str), ("distance" : Str), ("far" : Str), ("_law_mixed" : Str), ("_law_pile" : Str), ("_law_take" : Str), ("_law_pick" : Str), ("_law_sizes" : Str), ("_law_rule" : Str), ("_law_point" : Str), ("_law_flags" : Str), ("_law_error" : Str), ("_law_bad_rules" : Str), ("_law_bad_points" : Str), ("_law_bad_ways" : Str), ("_law_asked" : Str), ("_law_word" : Str), ("_law_due" : Str)]
theorem run (w : World) : HandSHeadRun.RunEq RR0 (PySem.W.view RR0.prog [53]) hk ob 100000 loose w := by
  intro os
  kernel_rfl
end Nm
set_option Elab.async false
set_option maxRecDepth 100000
set_option linter.all false
open PySem PySem.W PySem.Calls PyProof.Rows
set_option maxHeartbeats 0 in
theorem PySem.Challenge.cw_nearmeets_k03_refused_rules_holds : PySem.Challenge.rw_nearmeets_k03_refused_rules.Holds := by
  w_on; o_law
  refine HandSHeadRun.head_any (r := OpenLaw.row PySem.Challenge.rw_nearmeets_k03_refused_rules) (q := view (OpenLaw.row PySem.Challenge.rw_nearmeets_k03_refused_rules).prog [53]) (H := Nm.hk) (ob := Nm.ob) (M := 100000) (loose := Nm.loose) (d := HandSHeadRun.topDef (OpenLaw.row PySem.Challenge.rw_nearmeets_k03_refused_rules).prog 53) (kwd := []) Nm.ob_eq
    (by kernel_rfl) (fun s => by kernel_rfl) Nm.run (by kernel_rfl) (by kernel_rfl) (by kernel_rfl) (by rfl) (by first | assumption | decide +kernel) (by decide +kernel) ⟨rfl, rfl, rfl, rfl, rfl, by decide +kernel⟩ ?hw ?hc
  case hw => w_witness2
  case hc =>
    refine Nm.walk_ofG (l := PySem.Challenge.rw_nearmeets_k03_refused_rules) (n := 63) (k := 40) rfl (by decide) (by kernel_rfl) ⟨rfl, by decide, by decide⟩ ?F
    intro w mg fa h Y G hmg0
    obtain ⟨K, KX, c, xb⟩ := Y
    have hmg : mg ("law" : PySem.Str) = some (.ref fa) := by
      have e : (HandSHeadRun.topDef (OpenLaw.row PySem.Challenge.rw_nearmeets_k03_refused_rules).prog 53).name = ("law" : PySem.Str) := by kernel_rfl
      rw [← e]
      exact hmg0
    have wd : Nm.Wd Nm.xk0 Nm.gi K mg Nm.ents Nm.ft := Nm.wd_of KX G c xb (Nm.ents_ok) (Nm.fns_ok) (Nm.excs_ok)
    obtain ⟨x, fd, sp, h1, h2, h3⟩ := Nm.law_of (P := (PySem.Challenge.rw_nearmeets_k03_refused_rules).prog) (w := w) (k := 419) (N := 40) wd (by decide +kernel) rfl hmg Nm.law_ev
    exact ⟨K, x, fd, sp, KX, h1, h2, h3⟩
