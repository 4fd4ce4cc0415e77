import PyProof.Rows.All
import Wide.All
import OpenK.AllK
import Wide.FinOn
import HandS.ForMost
import HandS.ForExc
import HandS.IsInst
import HandS.ExcInit
import HandS.ExcValue
import KE.KExcIs
import HandS.TupAny
import HandS.SortInts
import HandS.Gcd
import HandS.Wide
import HandS.Strs
import HandS.Conv
import HandS.SetFor
import HandS.Zip
import HandS.Style
import KE.GoesEnum
import KE.GoesMore
import KE.DataAny
import HandS.TryOnly
import HandS.ExcField
import HandS.WordsExc
import HandS.TupMul
import KE.SortKeyHeap
import KE.SortData
import PySem.Challenge.RW_wholetowers_k00_errors
set_option Elab.async false
set_option linter.all false
set_option maxRecDepth 100000
set_option autoImplicit false
/-! Mi: a small evaluator over plain data (values, lists by ownership), for the fragment in which the program is written. -/
namespace Mi
abbrev Str := PySem.Str

/-- plain data -/
inductive D where
  | non | bl (b : Bool) | int (i : Int) | str (s : Str)
  | tup (xs : List D) | tupn (xs : List D) | lst (xs : List D)
  | exc (c : Nat) (v : D) | scr (ns : List Int)
  deriving Inhabited
/-- frozen; owned; owned by a caller -/
inductive Fl where
  | frz | own | bor
  deriving DecidableEq, Inhabited
abbrev MS := List (Option (D × Fl))
inductive R (α : Type) where
  | ok (a : α) (m : MS)
  | err (c : Nat) (v : D) (m : MS)
  | bad
abbrev M (α : Type) := MS → R α
def M.bnd {α β : Type} (x : M α) (f : α → M β) : M β := fun m => match x m with
  | .ok a m' => f a m'
  | .err c v m' => .err c v m'
  | .bad => .bad
def M.ret {α : Type} (a : α) : M α := fun m => .ok a m
instance : Monad M where
  pure := M.ret
  bind := M.bnd
def fail {α : Type} : M α := fun _ => .bad
def liftO {α : Type} : Option α → M α
  | some a => M.ret a
  | none => fail
theorem bind_ok {α β : Type} {x : M α} {f : α → M β} {m m' : MS} {a : α} (h : x m = .ok a m') : (x >>= f) m = f a m' := by
  show M.bnd x f m = _
  unfold M.bnd
  rw [h]
theorem bind_run {α β : Type} (x : M α) (f : α → M β) (m : MS) : (x >>= f) m = match x m with
  | .ok a m' => f a m'
  | .err c v m' => .err c v m'
  | .bad => .bad := rfl
theorem pure_run {α : Type} (a : α) (m : MS) : (pure a : M α) m = .ok a m := rfl

/-! ### operations by values -/
inductive Op where
  | add | sub | mul | fdiv | mod | pow | band
  deriving DecidableEq
inductive Cm where
  | eq | ne | lt | le | gt | ge | isN | notN | isin | notin
  deriving DecidableEq
inductive Bi where
  | len | tuple | list | sorted | sum | min | max | any | all | abs | int | gcd | divmod
  deriving DecidableEq
inductive Ty where
  | int | bool | str | tuple | list | cls (c : Nat) | valueError
  deriving DecidableEq
/-- methods that leave their object as it is -/
inductive Me where
  | index | count
  deriving DecidableEq
/-- methods that change a list -/
inductive Mu where
  | append | pop | remove | extend
  deriving DecidableEq

def LINE : Nat := 16000000
/-- a product that the model carries -/
def mulOk (i j : Int) : Bool := decide (i.natAbs ≤ 18446744073709551615) || decide (j.natAbs ≤ 18446744073709551615) || decide (i.natAbs.log2 + j.natAbs.log2 < 1000000)
def divOk (j : Int) : Bool := decide (j ≠ 0) && (decide (j.natAbs < 1073741824) || decide (j.natAbs.log2 < 9000))
def dmOk (j : Int) : Bool := divOk j
def powOk (i j : Int) : Bool := decide (0 ≤ j) && decide (j ≤ 1000000) && decide (i.natAbs ≤ 18446744073709551615)

mutual
def eqD : D → D → Bool
  | .non, .non => true
  | .bl a, .bl b => a == b
  | .bl a, .int j => (if a then 1 else 0) == j
  | .int i, .bl b => i == (if b then 1 else 0)
  | .int i, .int j => i == j
  | .str x, .str y => x == y
  | .lst xs, .lst ys => eqDs xs ys
  | .tup xs, .tup ys => eqDs xs ys
  | _, _ => false
def eqDs : List D → List D → Bool
  | [], [] => true
  | x :: xs, y :: ys => eqD x y && eqDs xs ys
  | _, _ => false
end
mutual
/-- how deep data lies; what may be compared by == -/
def depD : D → Nat
  | .tup xs => depDs xs + 1
  | .lst xs => depDs xs + 1
  | _ => 0
def depDs : List D → Nat
  | [] => 0
  | x :: xs => max (depD x) (depDs xs)
end
def strOk (x : Str) : Bool := PySem.PyData.canLay0 (.str x)
mutual
def cmpOk : D → Bool
  | .non => true
  | .bl _ => true
  | .int _ => true
  | .str x => strOk x
  | .tup xs => cmpOks xs
  | .lst xs => cmpOks xs
  | .tupn _ => false
  | .exc _ _ => false
  | .scr _ => false
def cmpOks : List D → Bool
  | [] => true
  | x :: xs => cmpOk x && cmpOks xs
end
/-- what may be sought in a list by == -/
def inOk (x : D) (ys : List D) : Bool := cmpOk x && cmpOks ys && decide (depD x ≤ 60) && decide (depDs ys ≤ 60)
def flatD : D → Bool
  | .non => true
  | .bl _ => true
  | .int _ => true
  | .str _ => true
  | _ => false
def intsOf : List D → Option (List Int)
  | [] => some []
  | .int i :: r => (intsOf r).map (i :: ·)
  | _ :: _ => none
def blsOf : List D → Option (List Bool)
  | [] => some []
  | .bl i :: r => (blsOf r).map (i :: ·)
  | _ :: _ => none
def insI (x : Int) : List Int → List Int
  | [] => [x]
  | y :: r => if x ≤ y then x :: y :: r else y :: insI x r
def sortI : List Int → List Int
  | [] => []
  | x :: r => insI x (sortI r)
def ltDs : List Int → List Int → Bool
  | [], [] => false
  | [], _ :: _ => true
  | _ :: _, [] => false
  | x :: xs, y :: ys => if x = y then ltDs xs ys else decide (x < y)

def op2 : Op → D → D → Option (D × Bool)
  | .add, .int i, .int j => some (.int (i + j), false)
  | .add, .tup xs, .tup ys => if xs.length + ys.length ≤ LINE then some (.tup (xs ++ ys), false) else none
  | .add, .lst xs, .lst ys => if xs.length + ys.length ≤ LINE then some (.lst (xs ++ ys), true) else none
  | .sub, .int i, .int j => some (.int (i - j), false)
  | .mul, .int i, .int j => if mulOk i j then some (.int (i * j), false) else none
  | .mul, .lst xs, .int k => if -(2 ^ 63) ≤ k ∧ k.toNat ≤ LINE ∧ xs.length * k.toNat ≤ LINE then some (.lst (List.replicate k.toNat xs).flatten, true) else none
  | .mul, .tup xs, .int k => if -(2 ^ 63) ≤ k ∧ k ≤ 1000000 ∧ xs.length * k.toNat ≤ 1000000 then some (.tup (List.replicate k.toNat xs).flatten, false) else none
  | .fdiv, .int i, .int j => if divOk j then some (.int (i.fdiv j), false) else none
  | .mod, .int i, .int j => if j ≠ 0 then some (.int (i.fmod j), false) else none
  | .pow, .int i, .int j => if powOk i j then some (.int (i ^ j.toNat), false) else none
  | .band, .int i, .int j => some (.int (PySem.Builtin.bitAnd i j), false)
  | _, _, _ => none
def cm2 : Cm → D → D → Option Bool
  | .eq, a, b => if cmpOk a && cmpOk b && decide (depD a ≤ 60) && decide (depD b ≤ 60) then some (eqD a b) else none
  | .ne, a, b => if cmpOk a && cmpOk b && decide (depD a ≤ 60) && decide (depD b ≤ 60) then some (!eqD a b) else none
  | .lt, .int i, .int j => some (decide (i < j))
  | .le, .int i, .int j => some (decide (i ≤ j))
  | .gt, .int i, .int j => some (decide (j < i))
  | .ge, .int i, .int j => some (decide (j ≤ i))
  | .isN, a, .non => some (match a with | .non => true | _ => false)
  | .notN, a, .non => some (match a with | .non => false | _ => true)
  | .isN, .bl a, .bl b => some (a == b)
  | .notN, .bl a, .bl b => some (!(a == b))
  | .isin, x, .lst ys => if (flatD x && ys.all flatD) || inOk x ys then some (ys.any fun y => eqD y x) else none
  | .isin, x, .tup ys => if (flatD x && ys.all flatD) || inOk x ys then some (ys.any fun y => eqD y x) else none
  | .notin, x, .lst ys => if (flatD x && ys.all flatD) || inOk x ys then some (!(ys.any fun y => eqD y x)) else none
  | .notin, x, .tup ys => if (flatD x && ys.all flatD) || inOk x ys then some (!(ys.any fun y => eqD y x)) else none
  | _, _, _ => none
/-- the place of an index -/
def ixN (n : Nat) (i : Int) : Option Nat := if 0 ≤ i then (if i < n then some i.toNat else none) else if -(n : Int) ≤ i then some (i + n).toNat else none
def atL (xs : List D) (i : Int) : Option D := (ixN xs.length i).bind fun j => xs[j]?
def ix2 : D → D → Option D
  | .lst xs, .int i => atL xs i
  | .tup xs, .int i => atL xs i
  | .scr ns, .int i => (ixN ns.length i).bind fun j => (ns[j]?).map D.int
  | _, _ => none
def cutD (xs : List D) (lo hi : Option Int) : List D := (xs.drop (HT.sIx xs.length 0 lo)).take (HT.sIx xs.length xs.length hi - HT.sIx xs.length 0 lo)
def slD (lo hi : Option Int) : D → Option (D × Bool)
  | .lst xs => some (.lst (cutD xs lo hi), true)
  | .tup xs => some (.tup (cutD xs lo hi), false)
  | _ => none
def firstIx (y : D) : List D → Nat → Option Nat
  | [], _ => none
  | x :: xs, k => if eqD x y then some k else firstIx y xs (k + 1)
def minI : List Int → Option Int
  | [] => none
  | [x] => some x
  | x :: r => (minI r).map fun m => if x ≤ m then x else m
def maxI : List Int → Option Int
  | [] => none
  | [x] => some x
  | x :: r => (maxI r).map fun m => if m ≤ x then x else m
def seqOf : D → Option (List D)
  | .lst xs => some xs
  | .tup xs => some xs
  | .scr ns => some (ns.map D.int)
  | _ => none
def biA : Bi → D → Option (D × Bool)
  | .len, d => (seqOf d).map fun xs => (.int xs.length, false)
  | .tuple, d => (seqOf d).map fun xs => (.tup xs, false)
  | .list, d => (seqOf d).map fun xs => (.lst xs, true)
  | .sorted, .lst xs => (intsOf xs).map fun ns => (.lst ((sortI ns).map D.int), true)
  | .sorted, .tup xs => (intsOf xs).map fun ns => (.lst ((sortI ns).map D.int), true)
  | .sum, .lst xs => (intsOf xs).map fun ns => (.int ns.sum, false)
  | .min, .lst xs => ((intsOf xs).bind minI).map fun m => (.int m, false)
  | .max, .lst xs => ((intsOf xs).bind maxI).map fun m => (.int m, false)
  | .any, .lst xs => match blsOf xs with
    | some bs => some (.bl (bs.any id), false)
    | none => (intsOf xs).map fun ns => (.bl (ns.any (· != 0)), false)
  | .all, .lst xs => (blsOf xs).map fun bs => (.bl (bs.all id), false)
  | .abs, .int i => some (.int (if i < 0 then -i else i), false)
  | .int, .int i => some (.int i, false)
  | .int, .bl b => some (.int (if b then 1 else 0), false)
  | _, _ => none
def biB : Bi → D → D → Option (D × Bool)
  | .min, .int i, .int j => some (.int (if j < i then j else i), false)
  | .max, .int i, .int j => some (.int (if j > i then j else i), false)
  | .gcd, .int i, .int j => some (.int (Int.gcd i j), false)
  | .divmod, .int i, .int j => if dmOk j then some (.tupn [.int (i.fdiv j), .int (i.fmod j)], false) else none
  | _, _, _ => none
def bi1 (b : Bi) : List D → Option (D × Bool)
  | [x] => biA b x
  | [x, y] => biB b x y
  | _ => none
def me1 : Me → D → List D → Option D
  | .index, .tup xs, [y] => if flatD y && xs.all flatD then (firstIx y xs 0).map fun k => .int (k : Nat) else none
  | .index, .lst xs, [y] => if flatD y && xs.all flatD then (firstIx y xs 0).map fun k => .int (k : Nat) else none
  | .count, .lst xs, [y] => if flatD y && xs.all flatD then some (.int ((xs.countP fun z => eqD z y : Nat) : Int)) else none
  | _, _, _ => none
def mtOk : Me → D → Option Unit
  | _, .lst _ => some ()
  | .index, .tup _ => some ()
  | _, _ => none
/-- what a list becomes, what is handed back -/
def mu1 : Mu → List D → List D → Option (List D × D)
  | .append, xs, [y] => if xs.length < LINE then some (xs ++ [y], .non) else none
  | .pop, xs, [] => (xs.getLast?).map fun y => (xs.dropLast, y)
  | .pop, xs, [.int i] => (ixN xs.length i).bind fun k => (xs[k]?).map fun y => (xs.eraseIdx k, y)
  | .remove, xs, [.int y] => (intsOf xs).bind fun ns => (firstIx (.int y) xs 0).map fun k => (xs.eraseIdx k, .non)
  | .extend, xs, [.lst ys] => if xs.length + ys.length ≤ LINE then some (xs ++ ys, .non) else none
  | _, _, _ => none
def isT (sub : Nat → Nat → Bool) : Ty → D → Option Bool
  | .cls c, .exc c' _ => some (sub c' c)
  | .valueError, .exc _ _ => some true
  | _, .exc _ _ => none
  | .int, d => some (match d with | .int _ => true | .bl _ => true | _ => false)
  | .bool, d => some (match d with | .bl _ => true | _ => false)
  | .str, d => some (match d with | .str _ => true | _ => false)
  | .tuple, d => some (match d with | .tup _ => true | .tupn _ => true | _ => false)
  | .list, d => some (match d with | .lst _ => true | .scr _ => true | _ => false)
  | _, _ => none
def rangeD (lo hi : Int) : List D := (List.range (hi - lo).toNat).map fun (k : Nat) => D.int (lo + k)

/-- what kind a thing is said to be -/
inductive Kd where
  | any | non | bl | int | str | tup | lst
  deriving DecidableEq
def kdOk : Kd → D → Bool
  | .any, _ => true
  | .non, .non => true
  | .bl, .bl _ => true
  | .int, .int _ => true
  | .str, .str _ => true
  | .tup, .tup _ => true
  | .lst, .lst _ => true
  | _, _ => false
def owOk : Option Bool → Bool → Bool
  | some true, b => b
  | _, _ => true
/-- some false: it is nobody's own from now on -/
def owTo : Option Bool → Bool → Bool
  | some false, _ => false
  | _, b => b
/-! ### the language -/
mutual
inductive T where
  | nm (i : Nat)
  | tp (ts : Ts)
inductive Ts where
  | nil
  | cons (t : T) (ts : Ts)
end
mutual
inductive E where
  | var (i : Nat)
  | non | bl (b : Bool) | int (i : Int) | str (s : Str)
  | glb (g : Nat)
  | tup (es : Es) | lst (es : Es)
  | op (o : Op) (a b : E)
  | neg (a : E)
  | cmp (o : Cm) (a b : E)
  | chn (o p : Cm) (a b c : E)
  | land (a b : E) | lor (a b : E) | lnot (a : E)
  | ife (c a b : E)
  | idx (a i : E)
  | slc (a : E) (lo hi : Eo)
  | rev (a : E)
  | call (f : Nat) (es : Es)
  | callk (f : Nat) (ord : List Nat) (es ks : Es)
  | bi (b : Bi) (es : Es)
  | rlist (t : Bool) (es : Es)
  | isi (a : E) (ts : List Ty)
  | me (m : Me) (a : E) (es : Es)
  | mu (m : Mu) (i : Nat) (es : Es)
  | comp (vs : List Nat) (t : T) (it : I) (cs : Es) (elt : E)
  | valOf (a : E)
  | srtl (a : E)
  | sset (a : E)
  | as (κ : Kd) (o : Option Bool) (a : E)
  | bad
inductive Es where
  | nil
  | cons (e : E) (es : Es)
inductive Eo where
  | none
  | some (e : E)
inductive I where
  | ex (e : E)
  | lend (i : Nat)
  | range (es : Es)
  | enum (e : E)
  | zip (a b : E)
end
mutual
inductive S where
  | asg (t : T) (e : E)
  | par (is : List Nat) (es : Es)
  | aug (i : Nat) (o : Op) (e : E)
  | seti (i : Nat) (ix e : E)
  | augi (i : Nat) (ix : E) (o : Op) (e : E)
  | expr (e : E)
  | ret (e : E) | retN
  | ifs (c : E) (a b : Ss)
  | whl (c : E) (b : Ss)
  | frr (t : T) (it : I) (b : Ss)
  | raise (c : Nat) (e : E)
  | tryAs (b : Ss) (c : Nat) (i j : Nat)
  | tryN (b : Ss) (c : Nat) (j : Nat)
  | pss | brk | cnt | bad
  | hint (ds fs : List Nat) (ks : List (Nat × Kd))
  | whlp (c : E) (b : Ss)
inductive Ss where
  | nil
  | cons (s : S) (ss : Ss)
end

/-! ### what it does -/
/-- a call's end: the value, whether it is the caller's own, the lists that were lent -/
inductive CR where
  | ok (d : D) (own : Bool) (outs : List (Option D))
  | err (c : Nat) (v : D)
  | bad
inductive Fw where
  | nx | bk | ct
  | rt (d : D) (own : Bool)
structure Calls where
  call : Nat → List (D × Fl) → CR
  glob : Nat → Option D
  io : Nat → Nat → Bool
  sub : Nat → Nat → Bool
  whl : M Bool → M Fw → M Fw
inductive A where
  | val (d : D) (own : Bool)
  | lend (i : Nat)

def rdV (i : Nat) : M (D × Bool) := fun m => match m[i]? with
  | some (some (d, .frz)) => .ok (d, false) m
  | some (some (d, _)) => .ok (d, false) (m.set i (some (d, .frz)))
  | _ => .bad
/-- the last read of a name: its list is handed on -/
def mvV (i : Nat) : M (D × Bool) := fun m => match m[i]? with
  | some (some (d, .frz)) => .ok (d, false) m
  | some (some (d, .own)) => .ok (d, true) (m.set i none)
  | some (some (d, .bor)) => .ok (d, false) (m.set i (some (d, .frz)))
  | _ => .bad
def stV (i : Nat) (d : D) (f : Fl) : M Unit := fun m => match m[i]? with
  | some (some (_, .bor)) => .bad
  | some _ => .ok () (m.set i (some (d, f)))
  | none => .bad
def argV (i : Nat) : M A := fun m => match m[i]? with
  | some (some (d, .frz)) => .ok (.val d false) m
  | some (some (_, _)) => .ok (.lend i) m
  | _ => .bad
def rdA : A → M D
  | .val d _ => M.ret d
  | .lend i => fun m => match m[i]? with
    | some (some (d, _)) => .ok d m
    | _ => .bad
def rdAs : List A → M (List D)
  | [] => M.ret []
  | a :: as => do
    let d ← rdA a
    let ds ← rdAs as
    pure (d :: ds)
/-- an operand: a name's own list is read when the operation is done -/
def argOf (e : E) (x : M (D × Bool)) : M A := match e with
  | .var i => argV i
  | _ => do
    let p ← x
    pure (.val p.1 p.2)
/-- a name that holds something -/
def hasV (i : Nat) : M Unit := fun m => match m[i]? with
  | some (some (.lst _, f)) => if f = .frz then .bad else .ok () m
  | _ => .bad
/-- a list of this frame's own is changed -/
def updL {α : Type} (i : Nat) (f : List D → Option (List D × α)) : M α := fun m => match m[i]? with
  | some (some (.lst xs, fl)) => if fl = .frz then .bad else match f xs with
    | some (ys, a) => .ok a (m.set i (some (.lst ys, fl)))
    | none => .bad
  | _ => .bad
def inArgs (m : MS) : List A → Option (List (D × Fl))
  | [] => some []
  | .val d own :: as => (inArgs m as).map fun r => (d, if own then .own else .frz) :: r
  | .lend i :: as => match m[i]? with
    | some (some (d, .frz)) => (inArgs m as).map fun r => (d, .frz) :: r
    | some (some (d, _)) => (inArgs m as).map fun r => (d, .bor) :: r
    | _ => none
/-- the slots that are lent, with what they are -/
def lends (m : MS) : List A → List (Nat × Fl)
  | [] => []
  | .val _ _ :: as => lends m as
  | .lend i :: as => match m[i]? with
    | some (some (_, .frz)) => lends m as
    | some (some (_, f)) => (i, f) :: lends m as
    | _ => lends m as
def noLend (i : Nat) : List A → Bool
  | [] => true
  | .val _ _ :: as => noLend i as
  | .lend j :: as => decide (i ≠ j) && noLend i as
def lendOk : List A → Bool
  | [] => true
  | .val _ _ :: as => lendOk as
  | .lend i :: as => noLend i as && lendOk as
def poison : List (Nat × Fl) → MS → MS
  | [], m => m
  | (i, _) :: is, m => poison is (m.set i none)
def putBack : List (Nat × Fl) → List (Option D) → MS → Option MS
  | [], [], m => some m
  | (i, f) :: is, some d :: outs, m => putBack is outs (m.set i (some (d, f)))
  | _ :: is, none :: outs, m => putBack is outs m
  | _, _, _ => none
def callM (C : Calls) (f : Nat) (as : List A) : M (D × Bool) := fun m =>
  match inArgs m as with
  | none => .bad
  | some args => if lendOk as then match C.call f args with
      | .ok d own outs => match putBack (lends m as) outs (poison (lends m as) m) with
        | some m' => .ok (d, own) m'
        | none => .bad
      | .err c v => .err c v (poison (lends m as) m)
      | .bad => .bad
    else .bad
def pick {α : Type} (xs : List α) : List Nat → Option (List α)
  | [] => some []
  | k :: ks => match xs[k]?, pick xs ks with
    | some x, some r => some (x :: r)
    | _, _ => none
mutual
def setT : T → D → M Unit
  | .nm i, d => stV i d .frz
  | .tp ts, d => match d with
    | .tup xs => setTs ts xs
    | .tupn xs => setTs ts xs
    | .lst xs => setTs ts xs
    | _ => fail
def setTs : Ts → List D → M Unit
  | .nil, [] => M.ret ()
  | .cons t ts, x :: xs => do
    setT t x
    setTs ts xs
  | _, _ => fail
end
def asB : D → M Bool
  | .bl b => M.ret b
  | _ => fail
def wipeM (m : MS) : List Nat → MS
  | [] => m
  | v :: vs => (wipeM m vs).set v none
/-- the block's own names get back what they held -/
def backM (m0 : MS) : List Nat → MS → MS
  | [], m => m
  | v :: vs, m => (backM m0 vs m).set v ((m0[v]?).getD none)
def compL (vs : List Nat) (tg : D → M Unit) (cd : M Bool) (el : M (D × Bool)) : List D → List D → M (List D)
  | [], acc => M.ret acc
  | x :: xs, acc => do
    tg x
    let b ← cd
    if b then
      let p ← el
      fun m => compL vs tg cd el xs (acc ++ [p.1]) (wipeM m vs)
    else fun m => compL vs tg cd el xs acc (wipeM m vs)
def compM (vs : List Nat) (xs : List D) (tg : D → M Unit) (cd : M Bool) (el : M (D × Bool)) : M (D × Bool) := fun m =>
  if xs.length ≤ LINE then match compL vs tg cd el xs [] (wipeM m vs) with
  | .ok acc m' => .ok (.lst acc, true) (backM m vs m')
  | _ => .bad
  else .bad
def lenN : D → Nat
  | .tup xs => xs.length
  | .lst xs => xs.length
  | _ => 0
def isSeq : D → Bool
  | .tup _ => true
  | .lst _ => true
  | _ => false
def leLen (a b : D) : Bool := decide (lenN a ≤ lenN b)
/-- sorted by lengths -/
def srtLen : D → Option (List D)
  | .lst xs => if xs.all isSeq = true then some (xs.mergeSort leLen) else none
  | _ => none
/-- without the double ones of a row in order -/
def nubI : List Int → List Int
  | [] => []
  | x :: r => match r with
    | [] => [x]
    | y :: _ => if x = y then nubI r else x :: nubI r
/-- sorted(set(t)) -/
def srtSet : D → Option (List D)
  | .tup xs => if xs.length ≤ 1000 then (intsOf xs).map fun ns => (nubI (sortI ns)).map D.int else none
  | _ => none
def zipD : List D → List D → List D
  | x :: xs, y :: ys => .tupn [x, y] :: zipD xs ys
  | _, _ => []
def zip2 : D → D → Option (List D)
  | .lst xs, .lst ys => some (zipD xs ys)
  | .tup xs, .tup ys => some (zipD xs ys)
  | _, _ => none
def enumD : Nat → List D → List D
  | _, [] => []
  | k, x :: xs => .tupn [.int k, x] :: enumD (k + 1) xs
def isAny (sub : Nat → Nat → Bool) (d : D) : List Ty → Option Bool
  | [] => some false
  | t :: ts => match isT sub t d with
    | none => none
    | some true => some true
    | some false => isAny sub d ts
def oInt : D → Option Int
  | .int i => some i
  | _ => none
def rangeL : List D → Option (List D)
  | [.int n] => if -(2 ^ 62) ≤ n ∧ n ≤ LINE then some (rangeD 0 n) else none
  | [.int a, .int b] => if -(2 ^ 61) ≤ a ∧ a ≤ 2 ^ 61 ∧ -(2 ^ 61) ≤ b ∧ b ≤ 2 ^ 61 ∧ b - a ≤ LINE then some (rangeD a b) else none
  | _ => none
def rangeO : List D → Option (List D)
  | [.int n] => if -(2 ^ 61) ≤ n ∧ n ≤ 2 ^ 61 then some (rangeD 0 n) else none
  | [.int a, .int b] => if -(2 ^ 61) ≤ a ∧ a ≤ 2 ^ 61 ∧ -(2 ^ 61) ≤ b ∧ b ≤ 2 ^ 61 then some (rangeD a b) else none
  | [.int a, .int b, .int c] => if c = -1 ∧ -(2 ^ 61) ≤ a ∧ a ≤ 2 ^ 61 ∧ -(2 ^ 61) ≤ b ∧ b ≤ 2 ^ 61 then some ((List.range (a - b).toNat).map fun (k : Nat) => D.int (a - k)) else none
  | _ => none
mutual
def ev (C : Calls) : E → M (D × Bool)
  | .var i => rdV i
  | .non => M.ret (.non, false)
  | .bl b => M.ret (.bl b, false)
  | .int i => M.ret (.int i, false)
  | .str s => M.ret (.str s, false)
  | .glb g => do
    let d ← liftO (C.glob g)
    pure (d, false)
  | .tup es => do
    let ds ← evFs C es
    pure (.tup ds, false)
  | .lst es => do
    let ds ← evFs C es
    pure (.lst ds, true)
  | .op o a b => do
    let x ← argOf a (ev C a)
    let y ← argOf b (ev C b)
    let dx ← rdA x
    let dy ← rdA y
    liftO (op2 o dx dy)
  | .neg a => do
    let p ← ev C a
    let i ← liftO (oInt p.1)
    pure (.int (-i), false)
  | .cmp o a b => do
    let x ← argOf a (ev C a)
    let y ← argOf b (ev C b)
    let dx ← rdA x
    let dy ← rdA y
    let r ← liftO (cm2 o dx dy)
    pure (.bl r, false)
  | .chn o p a b c => do
    let x ← argOf a (ev C a)
    let y ← argOf b (ev C b)
    let dx ← rdA x
    let dy ← rdA y
    let r ← liftO (cm2 o dx dy)
    if r then
      let z ← argOf c (ev C c)
      let dy ← rdA y
      let dz ← rdA z
      let q ← liftO (cm2 p dy dz)
      pure (.bl q, false)
    else pure (.bl false, false)
  | .land a b => do
    let p ← ev C a
    let x ← asB p.1
    if x then ev C b else pure (.bl false, false)
  | .lor a b => do
    let p ← ev C a
    let x ← asB p.1
    if x then pure (.bl true, false) else ev C b
  | .lnot a => do
    let p ← ev C a
    let x ← asB p.1
    pure (.bl (!x), false)
  | .ife c a b => do
    let p ← ev C c
    let x ← asB p.1
    if x then ev C a else ev C b
  | .idx a i => do
    let x ← argOf a (ev C a)
    let y ← argOf i (ev C i)
    let dx ← rdA x
    let dy ← rdA y
    let r ← liftO (ix2 dx dy)
    pure (r, false)
  | .slc a lo hi => do
    let x ← argOf a (ev C a)
    let l ← evO C lo
    let h ← evO C hi
    let dx ← rdA x
    liftO (slD l h dx)
  | .rev a => do
    let x ← argOf a (ev C a)
    let dx ← rdA x
    match dx with
    | .lst xs => pure (.lst xs.reverse, true)
    | .tup xs => pure (.tup xs.reverse, false)
    | _ => fail
  | .call f es => do
    let as ← evCs C f 0 es
    callM C f as
  | .callk f ord es ks => do
    let as ← evFs C es
    let bs ← evFs C ks
    let cs ← liftO (pick (as ++ bs) ord)
    callM C f (cs.map fun d => .val d false)
  | .bi b es => do
    let as ← evAs C es
    let ds ← rdAs as
    liftO (bi1 b ds)
  | .rlist t es => do
    let ds ← evFs C es
    let xs ← liftO (rangeL ds)
    pure (if t then (.tup xs, false) else (.lst xs, true))
  | .isi a ts => do
    let x ← argOf a (ev C a)
    let d ← rdA x
    let b ← liftO (isAny C.sub d ts)
    pure (.bl b, false)
  | .me m a es => do
    let p ← ev C a
    let _ ← liftO (mtOk m p.1)
    let ds ← evFs C es
    let r ← liftO (me1 m p.1 ds)
    pure (r, false)
  | .mu m i es => do
    hasV i
    let ds ← evFs C es
    let r ← updL i fun xs => mu1 m xs ds
    pure (r, false)
  | .comp vs t it cs elt => do
    let xs ← evI C it
    compM vs xs (setT t) (evB C cs) (ev C elt)
  | .valOf a => do
    let p ← ev C a
    match p.1 with
    | .exc _ v => pure (v, false)
    | _ => fail
  | .srtl a => do
    let x ← argOf a (ev C a)
    let d ← rdA x
    let xs ← liftO (srtLen d)
    pure (.lst xs, true)
  | .sset a => do
    let x ← argOf a (ev C a)
    let d ← rdA x
    let xs ← liftO (srtSet d)
    pure (.lst xs, true)
  | .as κ o a => do
    let p ← ev C a
    if kdOk κ p.1 && owOk o p.2 then pure (p.1, owTo o p.2) else fail
  | .bad => fail
def evFs (C : Calls) : Es → M (List D)
  | .nil => M.ret []
  | .cons e es => do
    let p ← ev C e
    let ds ← evFs C es
    pure (p.1 :: ds)
def evAs (C : Calls) : Es → M (List A)
  | .nil => M.ret []
  | .cons e es => do
    let a ← argOf e (ev C e)
    let as ← evAs C es
    pure (a :: as)
/-- a call's arguments: the lent ones where the def changes them -/
def evCs (C : Calls) (f : Nat) : Nat → Es → M (List A)
  | _, .nil => M.ret []
  | k, .cons e es => do
    let a ← (if C.io f k then argOf e (ev C e) else do
      let p ← ev C e
      pure (A.val p.1 p.2))
    let as ← evCs C f (k + 1) es
    pure (a :: as)
/-- the tests of a comprehension -/
def evB (C : Calls) : Es → M Bool
  | .nil => M.ret true
  | .cons e es => do
    let p ← ev C e
    let b ← asB p.1
    if b then evB C es else pure false
def evO (C : Calls) : Eo → M (Option Int)
  | .none => M.ret none
  | .some e => do
    let p ← ev C e
    let i ← liftO (oInt p.1)
    pure (some i)
def evI (C : Calls) : I → M (List D)
  | .ex e => do
    let p ← ev C e
    liftO (seqOf p.1)
  | .lend _ => fail
  | .range es => do
    let ds ← evFs C es
    liftO (rangeO ds)
  | .enum e => do
    let p ← ev C e
    liftO ((seqOf p.1).map (enumD 0))
  | .zip a b => do
    let p ← ev C a
    let q ← ev C b
    liftO (zip2 p.1 q.1)
end
def evMv (C : Calls) : E → M (D × Bool)
  | .var i => mvV i
  | e => ev C e
/-- several names at once -/
def evRs (C : Calls) : Es → M (List (D × Bool))
  | .nil => M.ret []
  | .cons e es => do
    let p ← ev C e
    let ps ← evRs C es
    pure (p :: ps)
def stVs : List Nat → List (D × Bool) → M Unit
  | [], [] => M.ret ()
  | i :: is, (d, b) :: ps => do
    stV i d (if b then .own else .frz)
    stVs is ps
  | _, _ => fail
def forL (tg : D → M Unit) (body : M Fw) : List D → M Fw
  | [] => M.ret .nx
  | x :: xs => do
    tg x
    let f ← body
    match f with
    | .bk => pure .nx
    | .rt d o => pure (.rt d o)
    | _ => forL tg body xs
def aug2 : Op → D → D → Option D
  | .add, .int i, .int j => some (.int (i + j))
  | .sub, .int i, .int j => some (.int (i - j))
  | .mul, .int i, .int j => if mulOk i j then some (.int (i * j)) else none
  | .fdiv, .int i, .int j => if 0 < j ∧ j < 1073741824 then some (.int (i / j)) else none
  | .mod, .int i, .int j => if 0 < j then some (.int (i % j)) else none
  | _, _, _ => none
def clrV (i : Nat) : M Fw := fun m => .ok .nx (m.set i none)
def dropM : List Nat → MS → MS
  | [], m => m
  | i :: is, m => dropM is (m.set i none)
def frzM : List Nat → MS → MS
  | [], m => m
  | i :: is, m => frzM is (match m[i]? with
    | some (some (d, _)) => m.set i (some (d, .frz))
    | _ => m)
def kindM (m : MS) : List (Nat × Kd) → Bool
  | [] => true
  | (i, κ) :: r => (match m[i]? with
    | some (some (d, _)) => kdOk κ d
    | _ => false) && kindM m r
/-- said of the slots, nothing done -/
def hintM (ds fs : List Nat) (ks : List (Nat × Kd)) : M Fw := fun m => if kindM m ks then .ok .nx (frzM fs (dropM ds m)) else .bad
/-- except c as i: j = i -/
def caughtAs (i j : Nat) (c : Nat) (v : D) : M Fw := do
  stV j (.exc c v) .frz
  clrV i
/-- except c: j = None -/
def caughtN (j : Nat) : M Fw := do
  stV j .non .frz
  pure .nx
mutual
def exec (C : Calls) : S → M Fw
  | .asg t e => match t with
    | .nm i => do
      let p ← ev C e
      stV i p.1 (if p.2 then .own else .frz)
      pure .nx
    | .tp ts => do
      let p ← ev C e
      setT (.tp ts) p.1
      pure .nx
  | .par is es => do
    let ps ← evRs C es
    stVs is ps
    pure .nx
  | .aug i o e => do
    let p ← rdV i
    let q ← ev C e
    let d ← liftO (aug2 o p.1 q.1)
    stV i d .frz
    pure .nx
  | .seti i ix e => do
    let p ← ev C e
    hasV i
    let q ← ev C ix
    let k ← liftO (oInt q.1)
    updL i fun xs => (ixN xs.length k).map fun j => (xs.set j p.1, ())
    pure .nx
  | .augi i ix o e => do
    hasV i
    let q ← ev C ix
    let k ← liftO (oInt q.1)
    let old ← updL i fun xs => (atL xs k).map fun x => (xs, x)
    let p ← ev C e
    let d ← liftO (aug2 o old p.1)
    updL i fun xs => (ixN xs.length k).map fun j => (xs.set j d, ())
    pure .nx
  | .expr e => do
    let _ ← ev C e
    pure .nx
  | .ret e => do
    let p ← evMv C e
    pure (.rt p.1 p.2)
  | .retN => pure (.rt .non false)
  | .ifs c a b => do
    let p ← ev C c
    let x ← asB p.1
    if x then execs C a else execs C b
  | .whl c b => C.whl (do
      let p ← ev C c
      asB p.1) (execs C b)
  | .frr t it b => do
    let xs ← evI C it
    forL (setT t) (execs C b) xs
  | .raise c e => do
    let p ← ev C e
    fun m => .err c p.1 m
  | .tryAs b c i j => fun m => match execs C b m with
    | .err c' v m' => if C.sub c' c then caughtAs i j c' v m' else .err c' v m'
    | r => r
  | .tryN b c j => fun m => match execs C b m with
    | .err c' v m' => if C.sub c' c then caughtN j m' else .err c' v m'
    | r => r
  | .pss => pure .nx
  | .brk => pure .bk
  | .cnt => pure .ct
  | .bad => fail
  | .hint ds fs ks => hintM ds fs ks
  | .whlp c b => C.whl (do
      let p ← ev C c
      asB p.1) (execs C b)
def execs (C : Calls) : Ss → M Fw
  | .nil => pure .nx
  | .cons s ss => do
    let f ← exec C s
    match f with
    | .nx => execs C ss
    | f => pure f
end
structure Fn where
  np : Nat
  ns : Nat
  body : Ss
/-- what the lent lists are at the end; none: not to be told any more -/
def outsOf (m : MS) : Nat → List (D × Fl) → List (Option D)
  | _, [] => []
  | k, (_, .bor) :: r => (match m[k]? with
    | some (some (d, .bor)) => some d
    | _ => none) :: outsOf m (k + 1) r
  | k, _ :: r => outsOf m (k + 1) r
def runFn (C : Calls) (fn : Fn) (args : List (D × Fl)) : CR :=
  if args.length = fn.np then
    match execs C fn.body (args.map some ++ List.replicate (fn.ns - fn.np) none) with
    | .ok (.rt d o) m => .ok d o (outsOf m 0 args)
    | .ok .nx m => .ok .non false (outsOf m 0 args)
    | .err c v _ => .err c v
    | _ => .bad
  else .bad
structure Prog where
  fns : List Fn
  glob : Nat → Option D
  io : Nat → Nat → Bool
  sub : Nat → Nat → Bool
abbrev Whl := M Bool → M Fw → M Fw
def callD (P : Prog) (W : Whl) : Nat → Nat → List (D × Fl) → CR
  | 0, _, _ => .bad
  | d + 1, f, args => match P.fns[f]? with
    | some fn => runFn ⟨callD P W d, P.glob, P.io, P.sub, W⟩ fn args
    | none => .bad
/-- a while by its turns -/
def whN (c : M Bool) (b : M Fw) : Nat → M Fw
  | 0 => fail
  | n + 1 => do
    let x ← c
    if x then
      let f ← b
      match f with
      | .bk => pure .nx
      | .rt d o => pure (.rt d o)
      | _ => whN c b n
    else pure .nx
end Mi

set_option Elab.async false
set_option linter.all false
set_option maxRecDepth 100000
set_option autoImplicit false
namespace Mi
open PySem PySem.Spec PyProof.Rows L2
abbrev St := L2.St
abbrev Exp := PySem.Expr

/-! ### data in the heap -/
/-- the classes of errors, by numbers -/
def excNms : List Str := ["AlgebraError", "InvalidPolynomial", "InvalidRational", "InvalidPrime", "InvalidInteger", "InvalidNumber", "InvalidField", "InvalidElement", "InvalidElements", "InvalidSpace", "InvalidOver", "InvalidSplitting", "InvalidPermutation", "InvalidGroup", "InvalidFormula", "InvalidName", "InvalidBox", "InvalidNumbers", "UnknownName", "TooMany", "NothingToUndo", "Unreadable", "InvalidCommand"]
def excNm (c : Nat) : Str := excNms.getD c ""
/-- the class c stands at C -/
def clsAt (K : PySem.W.Frag) (c : Nat) (C : Addr) : Prop := c < 23 ∧ PySem.W.nsIn K mainGlobals (excNm c) = some (some (.ref C))
theorem clsAt.inj {K : PySem.W.Frag} {c : Nat} {C C' : Addr} (h : clsAt K c C) (h' : clsAt K c C') : C = C' := by
  have := h.2.symm.trans h'.2
  cases this; rfl
/-- at a: an error of the class at C, caught, its dict at dx -/
def exE (a C dx : Addr) : HO := .ext fun h => ∃ (oe : Obj) (vs : Array Value), h.get? a = some oe ∧ Zc (.ref C) (some dx) oe ∧ oe.data = .fields vs
mutual
/-- v is the data d; O: the addresses of lists that are somebody's own -/
inductive Rep (K : PySem.W.Frag) (O : Addr → Prop) (H : Hp) : V → D → Prop
  | non : Rep K O H .non .non
  | bl (b : Bool) : Rep K O H (.bl b) (.bl b)
  | int (i : Int) : Rep K O H (.int i) (.int i)
  | str (x : Str) : Rep K O H (.str x) (.str x)
  | tup {a : Addr} {vs : List V} {ds : List D} {o : Obj} : ¬ O a → H a = some (.frz o (.tup vs)) → o.dict = none → RepL K O H vs ds → Rep K O H (.ref a) (.tup ds)
  | tupn {a : Addr} {vs : List V} {ds : List D} : ¬ O a → H a = some (.tup vs) → RepL K O H vs ds → Rep K O H (.ref a) (.tupn ds)
  | tupK {a : Addr} {vs : List V} {ds : List D} {o : Obj} {its : Array Value} {n : Nat} : K.lookup a = some o → o.cls = .type "tuple" → o.dict = none → o.data = .seq its n → its.size ≤ sizeLine → Vals vs its.toList → RepL K O H vs ds → Rep K O H (.ref a) (.tup ds)
  | lst {a : Addr} {vs : List V} {ds : List D} : ¬ O a → H a = some (.lst vs) → RepL K O H vs ds → Rep K O H (.ref a) (.lst ds)
  | scr {a : Addr} {o : Obj} {ns : List Int} : ¬ O a → H a = some (.frz o (.lst (ns.map V.int))) → Rep K O H (.ref a) (.scr ns)
  | exc {a C dx : Addr} {c : Nat} {v : V} {d : D} : ¬ O a → H a = some (exE a C dx) → ¬ O dx → H dx = some (.xd [("value", v)]) → clsAt K c C → Rep K O H v d → Rep K O H (.ref a) (.exc c d)
  | scrK {a : Addr} {o : Obj} {ns : List Int} {its : Array Value} {n : Nat} : K.lookup a = some o → o.cls = .type "list" → o.dict = none → o.data = .seq its n → its.size ≤ sizeLine → Vals (ns.map V.int) its.toList → Rep K O H (.ref a) (.scr ns)
inductive RepL (K : PySem.W.Frag) (O : Addr → Prop) (H : Hp) : List V → List D → Prop
  | nil : RepL K O H [] []
  | cons {v : V} {vs : List V} {d : D} {ds : List D} : Rep K O H v d → RepL K O H vs ds → RepL K O H (v :: vs) (d :: ds)
end
/-- what is not somebody's own stands as it stood -/
def Keeps (O : Addr → Prop) (H : Hp) (O' : Addr → Prop) (H' : Hp) : Prop := ∀ a o, ¬ O a → H a = some o → ¬ O' a ∧ H' a = some o
mutual
theorem Rep.keep {K : PySem.W.Frag} {O O' : Addr → Prop} {H H' : Hp} (k : Keeps O H O' H') : ∀ {d : D} {v : V}, Rep K O H v d → Rep K O' H' v d
  | _, _, .non => .non
  | _, _, .bl b => .bl b
  | _, _, .int i => .int i
  | _, _, .str x => .str x
  | .tup ds, _, .tup n h e r => .tup (k _ _ n h).1 (k _ _ n h).2 e (RepL.keep k r)
  | .tupn ds, _, .tupn n h r => .tupn (k _ _ n h).1 (k _ _ n h).2 (RepL.keep k r)
  | .tup ds, _, .tupK a b c d e f r => .tupK a b c d e f (RepL.keep k r)
  | .lst ds, _, .lst n h r => .lst (k _ _ n h).1 (k _ _ n h).2 (RepL.keep k r)
  | _, _, .scr n h => .scr (k _ _ n h).1 (k _ _ n h).2
  | .exc _ _, _, .exc n h n2 h2 hc r => .exc (k _ _ n h).1 (k _ _ n h).2 (k _ _ n2 h2).1 (k _ _ n2 h2).2 hc (Rep.keep k r)
  | _, _, .scrK a b c d e f => .scrK a b c d e f
theorem RepL.keep {K : PySem.W.Frag} {O O' : Addr → Prop} {H H' : Hp} (k : Keeps O H O' H') : ∀ {ds : List D} {vs : List V}, RepL K O H vs ds → RepL K O' H' vs ds
  | [], _, .nil => .nil
  | _ :: _, _, .cons r rs => .cons (Rep.keep k r) (RepL.keep k rs)
end
section
variable {K : PySem.W.Frag} {O O' : Addr → Prop} {H H' : Hp}
theorem RepL.length : ∀ {vs : List V} {ds : List D}, RepL K O H vs ds → vs.length = ds.length
  | _, _, .nil => rfl
  | _, _, .cons _ r => by rw [List.length_cons, List.length_cons, RepL.length r]
theorem RepL.get : ∀ {vs : List V} {ds : List D} {i : Nat} {d : D}, RepL K O H vs ds → ds[i]? = some d → ∃ v, vs[i]? = some v ∧ Rep K O H v d
  | _, _, _, _, .nil, e => by simp at e
  | _, _, 0, _, .cons r _, e => by simp at e; subst e; exact ⟨_, rfl, r⟩
  | _, _, i + 1, d, .cons _ t, e => by
    obtain ⟨v, h1, h2⟩ := RepL.get (i := i) (d := d) t (by simpa using e)
    exact ⟨v, by simpa using h1, h2⟩
theorem RepL.get' : ∀ {vs : List V} {ds : List D} {i : Nat} {v : V}, RepL K O H vs ds → vs[i]? = some v → ∃ d, ds[i]? = some d ∧ Rep K O H v d
  | _, _, _, _, .nil, e => by simp at e
  | _, _, 0, _, .cons r _, e => by simp at e; subst e; exact ⟨_, rfl, r⟩
  | _, _, i + 1, v, .cons _ t, e => by
    obtain ⟨d, h1, h2⟩ := RepL.get' (i := i) (v := v) t (by simpa using e)
    exact ⟨d, by simpa using h1, h2⟩
theorem RepL.append : ∀ {vs us : List V} {ds es : List D}, RepL K O H vs ds → RepL K O H us es → RepL K O H (vs ++ us) (ds ++ es)
  | _, _, _, _, .nil, s => s
  | _, _, _, _, .cons r t, s => .cons r (RepL.append t s)
theorem RepL.set : ∀ {vs : List V} {ds : List D} {v : V} {d : D} (i : Nat), Rep K O H v d → RepL K O H vs ds → RepL K O H (vs.set i v) (ds.set i d)
  | _, _, _, _, _, _, .nil => .nil
  | _, _, _, _, 0, q, .cons _ t => .cons q t
  | _, _, _, _, i + 1, q, .cons r t => .cons r (RepL.set i q t)
theorem RepL.take : ∀ {vs : List V} {ds : List D} (n : Nat), RepL K O H vs ds → RepL K O H (vs.take n) (ds.take n)
  | _, _, 0, _ => .nil
  | _, _, _ + 1, .nil => .nil
  | _, _, n + 1, .cons r t => .cons r (RepL.take n t)
theorem RepL.drop : ∀ {vs : List V} {ds : List D} (n : Nat), RepL K O H vs ds → RepL K O H (vs.drop n) (ds.drop n)
  | _, _, 0, r => r
  | _, _, _ + 1, .nil => .nil
  | _, _, n + 1, .cons _ t => RepL.drop n t
theorem RepL.erase : ∀ {vs : List V} {ds : List D} (i : Nat), RepL K O H vs ds → RepL K O H (vs.eraseIdx i) (ds.eraseIdx i)
  | _, _, _, .nil => .nil
  | _, _, 0, .cons _ t => t
  | _, _, i + 1, .cons r t => .cons r (RepL.erase i t)
theorem RepL.reverse {vs : List V} {ds : List D} (h : RepL K O H vs ds) : RepL K O H vs.reverse ds.reverse := by
  induction ds generalizing vs with
  | nil => cases h; exact .nil
  | cons d ds ih =>
    cases h with
    | cons r t =>
      rw [List.reverse_cons, List.reverse_cons]
      exact (ih t).append (.cons r .nil)
theorem RepL.rep {vs : List V} {ds : List D} (h : RepL K O H vs ds) : ∀ k : Nat, RepL K O H (List.replicate k vs).flatten (List.replicate k ds).flatten
  | 0 => .nil
  | k + 1 => by
    rw [List.replicate_succ, List.replicate_succ, List.flatten_cons, List.flatten_cons]
    exact h.append (RepL.rep h k)
theorem RepL.ints : ∀ {ns : List Int}, RepL K O H (ns.map V.int) (ns.map D.int)
  | [] => .nil
  | _ :: _ => .cons (.int _) RepL.ints
theorem RepL.intsOf : ∀ {ds : List D} {vs : List V} {ns : List Int}, RepL K O H vs ds → intsOf ds = some ns → vs = ns.map V.int ∧ ds = ns.map D.int
  | [], _, ns, .nil, e => by
    cases e
    exact ⟨rfl, rfl⟩
  | d :: ds, _, ns, .cons r t, e => by
    cases d <;> try (cases e)
    rename_i i
    unfold Mi.intsOf at e
    cases q : Mi.intsOf ds with
    | none => rw [q] at e; cases e
    | some ms =>
      rw [q] at e
      cases e
      obtain ⟨h1, h2⟩ := RepL.intsOf t q
      cases r
      subst h1 h2
      exact ⟨rfl, rfl⟩
theorem RepL.blsOf : ∀ {ds : List D} {vs : List V} {ns : List Bool}, RepL K O H vs ds → blsOf ds = some ns → vs = ns.map V.bl ∧ ds = ns.map D.bl
  | [], _, ns, .nil, e => by
    cases e
    exact ⟨rfl, rfl⟩
  | d :: ds, _, ns, .cons r t, e => by
    cases d <;> try (cases e)
    rename_i i
    unfold Mi.blsOf at e
    cases q : Mi.blsOf ds with
    | none => rw [q] at e; cases e
    | some ms =>
      rw [q] at e
      cases e
      obtain ⟨h1, h2⟩ := RepL.blsOf t q
      cases r
      subst h1 h2
      exact ⟨rfl, rfl⟩
theorem Keeps.refl : Keeps O H O H := fun _ _ n h => ⟨n, h⟩
theorem Keeps.trans {O2 : Addr → Prop} {H2 : Hp} (a : Keeps O H O' H') (b : Keeps O' H' O2 H2) : Keeps O H O2 H2 := fun x o n h => b x o (a x o n h).1 (a x o n h).2
end

/-! ### the state: slots -/
/-- the addresses of a frame's own lists -/
def Own (ms : MS) (σ : St) (a : Addr) : Prop := ∃ (i : Nat) (d : D) (f : Fl), f ≠ .frz ∧ ms[i]? = some (some (d, f)) ∧ σ[i]? = some (some (.ref a))
/-- an own list at a -/
def RepO (K : PySem.W.Frag) (O : Addr → Prop) (H : Hp) (a : Addr) (d : D) : Prop := O a ∧ ∃ vs ds, d = .lst ds ∧ H a = some (.lst vs) ∧ RepL K O H vs ds
def RepS (K : PySem.W.Frag) (O : Addr → Prop) (H : Hp) (v : V) (d : D) (f : Fl) : Prop := if f = .frz then Rep K O H v d else ∃ a, v = .ref a ∧ RepO K O H a d
structure Rel (K : PySem.W.Frag) (O : Addr → Prop) (ms : MS) (σ : St) (H : Hp) : Prop where
  len : ms.length = σ.length
  slot : ∀ (i : Nat) (d : D) (f : Fl), ms[i]? = some (some (d, f)) → ∃ v, σ[i]? = some (some v) ∧ RepS K O H v d f
  apart : ∀ (i j : Nat) (d e : D) (f g : Fl) (a : Addr), ms[i]? = some (some (d, f)) → ms[j]? = some (some (e, g)) → f ≠ .frz → g ≠ .frz → σ[i]? = some (some (.ref a)) → σ[j]? = some (some (.ref a)) → i = j
  lists : ∀ a, O a → ∃ vs, H a = some (.lst vs)
/-- what a step may have changed; B: the lists of the frame's own -/
structure Ext (O : Addr → Prop) (H : Hp) (B : Addr → Prop) (O' : Addr → Prop) (H' : Hp) : Prop where
  keep : Keeps O H O' H'
  held : ∀ a, O a → ¬ B a → O' a ∧ H' a = H a
  grow : ∀ a, H a ≠ none → H' a ≠ none
/-- the own lists behind a step: those ahead of it, and new ones -/
def Sub (H : Hp) (B B' : Addr → Prop) : Prop := ∀ a, B' a → B a ∨ H a = none
section
variable {K : PySem.W.Frag} {O O' O2 : Addr → Prop} {H H' H2 : Hp} {B B' B2 : Addr → Prop} {ms ms' : MS} {σ : St}
theorem Ext.refl : Ext O H B O H := ⟨.refl, fun _ h _ => ⟨h, rfl⟩, fun _ h => h⟩
theorem Rel.some_of (r : Rel K O ms σ H) {a : Addr} (h : O a) : H a ≠ none := by
  obtain ⟨vs, e⟩ := r.lists a h
  rw [e]; exact fun z => nomatch z
theorem Ext.trans (hl : ∀ a, O a → H a ≠ none) (x : Ext O H B O' H') (s : Sub H B B') (y : Ext O' H' B' O2 H2) : Ext O H B O2 H2 where
  keep := x.keep.trans y.keep
  held := fun a h n => by
    have q := x.held a h n
    have nb : ¬ B' a := fun z => (s a z).elim n fun e => hl a h e
    have p := y.held a q.1 nb
    exact ⟨p.1, p.2.trans q.2⟩
  grow := fun a h => y.grow a (x.grow a h)
theorem Sub.trans (s : Sub H B B') (x : ∀ a, H a ≠ none → H' a ≠ none) (t : Sub H' B' B2) : Sub H B B2 := fun a h => by
  rcases t a h with q | q
  · exact s a q
  · exact .inr (by
      cases e : H a with
      | none => rfl
      | some o => exact absurd q (x a (by rw [e]; exact fun z => nomatch z)))
theorem Sub.refl : Sub H B B := fun _ h => .inl h
theorem Rel.own_O (r : Rel K O ms σ H) {a : Addr} (h : Own ms σ a) : O a := by
  obtain ⟨i, d, f, hf, e1, e2⟩ := h
  obtain ⟨v, q1, q2⟩ := r.slot i d f e1
  rw [e2] at q1
  cases q1
  unfold RepS at q2
  rw [if_neg hf] at q2
  obtain ⟨b, e, q⟩ := q2
  cases e
  exact q.1
end

/-! ### what is wanted behind an expression -/
/-- a value at its end: frozen, or a list of its own, new or out of a slot -/
def RepR (K : PySem.W.Frag) (H0 : Hp) (B0 : Addr → Prop) (O : Addr → Prop) (H : Hp) (B : Addr → Prop) (v : V) (d : D) (own : Bool) : Prop :=
  if own = true then ∃ a, v = .ref a ∧ RepO K O H a d ∧ ¬ B a ∧ (H0 a = none ∨ B0 a) else Rep K O H v d
structure PostE (K : PySem.W.Frag) (O : Addr → Prop) (ms : MS) (σ : St) (H : Hp) (ms' : MS) (O' : Addr → Prop) (H' : Hp) : Prop where
  rel : Rel K O' ms' σ H'
  ext : Ext O H (Own ms σ) O' H'
  sub : Sub H (Own ms σ) (Own ms' σ)
  bor : ∀ (i : Nat) (d : D), ms'[i]? = some (some (d, .bor)) → ∃ d0, ms[i]? = some (some (d0, .bor))
theorem PostE.refl {K : PySem.W.Frag} {O : Addr → Prop} {ms : MS} {σ : St} {H : Hp} (r : Rel K O ms σ H) : PostE K O ms σ H ms O H := ⟨r, .refl, .refl, fun _ d h => ⟨d, h⟩⟩
theorem PostE.trans {K : PySem.W.Frag} {O O1 O2 : Addr → Prop} {ms ms1 ms2 : MS} {σ : St} {H H1 H2 : Hp} (r : Rel K O ms σ H) (a : PostE K O ms σ H ms1 O1 H1) (b : PostE K O1 ms1 σ H1 ms2 O2 H2) : PostE K O ms σ H ms2 O2 H2 :=
  ⟨b.rel, a.ext.trans (fun _ h => r.some_of h) a.sub b.ext, a.sub.trans a.ext.grow b.sub, fun i d h => let ⟨e, q⟩ := b.bor i d h; a.bor i e q⟩
/-- an exception in flight: its class's number and its value, by what the text says -/
abbrev XRep := Nat → D → Value → Option Addr → (Addr → Prop) → Hp → Prop
/-- the end of a computation -/
def End {β : Type} (h : R β) (Zok : β → MS → Prop) (Zerr : Nat → D → MS → Prop) : Prop := match h with
  | .ok r m => Zok r m
  | .err c x m => Zerr c x m
  | .bad => False
def ZE (K : PySem.W.Frag) (XR : XRep) (W : WX) (O : Addr → Prop) (ms : MS) (σ : St) (H : Hp) : Nat → D → MS → Prop := fun c x ms' =>
  ∀ cls dx O' H', PostE K O ms σ H ms' O' H' → XR c x cls dx O' H' → W cls dx σ H'
def ZM (K : PySem.W.Frag) (O : Addr → Prop) (ms : MS) (σ : St) (H : Hp) (Q : VK) : D × Bool → MS → Prop := fun r ms' =>
  ∀ v O' H', PostE K O ms σ H ms' O' H' → RepR K H (Own ms σ) O' H' (Own ms' σ) v r.1 r.2 → Q v H'
/-- f, as a reading; W: what is wanted of an exception -/
def tM (K : PySem.W.Frag) (XR : XRep) (W : WX) (f : M (D × Bool)) : TE := fun σ H Q => ∃ O ms, Rel K O ms σ H ∧ End (f ms) (ZM K O ms σ H Q) (ZE K XR W O ms σ H)
/-- an operand; H0, B0: where it began -/
def RepA (K : PySem.W.Frag) (σ : St) (H0 : Hp) (B0 : Addr → Prop) (O : Addr → Prop) (H : Hp) (B : Addr → Prop) (v : V) : A → Prop
  | .val d own => RepR K H0 B0 O H B v d own
  | .lend i => σ[i]? = some (some v)
def ZA (K : PySem.W.Frag) (O : Addr → Prop) (ms : MS) (σ : St) (H : Hp) (Q : VK) : A → MS → Prop := fun r ms' =>
  ∀ v O' H', PostE K O ms σ H ms' O' H' → RepA K σ H (Own ms σ) O' H' (Own ms' σ) v r → Q v H'
def tA (K : PySem.W.Frag) (XR : XRep) (W : WX) (f : M A) : TE := fun σ H Q => ∃ O ms, Rel K O ms σ H ∧ End (f ms) (ZA K O ms σ H Q) (ZE K XR W O ms σ H)
section
variable {K : PySem.W.Frag} {XR : XRep} {W : WX} {O O' O0 : Addr → Prop} {H H' H0 : Hp} {B B' : Addr → Prop} {ms ms' ms0 : MS} {σ : St}
theorem End.bind {α β : Type} {f : M α} {g : α → M β} {Zok : β → MS → Prop} {Zerr : Nat → D → MS → Prop} (G : End ((f >>= g) ms) Zok Zerr) : End (f ms) (fun a m => End (g a m) Zok Zerr) Zerr := by
  rw [bind_run] at G
  unfold End at G ⊢
  cases h : f ms with
  | ok a m => rw [h] at G; exact G
  | err c x m => rw [h] at G; exact G
  | bad => rw [h] at G; exact G
theorem End.imp {β : Type} {h : R β} {Zok Zok' : β → MS → Prop} {Zerr Zerr' : Nat → D → MS → Prop} (G : End h Zok Zerr) (a : ∀ r m, Zok r m → Zok' r m) (b : ∀ c x m, Zerr c x m → Zerr' c x m) : End h Zok' Zerr' := by
  unfold End at G ⊢
  cases h with
  | ok r m => exact a r m G
  | err c x m => exact b c x m G
  | bad => exact G
theorem RepA.keep {v : V} {x : A} (p : PostE K O ms σ H ms' O' H') (r : RepA K σ H0 B O H (Own ms σ) v x) (rel : Rel K O ms σ H) : RepA K σ H0 B O' H' (Own ms' σ) v x := by
  cases x with
  | lend i => exact r
  | val d own =>
    have r : RepR K H0 B O H (Own ms σ) v d own := r
    show RepR K H0 B O' H' (Own ms' σ) v d own
    unfold RepR at r ⊢
    cases own with
    | false => exact Rep.keep p.ext.keep r
    | true =>
      obtain ⟨a, e, ⟨ho, vs, ds, e2, h, q⟩, nb, og⟩ := r
      obtain ⟨h1, h2⟩ := p.ext.held a ho nb
      refine ⟨a, e, ⟨h1, vs, ds, e2, h2.trans h, q.keep p.ext.keep⟩, fun z => ?_, og⟩
      rcases p.sub a z with z | z
      · exact nb z
      · rw [h] at z; cases z
theorem RepR.base {v : V} {d : D} {b : Bool} (p : PostE K O0 ms0 σ H0 ms O H) (r : RepR K H (Own ms σ) O' H' B' v d b) : RepR K H0 (Own ms0 σ) O' H' B' v d b := by
  unfold RepR at r ⊢
  cases b with
  | false => exact r
  | true =>
    obtain ⟨a, e, q, nb, z⟩ := r
    refine ⟨a, e, q, nb, ?_⟩
    rcases z with z | z
    · refine .inl ?_
      cases h : H0 a with
      | none => rfl
      | some o => exact absurd z (p.ext.grow a (by rw [h]; exact fun z => nomatch z))
    · exact (p.sub a z).symm
theorem RepA.base {v : V} {x : A} (p : PostE K O0 ms0 σ H0 ms O H) (r : RepA K σ H (Own ms σ) O' H' B' v x) : RepA K σ H0 (Own ms0 σ) O' H' B' v x := by
  cases x with
  | lend i => exact r
  | val d own => exact RepR.base p r
theorem tM_in {β : Type} {f : M (D × Bool)} {g : D × Bool → M β} {Zok : β → MS → Prop} {C : VK} (rel : Rel K O0 ms0 σ H0) (P : PostE K O0 ms0 σ H0 ms O H) (G : End ((f >>= g) ms) Zok (ZE K XR W O0 ms0 σ H0))
    (k : ∀ d b ms1 v O1 H1, PostE K O0 ms0 σ H0 ms1 O1 H1 → PostE K O ms σ H ms1 O1 H1 → RepR K H (Own ms σ) O1 H1 (Own ms1 σ) v d b → End (g (d, b) ms1) Zok (ZE K XR W O0 ms0 σ H0) → C v H1) : tM K XR W f σ H C := by
  refine ⟨O, ms, P.rel, End.imp G.bind (fun r m h v O' H' p q => ?_) (fun c x m h cls dx O' H' p q => h cls dx O' H' (P.trans rel p) q)⟩
  obtain ⟨d, b⟩ := r
  exact k d b m v O' H' (P.trans rel p) p q h
theorem tA_in {β : Type} {f : M A} {g : A → M β} {Zok : β → MS → Prop} {C : VK} (rel : Rel K O0 ms0 σ H0) (P : PostE K O0 ms0 σ H0 ms O H) (G : End ((f >>= g) ms) Zok (ZE K XR W O0 ms0 σ H0))
    (k : ∀ x ms1 v O1 H1, PostE K O0 ms0 σ H0 ms1 O1 H1 → PostE K O ms σ H ms1 O1 H1 → RepA K σ H (Own ms σ) O1 H1 (Own ms1 σ) v x → End (g x ms1) Zok (ZE K XR W O0 ms0 σ H0) → C v H1) : tA K XR W f σ H C :=
  ⟨O, ms, P.rel, End.imp G.bind (fun r m h v O' H' p q => k r m v O' H' (P.trans rel p) p q h) (fun c x m h cls dx O' H' p q => h cls dx O' H' (P.trans rel p) q)⟩
/-- an operand as it is read when the operation is done -/
def RepB (K : PySem.W.Frag) (O : Addr → Prop) (H : Hp) (v : V) (d : D) : Prop := Rep K O H v d ∨ ∃ a, v = .ref a ∧ RepO K O H a d
theorem rdA_in {β : Type} {x : A} {v : V} {g : D → M β} {Zok : β → MS → Prop} {Zerr : Nat → D → MS → Prop} (rel : Rel K O ms σ H) (r : RepA K σ H0 B' O H B v x) (G : End ((rdA x >>= g) ms) Zok Zerr) :
    ∃ d, RepB K O H v d ∧ End (g d ms) Zok Zerr := by
  cases x with
  | val d own =>
    refine ⟨d, ?_, G⟩
    have r : RepR K H0 B' O H B v d own := r
    unfold RepR at r
    cases own with
    | false => exact .inl r
    | true =>
      obtain ⟨a, e, q, _⟩ := r
      exact .inr ⟨a, e, q⟩
  | lend i =>
    have G : End (match ms[i]? with
      | some (some (d, _)) => .ok d ms
      | _ => .bad) (fun a m => End (g a m) Zok Zerr) Zerr := G.bind
    cases h : ms[i]? with
    | none => rw [h] at G; exact G.elim
    | some o =>
      cases o with
      | none => rw [h] at G; exact G.elim
      | some p =>
        obtain ⟨d, f⟩ := p
        rw [h] at G
        refine ⟨d, ?_, G⟩
        obtain ⟨w, e, q⟩ := rel.slot i d f h
        have r : σ[i]? = some (some v) := r
        rw [r] at e
        cases e
        unfold RepS at q
        by_cases hf : f = .frz
        · rw [if_pos hf] at q
          exact .inl q
        · rw [if_neg hf] at q
          exact .inr q
theorem liftO_in {α β : Type} {o : Option α} {g : α → M β} {Zok : β → MS → Prop} {Zerr : Nat → D → MS → Prop} (G : End ((liftO o >>= g) ms) Zok Zerr) : ∃ a, o = some a ∧ End (g a ms) Zok Zerr := by
  cases o with
  | none => exact (G.bind : End (.bad) _ _).elim
  | some a => exact ⟨a, rfl, G⟩
theorem liftO_out {α : Type} {o : Option α} {Zok : α → MS → Prop} {Zerr : Nat → D → MS → Prop} (G : End (liftO o ms) Zok Zerr) : ∃ a, o = some a ∧ Zok a ms := by
  cases o with
  | none => exact G.elim
  | some a => exact ⟨a, rfl, G⟩
/-- what an operation leaves: new objects alone -/
def Prm (K : PySem.W.Frag) (O : Addr → Prop) (H : Hp) (d : D) (b : Bool) (v : V) (H' : Hp) : Prop :=
  (∀ a o, H a = some o → H' a = some o) ∧ if b = true then ∃ p vs ds, v = .ref p ∧ d = .lst ds ∧ H p = none ∧ H' p = some (.lst vs) ∧ RepL K O H vs ds else Rep K O H' v d
/-- the slots stay where all that is tracked stays -/
theorem Rel.more (rel : Rel K O ms σ H) (k : ∀ a o, H a = some o → H' a = some o) (hO : ∀ a, O a → O' a) (hn : ∀ a o, ¬ O a → H a = some o → ¬ O' a) (hl : ∀ a, O' a → ∃ vs, H' a = some (.lst vs)) : Rel K O' ms σ H' := by
  have kp : Keeps O H O' H' := fun a o n h => ⟨hn a o n h, k a o h⟩
  refine ⟨rel.len, fun i d f h => ?_, rel.apart, hl⟩
  obtain ⟨v, e, q⟩ := rel.slot i d f h
  refine ⟨v, e, ?_⟩
  unfold RepS at q ⊢
  by_cases hf : f = .frz
  · rw [if_pos hf] at q ⊢
    exact q.keep kp
  · rw [if_neg hf] at q ⊢
    obtain ⟨a, e, ho, vs, ds, e2, h2, r⟩ := q
    exact ⟨a, e, hO a ho, vs, ds, e2, k _ _ h2, r.keep kp⟩
theorem prm_post {d : D} {b : Bool} {v : V} (rel : Rel K O ms σ H) (p : Prm K O H d b v H') : ∃ O', PostE K O ms σ H ms O' H' ∧ RepR K H (Own ms σ) O' H' (Own ms σ) v d b := by
  obtain ⟨k, r⟩ := p
  have gr : ∀ a, H a ≠ none → H' a ≠ none := fun a h => by
    cases e : H a with
    | none => exact absurd e h
    | some o => rw [k a o e]; exact fun z => nomatch z
  cases b with
  | false =>
    refine ⟨O, ⟨rel.more k (fun _ h => h) (fun _ _ n _ => n) (fun a h => ?_), ⟨fun a o n h => ⟨n, k a o h⟩, fun a h _ => ⟨h, ?_⟩, gr⟩, .refl, fun _ d h => ⟨d, h⟩⟩, r⟩
    · obtain ⟨vs, e⟩ := rel.lists a h
      exact ⟨vs, k _ _ e⟩
    · obtain ⟨vs, e⟩ := rel.lists a h
      rw [e, k _ _ e]
  | true =>
    obtain ⟨p, vs, ds, e1, e2, hp, hp', rl⟩ := r
    have np : ¬ O p := fun z => by
      obtain ⟨ws, e⟩ := rel.lists p z
      rw [hp] at e; cases e
    have kp : Keeps O H (fun a => O a ∨ a = p) H' := fun a o n h => ⟨fun z => z.elim n fun z => (by rw [z, hp] at h; cases h), k a o h⟩
    refine ⟨fun a => O a ∨ a = p, ⟨rel.more k (fun _ h => .inl h) (fun a o n h => (kp a o n h).1) (fun a h => ?_), ⟨kp, fun a h _ => ⟨.inl h, ?_⟩, gr⟩, .refl, fun _ d h => ⟨d, h⟩⟩, p, e1, ⟨.inr rfl, vs, ds, e2, hp', rl.keep kp⟩, fun z => np (rel.own_O z), .inl hp⟩
    · rcases h with h | h
      · obtain ⟨ws, e⟩ := rel.lists a h
        exact ⟨ws, k _ _ e⟩
      · rw [h]; exact ⟨vs, hp'⟩
    · obtain ⟨ws, e⟩ := rel.lists a h
      rw [e, k _ _ e]
/-- the end of an operation -/
theorem fin_in {d : D} {b : Bool} {Q : VK} (rel0 : Rel K O0 ms0 σ H0) (P : PostE K O0 ms0 σ H0 ms O H) (G : ZM K O0 ms0 σ H0 Q (d, b) ms) : ∀ v H', Prm K O H d b v H' → Q v H' := fun v H' p => by
  obtain ⟨O', p1, q⟩ := prm_post P.rel p
  exact G v O' H' (P.trans rel0 p1) (q.base P)
theorem prm_same {d : D} {v : V} (r : Rep K O H v d) : Prm K O H d false v H := ⟨fun _ _ h => h, r⟩
theorem RepB.lst {v : V} {ds : List D} (r : RepB K O H v (.lst ds)) : ∃ a vs, v = .ref a ∧ H a = some (.lst vs) ∧ RepL K O H vs ds := by
  rcases r with r | ⟨a, e, ho, vs, es, e2, h, q⟩
  · cases r with
    | lst n h q => exact ⟨_, _, rfl, h, q⟩
  · cases e2
    exact ⟨a, vs, e, h, q⟩
theorem RepB.tup {v : V} {ds : List D} (r : RepB K O H v (.tup ds)) : ∃ a vs, v = .ref a ∧ SqT K H a vs ∧ RepL K O H vs ds := by
  rcases r with r | ⟨a, e, ho, vs, es, e2, h, q⟩
  · cases r with
    | tup n h _ q => exact ⟨_, _, rfl, .inl (.inr ⟨_, h⟩), q⟩
    | tupK a b _ c e f q => exact ⟨_, _, rfl, .inr ⟨_, _, _, a, b, c, e, f⟩, q⟩
  · cases e2
/-- the tuple's object has no dict of its own -/
theorem RepB.tupx {v : V} {ds : List D} (r : RepB K O H v (.tup ds)) : ∃ a vs o, v = .ref a ∧ SqT K H a vs ∧ RepL K O H vs ds ∧ o.dict = none ∧ (H a = some (.frz o (.tup vs)) ∨ K.lookup a = some o) := by
  rcases r with r | ⟨a, e, ho, vs, es, e2, h, q⟩
  · cases r with
    | tup n h d q => exact ⟨_, _, _, rfl, .inl (.inr ⟨_, h⟩), q, d, .inl h⟩
    | tupK a b d c e f q => exact ⟨_, _, _, rfl, .inr ⟨_, _, _, a, b, c, e, f⟩, q, d, .inr a⟩
  · cases e2
theorem RepB.tupn {v : V} {ds : List D} (r : RepB K O H v (.tupn ds)) : ∃ a vs, v = .ref a ∧ SqT K H a vs ∧ RepL K O H vs ds := by
  rcases r with r | ⟨a, e, ho, vs, es, e2, h, q⟩
  · cases r with
    | tupn n h q => exact ⟨_, _, rfl, .inl (.inl h), q⟩
  · cases e2
theorem RepB.scr {v : V} {ns : List Int} (r : RepB K O H v (.scr ns)) : ∃ a, v = .ref a ∧ SqL K H a (ns.map V.int) := by
  rcases r with r | ⟨a, e, ho, vs, es, e2, h, q⟩
  · cases r with
    | scr n h => exact ⟨_, rfl, .inl (.inr ⟨_, h⟩)⟩
    | scrK a b c d e f => exact ⟨_, rfl, .inr ⟨_, _, _, a, b, c, d, e, f⟩⟩
  · cases e2
theorem RepB.int {v : V} {i : Int} (r : RepB K O H v (.int i)) : v = .int i := by
  rcases r with r | ⟨a, e, ho, vs, es, e2, h, q⟩
  · cases r; rfl
  · cases e2
theorem RepB.bl {v : V} {i : Bool} (r : RepB K O H v (.bl i)) : v = .bl i := by
  rcases r with r | ⟨a, e, ho, vs, es, e2, h, q⟩
  · cases r; rfl
  · cases e2
theorem RepB.str {v : V} {i : Str} (r : RepB K O H v (.str i)) : v = .str i := by
  rcases r with r | ⟨a, e, ho, vs, es, e2, h, q⟩
  · cases r; rfl
  · cases e2
theorem RepB.non {v : V} (r : RepB K O H v .non) : v = .non := by
  rcases r with r | ⟨a, e, ho, vs, es, e2, h, q⟩
  · cases r; rfl
  · cases e2
end
theorem _root_.L2.PE.weak {X : Cx} {e : Exp} {t t' : TE} (h : PE X e t) (w : ∀ σ H Q, t' σ H Q → t σ H Q) : PE X e t' := ⟨fun pins s σ H Q I hw => h.run pins s σ H Q I (w σ H Q hw)⟩
theorem _root_.L2.PT.weak {X : Cx} {e : Exp} {t t' : TT} (h : PT X e t) (w : ∀ σ H Q, t' σ H Q → t σ H Q) : PT X e t' := ⟨fun pins s σ H Q I hw => h.run pins s σ H Q I (w σ H Q hw)⟩
theorem _root_.L2.PA.weak {X : Cx} {e : List Exp} {t t' : TA} (h : PA X e t) (w : ∀ σ H Q, t' σ H Q → t σ H Q) : PA X e t' := ⟨fun pos pins s σ H Q I hw => h.run pos pins s σ H Q I (w σ H Q hw)⟩
theorem _root_.L2.PS.weak {X : Cx} {e : PySem.Stmt} {t t' : TS} (h : PS X e t) (w : ∀ D σ H, t' D σ H → t D σ H) : PS X e t' := ⟨fun pins s σ H D I hw => h.run pins s σ H D I (w D σ H hw)⟩
theorem _root_.L2.PSs.weak {X : Cx} {e : List PySem.Stmt} {t t' : TS} (h : PSs X e t) (w : ∀ D σ H, t' D σ H → t D σ H) : PSs X e t' := ⟨fun pins s σ H D I hw => h.run pins s σ H D I (w D σ H hw)⟩
end Mi

set_option Elab.async false
set_option linter.all false
set_option maxRecDepth 100000
set_option autoImplicit false
set_option maxHeartbeats 4000000
namespace Mi
open PySem PySem.Spec PyProof.Rows L2
/-! ### an error that is kept behind its except suite -/
section
variable {P : Program} {w : World} {H : Hp} {h : Heap} {a C dx : Addr} {oe : Obj} {vs : Array Value}
theorem exE_ok (e : h.get? a = some oe) (z : Zc (.ref C) (some dx) oe) (q : oe.data = .fields vs) : ObjOk P w H h a (exE a C dx) :=
  ⟨⟨oe, vs, e, z, q⟩, ⟨oe, e⟩, fun _ _ ⟨o, v, k1, k2, k3⟩ k => ⟨o, v, k o k1, k2, k3⟩⟩
theorem exE_at (hok : HOk P w H h) (he : H a = some (exE a C dx)) : ∃ (oe : Obj) (vs : Array Value), h.get? a = some oe ∧ Zc (.ref C) (some dx) oe ∧ oe.data = .fields vs := by
  have k : ObjOk P w H h a (exE a C dx) := hok a _ he
  exact k.1
end
theorem Sky_new {B : Heap} {l : List Env} {a : Addr} {Z : Obj → Prop} {L : Addr} {h : Heap} (k : Sky B l a Z L h) : B.get? a = none := by
  rcases k with ⟨_, k, _⟩ | ⟨_, k, _⟩ | ⟨_, k, _⟩ <;> exact k
section
variable {X : Cx} {pins : List (Addr × Obj)} {σ : St} {H : Hp} {s : Shared} {a C dx : Addr} {oe : Obj} {vs : Array Value}
/-- what was pinned is tracked from now on -/
theorem Inv_track (I : Inv X ((a, oe) :: pins) σ H s) (hz : Zc (.ref C) (some dx) oe) (hd : oe.data = .fields vs) (hne : ∀ p ∈ X.pn ++ pins, p.1 ≠ a) (hnew : ∀ o, X.s_0.heap.get? a = some o → a ∈ X.ex) : Inv X pins σ (upd H a (exE a C dx)) s := by
  obtain ⟨g1, g2, g3, g4, g5⟩ := I.pin (a, oe) (List.mem_append_right _ List.mem_cons_self)
  have g1 : s.heap.get? a = some oe := g1
  have g2 : H a = none := g2
  have away : ∀ {b : Addr} {o : HO}, H b = some o → b ≠ a := fun {b o} e z => by
    rw [z, g2] at e
    cases e
  refine ⟨I.ok, I.os, I.bare, ?_, I.loc, I.cell, ?_, fun x c e => ?_, fun p hp => ?_, I.hok.laidN (fun _ _ e => e) g2 (exE_ok g1 hz hd), I.len⟩
  · refine ⟨I.base.keep, I.base.slot, fun b o e n hx => ?_, I.base.there, fun b xs e => ?_, fun b o u e => ?_, fun b ps e => ?_⟩
    · rw [upd_ne fun z => hx (by rw [z] at e ⊢; exact hnew o e)]
      exact I.base.free b o e n hx
    · have k := I.base.tups b xs e
      rw [upd_ne (away k)]
      exact k
    · have k := I.base.frzs b o u e
      rw [upd_ne (away k)]
      exact k
    · obtain ⟨more, k⟩ := I.base.tbls b ps e
      exact ⟨more, by rw [upd_ne (away k)]; exact k⟩
  · rw [upd_ne (Ne.symm g3)]
    exact I.free
  · rw [upd_ne fun z => ?_]
    · exact I.freeC x c e
    · obtain ⟨v, hv⟩ := I.cell x c e
      obtain ⟨o, e1, e2⟩ := hv
      rw [z, g1] at e1
      cases e1
      exact g5 _ e2
  · have hp' : p ∈ X.pn ++ (a, oe) :: pins := by
      rcases List.mem_append.mp hp with k | k
      · exact List.mem_append_left _ k
      · exact List.mem_append_right _ (List.mem_cons_of_mem _ k)
    obtain ⟨k1, k2, k3⟩ := I.pin p hp'
    exact ⟨k1, by rw [upd_ne (hne p hp)]; exact k2, k3⟩
end
end Mi

set_option Elab.async false
set_option linter.all false
set_option maxRecDepth 100000
set_option autoImplicit false
set_option maxHeartbeats 4000000
namespace Mi
open PySem PySem.Spec PyProof.Rows L2
/-! ### try: .. / except x as n: m = n -/
/-- what the body's error has to answer: behind the suite m (slot j) holds it, n (slot i) nothing -/
def wKeep (K : PySem.W.Frag) (c : Value) (i j : Nat) (Wo : WX) (D : Ends) : WX := fun cls d σ H => ∃ b, PySem.W.exmOne K cls c = some b ∧
  (b = true → ∃ (C dx : Addr), cls = .ref C ∧ d = some dx ∧ ∀ a, H a = none → D.nx (((σ.set i (some (.ref a))).set j (some (.ref a))).set i none) (upd H a (exE a C dx))) ∧ (b = false → Wo cls d σ H)
/-- the suite -/
def tKeep (i j : Nat) (a : Addr) : TS := fun D σ H => σ[i]? = some (some (.ref a)) ∧ D.nx (σ.set j (some (.ref a))) H
section
variable {X : Cx} {x n m : Str} {c : Value} {i j : Nat} {body : List PySem.Stmt} {p1 p2 p3 p4 p5 p6 : Pos} {tb : WX → TS} {Wo : WX}
theorem suite_keep {Y : Cx} {a : Addr} (hN : Y.N.Nodup) (hi : Y.N[i]? = some n) (hj : Y.N[j]? = some m) (hv : Vis Y.env.scope n) (hl : Loc Y.env.scope m) (hl2 : Y.env.scope.names.lookup m = some .local) (d1 : (n == ("__debug__" : Str)) = false) (d2 : (n == ("__classdict__" : Str)) = false) :
    PSs Y (.Assign [.Name m p2] (.Name n p3) p4 :: []) (tKeep i j a) := by
  have h1 := ps_set (X := Y) (pos := p4) (pos' := p2) hN hj hl (pe_var (pos := p3) hi hv d1 d2) rfl (.inr hl2)
  refine (pss_cons h1 pss_nil).weak ?_
  rintro D σ H ⟨k1, k2⟩
  exact ⟨_, k1, k2⟩
theorem ps_try_keep (hs : X.stack = X.env :: X.outer) (hf : X.env.frame = some X.env.locals) (hN : X.N.Nodup) (hi : X.N[i]? = some n) (hj : X.N[j]? = some m) (hij : i ≠ j) (hn : X.env.kindOf n = some .local) (hm : X.env.scope.names.lookup m = some .local) (hc : Names X x c) (tk : Takes X Wo)
    (d1 : (n == ("__debug__" : Str)) = false) (d2 : (n == ("__classdict__" : Str)) = false)
    (hb : ∀ (W : WX) (pn : List (Addr × Obj)) (xe : Value → Shared → Prop), Takes (X.tr pn xe) W → PassesOwn (model X.prog X.w) X.A X.env xe → PSs (X.tr pn xe) body (tb W)) :
    PS X (.Try body [.ExceptHandler (some (.Name x p1)) (some n) (.Assign [.Name m p2] (.Name n p3) p4 :: []) p5] [] [] p6) (fun D σ H => tb (wKeep X.K c i j Wo D) D σ H) := by
  refine ⟨fun pins s σ H D I h => ?_⟩
  have fine := I.ok
  have frm : X.A.frames = some (X.env :: X.outer) := fine.frames.trans (congrArg some hs)
  refine wpAny_Try_except ?_
  have bodyRun := (hb (wKeep X.K c i j Wo D) (X.pn ++ pins) (fun e t => wpAny (model X.prog X.w) X.A (noteFrame e X.env) (fun _ t2 => wpAny (model X.prog X.w) X.A (setFlight e none) (fun _ t3 =>
    wpAny (model X.prog X.w) X.A (handleBy e X.env [.ExceptHandler (some (.Name x p1)) (some n) (.Assign [.Name m p2] (.Name n p3) p4 :: []) p5]) (SP X pins D) X.xe t3) X.xe t2) X.xe t) ?took PassesOwn.looking).run [] s σ H D (I.toTry _) h
  case took =>
    rintro u t ⟨a, B, tI, pins0, σ1, H1, cls, d, rfl, J0, nb, up, sky, na, os, ag, b, hb1, hyes, hno⟩
    have J : Inv X pins σ1 H1 tI := J0.ofTry fine
    have sk : Sky B (X.env :: X.outer) a (Zc cls d) X.env.locals t.heap := hs ▸ sky
    have Bn := Sky_new sk
    show wpAny (model X.prog X.w) X.A (noteFrame (.ref a) X.env) _ _ _
    refine Sky.land Zc.steady frm hf sk fun g3 fl3 up3 => ?_
    have K3 : Inv X pins σ1 H1 { t with heap := g3 } := J.landed nb fl3.1 (up.trans up3) os ag
    obtain ⟨o3, v3, at3, z3, dt3⟩ := fl3.there
    have offFrames : a ∉ frs (X.env :: X.outer) := fun hm => by
      obtain ⟨_, o, e, q⟩ := fl3.2.2.1.mem hm
      rw [at3] at e
      cases e
      exact q _ dt3
    have offL : a ≠ X.env.locals := fun z => offFrames (List.mem_filterMap.mpr ⟨X.env, List.mem_cons_self, by rw [hf, z]⟩)
    have offF : a ∉ X.fs := fun hm => by
      obtain ⟨e, he, q⟩ := List.mem_filterMap.mp hm
      exact offFrames (List.mem_filterMap.mpr ⟨e, List.mem_cons_of_mem _ he, q⟩)
    have offS : a ∉ frs X.stack := by rw [hs]; exact offFrames
    -- nothing stood at a ahead of it
    have fresh : ∀ o, X.s_0.heap.get? a = some o → a ∈ X.ex := fun o e => by
      refine Classical.byContradiction fun hx => ?_
      obtain ⟨o', e'⟩ := J.base.there a o e hx
      have := nb a o' e' offS
      rw [Bn] at this
      cases this
    have unpinned : ∀ p ∈ X.pn ++ pins, p.1 ≠ a := fun p hp z => by
      obtain ⟨e, _⟩ := J.pin p hp
      rw [z] at e
      have := nb a _ e offS
      rw [Bn] at this
      cases this
    refine wpAny_handleBy_cons (codeAny_handlers_test ?_) (by intro q; cases q)
    have tyOf : PySem.W.Looks (model X.prog X.w) g3 (typeOf (.ref a)) cls := fun A' Q' E' s' k q => wpAny_typeOf_ref (k _ _ at3) (by rw [z3.1]; exact q)
    have meets := PySem.W.exm_one (M := model X.prog X.w) K3.kIn tyOf hb1
    have S3 := K3.suite at3 dt3 na offL offF
    have look : ∀ {Q : Value → Shared → Prop} {E : Value → Shared → Prop}, Q c { t with heap := g3 } → wpAny (model X.prog X.w) (X.A.mark (some (.ref a))) (eval (.Name x p1) X.env) Q E { t with heap := g3 } := fun {Q E} q => by
      obtain ⟨hg, hdb, k | ⟨k1, k2, k3⟩⟩ := hc
      · exact ld_glob (X := X.suite a ((a, o3) :: (X.pn ++ pins))) S3 hg k q hdb
      · exact ld_blt (X := X.suite a ((a, o3) :: (X.pn ++ pins))) S3 hg k1 k2 q k3 hdb
    refine look (meets.here ?_)
    cases b with
    | true =>
      obtain ⟨C, dx, rfl, rfl, hnx⟩ := hyes rfl
      refine codeAny_handlers_suite_as ?_
      refine PySem.HandSPX.lands_againZ fl3 fun g4 fl4 up4 => ?_
      have K4 : Inv X pins σ1 H1 { t with heap := g4 } := J.landed nb fl4.1 ((up.trans up3).trans up4) os ag
      obtain ⟨o4, v4, at4, z4, dt4⟩ := fl4.there
      have S4 := K4.suite at4 dt4 na offL offF
      refine store_ok (X := X.suite a ((a, o4) :: (X.pn ++ pins))) (v := .ref a) S4 hN hi (.inl hn) rfl (fun t5 S5 => ?_) (.inr hn)
      have hsu := suite_keep (Y := X.suite a ((a, o4) :: (X.pn ++ pins))) (i := i) (j := j) (p2 := p2) (p3 := p3) (p4 := p4) (a := a) hN hi hj (.inl hn) (.inl hm) hm d1 d2
      have il : i < σ1.length := by
        rw [J.len]
        exact (List.getElem?_eq_some_iff.mp hi).1
      refine wpAny_mono (hsu.run [] t5 _ H1 { nx := fun σ' H' => σ' = (σ1.set i (some (.ref a))).set j (some (.ref a)) ∧ H' = H1, rt := fun _ _ => False } S5 ⟨by rw [List.getElem?_set_self il], rfl, rfl⟩) (fun f t6 hsp => ?_) (fun _ _ z => False.elim z)
      cases f with
      | next =>
        obtain ⟨σ6, H6, S6, rfl, rfl⟩ := hsp
        obtain ⟨w1, w2, w3, w4, w5⟩ := S6.pin (a, o4) (List.mem_append_left _ List.mem_cons_self)
        have S7 : Inv X ((a, o4) :: pins) ((σ1.set i (some (.ref a))).set j (some (.ref a))) H6 t6 := ⟨fine, S6.os, S6.bare, S6.base, S6.loc, S6.cell, S6.free, S6.freeC, fun p hp => S6.pin p (List.mem_append_left _ (by
          rcases List.mem_append.mp hp with k | k
          · exact List.mem_cons_of_mem _ (List.mem_append_left _ k)
          · rcases List.mem_cons.mp k with k | k
            · exact k ▸ List.mem_cons_self
            · exact List.mem_cons_of_mem _ (List.mem_append_right _ k))), S6.hok, S6.len⟩
        refine gone_ok S7 hN hi hn fun t8 S8 => ?_
        exact ⟨_, _, Inv_track S8 z4 dt4 unpinned fresh, hnx a na⟩
      | brk =>
        obtain ⟨_, _, _, q⟩ := hsp
        exact q.elim
      | cont =>
        obtain ⟨_, _, _, q⟩ := hsp
        exact q.elim
      | ret u =>
        obtain ⟨_, _, _, _, _, q⟩ := hsp
        exact q.elim
    | false =>
      show wpAny _ X.A (handleBy (.ref a) X.env []) _ _ _
      refine wpAny_handleBy_nil ?_
      obtain ⟨_, _, _, oe, vs, T, oT, ts, he, _, hd, h1, _⟩ := id fl3
      unfold PySem.passOn
      refine wpAny_bind (wpAny_field he hd h1 ?_)
      rw [if_neg (show ¬ ((Value.ref T == Value.none) = true) from by simp)]
      have out : wpAny (model X.prog X.w) X.A (setFlight (.ref a) X.env.frame) (fun _ t4 => wpAny (model X.prog X.w) X.A (throw (.ref a) : Sem Flow) (SP X pins D) X.xe t4) X.xe { t with heap := g3 } := by
        rw [hf]
        refine PySem.HandSPX.setFlight_upZ fl3 fun g4 hh4 up4 => wpAny_throw (tk _ _ ?_)
        exact ⟨a, B, tI, pins, σ1, H1, cls, d, rfl, J, nb, (up.trans up3).trans up4, .inr (.inr (by rw [hs]; exact hh4)), na, os, ag, hno rfl⟩
      first
        | exact wpAny_bind (wpAny_pure (wpAny_bind out))
        | exact wpAny_bind out
  refine wpAny_mono bodyRun (fun f t1 hsp => ?_) fun e t1 q => q
  cases f with
  | next =>
    obtain ⟨σ1, H1, J1, q⟩ := hsp
    exact wpAny_execs_nil ⟨σ1, H1, J1.ofTry fine, q⟩
  | brk =>
    obtain ⟨σ1, H1, J1, q⟩ := hsp
    exact ⟨σ1, H1, J1.ofTry fine, q⟩
  | cont =>
    obtain ⟨σ1, H1, J1, q⟩ := hsp
    exact ⟨σ1, H1, J1.ofTry fine, q⟩
  | ret u =>
    obtain ⟨v, σ1, H1, J1, r, q⟩ := hsp
    exact ⟨v, σ1, H1, J1.ofTry fine, r, q⟩
end
end Mi

set_option Elab.async false
set_option linter.all false
set_option maxRecDepth 100000
set_option autoImplicit false
set_option maxHeartbeats 4000000
namespace Mi
open PySem PySem.Spec PyProof.Rows L2
/-! ### the classes of errors -/
/-- of these classes one is over all others -/
def subT (c' c : Nat) : Bool := c == 0 || c' == c
/-- what an error class is, by the written part; fI: the __init__ of the first one -/
structure ExcF (K : PySem.W.Frag) (fI C : Addr) : Prop where
  oex : OexC K C
  xf : XfC K C
  fld : PySem.W.findIn K (.ref C) "value" = some none
  ini : PySem.W.findIn K (.ref C) "__init__" = some (some (.ref fI))
  cl : (PySem.W.clsIn K C).isSome = true
  ha : PySem.W.findIn K (.ref C) "__class__" = some (some (.builtin "object.__class__"))
  hn : PySem.W.specialIn K (.builtin "object.__class__") "__get__" = some (some (.builtin "getset_descriptor.__get__"))
  ht : PySem.W.takesIn K (.builtin "object.__class__") = some true
  hm : PySem.W.mroIn K C (.type "object") = some true
  ve : PySem.W.kitOne K (.ref C) (.type "ValueError") = some true
def oexB (K : PySem.W.Frag) (C : Addr) : Bool := match K.lookup C with
  | some ⟨.type "type", _, .cls cd, sl⟩ => (match cd.mro, sl.toList with
    | .ref C' :: bm, [_, _, _, _, some (.builtin n), _] => C' == C && n == "ValueError.__new__" && cd.hasDict && !cd.hasDel && PySem.HandSPX.refsVE bm
    | _, _ => false)
  | _ => false
theorem oexB_ok {K : PySem.W.Frag} {C : Addr} (q : oexB K C = true) : ∃ nm q N bs bm sn sub ab col dd k0 k1 k2 k3 k5, K.lookup C = some (excClassObj nm q C N bs bm true sn sub ab col dd k0 k1 k2 k3 k5 "ValueError.__new__") ∧ PySem.HandSPX.refsVE bm = true := by
  unfold oexB at q
  split at q
  · rename_i dd cd sl ho
    split at q
    · rename_i C' bm k0 k1 k2 k3 n k5 hm hs
      simp only [Bool.and_eq_true, beq_iff_eq, Bool.not_eq_true'] at q
      obtain ⟨⟨⟨⟨rfl, rfl⟩, hdi⟩, hdel⟩, hb⟩ := q
      obtain ⟨nm, bs, mro, ns, qn, hd, sn, sub, ab, col, del⟩ := cd
      dsimp only at hm hdel hdi
      subst hm hdel hdi
      obtain ⟨l⟩ := sl
      simp only at hs
      subst hs
      exact ⟨nm, qn, ns, bs, bm, sn, sub, ab, col, dd, k0, k1, k2, k3, k5, ho, hb⟩
    · cases q
  · cases q
def excFB (K : PySem.W.Frag) (fI C : Addr) : Bool :=
  oexB K C && decide (PySem.W.findIn K (.ref C) "__setattr__" = some (some (.builtin "object.__setattr__"))) && decide (PySem.W.subIn K (.ref C) (.type "BaseException") = some true) && decide (PySem.W.typeIn K (.ref C) = some (.type "type")) && PySem.W.keepIn K (.ref C) &&
  (decide (PySem.W.findIn K (.ref C) "__getattribute__" = some (some (.builtin "BaseException.__getattribute__"))) && decide (PySem.W.findIn K (.ref C) "__getattr__" = some none) && PySem.W.hasDictIn K C) &&
  (decide (PySem.W.findIn K (.ref C) "value" = some none) && decide (PySem.W.findIn K (.ref C) "__init__" = some (some (.ref fI))) && (PySem.W.clsIn K C).isSome && decide (PySem.W.findIn K (.ref C) "__class__" = some (some (.builtin "object.__class__")))) &&
  (decide (PySem.W.specialIn K (.builtin "object.__class__") "__get__" = some (some (.builtin "getset_descriptor.__get__"))) && decide (PySem.W.takesIn K (.builtin "object.__class__") = some true) && decide (PySem.W.mroIn K C (.type "object") = some true) && decide (PySem.W.kitOne K (.ref C) (.type "ValueError") = some true))
theorem excFB_ok {K : PySem.W.Frag} {fI C : Addr} (h : excFB K fI C = true) : ExcF K fI C := by
  unfold excFB at h
  simp only [Bool.and_eq_true, decide_eq_true_eq] at h
  obtain ⟨⟨⟨⟨⟨⟨⟨h1, h2⟩, h3⟩, h4⟩, h5⟩, ⟨h6, h7⟩, h8⟩, ⟨⟨h9, h10⟩, h11⟩, h12⟩, ⟨⟨h13, h14⟩, h15⟩, h16⟩ := h
  exact ⟨⟨oexB_ok h1, h2, h3, h4, h5⟩, ⟨h6, h7, h3, h8⟩, h9, h10, h11, h12, h13, h14, h15, h16⟩
/-- the class c, where it is there -/
def atB (K : PySem.W.Frag) (c : Nat) (k : Addr → Bool) : Bool := match PySem.W.nsIn K mainGlobals (excNm c) with
  | some (some (.ref C)) => k C
  | some none => true
  | _ => false
/-- all of them, two at a time -/
def excB (K : PySem.W.Frag) (fI : Addr) : Bool := (List.range 23).all fun c => atB K c fun C => excFB K fI C && (List.range 23).all fun c' => atB K c' fun C' =>
  decide (PySem.W.kitOne K (.ref C) (.ref C') = some (subT c c')) && decide (PySem.W.exmOne K (.ref C) (.ref C') = some (subT c c'))
theorem atB_ok {K : PySem.W.Frag} {c : Nat} {k : Addr → Bool} {C : Addr} (h : atB K c k = true) (hc : PySem.W.nsIn K mainGlobals (excNm c) = some (some (.ref C))) : k C = true := by
  unfold atB at h
  rw [hc] at h
  exact h
theorem excB_one {K : PySem.W.Frag} {fI C : Addr} {c : Nat} (h : excB K fI = true) (hc : clsAt K c C) : ExcF K fI C := by
  have h1 := List.all_eq_true.mp h c (List.mem_range.mpr hc.1)
  have h2 := atB_ok h1 hc.2
  rw [Bool.and_eq_true] at h2
  exact excFB_ok h2.1
theorem excB_two {K : PySem.W.Frag} {fI C C' : Addr} {c c' : Nat} (h : excB K fI = true) (hc : clsAt K c C) (hc' : clsAt K c' C') : PySem.W.kitOne K (.ref C) (.ref C') = some (subT c c') ∧ PySem.W.exmOne K (.ref C) (.ref C') = some (subT c c') := by
  have h1 := List.all_eq_true.mp h c (List.mem_range.mpr hc.1)
  have h2 := atB_ok h1 hc.2
  rw [Bool.and_eq_true] at h2
  have h3 := atB_ok (List.all_eq_true.mp h2.2 c' (List.mem_range.mpr hc'.1)) hc'.2
  simpa using h3
end Mi

set_option Elab.async false
set_option linter.all false
set_option maxRecDepth 100000
set_option autoImplicit false
set_option maxHeartbeats 4000000
namespace Mi
open PySem PySem.Spec PyProof.Rows L2
/-! ### __init__ of the errors, raise -/
/-- the text of __init__ -/
structure IniTxt (st : PySem.Stmt) : Prop where
  sc : FnScope [("self" : Str), ("value" : Str)] [("self" : Str), ("value" : Str)] (defScope st)
  ve : (defScope st).names.lookup ("ValueError" : Str) = some .globalImplicit
  bd : ∃ p1 p2 p3 p4 p5 p6 p7 p8 p9 p10 : Pos, defBody st = [.Expr (.Call (.Attribute (.Name "ValueError" p1) "__init__" p2) [.Name "self" p3, .Name "value" p4] [] p5) p6, .Assign [.Attribute (.Name "self" p7) "value" p8] (.Name "value" p9) p10] ∧
    (∀ (q : Str) (n f : Addr) (cdv : Value), ∃ pl : Sem Bool, eval (.Call (.Attribute (.Name "ValueError" p1) "__init__" p2) [.Name "self" p3, .Name "value" p4] [] p5) (envOfC q (defScope st) n f cdv) = (do
      let ov ← eval (.Name "ValueError" p1) (envOfC q (defScope st) n f cdv)
      standAt p2.atName
      let (g, first) ← holding [ov] (getMethod ov "__init__" pl)
      callWith p5 g first (backTo p5 (starEach [.Name "self" p3, .Name "value" p4] (envOfC q (defScope st) n f cdv))) (backToKw p5 (keywordEach [] (envOfC q (defScope st) n f cdv)))))
/-- what __init__ is asked and does -/
def iniSp (K : PySem.W.Frag) : Sp := fun vs H Q _ => ∃ (a C : Addr) (v : V), vs = [.ref a, v] ∧ OexC K C ∧ PySem.W.findIn K (.ref C) "value" = some none ∧ H a = some (exo a C none) ∧ ∀ dx, H dx = none → dx ≠ a → Q .non (upd (upd H dx (exd dx [("value", v)])) a (exo a C (some dx)))
section
variable {P : Program} {w : World} {K : PySem.W.Frag} {mg : Str → Option Value} {base : Heap}
theorem ini_fn {q : Str} {st : PySem.Stmt} {f : Addr} {fd : FuncData} (F : L2.Fun K "__init__" q st f fd) (T : IniTxt st) (hm : mg "ValueError" = none) (vV : PySem.W.findCls K (.type "ValueError") (.type "type") "__init__" = some (.val (.builtin "ValueError.__init__"))) :
    FnOk P w K mg base (L2.CX P w) 1 f fd [("self" : Str), ("value" : Str)] (iniSp K) := by
  refine F.okX T.sc (fun vs H Q E h => ?_) (fun cdv A outer s H vs Q E hr h => ?_)
  · obtain ⟨a, C, v, rfl, _⟩ := h
    rfl
  · obtain ⟨a, C, v, rfl, hC, hno, ea, hq⟩ := h
    obtain ⟨p1, p2, p3, p4, p5, p6, p7, p8, p9, p10, hb, he⟩ := T.bd
    obtain ⟨pl, he⟩ := he q s.heap.objs.size f cdv
    have hvis : ∀ x ∈ [("self" : Str), ("value" : Str)], Vis (defScope st) x := fun x hx => by
      rcases T.sc.par x hx with k | k
      · exact .inl k
      · exact .inr (.inl k)
    rw [hb]
    refine ⟨tSeq (tDrop (tVeI K (tCons (tVar 0) (tCons (tVar 1) tNil)))) (tSeq (tOst K "value" (tVar 0) (tVar 1)) tNext), ?_, ?_⟩
    · refine pss_cons (ps_expr (pe_veinit T.ve hm vV (pa_cons (pe_var (i := 0) rfl (hvis "self" (by simp))) (pa_cons (pe_var (i := 1) rfl (hvis "value" (by simp))) pa_nil)) he)) (pss_cons (ps_ost (pe_var (i := 0) rfl (hvis "self" (by simp))) (pe_var (i := 1) rfl (hvis "value" (by simp)))) pss_nil)
    · refine ⟨.ref a, rfl, v, rfl, ?_⟩
      refine ⟨a, C, [v], rfl, by show 1 ≤ 1000; decide, hC, ea, ?_⟩
      refine ⟨v, rfl, .ref a, rfl, a, C, rfl, hC, hno, .inl ⟨ea, fun dx n ne => hq dx n ne⟩⟩
end
/-- an error in flight, as data -/
def excXR (K : PySem.W.Frag) : XRep := fun c x cls dx O H => ∃ (C d : Addr) (v : V), cls = .ref C ∧ clsAt K c C ∧ dx = some d ∧ ¬ O d ∧ H d = some (.xd [("value", v)]) ∧ Rep K O H v x
end Mi

set_option Elab.async false
set_option linter.all false
set_option maxRecDepth 100000
set_option autoImplicit false
set_option maxHeartbeats 1000000
namespace Mi
open PySem PySem.Spec PyProof.Rows L2
/-! ### t * k -/
theorem tup_mul_same (l : Addr) (its : Array Value) (n : Nat) (dd : Option Addr) (sl : Array (Option Value)) (x : Int) (u : Tok) (c0 : (decide (x < -(2 ^ 63)) || decide (x ≥ 2 ^ 63)) = false) (c1 : (its.isEmpty || x == 1) = true) :
    Meets (Builtin.«tuple.__mul__» ⟨[.ref l, .int x u], []⟩) (fun _ R s => s.heap.get? l = some { cls := .type "tuple", dict := dd, data := .seq its n, slots := sl } ∧ R (.ok (.ret (.ref l))) s) :=
  .of_wp fun prog w A R s h => by
    obtain ⟨hp, g, d, tk, os⟩ := s
    obtain ⟨hl, h⟩ := h
    have f1 := AutoSeq1.idx_int
    wp_walk using wpAny_loadPart' hl
    refine wpAny_ite_false (decide_eq_false (by rw [c0]; exact Bool.false_ne_true)) ?_
    wp_walk using wpAny_loadPart' hl
    exact ⟨_, rfl, h⟩
theorem tup_mul_none (l : Addr) (its : Array Value) (n : Nat) (dd : Option Addr) (sl : Array (Option Value)) (x : Int) (u : Tok) (c0 : (decide (x < -(2 ^ 63)) || decide (x ≥ 2 ^ 63)) = false) (c1 : (its.isEmpty || x == 1) = false) (c2 : (decide (x ≤ 0) || its.isEmpty) = true) :
    Meets (Builtin.«tuple.__mul__» ⟨[.ref l, .int x u], []⟩) (fun _ R s => s.heap.get? l = some { cls := .type "tuple", dict := dd, data := .seq its n, slots := sl } ∧
      R (.ok (.ret (Value.ref s.heap.objs.size))) { s with heap := s.heap.push { cls := Value.type "tuple", data := Data.seq #[] }, toks := s.toks }) :=
  .of_wp fun prog w A R s h => by
    obtain ⟨hp, g, d, tk, os⟩ := s
    obtain ⟨hl, h⟩ := h
    have f1 := AutoSeq1.idx_int
    wp_walk using wpAny_loadPart' hl
    refine wpAny_ite_false (decide_eq_false (by rw [c0]; exact Bool.false_ne_true)) ?_
    wp_walk using wpAny_loadPart' hl
    exact ⟨_, rfl, h⟩
theorem op_repX {X : Cx} : OpR X (binaryOp .Mult) (fun x y H Q => ∃ l k xs, x = .ref l ∧ y = .int k ∧ SqT X.K H l xs ∧ -(2 ^ 63) ≤ k ∧ k ≤ 1000000 ∧ xs.length * k.toNat ≤ 1000000 ∧ (((List.replicate k.toNat xs).flatten = xs) → Q (.ref l) H) ∧
    ∀ p o, H p = none → o.dict = none → Q (.ref p) (upd H p (.frz o (.tup (List.replicate k.toNat xs).flatten)))) := by
  intro pins s σ H x y v u Q I rx ry h
  obtain ⟨l, k, xs, rfl, rfl, hT, h0, h1, h2, q1, q⟩ := h
  cases rx
  obtain ⟨t, rfl⟩ := ry
  obtain ⟨its, r, ⟨⟨cls, dd, data, sl⟩, ho, hc, n, hd⟩, hs⟩ := I.tuple hT
  simp only at hc hd
  subst hc hd
  have hle : its.length = xs.length := r.length.symm
  have c0 : (decide (k < -(2 ^ 63)) || decide (k ≥ 2 ^ 63)) = false := by
    rw [decide_eq_false (by omega), decide_eq_false (by omega)] <;> rfl
  refine wpAny_binaryOp_repeat_ref (T := "tuple") (U := "int") (by decide) ⟨_, ho, rfl⟩ (fun s' => typeIs_int s' k t) noFill_tuple_mul F.fills_int_mul F.slot_int_rmul repeat_tuple F.slot_int_index.lookup
    (call_meets F.slot_int_rmul (typeIs_int s k t) F.entry_int_rmul (F.args_int_rmul_2 _ _) (int_rmul_tuple k t l its.toArray n dd sl) ⟨ho, rfl, ⟨_, ho, rfl⟩, ?_⟩)
  by_cases c1 : (its.toArray.isEmpty || k == 1) = true
  · refine call_meets F.slot_tuple_mul ⟨_, ho, rfl⟩ F.entry_tuple_mul (F.args_tuple_mul_2 _ _) (tup_mul_same l its.toArray n dd sl k t c0 c1) ⟨ho, ?_⟩
    refine ⟨.ref l, H, I, rfl, q1 ?_⟩
    rw [Bool.or_eq_true] at c1
    rcases c1 with c1 | c1
    · have e : xs = [] := by
        refine List.eq_nil_of_length_eq_zero ?_
        rw [← hle]
        have : its.toArray = #[] := by simpa using c1
        simpa using congrArg Array.size this
      subst e
      simp
    · have e : k = 1 := by simpa using c1
      subst e
      show (List.replicate 1 xs).flatten = xs
      simp
  · have c1 : (its.toArray.isEmpty || k == 1) = false := (Bool.not_eq_true _).mp c1
    have fresh := I.hok.fresh (Nat.le_refl s.heap.objs.size)
    by_cases c2 : (decide (k ≤ 0) || its.toArray.isEmpty) = true
    · refine call_meets F.slot_tuple_mul ⟨_, ho, rfl⟩ F.entry_tuple_mul (F.args_tuple_mul_2 _ _) (tup_mul_none l its.toArray n dd sl k t c0 c1 c2) ⟨ho, ?_⟩
      have e0 : (List.replicate k.toNat xs).flatten = [] := by
        rw [Bool.or_eq_true] at c2
        rcases c2 with c2 | c2
        · have : k.toNat = 0 := by have := of_decide_eq_true c2; omega
          rw [this]; rfl
        · rw [c2] at c1; cases c1
      refine ⟨.ref s.heap.objs.size, _, I.laid (t' := s.toks) (o := .frz { cls := .type "tuple", data := .seq #[] } (.tup [])) (fun b ob q => Heap.get?_push_of_some _ q) (Nat.le_refl _) ?_, rfl, by have := q s.heap.objs.size { cls := .type "tuple", data := .seq #[] } fresh rfl; rw [e0] at this; exact this⟩
      exact ⟨Heap.get?_push_size _ rfl, Nat.zero_le _, [], .nil, IsTup.new _ _⟩
    · have c2 : (decide (k ≤ 0) || its.toArray.isEmpty) = false := (Bool.not_eq_true _).mp c2
      have hsz0 : its.toArray.size = xs.length := by rw [List.size_toArray, hle]
      have kp : 0 < k := by
        rw [Bool.or_eq_false_iff] at c2
        have := of_decide_eq_false c2.1
        omega
      have hm : ((its.toArray.size : Nat) : Int) * k ≤ 1000000 := by
        rw [hsz0]
        have : ((xs.length * k.toNat : Nat) : Int) ≤ 1000000 := by
          generalize xs.length * k.toNat = z at h2 ⊢
          omega
        rw [Int.natCast_mul, Int.toNat_of_nonneg (by omega)] at this
        exact this
      have flen : (List.replicate k.toNat its).flatten.length ≤ sizeLine := by
        rw [PyProof.Rows.lm_len_rep_flat, hle, sizeLine_eq, Nat.mul_comm]
        omega
      have c4 : Builtin.Tuple.tupleTooMany (((its.toArray.size : Nat) : Int) * k) = false := by
        unfold Builtin.Tuple.tupleTooMany
        rw [sizeLine_eq]
        exact decide_eq_false (by omega)
      refine call_meets F.slot_tuple_mul ⟨_, ho, rfl⟩ F.entry_tuple_mul (F.args_tuple_mul_2 _ _) (tuple_mulW l its.toArray n dd sl k t c0 c1 c2 (by omega) c4 (by rw [size_rep, List.size_toArray]; exact flen)) ⟨ho, ?_⟩
      rw [size_rep]
      refine ⟨.ref s.heap.objs.size, _, I.laid (t' := s.toks) (o := .frz { cls := .type "tuple", data := .seq (List.replicate k.toNat its).flatten.toArray } (.tup (List.replicate k.toNat xs).flatten)) (fun b ob q => Heap.get?_push_of_some _ q) (Nat.le_refl _) ?_, rfl, q s.heap.objs.size _ fresh rfl⟩
      exact ⟨Heap.get?_push_size _ rfl, by rw [PyProof.Rows.lm_len_rep_flat, sizeLine_eq, Nat.mul_comm]; omega, _, r.rep k.toNat, IsTup.new _ _⟩
end Mi

set_option Elab.async false
set_option linter.all false
set_option maxRecDepth 100000
set_option autoImplicit false
namespace Mi
open PySem PySem.Spec PyProof.Rows L2
section
variable {X : Cx} {O : Addr → Prop} {H : Hp}
/-! ### operators -/
def pyOp : Op → Operator
  | .add => .Add | .sub => .Sub | .mul => .Mult | .fdiv => .FloorDiv | .mod => .Mod | .pow => .Pow | .band => .BitAnd
def pyCm : Cm → CmpOp
  | .eq => .Eq | .ne => .NotEq | .lt => .Lt | .le => .LtE | .gt => .Gt | .ge => .GtE | .isN => .Is | .notN => .IsNot | .isin => .In | .notin => .NotIn
theorem upd_more {p : Addr} {o : HO} (hp : H p = none) : ∀ a u, H a = some u → upd H p o a = some u := fun a u h => by
  rw [upd_ne (ne_of_none h hp)]; exact h
theorem line_le {n : Nat} (h : n ≤ LINE) : n ≤ sizeLine := by
  rw [sizeLine_eq]
  have h : n ≤ 16000000 := h
  omega
theorem prm_lst {K : PySem.W.Frag} {p : Addr} {vs : List V} {ds : List D} (hp : H p = none) (r : RepL K O H vs ds) : Prm K O H (.lst ds) true (.ref p) (upd H p (.lst vs)) :=
  ⟨upd_more hp, p, vs, ds, rfl, rfl, hp, upd_same, r⟩
theorem prm_tup {K : PySem.W.Frag} {p : Addr} {o : Obj} {vs : List V} {ds : List D} (hl : ∀ a, O a → H a ≠ none) (hp : H p = none) (ho : o.dict = none) (r : RepL K O H vs ds) : Prm K O H (.tup ds) false (.ref p) (upd H p (.frz o (.tup vs))) :=
  ⟨upd_more hp, .tup (fun z => hl p z hp) upd_same ho (r.keep fun a o n h => ⟨n, upd_more hp a o h⟩)⟩
/-- t + u, the new tuple by its object -/
theorem op_catX : OpR X (binaryOp .Add) (fun x y H Q => ∃ a b xs ys, x = .ref a ∧ y = .ref b ∧ SqT X.K H a xs ∧ SqT X.K H b ys ∧ xs.length + ys.length ≤ sizeLine ∧ (xs = [] → Q (.ref b) H) ∧ (ys = [] → Q (.ref a) H) ∧ ∀ p o, H p = none → o.dict = none → Q (.ref p) (upd H p (.frz o (.tup (xs ++ ys))))) := by
  intro pins s σ H x y v u Q I rx ry h
  obtain ⟨a, b, xs, ys, rfl, rfl, ha, hb, hz, q0, q1, q2⟩ := h
  by_cases hx : xs = []
  · subst hx
    cases rx
    cases ry
    obtain ⟨its, r1, p1, _⟩ := I.tuple ha
    obtain ⟨its2, r2, p2, _⟩ := I.tuple hb
    cases r1
    exact cat_tup0 p1 p2 ⟨.ref b, H, I, rfl, q0 rfl⟩
  · cases rx
    cases ry
    obtain ⟨its, r1, p1, _⟩ := I.tuple ha
    obtain ⟨its2, r2, p2, _⟩ := I.tuple hb
    refine HT.cat_tup p1 p2 (fun z => hx (r1.nil_iff.mp z)) (fun z => ⟨.ref a, H, I, rfl, q1 (r2.nil_iff.mp z)⟩) (fun z => ?_) (by rw [← r1.length, ← r2.length]; exact hz)
    refine ⟨.ref s.heap.objs.size, _, I.laid (t' := s.toks) (o := .frz _ (.tup (xs ++ ys))) (fun b ob q => Heap.get?_push_of_some _ q) (Nat.le_refl _) ?_, rfl, q2 s.heap.objs.size { cls := .type "tuple", data := .seq (its ++ its2).toArray } (I.hok.fresh (Nat.le_refl _)) rfl⟩
    exact ⟨Heap.get?_push_size _ rfl, by rw [List.length_append]; exact hz, _, r1.append r2, IsTup.new _ _⟩
/-- t[lo:hi]: the whole of it is t itself -/
theorem sl_tupX : SlR X (fun x lo hi H Q => ∃ a xs, x = .ref a ∧ SqT X.K H a xs ∧ (HT.sIx xs.length 0 lo = 0 ∧ HT.sIx xs.length xs.length hi = xs.length → Q (.ref a) H) ∧
    ∀ p o, H p = none → o.dict = none → Q (.ref p) (upd H p (.frz o (.tup (cutV xs lo hi))))) := by
  intro pins s σ H x v vl vu lo hi sl Q I rx hs pl pu h
  obtain ⟨a, xs, rfl, hx, q1, q2⟩ := h
  cases rx
  obtain ⟨its, r, ht, hz⟩ := I.tuple hx
  have hlen : its.toArray.size = xs.length := by rw [List.size_toArray]; exact r.length.symm
  refine ⟨"tuple", _, PyProof.Rows.slot_tuple_getitem.lookup, ht.typeIs, ?_⟩
  by_cases hw : HT.sIx xs.length 0 lo = 0 ∧ HT.sIx xs.length xs.length hi = xs.length
  · exact getItem_tuple_whole ht hs pl pu (by rw [hlen]; exact hw) ⟨.ref a, H, I, rfl, q1 hw⟩
  · refine HT.getItem_tuple_cut ht hs pl pu (by rw [hlen]; exact hw) ?_ (by rw [hlen]; exact hz)
    rw [hlen]
    refine ⟨.ref s.heap.objs.size, _, I.laid (t' := s.toks) (o := .frz { cls := .type "tuple", data := .seq ((its.toArray.toList.drop (HT.sIx xs.length 0 lo)).take (HT.sIx xs.length xs.length hi - HT.sIx xs.length 0 lo)).toArray } (.tup (cutV xs lo hi))) (fun b ob q => Heap.get?_push_of_some _ q) (Nat.le_refl _) ?_, rfl, q2 s.heap.objs.size _ (I.hok.fresh (Nat.le_refl _)) ?_⟩
    · exact ⟨Heap.get?_push_size _ rfl, Nat.le_trans (cutV_length xs lo hi) hz, _, (r.drop (HT.sIx xs.length 0 lo)).take (HT.sIx xs.length xs.length hi - HT.sIx xs.length 0 lo), IsTup.new _ _⟩
    · rfl
theorem mulOk_ok {i j : Int} (h : mulOk i j = true) : IntMulOk i j := by
  unfold mulOk at h
  simp only [Bool.or_eq_true, Bool.and_eq_true, decide_eq_true_eq] at h
  rcases h with (h | h) | h
  · exact .of_left (intBits_le_64 (by omega) (by omega))
  · exact .of_right (intBits_le_64 (by omega) (by omega))
  · exact CMulW.ok h
/-- // by what is not 0 and not too long -/
theorem op_fdivL : OpR X (binaryOp .FloorDiv) (rI (fun _ j => j ≠ 0 ∧ j.natAbs.log2 < 9000) fun i j => .int (i.fdiv j)) := opI fun _ _ _ _ _ _ _ hc q => floordiv_int hc.1 q (.inl (PyProof.noPylong_of_log2 hc.2))
theorem op2_ok (o : Op) : OpR X (binaryOp (pyOp o)) (fun x y H Q => (∃ O dx dy d b, (∀ a, O a → H a ≠ none) ∧ RepB X.K O H x dx ∧ RepB X.K O H y dy ∧ op2 o dx dy = some (d, b) ∧ ∀ v H', Prm X.K O H d b v H' → Q v H')) := by
  intro pins s σ H x y v u Q I rx ry ⟨O, dx, dy, d, b, hl, hx, hy, e, q⟩
  cases o with
  | add =>
    cases dx <;> cases dy <;> first | (cases e; done) | skip
    case add.int.int i j =>
      cases e
      exact op_add pins s σ H x y v u Q I rx ry ⟨i, j, hx.int, hy.int, q _ _ (prm_same (.int _))⟩
    case add.tup.tup xs ys =>
      have e : (if xs.length + ys.length ≤ LINE then some (D.tup (xs ++ ys), false) else none) = some (d, b) := e
      by_cases hz : xs.length + ys.length ≤ LINE
      · rw [if_pos hz] at e
        cases e
        obtain ⟨a, vs, rfl, h1, r1⟩ := hx.tup
        obtain ⟨b, us, rfl, h2, r2⟩ := hy.tup
        refine op_catX pins s σ H _ _ v u Q I rx ry ⟨a, b, vs, us, rfl, rfl, h1, h2, by rw [r1.length, r2.length]; exact line_le hz, fun z => ?_, fun z2 => ?_, fun p o hp ho => q _ _ (prm_tup hl hp ho (r1.append r2))⟩
        · subst z
          cases r1
          refine q _ _ (prm_same ?_)
          rcases hy with hy | ⟨_, _, _, _, _, z, _⟩
          · exact hy
          · cases z
        · subst z2
          cases r2
          refine q _ _ (prm_same ?_)
          rw [List.append_nil]
          rcases hx with hx | ⟨_, _, _, _, _, z, _⟩
          · exact hx
          · cases z
      · rw [if_neg hz] at e; cases e
    case add.lst.lst xs ys =>
      have e : (if xs.length + ys.length ≤ LINE then some (D.lst (xs ++ ys), true) else none) = some (d, b) := e
      by_cases hz : xs.length + ys.length ≤ LINE
      · rw [if_pos hz] at e
        cases e
        obtain ⟨a, vs, rfl, h1, r1⟩ := hx.lst
        obtain ⟨b, us, rfl, h2, r2⟩ := hy.lst
        exact op_cat pins s σ H _ _ v u Q I rx ry ⟨a, b, vs, us, rfl, rfl, h1, h2, by rw [r1.length, r2.length]; exact line_le hz, fun p hp => q _ _ (prm_lst hp (r1.append r2))⟩
      · rw [if_neg hz] at e; cases e
  | sub =>
    cases dx <;> cases dy <;> first | (cases e; done) | skip
    case sub.int.int i j =>
      cases e
      exact op_sub pins s σ H x y v u Q I rx ry ⟨i, j, hx.int, hy.int, q _ _ (prm_same (.int _))⟩
  | mul =>
    cases dx <;> cases dy <;> first | (cases e; done) | skip
    case mul.int.int i j =>
      have e : (if mulOk i j then some (D.int (i * j), false) else none) = some (d, b) := e
      by_cases hz : mulOk i j = true
      · rw [if_pos hz] at e
        cases e
        exact (opI (f := binaryOp .Mult) (C := IntMulOk) (g := fun i j => i * j) (fun _ _ _ _ _ _ _ hc q => mul_int q hc)) pins s σ H x y v u Q I rx ry ⟨i, j, hx.int, hy.int, mulOk_ok hz, q _ _ (prm_same (.int _))⟩
      · rw [if_neg hz] at e; cases e
    case mul.tup.int xs k =>
      have e : (if -(2 ^ 63) ≤ k ∧ k ≤ 1000000 ∧ xs.length * k.toNat ≤ 1000000 then some (D.tup (List.replicate k.toNat xs).flatten, false) else none) = some (d, b) := e
      by_cases hz : -(2 ^ 63) ≤ k ∧ k ≤ 1000000 ∧ xs.length * k.toNat ≤ 1000000
      · rw [if_pos hz] at e
        cases e
        obtain ⟨a, vs, rfl, h1, r1⟩ := hx.tup
        refine op_repX pins s σ H _ _ v u Q I rx ry ⟨a, k, vs, rfl, hy.int, h1, hz.1, hz.2.1, by rw [r1.length]; exact hz.2.2, fun z => ?_, fun p o hp ho => q _ _ (prm_tup hl hp ho (r1.rep _))⟩
        have zl := congrArg List.length z
        rw [PyProof.Rows.lm_len_rep_flat, r1.length] at zl
        have ze : (List.replicate k.toNat xs).flatten = xs := by
          by_cases h0 : xs.length = 0
          · have : xs = [] := List.eq_nil_of_length_eq_zero h0
            subst this
            simp
          · have : k.toNat = 1 := Nat.eq_of_mul_eq_mul_right (Nat.pos_of_ne_zero h0) (by rw [zl, Nat.one_mul])
            rw [this]
            simp
        refine q _ _ (prm_same ?_)
        rw [ze]
        rcases hx with hx | ⟨_, _, _, _, _, z, _⟩
        · exact hx
        · cases z
      · rw [if_neg hz] at e; cases e
    case mul.lst.int xs k =>
      have e : (if -(2 ^ 63) ≤ k ∧ k.toNat ≤ LINE ∧ xs.length * k.toNat ≤ LINE then some (D.lst (List.replicate k.toNat xs).flatten, true) else none) = some (d, b) := e
      by_cases hz : -(2 ^ 63) ≤ k ∧ k.toNat ≤ LINE ∧ xs.length * k.toNat ≤ LINE
      · rw [if_pos hz] at e
        cases e
        obtain ⟨a, vs, rfl, h1, r1⟩ := hx.lst
        exact op_rep pins s σ H _ _ v u Q I rx ry ⟨a, k, vs, rfl, hy.int, h1, hz.1, (by have h : k.toNat ≤ 16000000 := hz.2.1; omega), by rw [r1.length]; exact line_le hz.2.2, fun p hp => q _ _ (prm_lst hp (r1.rep _))⟩
      · rw [if_neg hz] at e; cases e
  | fdiv =>
    cases dx <;> cases dy <;> first | (cases e; done) | skip
    case fdiv.int.int i j =>
      have e : (if divOk j then some (D.int (i.fdiv j), false) else none) = some (d, b) := e
      by_cases hz : divOk j = true
      · rw [if_pos hz] at e
        cases e
        unfold divOk at hz
        simp only [Bool.or_eq_true, Bool.and_eq_true, decide_eq_true_eq] at hz
        obtain ⟨h0, hz⟩ := hz
        rcases hz with hz | hz
        · exact op_fdivN pins s σ H x y v u Q I rx ry ⟨i, j, hx.int, hy.int, ⟨h0, hz⟩, q _ _ (prm_same (.int _))⟩
        · exact op_fdivL pins s σ H x y v u Q I rx ry ⟨i, j, hx.int, hy.int, ⟨h0, hz⟩, q _ _ (prm_same (.int _))⟩
      · rw [if_neg hz] at e; cases e
  | mod =>
    cases dx <;> cases dy <;> first | (cases e; done) | skip
    case mod.int.int i j =>
      have e : (if j ≠ 0 then some (D.int (i.fmod j), false) else none) = some (d, b) := e
      by_cases hz : j ≠ 0
      · rw [if_pos hz] at e
        cases e
        exact op_modN pins s σ H x y v u Q I rx ry ⟨i, j, hx.int, hy.int, hz, q _ _ (prm_same (.int _))⟩
      · rw [if_neg hz] at e; cases e
  | pow =>
    cases dx <;> cases dy <;> first | (cases e; done) | skip
    case pow.int.int i j =>
      have e : (if powOk i j then some (D.int (i ^ j.toNat), false) else none) = some (d, b) := e
      by_cases hz : powOk i j = true
      · rw [if_pos hz] at e
        cases e
        unfold powOk at hz
        simp only [Bool.and_eq_true, decide_eq_true_eq] at hz
        exact op_pow pins s σ H x y v u Q I rx ry ⟨i, j, hx.int, hy.int, ⟨hz.1.1, hz.1.2, Nat.lt_of_le_of_lt hz.2 (by decide)⟩, q _ _ (prm_same (.int _))⟩
      · rw [if_neg hz] at e; cases e
  | band =>
    cases dx <;> cases dy <;> first | (cases e; done) | skip
    case band.int.int i j =>
      cases e
      exact op_and pins s σ H x y v u Q I rx ry ⟨i, j, hx.int, hy.int, q _ _ (prm_same (.int _))⟩
/-! ### comparisons -/
mutual
def pyD : D → PyData
  | .non => .none
  | .bl b => .bool b
  | .int i => .int i
  | .str s => .str s
  | .tup xs => .tuple (pyDs xs)
  | .lst xs => .list (pyDs xs)
  | .tupn _ => .none
  | .exc _ _ => .none
  | .scr _ => .none
def pyDs : List D → List PyData
  | [] => []
  | x :: xs => pyD x :: pyDs xs
end
mutual
theorem Rep.dp {K : PySem.W.Frag} : ∀ {d : D} {v : V}, Rep K O H v d → cmpOk d = true → Dp K H v (pyD d)
  | _, _, .non, _ => .non
  | _, _, .bl b, _ => .bl b
  | _, _, .int i, _ => .int i
  | _, _, .str x, _ => .str x
  | .tup ds, _, .tup n h _ r, c => .tup (.inl (.inr ⟨_, h⟩)) (RepL.dp r c)
  | .tupn ds, _, .tupn n h r, c => by cases c
  | .tup ds, _, .tupK a b _ e f g r, c => .tup (.inr ⟨_, _, _, a, b, e, f, g⟩) (RepL.dp r c)
  | .lst ds, _, .lst n h r, c => .lst (.inl (.inl h)) (RepL.dp r c)
  | .scr _, _, .scr n h, c => by cases c
  | .scr _, _, .scrK _ _ _ _ _ _, c => by cases c
theorem RepL.dp {K : PySem.W.Frag} : ∀ {ds : List D} {vs : List V}, RepL K O H vs ds → cmpOks ds = true → DpAll K H vs (pyDs ds)
  | [], _, .nil, _ => .nil
  | d :: ds, _, .cons r rs, c => by
    have c' : (cmpOk d && cmpOks ds) = true := c
    rw [Bool.and_eq_true] at c'
    exact .cons (Rep.dp r c'.1) (RepL.dp rs c'.2)
end
mutual
theorem eqD_py : ∀ a b : D, cmpOk a = true → cmpOk b = true → PyData.eqv (pyD a) (pyD b) = eqD a b
  | .non, .non, _, _ | .non, .bl _, _, _ | .non, .int _, _, _ | .non, .str _, _, _ | .non, .tup _, _, _ | .non, .lst _, _, _ => rfl
  | .bl _, .non, _, _ | .bl _, .bl _, _, _ | .bl _, .int _, _, _ | .bl _, .str _, _, _ | .bl _, .tup _, _, _ | .bl _, .lst _, _, _ => rfl
  | .int _, .non, _, _ | .int _, .bl _, _, _ | .int _, .int _, _, _ | .int _, .str _, _, _ | .int _, .tup _, _, _ | .int _, .lst _, _, _ => rfl
  | .str _, .non, _, _ | .str _, .bl _, _, _ | .str _, .int _, _, _ | .str _, .str _, _, _ | .str _, .tup _, _, _ | .str _, .lst _, _, _ => rfl
  | .tup _, .non, _, _ | .tup _, .bl _, _, _ | .tup _, .int _, _, _ | .tup _, .str _, _, _ | .tup _, .lst _, _, _ => rfl
  | .lst _, .non, _, _ | .lst _, .bl _, _, _ | .lst _, .int _, _, _ | .lst _, .str _, _, _ | .lst _, .tup _, _, _ => rfl
  | .tup xs, .tup ys, h, k => eqDs_py xs ys h k
  | .lst xs, .lst ys, h, k => eqDs_py xs ys h k
  | .exc _ _, _, h, _ => by cases h
  | .scr _, _, h, _ => by cases h
  | _, .exc _ _, _, h => by cases h
  | _, .scr _, _, h => by cases h
theorem eqDs_py : ∀ a b : List D, cmpOks a = true → cmpOks b = true → PyData.eqvAll (pyDs a) (pyDs b) = eqDs a b
  | [], [], _, _ => rfl
  | [], _ :: _, _, _ => rfl
  | _ :: _, [], _, _ => rfl
  | x :: xs, y :: ys, h, k => by
    have h' : (cmpOk x && cmpOks xs) = true := h
    have k' : (cmpOk y && cmpOks ys) = true := k
    rw [Bool.and_eq_true] at h' k'
    show (PyData.eqv (pyD x) (pyD y) && PyData.eqvAll (pyDs xs) (pyDs ys)) = (eqD x y && eqDs xs ys)
    rw [eqD_py x y h'.1 k'.1, eqDs_py xs ys h'.2 k'.2]
end
mutual
theorem lay_py : ∀ d : D, cmpOk d = true → PyData.canLay0 (pyD d) = true
  | .non, _ => rfl
  | .bl _, _ => rfl
  | .int _, _ => rfl
  | .str _, h => h
  | .tup xs, h => lays_py xs h
  | .lst xs, h => lays_py xs h
  | .tupn _, h => by cases h
  | .exc _ _, h => by cases h
  | .scr _, h => by cases h
theorem lays_py : ∀ d : List D, cmpOks d = true → PyData.canLayAll0 (pyDs d) = true
  | [], _ => rfl
  | x :: xs, h => by
    have h' : (cmpOk x && cmpOks xs) = true := h
    rw [Bool.and_eq_true] at h'
    show (PyData.canLay0 (pyD x) && PyData.canLayAll0 (pyDs xs)) = true
    rw [lay_py x h'.1, lays_py xs h'.2]
    rfl
end
mutual
theorem dep_py : ∀ d : D, PyData.depth (pyD d) = depD d
  | .non => rfl
  | .bl _ => rfl
  | .int _ => rfl
  | .str _ => rfl
  | .tup xs => congrArg (· + 1) (deps_py xs)
  | .lst xs => congrArg (· + 1) (deps_py xs)
  | .tupn _ => rfl
  | .exc _ _ => rfl
  | .scr _ => rfl
theorem deps_py : ∀ d : List D, PyData.depthAll (pyDs d) = depDs d
  | [] => rfl
  | x :: xs => by
    show max (PyData.depth (pyD x)) (PyData.depthAll (pyDs xs)) = max (depD x) (depDs xs)
    rw [dep_py x, deps_py xs]
end
theorem shaped_py {d : D} (h : cmpOk d = true) (k : depD d ≤ 60) : SeqAt.shaped (pyD d) = true := by
  show (PyData.canLay0 (pyD d) && decide (PyData.depth (pyD d) ≤ 64)) = true
  rw [lay_py d h, dep_py d, decide_eq_true (show depD d ≤ 64 by omega)]
  rfl
theorem RepB.dp {K : PySem.W.Frag} {d : D} {v : V} (r : RepB K O H v d) (c : cmpOk d = true) : Dp K H v (pyD d) := by
  rcases r with r | ⟨a, e, ho, vs, es, e2, h, q⟩
  · exact r.dp c
  · subst e e2
    exact .lst (.inl (.inl h)) (q.dp c)
theorem Rep.flat {K : PySem.W.Frag} {d : D} {v : V} (r : Rep K O H v d) (c : flatD d = true) : flatV v = true := by
  cases d <;> first | (cases c; done) | (cases r; rfl)
theorem RepB.flat {K : PySem.W.Frag} {d : D} {v : V} (r : RepB K O H v d) (c : flatD d = true) : Rep K O H v d ∧ flatV v = true := by
  rcases r with r | ⟨a, e, ho, vs, es, e2, h, q⟩
  · exact ⟨r, r.flat c⟩
  · subst e2; cases c
theorem RepL.flat {K : PySem.W.Frag} : ∀ {ds : List D} {vs : List V}, RepL K O H vs ds → ds.all flatD = true → vs.all flatV = true
  | [], _, .nil, _ => rfl
  | d :: ds, _, .cons r rs, c => by
    rw [List.all_cons, Bool.and_eq_true] at c ⊢
    exact ⟨r.flat c.1, RepL.flat rs c.2⟩
theorem eqV_D {K : PySem.W.Frag} {d e : D} {v u : V} (r : Rep K O H v d) (q : Rep K O H u e) (c : flatD d = true) (k : flatD e = true) : eqV v u = eqD d e := by
  cases d <;> first | (cases c; done) | skip
  all_goals (cases e <;> first | (cases k; done) | skip)
  all_goals (cases r; cases q; rfl)
theorem inV_D {K : PySem.W.Frag} {e : D} {u : V} (q : Rep K O H u e) (k : flatD e = true) : ∀ {ds : List D} {vs : List V}, RepL K O H vs ds → ds.all flatD = true → inV u vs = ds.any fun y => eqD y e
  | [], _, .nil, _ => rfl
  | d :: ds, _, .cons r rs, c => by
    rw [List.all_cons, Bool.and_eq_true] at c
    unfold inV
    rw [List.any_cons, List.any_cons, eqV_D r q c.1 k]
    have := inV_D q k rs c.2
    unfold inV at this
    rw [this]
theorem RepB.isN {K : PySem.W.Frag} {d : D} {v : V} (r : RepB K O H v d) : decide (v = V.non) = (match d with | .non => true | _ => false) := by
  rcases r with r | ⟨a, e, ho, vs, es, e2, h, q⟩
  · cases r <;> rfl
  · subst e e2; rfl
theorem any_py {d : D} (hd : cmpOk d = true) : ∀ ys : List D, cmpOks ys = true → ((pyDs ys).any fun z => PyData.eqv z (pyD d)) = ys.any fun y => eqD y d
  | [], _ => rfl
  | y :: ys, h => by
    have h' : (cmpOk y && cmpOks ys) = true := h
    rw [Bool.and_eq_true] at h'
    show (PyData.eqv (pyD y) (pyD d) || (pyDs ys).any fun z => PyData.eqv z (pyD d)) = _
    rw [List.any_cons, eqD_py y d h'.1 hd, any_py hd ys h'.2]
theorem inOk_of {x : D} {ys : List D} (h : inOk x ys = true) : cmpOk x = true ∧ cmpOks ys = true ∧ depD x ≤ 60 := by
  unfold inOk at h
  simp only [Bool.and_eq_true, decide_eq_true_eq] at h
  exact ⟨h.1.1.1, h.1.1.2, h.1.2⟩
theorem op_inDL (hu : X.A.units + 64 < cLine) : OpR X (compareOp .In) (fun x y H Q => ∃ O dx ys, RepB X.K O H x dx ∧ (RepB X.K O H y (.lst ys) ∨ RepB X.K O H y (.tup ys)) ∧ inOk dx ys = true ∧ Q (.bl (ys.any fun y => eqD y dx)) H) := by
  intro pins s σ H x y v u Q I rx ry ⟨O, dx, ys, hx, hy, hz, q⟩
  obtain ⟨h1, h2, h3⟩ := inOk_of hz
  have hr : X.A.units + 1 + min (PyData.depthAll (pyDs ys)) (pyD dx).depth < cLine := by rw [dep_py]; omega
  obtain ⟨as, r1⟩ := Dp.reads I _ x v (hx.dp h1) rx
  rcases hy with hy | hy
  · obtain ⟨bs, r2⟩ := Dp.reads I _ y u (hy.dp (d := .lst ys) h2) ry
    exact SeqAt.in_list_reads r2 r1 (lays_py ys h2) (lay_py dx h1) hr ⟨.bl _, H, I, rfl, by rw [any_py h1 ys h2]; exact q⟩
  · obtain ⟨bs, r2⟩ := Dp.reads I _ y u (hy.dp (d := .tup ys) h2) ry
    exact SeqAt.in_tuple_reads r2 r1 (lays_py ys h2) (lay_py dx h1) hr ⟨.bl _, H, I, rfl, by rw [any_py h1 ys h2]; exact q⟩
theorem op_notInDL (hu : X.A.units + 64 < cLine) : OpR X (compareOp .NotIn) (fun x y H Q => ∃ O dx ys, RepB X.K O H x dx ∧ (RepB X.K O H y (.lst ys) ∨ RepB X.K O H y (.tup ys)) ∧ inOk dx ys = true ∧ Q (.bl (!(ys.any fun y => eqD y dx))) H) := by
  intro pins s σ H x y v u Q I rx ry ⟨O, dx, ys, hx, hy, hz, q⟩
  obtain ⟨h1, h2, h3⟩ := inOk_of hz
  have hr : X.A.units + 1 + min (PyData.depthAll (pyDs ys)) (pyD dx).depth < cLine := by rw [dep_py]; omega
  obtain ⟨as, r1⟩ := Dp.reads I _ x v (hx.dp h1) rx
  rcases hy with hy | hy
  · obtain ⟨bs, r2⟩ := Dp.reads I _ y u (hy.dp (d := .lst ys) h2) ry
    exact SeqAt.notIn_list_reads r2 r1 (lays_py ys h2) (lay_py dx h1) hr ⟨.bl _, H, I, rfl, by rw [any_py h1 ys h2]; exact q⟩
  · obtain ⟨bs, r2⟩ := Dp.reads I _ y u (hy.dp (d := .tup ys) h2) ry
    exact SeqAt.notIn_tuple_reads r2 r1 (lays_py ys h2) (lay_py dx h1) hr ⟨.bl _, H, I, rfl, by rw [any_py h1 ys h2]; exact q⟩
theorem op_isB : OpR X (compareOp .Is) (fun x y H Q => ∃ a b, x = .bl a ∧ y = .bl b ∧ Q (.bl (a == b)) H) := by
  intro pins s σ H x y v u Q I rx ry h
  obtain ⟨a, b, rfl, rfl, q⟩ := h
  cases rx
  cases ry
  have e : compareOp .Is (.bool a) (.bool b) = pure (.bool (a == b)) := by cases a <;> cases b <;> rfl
  rw [e]
  exact wpAny_pure ⟨.bl _, H, I, rfl, q⟩
theorem op_notB : OpR X (compareOp .IsNot) (fun x y H Q => ∃ a b, x = .bl a ∧ y = .bl b ∧ Q (.bl (!(a == b))) H) := by
  intro pins s σ H x y v u Q I rx ry h
  obtain ⟨a, b, rfl, rfl, q⟩ := h
  cases rx
  cases ry
  have e : compareOp .IsNot (.bool a) (.bool b) = pure (.bool (!(a == b))) := by cases a <;> cases b <;> rfl
  rw [e]
  exact wpAny_pure ⟨.bl _, H, I, rfl, q⟩
theorem cm2_ok (hu : X.A.units + 64 < cLine) (o : Cm) : OpR X (compareOp (pyCm o)) (fun x y H Q => ∃ O dx dy r, RepB X.K O H x dx ∧ RepB X.K O H y dy ∧ cm2 o dx dy = some r ∧ Q (.bl r) H) := by
  intro pins s σ H x y v u Q I rx ry ⟨O, dx, dy, r, hx, hy, e, q⟩
  cases o with
  | eq =>
    have e : (if cmpOk dx && cmpOk dy && decide (depD dx ≤ 60) && decide (depD dy ≤ 60) then some (eqD dx dy) else none) = some r := e
    by_cases hz : (cmpOk dx && cmpOk dy && decide (depD dx ≤ 60) && decide (depD dy ≤ 60)) = true
    · rw [if_pos hz] at e
      simp only [Bool.and_eq_true, decide_eq_true_eq] at hz
      refine op_eqD hu pins s σ H x y v u Q I rx ry ⟨pyD dx, pyD dy, hx.dp hz.1.1.1, hy.dp hz.1.1.2, shaped_py hz.1.1.1 hz.1.2, shaped_py hz.1.1.2 hz.2, ?_⟩
      rw [eqD_py _ _ hz.1.1.1 hz.1.1.2, Option.some.inj e]
      exact q
    · rw [if_neg hz] at e; cases e
  | ne =>
    have e : (if cmpOk dx && cmpOk dy && decide (depD dx ≤ 60) && decide (depD dy ≤ 60) then some (!eqD dx dy) else none) = some r := e
    by_cases hz : (cmpOk dx && cmpOk dy && decide (depD dx ≤ 60) && decide (depD dy ≤ 60)) = true
    · rw [if_pos hz] at e
      simp only [Bool.and_eq_true, decide_eq_true_eq] at hz
      refine op_neD hu pins s σ H x y v u Q I rx ry ⟨pyD dx, pyD dy, hx.dp hz.1.1.1, hy.dp hz.1.1.2, shaped_py hz.1.1.1 hz.1.2, shaped_py hz.1.1.2 hz.2, ?_⟩
      rw [eqD_py _ _ hz.1.1.1 hz.1.1.2, Option.some.inj e]
      exact q
    · rw [if_neg hz] at e; cases e
  | lt =>
    cases dx <;> cases dy <;> first | (cases e; done) | skip
    case lt.int.int i j => cases e; exact op_lt pins s σ H x y v u Q I rx ry ⟨i, j, hx.int, hy.int, q⟩
  | le =>
    cases dx <;> cases dy <;> first | (cases e; done) | skip
    case le.int.int i j => cases e; exact op_le pins s σ H x y v u Q I rx ry ⟨i, j, hx.int, hy.int, q⟩
  | gt =>
    cases dx <;> cases dy <;> first | (cases e; done) | skip
    case gt.int.int i j => cases e; exact op_gt pins s σ H x y v u Q I rx ry ⟨i, j, hx.int, hy.int, q⟩
  | ge =>
    cases dx <;> cases dy <;> first | (cases e; done) | skip
    case ge.int.int i j => cases e; exact op_ge pins s σ H x y v u Q I rx ry ⟨i, j, hx.int, hy.int, q⟩
  | isN =>
    by_cases hb : ∃ a b, dx = .bl a ∧ dy = .bl b
    · obtain ⟨a, b, rfl, rfl⟩ := hb
      cases e
      exact op_isB pins s σ H x y v u Q I rx ry ⟨a, b, hx.bl, hy.bl, q⟩
    have h1 : dy = .non := by cases dy <;> first | rfl | (cases dx <;> first | (cases e; done) | exact absurd ⟨_, _, rfl, rfl⟩ hb)
    subst h1
    refine op_isN pins s σ H x y v u Q I rx ry ⟨hy.non, ?_⟩
    rw [hx.isN]
    cases dx <;> (cases e; exact q)
  | notN =>
    by_cases hb : ∃ a b, dx = .bl a ∧ dy = .bl b
    · obtain ⟨a, b, rfl, rfl⟩ := hb
      cases e
      exact op_notB pins s σ H x y v u Q I rx ry ⟨a, b, hx.bl, hy.bl, q⟩
    have h1 : dy = .non := by cases dy <;> first | rfl | (cases dx <;> first | (cases e; done) | exact absurd ⟨_, _, rfl, rfl⟩ hb)
    subst h1
    refine op_notN pins s σ H x y v u Q I rx ry ⟨hy.non, ?_⟩
    rw [hx.isN]
    cases dx <;> (cases e; exact q)
  | isin =>
    cases dy with
    | lst ys =>
      have e : (if (flatD dx && ys.all flatD) || inOk dx ys then some (ys.any fun y => eqD y dx) else none) = some r := e
      by_cases hz2 : inOk dx ys = true
      · rw [hz2, Bool.or_true, if_pos rfl] at e
        refine op_inDL hu pins s σ H x y v u Q I rx ry ⟨O, dx, ys, hx, .inl hy, hz2, ?_⟩
        rw [Option.some.inj e]
        exact q
      rw [Bool.eq_false_iff.mpr hz2, Bool.or_false] at e
      by_cases hz : (flatD dx && ys.all flatD) = true
      · rw [if_pos hz] at e
        rw [Bool.and_eq_true] at hz
        obtain ⟨a, vs, rfl, h1, r1⟩ := hy.lst
        obtain ⟨h2, h3⟩ := hx.flat hz.1
        refine op_in_seq pins s σ H x _ v u Q I rx ry ⟨a, vs, rfl, .inl (.inl (.inl h1)), h3, r1.flat hz.2, ?_⟩
        rw [if_neg Bool.false_ne_true, inV_D h2 hz.1 r1 hz.2, Option.some.inj e]
        exact q
      · rw [if_neg hz] at e; cases e
    | tup ys =>
      have e : (if (flatD dx && ys.all flatD) || inOk dx ys then some (ys.any fun y => eqD y dx) else none) = some r := e
      by_cases hz2 : inOk dx ys = true
      · rw [hz2, Bool.or_true, if_pos rfl] at e
        refine op_inDL hu pins s σ H x y v u Q I rx ry ⟨O, dx, ys, hx, .inr hy, hz2, ?_⟩
        rw [Option.some.inj e]
        exact q
      rw [Bool.eq_false_iff.mpr hz2, Bool.or_false] at e
      by_cases hz : (flatD dx && ys.all flatD) = true
      · rw [if_pos hz] at e
        rw [Bool.and_eq_true] at hz
        obtain ⟨a, vs, rfl, h1, r1⟩ := hy.tup
        obtain ⟨h2, h3⟩ := hx.flat hz.1
        refine op_in_seq pins s σ H x _ v u Q I rx ry ⟨a, vs, rfl, .inr h1, h3, r1.flat hz.2, ?_⟩
        rw [if_neg Bool.false_ne_true, inV_D h2 hz.1 r1 hz.2, Option.some.inj e]
        exact q
      · rw [if_neg hz] at e; cases e
    | _ => cases dx <;> cases e
  | notin =>
    cases dy with
    | lst ys =>
      have e : (if (flatD dx && ys.all flatD) || inOk dx ys then some (!(ys.any fun y => eqD y dx)) else none) = some r := e
      by_cases hz2 : inOk dx ys = true
      · rw [hz2, Bool.or_true, if_pos rfl] at e
        refine op_notInDL hu pins s σ H x y v u Q I rx ry ⟨O, dx, ys, hx, .inl hy, hz2, ?_⟩
        rw [Option.some.inj e]
        exact q
      rw [Bool.eq_false_iff.mpr hz2, Bool.or_false] at e
      by_cases hz : (flatD dx && ys.all flatD) = true
      · rw [if_pos hz] at e
        rw [Bool.and_eq_true] at hz
        obtain ⟨a, vs, rfl, h1, r1⟩ := hy.lst
        obtain ⟨h2, h3⟩ := hx.flat hz.1
        refine op_notIn_seq pins s σ H x _ v u Q I rx ry ⟨a, vs, rfl, .inl (.inl (.inl h1)), h3, r1.flat hz.2, ?_⟩
        rw [if_pos rfl, inV_D h2 hz.1 r1 hz.2, Option.some.inj e]
        exact q
      · rw [if_neg hz] at e; cases e
    | tup ys =>
      have e : (if (flatD dx && ys.all flatD) || inOk dx ys then some (!(ys.any fun y => eqD y dx)) else none) = some r := e
      by_cases hz2 : inOk dx ys = true
      · rw [hz2, Bool.or_true, if_pos rfl] at e
        refine op_notInDL hu pins s σ H x y v u Q I rx ry ⟨O, dx, ys, hx, .inr hy, hz2, ?_⟩
        rw [Option.some.inj e]
        exact q
      rw [Bool.eq_false_iff.mpr hz2, Bool.or_false] at e
      by_cases hz : (flatD dx && ys.all flatD) = true
      · rw [if_pos hz] at e
        rw [Bool.and_eq_true] at hz
        obtain ⟨a, vs, rfl, h1, r1⟩ := hy.tup
        obtain ⟨h2, h3⟩ := hx.flat hz.1
        refine op_notIn_seq pins s σ H x _ v u Q I rx ry ⟨a, vs, rfl, .inr h1, h3, r1.flat hz.2, ?_⟩
        rw [if_pos rfl, inV_D h2 hz.1 r1 hz.2, Option.some.inj e]
        exact q
      · rw [if_neg hz] at e; cases e
    | _ => cases dx <;> cases e
/-! ### subscripts -/
theorem ixN_eq (n : Nat) (i : Int) : Mi.ixN n i = L2.ixN n i := rfl
theorem atL_get {K : PySem.W.Frag} {ds : List D} {vs : List V} {i : Int} {d : D} (r : RepL K O H vs ds) (e : atL ds i = some d) : ∃ v, atI vs i = some v ∧ Rep K O H v d := by
  unfold atL at e
  unfold atI
  rw [r.length, ← ixN_eq]
  cases h : Mi.ixN ds.length i with
  | none => rw [h] at e; cases e
  | some j =>
    rw [h] at e
    have e : ds[j]? = some d := e
    obtain ⟨v, h1, h2⟩ := r.get e
    exact ⟨v, h1, h2⟩
theorem ix2_ok : IxR X (fun x y H Q => ∃ O dx dy d, RepB X.K O H x dx ∧ RepB X.K O H y dy ∧ ix2 dx dy = some d ∧ ∀ v, Rep X.K O H v d → Q v H) := by
  intro value slice pins s σ H x y v u Q I rx ry ⟨O, dx, dy, d, hx, hy, e, q⟩ hs
  cases dx <;> cases dy <;> first | (cases e; done) | skip
  case tup.int xs i =>
    obtain ⟨a, vs, rfl, h1, r1⟩ := hx.tup
    obtain ⟨w, h2, h3⟩ := atL_get r1 e
    exact ix_tup value slice pins s σ H _ y v u Q I rx ry ⟨a, vs, i, w, rfl, hy.int, h1, h2, q w h3⟩ hs
  case lst.int xs i =>
    obtain ⟨a, vs, rfl, h1, r1⟩ := hx.lst
    obtain ⟨w, h2, h3⟩ := atL_get r1 e
    exact ix_list value slice pins s σ H _ y v u Q I rx ry ⟨a, vs, i, w, rfl, hy.int, .inl (.inl h1), h2, q w h3⟩ hs
  case scr.int ns i =>
    obtain ⟨a, rfl, h1⟩ := hx.scr
    have e : ((Mi.ixN ns.length i).bind fun j => (ns[j]?).map D.int) = some d := e
    cases h : Mi.ixN ns.length i with
    | none => rw [h] at e; cases e
    | some j =>
      rw [h] at e
      have e : (ns[j]?).map D.int = some d := e
      cases h2 : ns[j]? with
      | none => rw [h2] at e; cases e
      | some n =>
        rw [h2] at e
        cases e
        refine ix_list value slice pins s σ H _ y v u Q I rx ry ⟨a, ns.map V.int, i, .int n, rfl, hy.int, h1, ?_, q _ (.int n)⟩ hs
        unfold atI
        rw [List.length_map, ← ixN_eq, h]
        show (ns.map V.int)[j]? = _
        rw [List.getElem?_map, h2]
        rfl
theorem cut_ok {K : PySem.W.Frag} {ds : List D} {vs : List V} (r : RepL K O H vs ds) (lo hi : Option Int) : RepL K O H (cutV vs lo hi) (cutD ds lo hi) := by
  unfold cutV cutD
  rw [r.length]
  exact (r.drop _).take _
theorem sl_ok : SlR X (fun x lo hi H Q => ∃ O dx d b, (∀ a, O a → H a ≠ none) ∧ RepB X.K O H x dx ∧ slD lo hi dx = some (d, b) ∧ ∀ v H', Prm X.K O H d b v H' → Q v H') := by
  intro pins s σ H x v vl vu lo hi sl Q I rx hs pl pu ⟨O, dx, d, b, hl, hx, e, q⟩
  cases dx <;> first | (cases e; done) | skip
  case lst xs =>
    cases e
    obtain ⟨a, vs, rfl, h1, r1⟩ := hx.lst
    exact sl_list pins s σ H _ v vl vu lo hi sl Q I rx hs pl pu ⟨a, vs, rfl, .inl (.inl h1), fun p hp => q _ _ (prm_lst hp (cut_ok r1 lo hi))⟩
  case tup xs =>
    cases e
    obtain ⟨a, vs, rfl, h1, r1⟩ := hx.tup
    refine sl_tupX pins s σ H _ v vl vu lo hi sl Q I rx hs pl pu ⟨a, vs, rfl, h1, fun z => q _ _ (prm_same ?_), fun p o hp ho => q _ _ (prm_tup hl hp ho (cut_ok r1 lo hi))⟩
    have e1 : cutD xs lo hi = xs := by
      unfold cutD
      rw [← r1.length, z.1, z.2, List.drop_zero, Nat.sub_zero, r1.length]
      exact List.take_length
    rw [e1]
    rcases hx with hx | ⟨_, _, _, _, _, z, _⟩
    · exact hx
    · cases z
end
end Mi

set_option Elab.async false
set_option linter.all false
set_option maxRecDepth 100000
set_option autoImplicit false
set_option maxHeartbeats 1000000
namespace Mi
open PySem PySem.Spec PyProof.Rows L2
abbrev RepBL (K : PySem.W.Frag) (O : Addr → Prop) (H : Hp) : List V → List D → Prop := Paired (RepB K O H)
/-! ### sorting ints -/
theorem insI_perm (x : Int) : ∀ l : List Int, (insI x l).Perm (x :: l)
  | [] => .refl _
  | y :: r => by
    unfold insI
    by_cases h : x ≤ y
    · rw [if_pos h]
    · rw [if_neg h]; exact ((insI_perm x r).cons y).trans (.swap x y r)
theorem sortI_perm : ∀ l : List Int, (sortI l).Perm l
  | [] => .refl _
  | x :: r => (insI_perm x (sortI r)).trans ((sortI_perm r).cons x)
theorem insI_sorted (x : Int) : ∀ l : List Int, l.Pairwise (· ≤ ·) → (insI x l).Pairwise (· ≤ ·)
  | [], _ => List.pairwise_singleton _ _
  | y :: r, h => by
    unfold insI
    by_cases hx : x ≤ y
    · rw [if_pos hx]
      refine List.pairwise_cons.mpr ⟨fun z hz => ?_, h⟩
      rcases List.mem_cons.mp hz with e | hz
      · rw [e]; exact hx
      · exact Int.le_trans hx ((List.pairwise_cons.mp h).1 z hz)
    · rw [if_neg hx]
      obtain ⟨h1, h2⟩ := List.pairwise_cons.mp h
      refine List.pairwise_cons.mpr ⟨fun z hz => ?_, insI_sorted x r h2⟩
      rcases List.mem_cons.mp ((insI_perm x r).mem_iff.mp hz) with e | hz
      · rw [e]; omega
      · exact h1 z hz
theorem sortI_sorted : ∀ l : List Int, (sortI l).Pairwise (· ≤ ·)
  | [] => List.Pairwise.nil
  | x :: r => insI_sorted x _ (sortI_sorted r)
theorem sortI_uniq {a l : List Int} (hp : a.Perm l) (hs : a.Pairwise (· ≤ ·)) : a = sortI l := PySem.W.ksm_same (hp.trans (sortI_perm l).symm) hs (sortI_sorted l)
theorem minI_spec : ∀ {l : List Int} {m : Int}, minI l = some m → 0 < l.length ∧ m ∈ l ∧ ∀ y ∈ l, m ≤ y
  | [], _, h => by cases h
  | [x], m, h => by cases h; exact ⟨by simp, by simp, fun y hy => by
      have e : y = x := by simpa using hy
      omega⟩
  | x :: y :: r, m, h => by
    have h : (minI (y :: r)).map (fun m => if x ≤ m then x else m) = some m := h
    cases q : minI (y :: r) with
    | none => rw [q] at h; cases h
    | some k =>
      rw [q] at h
      have h : (if x ≤ k then x else k) = m := Option.some.inj h
      obtain ⟨_, h1, h2⟩ := minI_spec q
      refine ⟨by simp, ?_, fun z hz => ?_⟩
      · split at h <;> subst h
        · exact List.mem_cons_self
        · exact List.mem_cons_of_mem _ h1
      · rcases List.mem_cons.mp hz with e | hz
        · subst e; split at h <;> omega
        · have := h2 z hz
          split at h <;> omega
theorem maxI_spec : ∀ {l : List Int} {m : Int}, maxI l = some m → 0 < l.length ∧ m ∈ l ∧ ∀ y ∈ l, y ≤ m
  | [], _, h => by cases h
  | [x], m, h => by cases h; exact ⟨by simp, by simp, fun y hy => by
      have e : y = x := by simpa using hy
      omega⟩
  | x :: y :: r, m, h => by
    have h : (maxI (y :: r)).map (fun m => if m ≤ x then x else m) = some m := h
    cases q : maxI (y :: r) with
    | none => rw [q] at h; cases h
    | some k =>
      rw [q] at h
      have h : (if k ≤ x then x else k) = m := Option.some.inj h
      obtain ⟨_, h1, h2⟩ := maxI_spec q
      refine ⟨by simp, ?_, fun z hz => ?_⟩
      · split at h <;> subst h
        · exact List.mem_cons_self
        · exact List.mem_cons_of_mem _ h1
      · rcases List.mem_cons.mp hz with e | hz
        · subst e; split at h <;> omega
        · have := h2 z hz
          split at h <;> omega
section
variable {prog : Program} {w : World} {A : Around} {E : Value → Shared → Prop} {s : Shared}
/-- sorted of a tuple of ints -/
theorem sorted_tup {l : Addr} {vs : List Value} {ns : List Int} {Q : Value → Shared → Prop} (hl : IsTup s.heap l vs.toArray) (hz : vs.length ≤ sizeLine) (hi : IntsAre vs ns)
    (h : ∀ h1 : Heap, (∀ b o, s.heap.get? b = some o → h1.get? b = some o) → ∀ (h' : Heap) (p : Addr) (ms : List Int) (out : List Value) (e : Nat), ms.Perm ns → ms.Pairwise (· ≤ ·) → (∀ b o, h1.get? b = some o → h'.get? b = some o) → h1.objs.size ≤ p → h'.get? p = some (seqObj "list" out.toArray e) → IntsAre out ms → Q (.ref p) { s with heap := h' }) :
    wpAny (model prog w) A (call (.builtin "sorted") [.ref l]) Q E s := by
  obtain ⟨o, ho, hc, n, hd⟩ := hl
  refine Calls.call_function_entry kind_sorted plain_sorted entry_sorted (args_sorted1 _) ?_
  show wpAny _ _ (Builtin.«sorted» _) _ _ _
  unfold Builtin.«sorted»
  refine wpAny_bind (m := checkCount "sorted" 1 1 _) (wpAny_pure ?_)
  refine wpAny_bind (wpAny_collect_seq l (.inr rfl) ho hc hd (fun h1 k1 => ?_) (by rw [List.size_toArray]; exact hz))
  rw [List.toList_toArray]
  refine wpAny_bind (wpAny_newList ?_ hz)
  have hoL : (h1.push (seqObj "list" vs.toArray 0)).get? h1.objs.size = some (seqObj "list" vs.toArray 0) := Heap.get?_push_size _ rfl
  have k2 : ∀ b o, h1.get? b = some o → (h1.push (seqObj "list" vs.toArray 0)).get? b = some o ∧ b < h1.objs.size := fun b o q => ⟨Heap.get?_push_of_some _ q, Heap.lt_size q⟩
  refine wpAny_bind (wpAny_holding (wpAny_call_entry slot_list_sort ⟨_, hoL, rfl⟩ entry_list_sort (SrtO.list_sort_ord SrtO.swo_int hoL hz (fun h2 => SrtO.ints_sortable hi h2) fun out hs hb => ⟨_, rfl, ?_⟩) (args_list_sort _)))
  obtain ⟨e1, e2, e3⟩ := SrtO.ints_out hi hs hb
  obtain ⟨ep, he⟩ := sortedHeap_at (vs := vs) (out := out.toArray) hoL
  refine wpAny_pure ⟨_, rfl, h h1 k1 _ _ _ out ep e2 e3 (fun b o q => ?_) (Nat.le_refl _) he e1⟩
  rw [sortedHeap_old (Nat.ne_of_lt (k2 b o q).2) (Heap.lt_size (k2 b o q).1)]
  exact (k2 b o q).1
end
section
variable {X : Cx} {O : Addr → Prop} {H : Hp}
def biV : Bi → Value
  | .len => .builtin "len" | .tuple => .type "tuple" | .list => .type "list" | .sorted => .builtin "sorted" | .sum => .builtin "sum" | .min => .builtin "min" | .max => .builtin "max"
  | .any => .builtin "any" | .all => .builtin "all" | .abs => .builtin "abs" | .int => .type "int" | .gcd => .builtin "math.gcd" | .divmod => .builtin "divmod"
theorem RepB.seq {K : PySem.W.Frag} {v : V} {d : D} {ds : List D} (r : RepB K O H v d) (e : seqOf d = some ds) : ∃ a vs, v = .ref a ∧ (SqL K H a vs ∨ SqT K H a vs) ∧ RepL K O H vs ds := by
  cases d <;> first | (cases e; done) | skip
  case tup xs =>
    cases e
    obtain ⟨a, vs, e1, h, q⟩ := r.tup
    exact ⟨a, vs, e1, .inr h, q⟩
  case lst xs =>
    cases e
    obtain ⟨a, vs, e1, h, q⟩ := r.lst
    exact ⟨a, vs, e1, .inl (.inl (.inl h)), q⟩
  case scr ns =>
    cases e
    obtain ⟨a, e1, h⟩ := r.scr
    exact ⟨a, _, e1, .inl h, .ints⟩
theorem paired1 {α β : Type} {F : α → β → Prop} {xs : List α} {b : β} (p : Paired F xs [b]) : ∃ a, xs = [a] ∧ F a b := by
  cases p with
  | cons h t => cases t; exact ⟨_, rfl, h⟩
theorem paired2 {α β : Type} {F : α → β → Prop} {xs : List α} {b c : β} (p : Paired F xs [b, c]) : ∃ a a', xs = [a, a'] ∧ F a b ∧ F a' c := by
  cases p with
  | cons h t =>
    cases t with
    | cons h' t => cases t; exact ⟨_, _, rfl, h, h'⟩
theorem map_some {α β : Type} {o : Option α} {f : α → β} {b : β} (e : o.map f = some b) : ∃ a, o = some a ∧ f a = b := by
  cases o with
  | none => cases e
  | some a => exact ⟨a, rfl, Option.some.inj e⟩
theorem cr_sortedT : CallR X (.builtin "sorted") (fun vs H Q => ∃ (a : Addr) (ns : List Int), vs = [V.ref a] ∧ SqT X.K H a (ns.map V.int) ∧ ∀ (ns' : List Int) (p : Addr), ns'.Perm ns → ns'.Pairwise (· ≤ ·) → H p = none → Q (.ref p) (upd H p (.lst (ns'.map V.int)))) := by
  intro pins s σ H vs us Q I r h
  obtain ⟨a, ns, rfl, hs, q⟩ := h
  obtain ⟨its, rv, hl, hz⟩ := I.tuple hs
  rw [Vals.ref1 r]
  refine sorted_tup hl (by rw [← rv.length]; exact hz) rv.ints fun h1 k1 h' p ms out e e1 e2 k2 hp he hi => ?_
  have I1 : Inv X pins σ H { s with heap := h1 } := I.kept (t' := s.toks) k1
  have hlen : (ms.map V.int).length ≤ sizeLine := by
    rw [List.length_map, e1.length_eq]
    rw [List.length_map] at hz
    exact hz
  exact ⟨.ref p, upd H p (.lst (ms.map V.int)), I1.laid (t' := s.toks) k2 hp ⟨hlen, out, e, vals_of_ints hi, he⟩, rfl, q ms p e1 e2 (I1.hok.fresh hp)⟩
theorem sortedL_ok {K : PySem.W.Frag} {Q : VK} {ns : List Int} {d : D} {own : Bool} (e : some (D.lst ((sortI ns).map D.int), true) = some (d, own)) (q : ∀ v H', Prm K O H d own v H' → Q v H') :
    ∀ (ns' : List Int) (p : Addr), ns'.Perm ns → ns'.Pairwise (· ≤ ·) → H p = none → Q (.ref p) (upd H p (.lst (ns'.map V.int))) := fun ns' p h1 h2 hp => by
  cases e
  rw [sortI_uniq h1 h2]
  exact q _ _ (prm_lst hp .ints)
theorem call_tupleX : CallR X (.type "tuple") (fun xs H Q => ∃ p ys, xs = [.ref p] ∧ ((SqL X.K H p ys ∧ ∀ l o, H l = none → o.dict = none → Q (.ref l) (upd H l (.frz o (.tup ys)))) ∨ (SqT X.K H p ys ∧ Q (.ref p) H))) := by
  intro pins s σ H xs us Q I r h
  obtain ⟨p, ys, rfl, h⟩ := h
  obtain ⟨u, rfl, rx⟩ := vals1 r
  cases rx
  rcases h with ⟨hq, q⟩ | ⟨hq, q⟩
  · obtain ⟨its, r', pl, hz⟩ := I.list hq
    have hlen := r'.length
    refine call_tuple_list pl.isList (fun h' kp => ?_) (by simp only [List.size_toArray] <;> omega)
    have I1 : Inv X pins σ H { s with heap := h' } := I.kept (t' := s.toks) kp
    refine ⟨.ref h'.objs.size, _, I1.laid (t' := s.toks) (o := .frz { cls := .type "tuple", data := .seq its.toArray } (.tup ys)) (fun b ob q => Heap.get?_push_of_some _ q) (Nat.le_refl _) ?_, rfl, q _ _ (I1.hok.fresh (Nat.le_refl _)) rfl⟩
    exact ⟨Heap.get?_push_size _ rfl, hz, its, r', IsTup.new _ _⟩
  · obtain ⟨its, _, p1, _⟩ := I.tuple hq
    exact call_tuple_same (items := its.toArray) p1 ⟨.ref p, H, I, rfl, q⟩
theorem dpInts {K : PySem.W.Frag} {H : Hp} : ∀ ns : List Int, DpAll K H (ns.map V.int) (ns.map PyData.int)
  | [] => .nil
  | n :: ns => .cons (.int n) (dpInts ns)
theorem plainInts : ∀ ns : List Int, PyData.plainAll (ns.map PyData.int) = true
  | [] => rfl
  | n :: ns => by
    show (PyData.plain (.int n) && PyData.plainAll (ns.map PyData.int)) = true
    rw [plainInts ns]; rfl
theorem cr_anyI (hc : X.calm = true) : CallR X (.builtin "any") (fun vs H Q => ∃ (a : Addr) (ns : List Int), vs = [V.ref a] ∧ SqL X.K H a (ns.map V.int) ∧ Q (.bl (ns.any (· != 0))) H) := by
  intro pins s σ H vs us Q I r h
  obtain ⟨a, ns, rfl, hs, q⟩ := h
  obtain ⟨its, rv, hl, _⟩ := I.list hs
  rw [Vals.ref1 r]
  obtain ⟨as, h4⟩ := Dp.readsAll I _ _ its (dpInts ns) rv
  refine PySem.W.any_list_data (I.ok.hd hc) hl.isList h4 (plainInts ns) (fun x hx => ?_) fun h' tk hk => ?_
  · obtain ⟨n, _, rfl⟩ := List.mem_map.mp hx
    exact True.intro
  · refine ⟨.bl (ns.any (· != 0)), H, I.kept hk, ?_, q⟩
    rw [List.any_map]
    rfl
theorem biA_ok (hc : X.calm = true) {b : Bi} {pins : List (Addr × Obj)} {s : Shared} {σ : L2.St} {us : List Value} {Q : VK} {x : V} {d0 d : D} {own : Bool} (I : Inv X pins σ H s) (r : Vals [x] us) (hl : ∀ a, O a → H a ≠ none)
    (rx : RepB X.K O H x d0) (e : biA b d0 = some (d, own)) (q : ∀ v H', Prm X.K O H d own v H' → Q v H') : wpAny (model X.prog X.w) X.A (call (biV b) us) (EP X pins σ Q) X.xe s := by
  cases b with
  | len =>
    obtain ⟨xs, e1, e2⟩ := map_some e
    cases e2
    obtain ⟨a, vs, rfl, h, q1⟩ := rx.seq e1
    refine call_len_seq pins s σ H _ us Q I r ⟨a, vs, rfl, h, ?_⟩
    rw [q1.length]
    exact q _ _ (prm_same (.int _))
  | tuple =>
    obtain ⟨xs, e1, e2⟩ := map_some e
    cases e2
    obtain ⟨a, vs, rfl, h, q1⟩ := rx.seq e1
    refine call_tupleX pins s σ H _ us Q I r ⟨a, vs, rfl, ?_⟩
    rcases h with h | h
    · exact .inl ⟨h, fun l o hp ho => q _ _ (prm_tup hl hp ho q1)⟩
    · refine .inr ⟨h, q _ _ (prm_same ?_)⟩
      have no : ∀ {ws : List V}, SqL X.K H a ws → False := fun {ws} h' => by
        obtain ⟨its, _, ⟨o, n, ho, hcl, _⟩, _⟩ := I.list h'
        obtain ⟨its', _, ⟨o', ho', hcl', _⟩, _⟩ := I.tuple h
        rw [ho] at ho'
        cases ho'
        rw [hcl] at hcl'
        exact absurd (Value.type.inj hcl') (by decide)
      cases d0 <;> first | (cases e1; done) | skip
      case tup ys =>
        cases e1
        rcases rx with rx | ⟨_, _, _, _, _, z, _⟩
        · exact rx
        · cases z
      case lst ys =>
        cases e1
        obtain ⟨a', vs', e3, h', _⟩ := rx.lst
        cases e3
        exact (no (.inl (.inl h'))).elim
      case scr ys =>
        cases e1
        obtain ⟨a', e3, h'⟩ := rx.scr
        cases e3
        exact (no h').elim
  | list =>
    obtain ⟨xs, e1, e2⟩ := map_some e
    cases e2
    obtain ⟨a, vs, rfl, h, q1⟩ := rx.seq e1
    exact call_list_of pins s σ H _ us Q I r ⟨a, vs, rfl, h, fun l hp => q _ _ (prm_lst hp q1)⟩
  | sorted =>
    cases d0 <;> first | (cases e; done) | skip
    case lst xs =>
      obtain ⟨ns, e1, e2⟩ := map_some (o := intsOf xs) e
      obtain ⟨a, vs, rfl, h, q1⟩ := rx.lst
      obtain ⟨rfl, _⟩ := q1.intsOf e1
      exact cr_sortedI pins s σ H _ us Q I r ⟨a, ns, rfl, .inl (.inl h), sortedL_ok (congrArg some e2) q⟩
    case tup xs =>
      obtain ⟨ns, e1, e2⟩ := map_some (o := intsOf xs) e
      obtain ⟨a, vs, rfl, h, q1⟩ := rx.tup
      obtain ⟨rfl, _⟩ := q1.intsOf e1
      exact cr_sortedT pins s σ H _ us Q I r ⟨a, ns, rfl, h, sortedL_ok (congrArg some e2) q⟩
  | sum =>
    cases d0 <;> first | (cases e; done) | skip
    case lst xs =>
      obtain ⟨ns, e1, e2⟩ := map_some (o := intsOf xs) e
      cases e2
      obtain ⟨a, vs, rfl, h, q1⟩ := rx.lst
      obtain ⟨rfl, _⟩ := q1.intsOf e1
      exact cr_sum hc pins s σ H _ us Q I r ⟨a, ns, rfl, .inl (.inl h), q _ _ (prm_same (.int _))⟩
  | any =>
    cases d0 <;> first | (cases e; done) | skip
    case lst xs =>
      have e : (match blsOf xs with
        | some bs => some (D.bl (bs.any id), false)
        | none => (intsOf xs).map fun ns => (D.bl (ns.any (· != 0)), false)) = some (d, own) := e
      obtain ⟨a, vs, rfl, h, q1⟩ := rx.lst
      cases e1 : blsOf xs with
      | some ns =>
        rw [e1] at e
        cases e
        obtain ⟨rfl, _⟩ := q1.blsOf e1
        exact cr_any hc pins s σ H _ us Q I r ⟨a, ns, rfl, .inl (.inl h), q _ _ (prm_same (.bl _))⟩
      | none =>
        rw [e1] at e
        obtain ⟨ns, e2, e3⟩ := map_some (o := intsOf xs) e
        cases e3
        obtain ⟨rfl, _⟩ := q1.intsOf e2
        exact cr_anyI hc pins s σ H _ us Q I r ⟨a, ns, rfl, .inl (.inl h), q _ _ (prm_same (.bl _))⟩
  | all =>
    cases d0 <;> first | (cases e; done) | skip
    case lst xs =>
      obtain ⟨ns, e1, e2⟩ := map_some (o := blsOf xs) e
      cases e2
      obtain ⟨a, vs, rfl, h, q1⟩ := rx.lst
      obtain ⟨rfl, _⟩ := q1.blsOf e1
      exact cr_all hc pins s σ H _ us Q I r ⟨a, ns, rfl, .inl (.inl h), q _ _ (prm_same (.bl _))⟩
  | abs =>
    cases d0 <;> first | (cases e; done) | skip
    case int i =>
      cases e
      exact call_abs pins s σ H _ us Q I r ⟨i, by rw [rx.int], q _ _ (prm_same (.int _))⟩
  | int =>
    cases d0 <;> first | (cases e; done) | skip
    case int i =>
      cases e
      exact call_int1 pins s σ H _ us Q I r (.inl ⟨i, by rw [rx.int], q _ _ (prm_same (.int _))⟩)
    case bl i =>
      cases e
      exact call_int1 pins s σ H _ us Q I r (.inr ⟨i, by rw [rx.bl], q _ _ (prm_same (.int _))⟩)
  | gcd => cases d0 <;> cases e
  | divmod => cases d0 <;> cases e
  | min =>
    cases d0 <;> first | (cases e; done) | skip
    case lst xs =>
      obtain ⟨m, e1, e2⟩ := map_some (o := (intsOf xs).bind minI) e
      cases e2
      cases q0 : intsOf xs with
      | none => rw [q0] at e1; cases e1
      | some ns =>
        rw [q0] at e1
        obtain ⟨a, vs, rfl, h, q1⟩ := rx.lst
        obtain ⟨rfl, _⟩ := q1.intsOf q0
        obtain ⟨m1, m2, m3⟩ := minI_spec (l := ns) e1
        refine cr_min hc pins s σ H _ us Q I r ⟨a, ns, rfl, .inl (.inl h), m1, fun k h1 h2 => ?_⟩
        rw [show k = m from Int.le_antisymm (h2 m m2) (m3 k h1)]
        exact q _ _ (prm_same (.int _))
  | max =>
    cases d0 <;> first | (cases e; done) | skip
    case lst xs =>
      obtain ⟨m, e1, e2⟩ := map_some (o := (intsOf xs).bind maxI) e
      cases e2
      cases q0 : intsOf xs with
      | none => rw [q0] at e1; cases e1
      | some ns =>
        rw [q0] at e1
        obtain ⟨a, vs, rfl, h, q1⟩ := rx.lst
        obtain ⟨rfl, _⟩ := q1.intsOf q0
        obtain ⟨m1, m2, m3⟩ := maxI_spec (l := ns) e1
        refine cr_max hc pins s σ H _ us Q I r ⟨a, ns, rfl, .inl (.inl h), m1, fun k h1 h2 => ?_⟩
        rw [show k = m from Int.le_antisymm (m3 k h1) (h2 m m2)]
        exact q _ _ (prm_same (.int _))
/-- divmod by what is not 0 -/
theorem call_divmodN : CallR X (.builtin "divmod") (fun xs H Q => ∃ i j, xs = [.int i, .int j] ∧ (j ≠ 0 ∧ Builtin.divisionGoesByPylong i j = false) ∧ ∀ p, H p = none → Q (.ref p) (upd H p (.tup [.int (i.fdiv j), .int (i.fmod j)]))) := by
  intro pins s σ H xs us Q I r h
  obtain ⟨i, j, rfl, ⟨h1, h2⟩, q⟩ := h
  obtain ⟨u, w', rfl, ⟨t, rfl⟩, ⟨t', rfl⟩⟩ := vals2 r
  refine divmod_int h1 ?_ (.inl h2)
  have hn : H s.heap.objs.size = none := I.hok.fresh (Nat.le_refl _)
  refine ⟨.ref s.heap.objs.size, _, ?_, rfl, q _ hn⟩
  refine I.laid (fun b o e => Heap.get?_push_of_some _ e) (Nat.le_refl _) ⟨by simp only [List.length_cons, List.length_nil]; rw [sizeLine_eq]; decide, [.int (i.fdiv j) s.toks, .int (i.fmod j) (s.toks + 1)], .cons ⟨_, rfl⟩ (.cons ⟨_, rfl⟩ .nil), ?_⟩
  exact ⟨_, Heap.get?_push_size s.heap rfl, rfl, 0, rfl⟩
theorem biB_ok (hc : X.calm = true) {b : Bi} {pins : List (Addr × Obj)} {s : Shared} {σ : L2.St} {us : List Value} {Q : VK} {x y : V} {d1 d2 d : D} {own : Bool} (hl : ∀ a, O a → H a ≠ none) (I : Inv X pins σ H s) (r : Vals [x, y] us)
    (rx : RepB X.K O H x d1) (ry : RepB X.K O H y d2) (e : biB b d1 d2 = some (d, own)) (q : ∀ v H', Prm X.K O H d own v H' → Q v H') : wpAny (model X.prog X.w) X.A (call (biV b) us) (EP X pins σ Q) X.xe s := by
  cases b with
  | min =>
    cases d1 <;> cases d2 <;> first | (cases e; done) | skip
    case int.int i j =>
      cases e
      exact call_min2 hc pins s σ H _ us Q I r ⟨i, j, by rw [rx.int, ry.int], q _ _ (prm_same (.int _))⟩
  | max =>
    cases d1 <;> cases d2 <;> first | (cases e; done) | skip
    case int.int i j =>
      cases e
      exact call_max2 hc pins s σ H _ us Q I r ⟨i, j, by rw [rx.int, ry.int], q _ _ (prm_same (.int _))⟩
  | gcd =>
    cases d1 <;> cases d2 <;> first | (cases e; done) | skip
    case int.int i j =>
      cases e
      exact cr_gcd pins s σ H _ us Q I r ⟨i, j, by rw [rx.int, ry.int], q _ _ (prm_same (.int _))⟩
  | divmod =>
    cases d1 <;> cases d2 <;> first | (cases e; done) | skip
    case int.int i j =>
      have e : (if dmOk j then some (D.tupn [.int (i.fdiv j), .int (i.fmod j)], false) else none) = some (d, own) := e
      split at e
      · rename_i hz
        cases e
        have hz : (decide (j ≠ 0) && (decide (j.natAbs < 1073741824) || decide (j.natAbs.log2 < 9000))) = true := hz
        simp only [Bool.and_eq_true, Bool.or_eq_true, decide_eq_true_eq] at hz
        obtain ⟨h0, hz⟩ := hz
        have hz : j ≠ 0 ∧ Builtin.divisionGoesByPylong i j = false := ⟨h0, hz.elim PyProof.noPylong_small PyProof.noPylong_of_log2⟩
        refine call_divmodN pins s σ H _ us Q I r ⟨i, j, by rw [rx.int, ry.int], hz, fun p hp => q _ _ ⟨upd_more hp, .tupn (fun z => hl p z hp) upd_same (.cons (.int _) (.cons (.int _) .nil))⟩⟩
      · cases e
  | _ => cases d1 <;> cases d2 <;> cases e
theorem bi1_ok (hc : X.calm = true) (b : Bi) : CallR X (biV b) (fun xs H Q => ∃ O ds d own, (∀ a, O a → H a ≠ none) ∧ RepBL X.K O H xs ds ∧ bi1 b ds = some (d, own) ∧ ∀ v H', Prm X.K O H d own v H' → Q v H') := by
  intro pins s σ H xs us Q I r ⟨O, ds, d, own, hl, rs, e, q⟩
  match ds, rs, e with
  | [d0], rs, e =>
    obtain ⟨x, rfl, rx⟩ := paired1 rs
    exact biA_ok hc I r hl rx e q
  | [d1, d2], rs, e =>
    obtain ⟨x, y, rfl, rx, ry⟩ := paired2 rs
    exact biB_ok hc hl I r rx ry e q
  | [], _, e => cases e
  | _ :: _ :: _ :: _, _, e => cases e
end
end Mi

set_option Elab.async false
set_option linter.all false
set_option maxRecDepth 100000
set_option autoImplicit false
set_option maxHeartbeats 1000000
namespace Mi
open PySem PySem.Spec PyProof.Rows L2
section
variable {K : PySem.W.Frag} {XR : XRep} {W : WX} {O O' O0 : Addr → Prop} {H H' H0 : Hp} {B B' : Addr → Prop} {ms ms' ms0 : MS} {σ : St} {i : Nat} {d : D} {f : Fl}
/-- an own slot -/
theorem Rel.own (rel : Rel K O ms σ H) (h : ms[i]? = some (some (d, f))) (hf : f ≠ .frz) : ∃ a, σ[i]? = some (some (.ref a)) ∧ RepO K O H a d ∧ Own ms σ a := by
  obtain ⟨v, e, q⟩ := rel.slot i d f h
  unfold RepS at q
  rw [if_neg hf] at q
  obtain ⟨a, rfl, q⟩ := q
  exact ⟨a, e, q, i, d, f, hf, h, e⟩
theorem Rel.frz (rel : Rel K O ms σ H) (h : ms[i]? = some (some (d, .frz))) : ∃ v, σ[i]? = some (some v) ∧ Rep K O H v d := by
  obtain ⟨v, e, q⟩ := rel.slot i d _ h
  unfold RepS at q
  rw [if_pos rfl] at q
  exact ⟨v, e, q⟩
theorem set_get {α : Type} {l : List α} {i j : Nat} {x y : α} (h : (l.set i x)[j]? = some y) : (j = i ∧ y = x ∧ i < l.length) ∨ (j ≠ i ∧ l[j]? = some y) := by
  by_cases e : j = i
  · subst e
    by_cases hl : j < l.length
    · rw [List.getElem?_set_self hl] at h
      exact .inl ⟨rfl, (Option.some.inj h).symm, hl⟩
    · rw [List.getElem?_eq_none (by rw [List.length_set]; omega)] at h
      cases h
  · rw [List.getElem?_set_ne (Ne.symm e)] at h
    exact .inr ⟨e, h⟩
/-- a list of somebody's own is now told as frozen -/
def Less (O : Addr → Prop) (a : Addr) : Addr → Prop := fun x => O x ∧ x ≠ a
theorem Less.keeps {a : Addr} : Keeps O H (Less O a) H := fun _ _ n h => ⟨fun z => n z.1, h⟩
theorem RepO.less {a b : Addr} {d : D} (q : RepO K O H b d) (h : b ≠ a) : RepO K (Less O a) H b d := by
  obtain ⟨ho, vs, ds, e, e2, r⟩ := q
  exact ⟨⟨ho, h⟩, vs, ds, e, e2, r.keep Less.keeps⟩
theorem RepO.frozen {a : Addr} {d : D} (q : RepO K O H a d) : Rep K (Less O a) H (.ref a) d := by
  obtain ⟨ho, vs, ds, e, e2, r⟩ := q
  subst e
  exact .lst (fun z => z.2 rfl) e2 (r.keep Less.keeps)
/-- a slot's own list is frozen -/
theorem post_frz {a : Addr} (rel : Rel K O ms σ H) (h : ms[i]? = some (some (d, f))) (hf : f ≠ .frz) (ha : σ[i]? = some (some (.ref a))) (q : RepO K O H a d) :
    PostE K O ms σ H (ms.set i (some (d, .frz))) (Less O a) H := by
  have ho : Own ms σ a := ⟨i, d, f, hf, h, ha⟩
  refine ⟨⟨by rw [List.length_set]; exact rel.len, fun j e g hj => ?_, fun j k e e' g g' b hj hk hg hg' sj sk => ?_, fun x hx => rel.lists x hx.1⟩, ⟨Less.keeps, fun x hx nb => ⟨⟨hx, fun z => nb (z ▸ ho)⟩, rfl⟩, fun _ h => h⟩, fun x hx => ?_, fun j e hj => ?_⟩
  · rcases set_get hj with ⟨rfl, e1, _⟩ | ⟨ne, hj⟩
    · cases e1
      refine ⟨_, ha, ?_⟩
      unfold RepS
      rw [if_pos rfl]
      exact q.frozen
    · obtain ⟨v, e1, q1⟩ := rel.slot j e g hj
      refine ⟨v, e1, ?_⟩
      unfold RepS at q1 ⊢
      by_cases hg : g = .frz
      · rw [if_pos hg] at q1 ⊢
        exact q1.keep Less.keeps
      · rw [if_neg hg] at q1 ⊢
        obtain ⟨b, rfl, q1⟩ := q1
        exact ⟨b, rfl, q1.less fun z => ne (rel.apart j i e d g f b hj h hg hf e1 (z ▸ ha))⟩
  · rcases set_get hj with ⟨rfl, e1, _⟩ | ⟨ne, hj⟩
    · cases e1; exact absurd rfl hg
    · rcases set_get hk with ⟨rfl, e1, _⟩ | ⟨ne', hk⟩
      · cases e1; exact absurd rfl hg'
      · exact rel.apart j k e e' g g' b hj hk hg hg' sj sk
  · obtain ⟨j, e, g, hg, hj, sj⟩ := hx
    rcases set_get hj with ⟨rfl, e1, _⟩ | ⟨ne, hj⟩
    · cases e1; exact absurd rfl hg
    · exact .inl ⟨j, e, g, hg, hj, sj⟩
  · rcases set_get hj with ⟨rfl, e1, _⟩ | ⟨ne, hj⟩
    · cases e1
    · exact ⟨e, hj⟩
/-- a value of its own is frozen -/
theorem post_less {a : Addr} {d : D} {v : V} (rel0 : Rel K O0 ms0 σ H0) (P : PostE K O0 ms0 σ H0 ms O H) (r : RepR K H0 (Own ms0 σ) O H (Own ms σ) v d true) : ∃ O', PostE K O0 ms0 σ H0 ms O' H ∧ Rep K O' H v d := by
  obtain ⟨a, rfl, q, nb, og⟩ := r
  refine ⟨Less O a, ⟨⟨P.rel.len, fun j e g hj => ?_, P.rel.apart, fun x hx => P.rel.lists x hx.1⟩, ⟨P.ext.keep.trans Less.keeps, fun x hx nx => ?_, P.ext.grow⟩, P.sub, P.bor⟩, q.frozen⟩
  · obtain ⟨w, e1, q1⟩ := P.rel.slot j e g hj
    refine ⟨w, e1, ?_⟩
    unfold RepS at q1 ⊢
    by_cases hg : g = .frz
    · rw [if_pos hg] at q1 ⊢
      exact q1.keep Less.keeps
    · rw [if_neg hg] at q1 ⊢
      obtain ⟨b, rfl, q1⟩ := q1
      exact ⟨b, rfl, q1.less fun z => nb (z ▸ ⟨j, e, g, hg, hj, e1⟩)⟩
  · obtain ⟨h1, h2⟩ := P.ext.held x hx nx
    refine ⟨⟨h1, fun z => ?_⟩, h2⟩
    subst z
    rcases og with og | og
    · exact rel0.some_of hx og
    · exact nx og
/-- a value, frozen if it is of its own -/
theorem post_val {d : D} {b : Bool} {v : V} (rel0 : Rel K O0 ms0 σ H0) (P : PostE K O0 ms0 σ H0 ms O H) (r : RepR K H0 (Own ms0 σ) O H (Own ms σ) v d b) : ∃ O', PostE K O0 ms0 σ H0 ms O' H ∧ Rep K O' H v d := by
  cases b with
  | false => exact ⟨O, P, r⟩
  | true => exact post_less (a := 0) rel0 P r
/-- an own list is changed -/
theorem upd_keeps {a : Addr} {o : HO} (ho : O a) : Keeps O H O (upd H a o) := fun x u n h => ⟨n, by rw [upd_ne (fun z => n (by rw [z]; exact ho))]; exact h⟩
theorem post_upd {a : Addr} {vs : List V} {ds : List D} (rel : Rel K O ms σ H) (h : ms[i]? = some (some (d, f))) (hf : f ≠ .frz) (ha : σ[i]? = some (some (.ref a))) (ho : O a) (r : RepL K O H vs ds) :
    PostE K O ms σ H (ms.set i (some (.lst ds, f))) O (upd H a (.lst vs)) := by
  have kp : Keeps O H O (upd H a (.lst vs)) := upd_keeps ho
  refine ⟨⟨by rw [List.length_set]; exact rel.len, fun j e g hj => ?_, fun j k e e' g g' b hj hk hg hg' sj sk => ?_, fun x hx => ?_⟩, ⟨kp, fun x hx nb => ⟨hx, ?_⟩, fun x hx => ?_⟩, fun x hx => ?_, fun j e hj => ?_⟩
  · rcases set_get hj with ⟨rfl, e1, _⟩ | ⟨ne, hj⟩
    · cases e1
      refine ⟨_, ha, ?_⟩
      unfold RepS
      rw [if_neg hf]
      exact ⟨a, rfl, ho, vs, ds, rfl, upd_same, r.keep kp⟩
    · obtain ⟨v, e1, q1⟩ := rel.slot j e g hj
      refine ⟨v, e1, ?_⟩
      unfold RepS at q1 ⊢
      by_cases hg : g = .frz
      · rw [if_pos hg] at q1 ⊢
        exact q1.keep kp
      · rw [if_neg hg] at q1 ⊢
        obtain ⟨b, rfl, hb, us, es, e2, h2, r2⟩ := q1
        have nb : b ≠ a := fun z => ne (rel.apart j i e d g f b hj h hg hf e1 (z ▸ ha))
        exact ⟨b, rfl, hb, us, es, e2, by rw [upd_ne nb]; exact h2, r2.keep kp⟩
  · have back : ∀ {j : Nat} {e : D} {g : Fl}, (ms.set i (some (D.lst ds, f)))[j]? = some (some (e, g)) → ∃ e', ms[j]? = some (some (e', g)) := fun {j e g} hj => by
      rcases set_get hj with ⟨rfl, e1, _⟩ | ⟨ne, hj⟩
      · cases e1; exact ⟨d, h⟩
      · exact ⟨e, hj⟩
    obtain ⟨e1, hj⟩ := back hj
    obtain ⟨e2, hk⟩ := back hk
    exact rel.apart j k e1 e2 g g' b hj hk hg hg' sj sk
  · by_cases e : x = a
    · subst e; exact ⟨vs, upd_same⟩
    · rw [upd_ne e]; exact rel.lists x hx
  · exact upd_ne fun z => nb (by rw [z]; exact ⟨i, d, f, hf, h, ha⟩)
  · by_cases e : x = a
    · subst e; rw [upd_same]; exact fun z => nomatch z
    · rw [upd_ne e]; exact hx
  · obtain ⟨j, e, g, hg, hj, sj⟩ := hx
    rcases set_get hj with ⟨rfl, e1, _⟩ | ⟨ne, hj⟩
    · cases e1; exact .inl ⟨j, d, f, hf, h, sj⟩
    · exact .inl ⟨j, e, g, hg, hj, sj⟩
  · rcases set_get hj with ⟨rfl, e1, _⟩ | ⟨ne, hj⟩
    · cases e1; exact ⟨d, h⟩
    · exact ⟨e, hj⟩
/-- a list's change, by its place -/
theorem updL_in {α β : Type} {g : List D → Option (List D × α)} {k : α → M β} {Zok : β → MS → Prop} {Zerr : Nat → D → MS → Prop} (rel : Rel K O ms σ H) (G : End ((updL i g >>= k) ms) Zok Zerr) :
    ∃ a vs ds f es x, ms[i]? = some (some (.lst ds, f)) ∧ f ≠ .frz ∧ σ[i]? = some (some (.ref a)) ∧ O a ∧ H a = some (.lst vs) ∧ RepL K O H vs ds ∧ g ds = some (es, x) ∧ End (k x (ms.set i (some (.lst es, f)))) Zok Zerr := by
  have G : End (match ms[i]? with
    | some (some (.lst xs, fl)) => if fl = .frz then R.bad else match g xs with
      | some (ys, a) => .ok a (ms.set i (some (.lst ys, fl)))
      | none => .bad
    | _ => .bad) (fun a m => End (k a m) Zok Zerr) Zerr := G.bind
  cases h : ms[i]? with
  | none => rw [h] at G; exact G.elim
  | some o =>
    cases o with
    | none => rw [h] at G; exact G.elim
    | some p =>
      obtain ⟨d, f⟩ := p
      rw [h] at G
      cases d with
      | lst ds =>
        have G : End (if f = .frz then R.bad else match g ds with
          | some (ys, a) => .ok a (ms.set i (some (.lst ys, f)))
          | none => .bad) (fun a m => End (k a m) Zok Zerr) Zerr := G
        by_cases hf : f = .frz
        · rw [if_pos hf] at G; exact G.elim
        · rw [if_neg hf] at G
          obtain ⟨a, ha, ⟨ho, vs, es, e, e2, r⟩, _⟩ := rel.own h hf
          cases e
          cases q : g ds with
          | none => rw [q] at G; exact G.elim
          | some p =>
            obtain ⟨es, x⟩ := p
            rw [q] at G
            exact ⟨a, vs, ds, f, es, x, rfl, hf, ha, ho, e2, r, q, G⟩
      | _ => exact G.elim
end
/-! ### methods -/
section
variable {X : Cx} {O : Addr → Prop} {H : Hp}
def muId : Mu → String
  | .append => "list.append" | .pop => "list.pop" | .remove => "list.remove" | .extend => "list.extend"
theorem firstIx_spec {y : D} : ∀ {xs : List D} {k j : Nat}, firstIx y xs k = some j → ∃ m, j = k + m ∧ m < xs.length ∧ (∃ z, xs[m]? = some z ∧ eqD z y = true) ∧ ∀ n z, n < m → xs[n]? = some z → eqD z y = false
  | [], _, _, h => by cases h
  | x :: xs, k, j, h => by
    have h : (if eqD x y then some k else firstIx y xs (k + 1)) = some j := h
    by_cases hx : eqD x y = true
    · rw [if_pos hx] at h
      cases h
      exact ⟨0, rfl, by simp, ⟨x, rfl, hx⟩, fun n z hn => by omega⟩
    · rw [if_neg hx] at h
      obtain ⟨m, e, hm, hz, hn⟩ := firstIx_spec h
      refine ⟨m + 1, by omega, by simpa using hm, ?_, fun n z hl hz' => ?_⟩
      · simpa using hz
      · cases n with
        | zero =>
          have e : x = z := by simpa using hz'
          subst e
          simpa using hx
        | succ n => exact hn n z (by omega) (by simpa using hz')
theorem seqIx_of {n : Nat} {i : Int} {j : Nat} (h : Mi.ixN n i = some j) : seqIndex? i n = some j ∧ j < n ∧ -(n : Int) ≤ i ∧ i < n := L2.ixN_seq h
/-- a list's method that changes it -/
theorem mu1_ok (m : Mu) : MtR X (muId m) (fun x xs H Q => ∃ O a vs ds es el r, x = .ref a ∧ O a ∧ H a = some (.lst vs) ∧ RepL X.K O H vs ds ∧ RepL X.K O H xs es ∧ mu1 m ds es = some (el, r) ∧
    ∀ v ws, RepL X.K O H ws el → Rep X.K O H v r → Q v (upd H a (.lst ws))) := by
  intro pins s σ H x xs v us Q I rx rs h
  obtain ⟨O, a, vs, ds, es, el, r, rfl, ho, ha, rl, re, e, q⟩ := h
  have hz : vs.length ≤ sizeLine := (I.hok a _ ha).1
  cases m with
  | append =>
    match es, re, e with
    | [y], .cons ry .nil, e =>
      have e : (if ds.length < LINE then some (ds ++ [y], D.non) else none) = some (el, r) := e
      by_cases hl : ds.length < LINE
      · rw [if_pos hl] at e
        cases e
        have hl2 : vs.length < sizeLine := by
          rw [rl.length, sizeLine_eq]
          have : ds.length < 16000000 := hl
          omega
        exact mt_append pins s σ H _ _ v us Q I rx rs ⟨a, vs, _, rfl, rfl, ha, hl2, q _ _ (rl.append (.cons ry .nil)) .non⟩
      · rw [if_neg hl] at e; cases e
    | [], _, e => cases e
    | _ :: _ :: _, _, e => cases e
  | pop =>
    match es, re, e with
    | [], .nil, e =>
      obtain ⟨y, e1, e2⟩ := map_some (o := ds.getLast?) e
      cases e2
      rw [List.getLast?_eq_getElem?] at e1
      obtain ⟨w, h1, h2⟩ := rl.get e1
      refine mt_pop pins s σ H _ _ v us Q I rx rs ⟨a, vs, w, rfl, rfl, ha, by rw [rl.length]; exact h1, ?_⟩
      refine q _ _ ?_ h2
      rw [List.dropLast_eq_take, List.dropLast_eq_take, rl.length]
      exact rl.take _
    | [.int i], .cons ry .nil, e =>
      have e : ((Mi.ixN ds.length i).bind fun k => (ds[k]?).map fun y => (ds.eraseIdx k, y)) = some (el, r) := e
      cases hk : Mi.ixN ds.length i with
      | none => rw [hk] at e; cases e
      | some k =>
        rw [hk] at e
        obtain ⟨y, e1, e2⟩ := map_some (o := ds[k]?) e
        cases e2
        obtain ⟨w, h1, h2⟩ := rl.get e1
        obtain ⟨k1, k2, k3, k4⟩ := seqIx_of hk
        cases ry
        rw [← rl.length] at k1 k2 k3 k4
        have hzz : vs.length ≤ 16777216 := by rw [← sizeLine_eq]; exact hz
        exact mt_popAt pins s σ H _ _ v us Q I rx rs ⟨a, vs, i, k, w, rfl, rfl, ha, by omega, by omega, k1, h1, q _ _ (rl.erase k) h2⟩
    | [.non], _, e | [.bl _], _, e | [.str _], _, e | [.tup _], _, e | [.lst _], _, e | [.exc _ _], _, e | [.scr _], _, e => cases e
    | d :: _ :: _, _, e => cases d <;> cases e
  | remove =>
    match es, re, e with
    | [.int y], .cons ry .nil, e =>
      have e : ((intsOf ds).bind fun ns => (firstIx (.int y) ds 0).map fun k => (ds.eraseIdx k, D.non)) = some (el, r) := e
      cases hi : intsOf ds with
      | none => rw [hi] at e; cases e
      | some ns =>
        rw [hi] at e
        obtain ⟨j, e1, e2⟩ := map_some (o := firstIx (.int y) ds 0) e
        cases e2
        obtain ⟨rfl, rfl⟩ := rl.intsOf hi
        obtain ⟨k, rfl, hk, ⟨z, hz1, hz2⟩, hn⟩ := firstIx_spec e1
        rw [Nat.zero_add] at q
        have geti : ∀ (n : Nat) (z : D), (ns.map D.int)[n]? = some z → ∃ x, ns[n]? = some x ∧ z = .int x := fun n z h => by
          rw [List.getElem?_map] at h
          obtain ⟨x, h1, h2⟩ := map_some h
          exact ⟨x, h1, h2.symm⟩
        obtain ⟨x, hx, rfl⟩ := geti _ _ hz1
        have ex : x = y := by
          have h : (x == y) = true := hz2
          simpa using h
        subst ex
        cases ry
        refine mt_remove pins s σ H _ _ v us Q I rx rs ⟨a, ns, x, k, rfl, rfl, ha, hx, ?_, ?_⟩
        · intro m hm hm'
          have h := hn m (.int x) hm (by rw [List.getElem?_map, hm']; rfl)
          have h : (x == x) = false := h
          simp at h
        · have hq := q .non ((ns.map V.int).eraseIdx k) (rl.erase k) .non
          rw [erase_mapI] at hq
          exact hq
    | [], _, e => cases e
    | [.non], _, e | [.bl _], _, e | [.str _], _, e | [.tup _], _, e | [.lst _], _, e | [.exc _ _], _, e | [.scr _], _, e => cases e
    | d :: _ :: _, _, e => cases d <;> cases e
  | extend =>
    match es, re, e with
    | [.lst zs], .cons ry .nil, e =>
      have e : (if ds.length + zs.length ≤ LINE then some (ds ++ zs, D.non) else none) = some (el, r) := e
      by_cases hl : ds.length + zs.length ≤ LINE
      · rw [if_pos hl] at e
        cases e
        cases ry with
        | lst nb hb rb =>
          exact mt_extend pins s σ H _ _ v us Q I rx rs ⟨a, _, vs, _, rfl, rfl, ha, hb, by rw [rl.length, rb.length]; exact line_le hl, q _ _ (rl.append rb) .non⟩
      · rw [if_neg hl] at e; cases e
    | [.int _], _, e | [.non], _, e | [.bl _], _, e | [.str _], _, e | [.tup _], _, e | [.exc _ _], _, e | [.scr _], _, e => cases e
    | [], _, e => cases e
    | d :: _ :: _, _, e => cases d <;> cases e
end
end Mi

set_option Elab.async false
set_option linter.all false
set_option maxRecDepth 100000
set_option autoImplicit false
set_option maxHeartbeats 1000000
namespace Mi
open PySem PySem.Spec PyProof.Rows L2
section
variable {K : PySem.W.Frag} {XR : XRep} {W : WX} {O O' O0 : Addr → Prop} {H H' H0 : Hp} {B B' : Addr → Prop} {ms ms' ms0 : MS} {σ : St} {i : Nat} {d : D} {f : Fl}
def ZT (K : PySem.W.Frag) (O : Addr → Prop) (ms : MS) (σ : St) (H : Hp) (Q : Bool → Hp → Prop) : Bool → MS → Prop := fun r ms' => ∀ O' H', PostE K O ms σ H ms' O' H' → Q r H'
def tT (K : PySem.W.Frag) (XR : XRep) (W : WX) (f : M Bool) : TT := fun σ H Q => ∃ O ms, Rel K O ms σ H ∧ End (f ms) (ZT K O ms σ H Q) (ZE K XR W O ms σ H)
def evT (C : Calls) (e : E) : M Bool := do
  let p ← ev C e
  asB p.1
theorem bind_assoc' {α β γ : Type} (x : M α) (f : α → M β) (g : β → M γ) : (x >>= f >>= g) = (x >>= fun a => f a >>= g) := by
  funext m
  show M.bnd (M.bnd x f) g m = M.bnd x (fun a => M.bnd (f a) g) m
  unfold M.bnd
  cases x m <;> rfl
theorem asB_in {β : Type} {d : D} {g : Bool → M β} {Zok : β → MS → Prop} {Zerr : Nat → D → MS → Prop} (G : End ((asB d >>= g) ms) Zok Zerr) : ∃ b, d = .bl b ∧ End (g b ms) Zok Zerr := by
  cases d with
  | bl b => exact ⟨b, rfl, G⟩
  | _ => exact (G.bind : End (.bad) _ _).elim
theorem asB_out {d : D} {Zok : Bool → MS → Prop} {Zerr : Nat → D → MS → Prop} (G : End (asB d ms) Zok Zerr) : ∃ b, d = .bl b ∧ Zok b ms := by
  cases d with
  | bl b => exact ⟨b, rfl, G⟩
  | _ => exact G.elim
theorem tT_in {β : Type} {f : M Bool} {g : Bool → M β} {Zok : β → MS → Prop} {C : Bool → Hp → Prop} (rel : Rel K O0 ms0 σ H0) (P : PostE K O0 ms0 σ H0 ms O H) (G : End ((f >>= g) ms) Zok (ZE K XR W O0 ms0 σ H0))
    (k : ∀ b ms1 O1 H1, PostE K O0 ms0 σ H0 ms1 O1 H1 → End (g b ms1) Zok (ZE K XR W O0 ms0 σ H0) → C b H1) : tT K XR W f σ H C :=
  ⟨O, ms, P.rel, End.imp G.bind (fun r m h O' H' p => k r m O' H' (P.trans rel p) h) (fun c x m h cls dx O' H' p q => h cls dx O' H' (P.trans rel p) q)⟩
/-- the last of several -/
theorem tM_out {f : M (D × Bool)} {Q : VK} (rel : Rel K O0 ms0 σ H0) (P : PostE K O0 ms0 σ H0 ms O H) (G : End (f ms) (ZM K O0 ms0 σ H0 Q) (ZE K XR W O0 ms0 σ H0)) : tM K XR W f σ H Q :=
  ⟨O, ms, P.rel, End.imp G (fun r m h v O' H' p q => h v O' H' (P.trans rel p) (q.base P)) (fun c x m h cls dx O' H' p q => h cls dx O' H' (P.trans rel p) q)⟩
theorem tT_out {f : M Bool} {Q : Bool → Hp → Prop} (rel : Rel K O0 ms0 σ H0) (P : PostE K O0 ms0 σ H0 ms O H) (G : End (f ms) (ZT K O0 ms0 σ H0 Q) (ZE K XR W O0 ms0 σ H0)) : tT K XR W f σ H Q :=
  ⟨O, ms, P.rel, End.imp G (fun r m h O' H' p => h O' H' (P.trans rel p)) (fun c x m h cls dx O' H' p q => h cls dx O' H' (P.trans rel p) q)⟩
theorem fin_val {v : V} {d : D} {Q : VK} (P : PostE K O0 ms0 σ H0 ms O H) (G : ZM K O0 ms0 σ H0 Q (d, false) ms) (r : Rep K O H v d) : Q v H := G v O H P r
theorem fin_raw {v : V} {d : D} {b : Bool} {Q : VK} (P : PostE K O0 ms0 σ H0 ms O H) (G : ZM K O0 ms0 σ H0 Q (d, b) ms) (r : RepR K H0 (Own ms0 σ) O H (Own ms σ) v d b) : Q v H := G v O H P r
theorem RepR.repB {v : V} {d : D} {b : Bool} (r : RepR K H0 B O H B' v d b) : RepB K O H v d := by
  cases b with
  | false => exact .inl r
  | true =>
    obtain ⟨a, e, q, _⟩ := r
    exact .inr ⟨a, e, q⟩
theorem RepR.bl' {v : V} {x b : Bool} (r : RepR K H0 B O H B' v (.bl x) b) : v = .bl x := r.repB.bl
theorem RepR.int' {v : V} {x : Int} {b : Bool} (r : RepR K H0 B O H B' v (.int x) b) : v = .int x := r.repB.int

variable {X : Cx} {C : Calls} {e e1 e2 e3 : Exp} {pos : Pos}
/-! ### names and constants -/
theorem rdV_run : rdV i ms = match ms[i]? with
  | some (some (d, .frz)) => .ok (d, false) ms
  | some (some (d, _)) => .ok (d, false) (ms.set i (some (d, .frz)))
  | _ => .bad := rfl
theorem slot_cases (o : Option (Option (D × Fl))) : (∃ d, o = some (some (d, .frz))) ∨ (∃ d f, f ≠ .frz ∧ o = some (some (d, f))) ∨ o = some none ∨ o = none := by
  cases o with
  | none => exact .inr (.inr (.inr rfl))
  | some o =>
    cases o with
    | none => exact .inr (.inr (.inl rfl))
    | some p =>
      obtain ⟨d, f⟩ := p
      cases f with
      | frz => exact .inl ⟨d, rfl⟩
      | own => exact .inr (.inl ⟨d, .own, by decide, rfl⟩)
      | bor => exact .inr (.inl ⟨d, .bor, by decide, rfl⟩)
theorem c_var {x : Str} (hN : X.N[i]? = some x) (hv : Vis X.env.scope x) (hd : (x == ("__debug__" : Str)) = false) (hcd : (x == ("__classdict__" : Str)) = false) : PE X (.Name x pos) (tM K XR W (rdV i)) := by
  refine (pe_var hN hv hd hcd).weak ?_
  rintro σ H Q ⟨O, ms, rel, G⟩
  rw [rdV_run] at G
  rcases slot_cases ms[i]? with ⟨d, h⟩ | ⟨d, f, hf, h⟩ | h | h
  · rw [h] at G
    obtain ⟨v, e, r⟩ := rel.frz h
    exact ⟨v, e, G v O H (.refl rel) r⟩
  · rw [h] at G
    obtain ⟨a, e, q, _⟩ := rel.own h hf
    have G : End (.ok (d, false) (ms.set i (some (d, .frz)))) (ZM K O ms σ H Q) (ZE K XR W O ms σ H) := by
      cases f with
      | frz => exact absurd rfl hf
      | own => exact G
      | bor => exact G
    exact ⟨.ref a, e, G _ _ H (post_frz rel h hf e q) q.frozen⟩
  · rw [h] at G; exact G.elim
  · rw [h] at G; exact G.elim
theorem argV_run : argV i ms = match ms[i]? with
  | some (some (d, .frz)) => .ok (.val d false) ms
  | some (some (_, _)) => .ok (.lend i) ms
  | _ => .bad := rfl
theorem c_argv {x : Str} (hN : X.N[i]? = some x) (hv : Vis X.env.scope x) (hd : (x == ("__debug__" : Str)) = false) (hcd : (x == ("__classdict__" : Str)) = false) : PE X (.Name x pos) (tA K XR W (argV i)) := by
  refine (pe_var hN hv hd hcd).weak ?_
  rintro σ H Q ⟨O, ms, rel, G⟩
  rw [argV_run] at G
  rcases slot_cases ms[i]? with ⟨d, h⟩ | ⟨d, f, hf, h⟩ | h | h
  · rw [h] at G
    obtain ⟨v, e, r⟩ := rel.frz h
    exact ⟨v, e, G v O H (.refl rel) r⟩
  · rw [h] at G
    obtain ⟨a, e, q, _⟩ := rel.own h hf
    have G : End (.ok (A.lend i) ms) (ZA K O ms σ H Q) (ZE K XR W O ms σ H) := by
      cases f with
      | frz => exact absurd rfl hf
      | own => exact G
      | bor => exact G
    exact ⟨.ref a, e, G _ _ H (.refl rel) e⟩
  · rw [h] at G; exact G.elim
  · rw [h] at G; exact G.elim
theorem c_argm {x : M (D × Bool)} (h : PE X e (tM K XR W x)) : PE X e (tA K XR W (do
    let p ← x
    pure (.val p.1 p.2))) := by
  refine h.weak ?_
  rintro σ H Q ⟨O, ms, rel, G⟩
  exact tM_in rel (.refl rel) G fun d b ms1 v O1 H1 P1 _ R1 G1 => G1 v O1 H1 P1 R1
theorem c_const {v : V} {d : D} (h : PE X e (tC v)) (r : ∀ O H, Rep K O H v d) : PE X e (tM K XR W (M.ret (d, false))) := by
  refine h.weak ?_
  rintro σ H Q ⟨O, ms, rel, G⟩
  exact G v O H (.refl rel) (r O H)
/-! ### operators -/
theorem c_op {o : Op} {fa fb : M A} (ha : PE X e1 (tA X.K XR W fa)) (hb : PE X e2 (tA X.K XR W fb)) : PE X (.BinOp e1 (pyOp o) e2 pos) (tM X.K XR W (do
    let x ← fa
    let y ← fb
    let dx ← rdA x
    let dy ← rdA y
    liftO (op2 o dx dy))) := by
  refine (pe_op (op2_ok o) ha hb).weak ?_
  rintro σ H Q ⟨O, ms, rel, G⟩
  refine tA_in rel (.refl rel) G fun x ms1 v O1 H1 P1 _ R1 G1 => ?_
  refine tA_in rel P1 G1 fun y ms2 u O2 H2 P2 S2 R2 G2 => ?_
  obtain ⟨dx, rx, G3⟩ := rdA_in P2.rel (R1.keep S2 P1.rel) G2
  obtain ⟨dy, ry, G4⟩ := rdA_in P2.rel R2 G3
  obtain ⟨⟨d, b⟩, e, G5⟩ := liftO_out G4
  exact ⟨O2, dx, dy, d, b, fun _ h => P2.rel.some_of h, rx, ry, e, fin_in rel P2 G5⟩
theorem c_neg {f : M (D × Bool)} (h : PE X e (tM X.K XR W f)) : PE X (.UnaryOp .USub e pos) (tM X.K XR W (do
    let p ← f
    let i ← liftO (oInt p.1)
    pure (.int (-i), false))) := by
  refine (pe_un un_neg h).weak ?_
  rintro σ H Q ⟨O, ms, rel, G⟩
  refine tM_in rel (.refl rel) G fun d b ms1 v O1 H1 P1 _ R1 G1 => ?_
  obtain ⟨i, e, G2⟩ := liftO_in G1
  cases d <;> first | (cases e; done) | skip
  cases e
  exact ⟨i, R1.int', fin_val P1 G2 (.int _)⟩
theorem c_cmp {o : Cm} {fa fb : M A} (hu : X.A.units + 64 < cLine) (hm : behindInMarks (pyCm o) e2 = false) (ha : PE X e1 (tA X.K XR W fa)) (hb : PE X e2 (tA X.K XR W fb)) : PE X (.Compare e1 [pyCm o] [e2] pos) (tM X.K XR W (do
    let x ← fa
    let y ← fb
    let dx ← rdA x
    let dy ← rdA y
    let r ← liftO (cm2 o dx dy)
    pure (.bl r, false))) := by
  refine (pe_cmpR (cm2_ok hu o) ha hb hm).weak ?_
  rintro σ H Q ⟨O, ms, rel, G⟩
  refine tA_in rel (.refl rel) G fun x ms1 v O1 H1 P1 _ R1 G1 => ?_
  refine tA_in rel P1 G1 fun y ms2 u O2 H2 P2 S2 R2 G2 => ?_
  obtain ⟨dx, rx, G3⟩ := rdA_in P2.rel (R1.keep S2 P1.rel) G2
  obtain ⟨dy, ry, G4⟩ := rdA_in P2.rel R2 G3
  obtain ⟨r, e, G5⟩ := liftO_in G4
  exact ⟨O2, dx, dy, r, rx, ry, e, fin_val P2 G5 (.bl _)⟩
theorem t_cmp {o : Cm} {fa fb : M A} (hu : X.A.units + 64 < cLine) (hm : behindInMarks (pyCm o) e2 = false) (ha : PE X e1 (tA X.K XR W fa)) (hb : PE X e2 (tA X.K XR W fb)) : PT X (.Compare e1 [pyCm o] [e2] pos) (tT X.K XR W (do
    let p ← (do
      let x ← fa
      let y ← fb
      let dx ← rdA x
      let dy ← rdA y
      let r ← liftO (cm2 o dx dy)
      pure (D.bl r, false))
    asB p.1)) := by
  refine (pt_cmpR (cm2_ok hu o) ha hb hm).weak ?_
  rintro σ H Q ⟨O, ms, rel, G⟩
  simp only [bind_assoc'] at G
  refine tA_in rel (.refl rel) G fun x ms1 v O1 H1 P1 _ R1 G1 => ?_
  refine tA_in rel P1 G1 fun y ms2 u O2 H2 P2 S2 R2 G2 => ?_
  obtain ⟨dx, rx, G3⟩ := rdA_in P2.rel (R1.keep S2 P1.rel) G2
  obtain ⟨dy, ry, G4⟩ := rdA_in P2.rel R2 G3
  obtain ⟨r, e, G5⟩ := liftO_in G4
  exact ⟨O2, dx, dy, r, rx, ry, e, r, rfl, G5 O2 H2 P2⟩
theorem c_chn {o p : Cm} {fa fb fc : M A} (hu : X.A.units + 64 < cLine) (ha : PE X e1 (tA X.K XR W fa)) (hb : PE X e2 (tA X.K XR W fb)) (hc : PE X e3 (tA X.K XR W fc))
    (hm : lastMarks [pyCm o, pyCm p] [e2, e3] = false) : PE X (.Compare e1 [pyCm o, pyCm p] [e2, e3] pos) (tM X.K XR W (do
    let x ← fa
    let y ← fb
    let dx ← rdA x
    let dy ← rdA y
    let r ← liftO (cm2 o dx dy)
    if r then
      let z ← fc
      let dy ← rdA y
      let dz ← rdA z
      let q ← liftO (cm2 p dy dz)
      pure (.bl q, false)
    else pure (.bl false, false))) := by
  refine (pe_chain (cm2_ok hu o) (cm2_ok hu p) ha hb hc hm).weak ?_
  rintro σ H Q ⟨O, ms, rel, G⟩
  refine tA_in rel (.refl rel) G fun x ms1 v O1 H1 P1 _ R1 G1 => ?_
  refine tA_in rel P1 G1 fun y ms2 u O2 H2 P2 S2 R2 G2 => ?_
  obtain ⟨dx, rx, G3⟩ := rdA_in P2.rel (R1.keep S2 P1.rel) G2
  obtain ⟨dy, ry, G4⟩ := rdA_in P2.rel R2 G3
  obtain ⟨r, e, G5⟩ := liftO_in G4
  refine ⟨O2, dx, dy, r, rx, ry, e, r, rfl, ?_⟩
  cases r with
  | false =>
    rw [if_neg Bool.false_ne_true]
    exact fin_val P2 G5 (.bl _)
  | true =>
    rw [if_pos rfl]
    refine tA_in rel P2 G5 fun z ms3 w O3 H3 P3 S3 R3 G6 => ?_
    obtain ⟨dy', ry', G7⟩ := rdA_in P3.rel (R2.keep S3 P2.rel) G6
    obtain ⟨dz, rz, G8⟩ := rdA_in P3.rel R3 G7
    obtain ⟨q, e', G9⟩ := liftO_in G8
    exact ⟨O3, dy', dz, q, ry', rz, e', fin_val P3 G9 (.bl _)⟩
/-! ### and, or, not, if -/
theorem c_lnot {f : M (D × Bool)} (h : PE X e (tM X.K XR W f)) : PE X (.UnaryOp .Not e pos) (tM X.K XR W (do
    let p ← f
    let x ← asB p.1
    pure (.bl (!x), false))) := by
  refine (pe_not h).weak ?_
  rintro σ H Q ⟨O, ms, rel, G⟩
  refine tM_in rel (.refl rel) G fun d b ms1 v O1 H1 P1 _ R1 G1 => ?_
  obtain ⟨x, rfl, G2⟩ := asB_in G1
  exact ⟨x, R1.bl', fin_val P1 G2 (.bl _)⟩
theorem t_lnot {f : M (D × Bool)} (h : PT X e (tT X.K XR W (do
    let p ← f
    asB p.1))) : PT X (.UnaryOp .Not e pos) (tT X.K XR W (do
    let p ← (do
      let p ← f
      let x ← asB p.1
      pure (D.bl (!x), false))
    asB p.1)) := by
  refine (pt_not h).weak ?_
  rintro σ H Q ⟨O, ms, rel, G⟩
  have G : End (((do
      let p ← f
      asB p.1) >>= fun x => (pure (!x) : M Bool)) ms) (ZT X.K O ms σ H Q) (ZE X.K XR W O ms σ H) := by
    simp only [bind_assoc'] at G ⊢
    exact G
  exact tT_in rel (.refl rel) G fun b ms1 O1 H1 P1 G1 => G1 O1 H1 P1
theorem c_land {rest : List Exp} {fa fb : M (D × Bool)} (ha : PE X e1 (tM X.K XR W fa)) (hb : PE X (.BoolOp .And (e2 :: rest) pos) (tM X.K XR W fb)) : PE X (.BoolOp .And (e1 :: e2 :: rest) pos) (tM X.K XR W (do
    let p ← fa
    let x ← asB p.1
    if x then fb else pure (.bl false, false))) := by
  refine (pe_and ha hb).weak ?_
  rintro σ H Q ⟨O, ms, rel, G⟩
  refine tM_in rel (.refl rel) G fun d b ms1 v O1 H1 P1 _ R1 G1 => ?_
  obtain ⟨x, rfl, G2⟩ := asB_in G1
  refine ⟨x, R1.bl', ?_⟩
  cases x with
  | true =>
    rw [if_pos rfl] at G2 ⊢
    exact tM_out rel P1 G2
  | false =>
    rw [if_neg Bool.false_ne_true] at G2 ⊢
    exact fin_val P1 G2 (.bl _)
theorem c_lor {rest : List Exp} {fa fb : M (D × Bool)} (ha : PE X e1 (tM X.K XR W fa)) (hb : PE X (.BoolOp .Or (e2 :: rest) pos) (tM X.K XR W fb)) : PE X (.BoolOp .Or (e1 :: e2 :: rest) pos) (tM X.K XR W (do
    let p ← fa
    let x ← asB p.1
    if x then pure (.bl true, false) else fb)) := by
  refine (pe_or ha hb).weak ?_
  rintro σ H Q ⟨O, ms, rel, G⟩
  refine tM_in rel (.refl rel) G fun d b ms1 v O1 H1 P1 _ R1 G1 => ?_
  obtain ⟨x, rfl, G2⟩ := asB_in G1
  refine ⟨x, R1.bl', ?_⟩
  cases x with
  | true =>
    rw [if_pos rfl] at G2 ⊢
    exact fin_val P1 G2 (.bl _)
  | false =>
    rw [if_neg Bool.false_ne_true] at G2 ⊢
    exact tM_out rel P1 G2
abbrev tst (f : M (D × Bool)) : M Bool := do
  let p ← f
  asB p.1
theorem tst_land {fa fb : M (D × Bool)} : tst (do
    let p ← fa
    let x ← asB p.1
    if x then fb else pure (.bl false, false)) = (do
    let x ← tst fa
    if x then tst fb else pure false) := by
  simp only [tst, bind_assoc']
  congr 1; funext p; congr 1; funext x
  cases x <;> rfl
theorem tst_lor {fa fb : M (D × Bool)} : tst (do
    let p ← fa
    let x ← asB p.1
    if x then pure (.bl true, false) else fb) = (do
    let x ← tst fa
    if x then pure true else tst fb) := by
  simp only [tst, bind_assoc']
  congr 1; funext p; congr 1; funext x
  cases x <;> rfl
theorem t_land {rest : List Exp} {fa fb : M (D × Bool)} (ha : PT X e1 (tT X.K XR W (tst fa))) (hb : PW X (.BoolOp .And (e2 :: rest) pos) (tT X.K XR W (tst fb))) : PW X (.BoolOp .And (e1 :: e2 :: rest) pos) (tT X.K XR W (tst (do
    let p ← fa
    let x ← asB p.1
    if x then fb else pure (.bl false, false)))) := by
  have h := pw_and ha hb
  refine ⟨fun wh pins s σ H Q I hw => h.run wh pins s σ H Q I ?_⟩
  obtain ⟨O, ms, rel, G⟩ := hw
  rw [tst_land] at G
  refine tT_in rel (.refl rel) G fun x ms1 O1 H1 P1 G1 => ?_
  cases x with
  | true =>
    rw [if_pos rfl] at G1 ⊢
    exact tT_out rel P1 G1
  | false =>
    rw [if_neg Bool.false_ne_true] at G1 ⊢
    exact G1 O1 H1 P1
theorem t_lor {rest : List Exp} {fa fb : M (D × Bool)} (ha : PT X e1 (tT X.K XR W (tst fa))) (hb : PW X (.BoolOp .Or (e2 :: rest) pos) (tT X.K XR W (tst fb))) : PW X (.BoolOp .Or (e1 :: e2 :: rest) pos) (tT X.K XR W (tst (do
    let p ← fa
    let x ← asB p.1
    if x then pure (.bl true, false) else fb))) := by
  have h := pw_or ha hb
  refine ⟨fun wh pins s σ H Q I hw => h.run wh pins s σ H Q I ?_⟩
  obtain ⟨O, ms, rel, G⟩ := hw
  rw [tst_lor] at G
  refine tT_in rel (.refl rel) G fun x ms1 O1 H1 P1 G1 => ?_
  cases x with
  | true =>
    rw [if_pos rfl] at G1 ⊢
    exact G1 O1 H1 P1
  | false =>
    rw [if_neg Bool.false_ne_true] at G1 ⊢
    exact tT_out rel P1 G1
theorem t_plain {f : M (D × Bool)} (h : PE X e (tM X.K XR W f)) (he : ∀ whole, isTrue e X.env whole = (do let v ← whole; standAt e.pos; holding [v] (truthy v))) : PT X e (tT X.K XR W (tst f)) := by
  refine (pt_val h he).weak ?_
  rintro σ H Q ⟨O, ms, rel, G⟩
  refine tM_in rel (.refl rel) G fun d b ms1 v O1 H1 P1 _ R1 G1 => ?_
  obtain ⟨x, rfl, G2⟩ := asB_out G1
  exact ⟨x, R1.bl', G2 O1 H1 P1⟩
theorem c_ife {fc fa fb : M (D × Bool)} (hc : PT X e1 (tT X.K XR W (tst fc))) (ha : PE X e2 (tM X.K XR W fa)) (hb : PE X e3 (tM X.K XR W fb)) : PE X (.IfExp e1 e2 e3 pos) (tM X.K XR W (do
    let p ← fc
    let x ← asB p.1
    if x then fa else fb)) := by
  refine (pe_ifExp hc ha hb).weak ?_
  rintro σ H Q ⟨O, ms, rel, G⟩
  have G : End ((tst fc >>= fun x => if x then fa else fb) ms) (ZM X.K O ms σ H Q) (ZE X.K XR W O ms σ H) := by
    simp only [tst, bind_assoc'] at G ⊢
    exact G
  refine tT_in rel (.refl rel) G fun x ms1 O1 H1 P1 G1 => ?_
  cases x with
  | true =>
    rw [if_pos rfl] at G1 ⊢
    exact tM_out rel P1 G1
  | false =>
    rw [if_neg Bool.false_ne_true] at G1 ⊢
    exact tM_out rel P1 G1
/-! ### subscripts -/
theorem c_idx {fa fb : M A} (hs : PlainIx e2) (ha : PE X e1 (tA X.K XR W fa)) (hb : PE X e2 (tA X.K XR W fb)) : PE X (.Subscript e1 e2 pos) (tM X.K XR W (do
    let x ← fa
    let y ← fb
    let dx ← rdA x
    let dy ← rdA y
    let r ← liftO (ix2 dx dy)
    pure (r, false))) := by
  refine (pe_ix ix2_ok ha hb hs).weak ?_
  rintro σ H Q ⟨O, ms, rel, G⟩
  refine tA_in rel (.refl rel) G fun x ms1 v O1 H1 P1 _ R1 G1 => ?_
  refine tA_in rel P1 G1 fun y ms2 u O2 H2 P2 S2 R2 G2 => ?_
  obtain ⟨dx, rx, G3⟩ := rdA_in P2.rel (R1.keep S2 P1.rel) G2
  obtain ⟨dy, ry, G4⟩ := rdA_in P2.rel R2 G3
  obtain ⟨d, e, G5⟩ := liftO_in G4
  exact ⟨O2, dx, dy, d, rx, ry, e, fun v r => fin_val P2 G5 r⟩
def ZO (K : PySem.W.Frag) (O : Addr → Prop) (ms : MS) (σ : St) (H : Hp) (Q : Option Int → Hp → Prop) : Option Int → MS → Prop := fun r ms' => ∀ O' H', PostE K O ms σ H ms' O' H' → Q r H'
def tO (K : PySem.W.Frag) (XR : XRep) (W : WX) (f : M (Option Int)) : TO := fun σ H Q => ∃ O ms, Rel K O ms σ H ∧ End (f ms) (ZO K O ms σ H Q) (ZE K XR W O ms σ H)
theorem _root_.L2.PO.weak {eo : Option Exp} {t t' : TO} (h : PO X eo t) (w : ∀ σ H Q, t' σ H Q → t σ H Q) : PO X eo t' := ⟨fun pins s σ H Q I hw => h.run pins s σ H Q I (w σ H Q hw)⟩
theorem o_none : PO X none (tO K XR W (M.ret none)) := by
  refine PO.weak po_none ?_
  rintro σ H Q ⟨O, ms, rel, G⟩
  exact G O H (.refl rel)
theorem o_some {f : M (D × Bool)} (h : PE X e (tM K XR W f)) : PO X (some e) (tO K XR W (do
    let p ← f
    let i ← liftO (oInt p.1)
    pure (some i))) := by
  refine PO.weak (po_some h) ?_
  rintro σ H Q ⟨O, ms, rel, G⟩
  refine tM_in rel (.refl rel) G fun d b ms1 v O1 H1 P1 _ R1 G1 => ?_
  obtain ⟨i, e, G2⟩ := liftO_in G1
  cases d <;> first | (cases e; done) | skip
  cases e
  exact ⟨i, R1.int', G2 O1 H1 P1⟩
theorem tO_in {β : Type} {f : M (Option Int)} {g : Option Int → M β} {Zok : β → MS → Prop} {C : Option Int → Hp → Prop} (rel : Rel K O0 ms0 σ H0) (P : PostE K O0 ms0 σ H0 ms O H) (G : End ((f >>= g) ms) Zok (ZE K XR W O0 ms0 σ H0))
    (k : ∀ b ms1 O1 H1, PostE K O0 ms0 σ H0 ms1 O1 H1 → PostE K O ms σ H ms1 O1 H1 → End (g b ms1) Zok (ZE K XR W O0 ms0 σ H0) → C b H1) : tO K XR W f σ H C :=
  ⟨O, ms, P.rel, End.imp G.bind (fun r m h O' H' p => k r m O' H' (P.trans rel p) p h) (fun c x m h cls dx O' H' p q => h cls dx O' H' (P.trans rel p) q)⟩
theorem c_slc {fa : M A} {fl fh : M (Option Int)} {lo hi : Option Exp} {p2 : Pos} (ha : PE X e1 (tA X.K XR W fa)) (hl : PO X lo (tO X.K XR W fl)) (hh : PO X hi (tO X.K XR W fh)) : PE X (.Subscript e1 (.Slice lo hi none p2) pos) (tM X.K XR W (do
    let x ← fa
    let l ← fl
    let h ← fh
    let dx ← rdA x
    liftO (slD l h dx))) := by
  refine (pe_slice sl_ok ha hl hh).weak ?_
  rintro σ H Q ⟨O, ms, rel, G⟩
  refine tA_in rel (.refl rel) G fun x ms1 v O1 H1 P1 _ R1 G1 => ?_
  refine tO_in rel P1 G1 fun l ms2 O2 H2 P2 S2 G2 => ?_
  refine tO_in rel P2 G2 fun h ms3 O3 H3 P3 S3 G3 => ?_
  obtain ⟨dx, rx, G4⟩ := rdA_in P3.rel ((R1.keep S2 P1.rel).keep S3 P2.rel) G3
  obtain ⟨⟨d, b⟩, e, G5⟩ := liftO_out G4
  exact ⟨O3, dx, d, b, fun _ h => P3.rel.some_of h, rx, e, fin_in rel P3 G5⟩
end
end Mi

set_option Elab.async false
set_option linter.all false
set_option maxRecDepth 100000
set_option autoImplicit false
set_option maxHeartbeats 1000000
namespace Mi
open PySem PySem.Spec PyProof.Rows L2
section
variable {K : PySem.W.Frag} {XR : XRep} {W : WX} {O O' O0 : Addr → Prop} {H H' H0 : Hp} {B B' B0 : Addr → Prop} {ms ms' ms0 : MS} {σ : St} {i : Nat} {d : D} {f : Fl}
/-! ### several expressions -/
def ZF (K : PySem.W.Frag) (O : Addr → Prop) (ms : MS) (σ : St) (H : Hp) (Q : List V → Hp → Prop) : List D → MS → Prop := fun ds ms' => ∀ vs O' H', PostE K O ms σ H ms' O' H' → RepL K O' H' vs ds → Q vs H'
def tF (K : PySem.W.Frag) (XR : XRep) (W : WX) (f : M (List D)) : TA := fun σ H Q => ∃ O ms, Rel K O ms σ H ∧ End (f ms) (ZF K O ms σ H Q) (ZE K XR W O ms σ H)
theorem tF_in {β : Type} {f : M (List D)} {g : List D → M β} {Zok : β → MS → Prop} {C : List V → Hp → Prop} (rel : Rel K O0 ms0 σ H0) (P : PostE K O0 ms0 σ H0 ms O H) (G : End ((f >>= g) ms) Zok (ZE K XR W O0 ms0 σ H0))
    (k : ∀ ds ms1 vs O1 H1, PostE K O0 ms0 σ H0 ms1 O1 H1 → PostE K O ms σ H ms1 O1 H1 → RepL K O1 H1 vs ds → End (g ds ms1) Zok (ZE K XR W O0 ms0 σ H0) → C vs H1) : tF K XR W f σ H C :=
  ⟨O, ms, P.rel, End.imp G.bind (fun r m h vs O' H' p q => k r m vs O' H' (P.trans rel p) p q h) (fun c x m h cls dx O' H' p q => h cls dx O' H' (P.trans rel p) q)⟩
inductive RepAL (K : PySem.W.Frag) (σ : St) (H0 : Hp) (B0 : Addr → Prop) (O : Addr → Prop) (H : Hp) (B : Addr → Prop) : List V → List A → Prop
  | nil : RepAL K σ H0 B0 O H B [] []
  | cons {v : V} {x : A} {vs : List V} {as : List A} : RepA K σ H0 B0 O H B v x → (∀ a d, v = .ref a → x = .val d true → ∀ (k : Nat) (d' : D), vs[k]? = some (.ref a) → as[k]? = some (.val d' true) → False) →
      RepAL K σ H0 B0 O H B vs as → RepAL K σ H0 B0 O H B (v :: vs) (x :: as)
def ZAL (K : PySem.W.Frag) (O : Addr → Prop) (ms : MS) (σ : St) (H : Hp) (Q : List V → Hp → Prop) : List A → MS → Prop := fun as ms' => ∀ vs O' H', PostE K O ms σ H ms' O' H' → RepAL K σ H (Own ms σ) O' H' (Own ms' σ) vs as → Q vs H'
def tAL (K : PySem.W.Frag) (XR : XRep) (W : WX) (f : M (List A)) : TA := fun σ H Q => ∃ O ms, Rel K O ms σ H ∧ End (f ms) (ZAL K O ms σ H Q) (ZE K XR W O ms σ H)
theorem RepAL.base (P : PostE K O0 ms0 σ H0 ms O H) : ∀ {vs : List V} {as : List A}, RepAL K σ H (Own ms σ) O' H' B' vs as → RepAL K σ H0 (Own ms0 σ) O' H' B' vs as
  | _, _, .nil => .nil
  | _, _, .cons r n t => .cons (r.base P) n (RepAL.base P t)
theorem tAL_in {β : Type} {f : M (List A)} {g : List A → M β} {Zok : β → MS → Prop} {C : List V → Hp → Prop} (rel : Rel K O0 ms0 σ H0) (P : PostE K O0 ms0 σ H0 ms O H) (G : End ((f >>= g) ms) Zok (ZE K XR W O0 ms0 σ H0))
    (k : ∀ as ms1 vs O1 H1, PostE K O0 ms0 σ H0 ms1 O1 H1 → PostE K O ms σ H ms1 O1 H1 → RepAL K σ H (Own ms σ) O1 H1 (Own ms1 σ) vs as → End (g as ms1) Zok (ZE K XR W O0 ms0 σ H0) → C vs H1) : tAL K XR W f σ H C :=
  ⟨O, ms, P.rel, End.imp G.bind (fun r m h vs O' H' p q => k r m vs O' H' (P.trans rel p) p q h) (fun c x m h cls dx O' H' p q => h cls dx O' H' (P.trans rel p) q)⟩
theorem RepAL.get : ∀ {vs : List V} {as : List A}, RepAL K σ H0 B0 O H B vs as → ∀ (k : Nat) (v : V) (x : A), vs[k]? = some v → as[k]? = some x → RepA K σ H0 B0 O H B v x
  | _, _, .cons r _ t, 0, v, x, h1, h2 => by
    cases h1; cases h2; exact r
  | _, _, .cons r _ t, k + 1, v, x, h1, h2 => RepAL.get t k v x h1 h2
theorem RepAL.length : ∀ {vs : List V} {as : List A}, RepAL K σ H0 B0 O H B vs as → vs.length = as.length
  | _, _, .nil => rfl
  | _, _, .cons _ _ t => congrArg (· + 1) (RepAL.length t)
variable {X : Cx} {C : Calls} {e : Exp} {es : List Exp} {pos : Pos}
theorem f_nil : PA X [] (tF K XR W (M.ret [])) := by
  refine pa_nil.weak ?_
  rintro σ H Q ⟨O, ms, rel, G⟩
  exact G [] O H (.refl rel) .nil
theorem f_cons {f : M (D × Bool)} {g : M (List D)} (h : PE X e (tM K XR W f)) (t : PA X es (tF K XR W g)) (hs : starEach (e :: es) X.env = (false, eval e X.env) :: starEach es X.env) : PA X (e :: es) (tF K XR W (do
    let p ← f
    let ds ← g
    pure (p.1 :: ds))) := by
  refine (pa_cons h t hs).weak ?_
  rintro σ H Q ⟨O, ms, rel, G⟩
  -- the value is frozen before the rest is asked
  have G0 := G
  refine ⟨O, ms, rel, End.imp G.bind (fun r ms1 G1 v O1 H1 P1 R1 => ?_) (fun c x m h => h)⟩
  obtain ⟨d, b⟩ := r
  obtain ⟨O2, P2, R2⟩ := post_val rel P1 R1
  refine tF_in rel P2 G1 fun ds ms3 vs O3 H3 P3 S3 R3 G3 => ?_
  exact G3 (v :: vs) O3 H3 P3 (.cons (R2.keep S3.ext.keep) R3)
theorem al_nil : PA X [] (tAL K XR W (M.ret [])) := by
  refine pa_nil.weak ?_
  rintro σ H Q ⟨O, ms, rel, G⟩
  exact G [] O H (.refl rel) .nil
theorem al_cons {f : M A} {g : M (List A)} (h : PE X e (tA K XR W f)) (t : PA X es (tAL K XR W g)) (hs : starEach (e :: es) X.env = (false, eval e X.env) :: starEach es X.env) : PA X (e :: es) (tAL K XR W (do
    let a ← f
    let as ← g
    pure (a :: as))) := by
  refine (pa_cons h t hs).weak ?_
  rintro σ H Q ⟨O, ms, rel, G⟩
  refine tA_in rel (.refl rel) G fun x ms1 v O1 H1 P1 _ R1 G1 => ?_
  refine tAL_in rel P1 G1 fun as ms2 vs O2 H2 P2 S2 R2 G2 => ?_
  refine G2 (v :: vs) O2 H2 P2 (.cons (R1.keep S2 P1.rel) (fun a d hv hx k d' h1 h2 => ?_) (R2.base P1))
  subst hv hx
  obtain ⟨a', e1, ⟨ho, ws, es, _, hw, _⟩, nb, _⟩ : RepR K H (Own ms σ) O1 H1 (Own ms1 σ) (V.ref a) d true := R1
  cases e1
  obtain ⟨a', e1, _, _, og⟩ : RepR K H1 (Own ms1 σ) O2 H2 (Own ms2 σ) (V.ref a) d' true := R2.get k _ _ h1 h2
  cases e1
  rcases og with og | og
  · rw [hw] at og; cases og
  · exact nb og
/-! ### displays -/
theorem pe_tupX {x1} {t : TA} (h : PA X es t) : PE X (.Tuple es x1 pos) (fun σ H Q => t σ H fun xs H1 => xs.length ≤ sizeLine ∧ ∀ p o, H1 p = none → o.dict = none → Q (.ref p) (upd H1 p (.frz o (.tup xs)))) := by
  refine ⟨fun pins s σ H Q I hq => ?_⟩
  refine wpAny_Tuple_spliced (thn (h.run pos pins s σ H _ I hq) fun us s1 ⟨xs, H1, I1, r, z, q⟩ => ⟨by rw [← r.length]; exact z, ?_⟩)
  have hf : H1 s1.heap.objs.size = none := I1.hok.fresh (Nat.le_refl _)
  refine ⟨.ref s1.heap.objs.size, _, I1.laid (t' := s1.toks) (o := .frz { cls := .type "tuple", data := .seq us.toArray } (.tup xs)) (fun b u e => Heap.get?_push_of_some _ e) (Nat.le_refl _) ?_, rfl, q _ _ hf rfl⟩
  exact ⟨Heap.get?_push_size _ rfl, z, us, r, ⟨_, Heap.get?_push_size _ rfl, rfl, _, rfl⟩⟩
theorem c_tup {g : M (List D)} {k : Nat} (t : PA X es (tF X.K XR W g)) (hn : ∀ m ds m', g m = .ok ds m' → ds.length ≤ LINE) : PE X (.Tuple es k pos) (tM X.K XR W (do
    let ds ← g
    pure (.tup ds, false))) := by
  refine (pe_tupX t).weak ?_
  rintro σ H Q ⟨O, ms, rel, G⟩
  have ln : ∀ ds ms1, g ms = .ok ds ms1 → ds.length ≤ LINE := fun ds ms1 h => hn _ _ _ h
  refine ⟨O, ms, rel, ?_⟩
  have G1 := G.bind
  unfold End at G1 ⊢
  cases h : g ms with
  | ok ds ms1 =>
    rw [h] at G1
    intro vs O1 H1 P1 R1
    exact ⟨by rw [R1.length]; exact line_le (ln ds ms1 h), fun p o hp ho => fin_in rel P1 G1 _ _ (prm_tup (fun _ h => P1.rel.some_of h) hp ho R1)⟩
  | err c x m => rw [h] at G1; exact G1
  | bad => rw [h] at G1; exact G1
theorem c_lst {g : M (List D)} (t : PA X es (tF X.K XR W g)) (hn : ∀ m ds m', g m = .ok ds m' → ds.length ≤ LINE) : PE X (.List es pos) (tM X.K XR W (do
    let ds ← g
    pure (.lst ds, true))) := by
  refine (pe_lst t).weak ?_
  rintro σ H Q ⟨O, ms, rel, G⟩
  refine ⟨O, ms, rel, ?_⟩
  have G1 := G.bind
  unfold End at G1 ⊢
  cases h : g ms with
  | ok ds ms1 =>
    rw [h] at G1
    intro vs O1 H1 P1 R1
    exact ⟨by rw [R1.length]; exact line_le (hn _ ds ms1 h), fun p hp => fin_in rel P1 G1 _ _ (prm_lst hp R1)⟩
  | err c x m => rw [h] at G1; exact G1
  | bad => rw [h] at G1; exact G1
/-! ### built-ins by name -/
theorem rdAs_in {β : Type} {Zok : β → MS → Prop} {Zerr : Nat → D → MS → Prop} (rel : Rel K O ms σ H) : ∀ {as : List A} {vs : List V} {g : List D → M β}, RepAL K σ H0 B' O H B vs as → End ((rdAs as >>= g) ms) Zok Zerr →
    ∃ ds, RepBL K O H vs ds ∧ End (g ds ms) Zok Zerr
  | [], _, g, .nil, G => ⟨[], .nil, G⟩
  | x :: as, _, g, .cons r _ t, G => by
    have G : End ((rdA x >>= fun d => rdAs as >>= fun ds => (pure (d :: ds) : M (List D)) >>= g) ms) Zok Zerr := by
      have e : (rdAs (x :: as) >>= g) = (rdA x >>= fun d => rdAs as >>= fun ds => (pure (d :: ds) : M (List D)) >>= g) := by
        show ((rdA x >>= fun d => rdAs as >>= fun ds => (pure (d :: ds) : M (List D))) >>= g) = _
        simp only [bind_assoc']
      rw [e] at G
      exact G
    obtain ⟨d, rd, G1⟩ := rdA_in rel r G
    obtain ⟨ds, rs, G2⟩ := rdAs_in rel t G1
    exact ⟨d :: ds, .cons rd rs, G2⟩
theorem c_bi {b : Bi} {g : M (List A)} (h : ∀ (r : List V → Hp → VK → Prop) (t : TA), CallR X (biV b) r → PA X es t → PE X e (tCB r t)) (hc : X.calm = true) (t : PA X es (tAL X.K XR W g)) : PE X e (tM X.K XR W (do
    let as ← g
    let ds ← rdAs as
    liftO (bi1 b ds))) := by
  refine (h _ _ (bi1_ok hc b) t).weak ?_
  rintro σ H Q ⟨O, ms, rel, G⟩
  refine tAL_in rel (.refl rel) G fun as ms1 vs O1 H1 P1 _ R1 G1 => ?_
  obtain ⟨ds, rs, G2⟩ := rdAs_in P1.rel R1 G1
  obtain ⟨⟨d, own⟩, e, G3⟩ := liftO_out G2
  exact ⟨O1, ds, d, own, fun _ h => P1.rel.some_of h, rs, e, fin_in rel P1 G3⟩
end
end Mi

set_option Elab.async false
set_option linter.all false
set_option maxRecDepth 100000
set_option autoImplicit false
set_option maxHeartbeats 1000000
namespace Mi
open PySem PySem.Spec PyProof.Rows L2
/-- the lent lists behind a call -/
inductive OutsOk (K : PySem.W.Frag) (O : Addr → Prop) (H : Hp) : List (D × Fl) → List V → List (Option D) → Prop
  | nil : OutsOk K O H [] [] []
  | skip {d : D} {f : Fl} {v : V} {as : List (D × Fl)} {vs : List V} {os : List (Option D)} : f ≠ .bor → OutsOk K O H as vs os → OutsOk K O H ((d, f) :: as) (v :: vs) os
  | back {d d' : D} {a : Addr} {as : List (D × Fl)} {vs : List V} {os : List (Option D)} : RepO K O H a d' → OutsOk K O H as vs os → OutsOk K O H ((d, .bor) :: as) (.ref a :: vs) (some d' :: os)
  | gone {d : D} {v : V} {as : List (D × Fl)} {vs : List V} {os : List (Option D)} : OutsOk K O H as vs os → OutsOk K O H ((d, .bor) :: as) (v :: vs) (none :: os)
/-- the addresses of the lists that come back -/
inductive OutOwn : List (D × Fl) → List V → List (Option D) → Addr → Prop
  | skip {d : D} {f : Fl} {v : V} {as : List (D × Fl)} {vs : List V} {os : List (Option D)} {a : Addr} : f ≠ .bor → OutOwn as vs os a → OutOwn ((d, f) :: as) (v :: vs) os a
  | here {d d' : D} {a : Addr} {as : List (D × Fl)} {vs : List V} {os : List (Option D)} : OutOwn ((d, .bor) :: as) (.ref a :: vs) (some d' :: os) a
  | next {d : D} {v : V} {o : Option D} {as : List (D × Fl)} {vs : List V} {os : List (Option D)} {a : Addr} : OutOwn as vs os a → OutOwn ((d, .bor) :: as) (v :: vs) (o :: os) a
abbrev argM (as : List (D × Fl)) : MS := as.map some
abbrev argS (vs : List V) : St := vs.map some
structure CallPost (K : PySem.W.Frag) (O : Addr → Prop) (args : List (D × Fl)) (vs : List V) (H : Hp) (outs : List (Option D)) (O' : Addr → Prop) (H' : Hp) : Prop where
  ext : Ext O H (Own (argM args) (argS vs)) O' H'
  lists : ∀ a, O' a → ∃ ws, H' a = some (.lst ws)
  outs : OutsOk K O' H' args vs outs
/-- what a def promises: what the evaluator says -/
def spF (K : PySem.W.Frag) (XR : XRep) (C : Nat → List (D × Fl) → CR) (f : Nat) : Sp := fun vs H Q E => ∃ O args, Rel K O (argM args) (argS vs) H ∧ match C f args with
  | .ok d own outs => ∀ v O' H', CallPost K O args vs H outs O' H' → RepR K H (Own (argM args) (argS vs)) O' H' (OutOwn args vs outs) v d own → Q v H'
  | .err c x => ∀ cls dx O' H', Ext O H (Own (argM args) (argS vs)) O' H' → (∀ a, O' a → ∃ ws, H' a = some (.lst ws)) → XR c x cls dx O' H' → E cls dx H'
  | .bad => False
section
variable {K : PySem.W.Frag} {XR : XRep} {W : WX} {O O' O0 : Addr → Prop} {H H' H0 : Hp} {B B' B0 : Addr → Prop} {ms ms' ms0 : MS} {σ : St} {i : Nat} {d : D} {f : Fl}
theorem inArgs_cons {x : A} {as : List A} {args : List (D × Fl)} (e : inArgs ms (x :: as) = some args) : ∃ d f r, args = (d, f) :: r ∧ inArgs ms as = some r ∧
    ((∃ own, x = .val d own ∧ f = if own then .own else .frz) ∨ ∃ i, x = .lend i ∧ ((f = .frz ∧ ms[i]? = some (some (d, .frz))) ∨ (f = .bor ∧ ∃ g, g ≠ .frz ∧ ms[i]? = some (some (d, g))))) := by
  cases x with
  | val d own =>
    obtain ⟨r, e1, e2⟩ := map_some (o := inArgs ms as) e
    exact ⟨d, _, r, e2.symm, e1, .inl ⟨own, rfl, rfl⟩⟩
  | lend i =>
    have e : (match ms[i]? with
      | some (some (d, .frz)) => (inArgs ms as).map fun r => (d, Fl.frz) :: r
      | some (some (d, _)) => (inArgs ms as).map fun r => (d, Fl.bor) :: r
      | _ => none) = some args := e
    rcases slot_cases ms[i]? with ⟨d, h⟩ | ⟨d, g, hg, h⟩ | h | h
    · rw [h] at e
      obtain ⟨r, e1, e2⟩ := map_some (o := inArgs ms as) e
      exact ⟨d, _, r, e2.symm, e1, .inr ⟨i, rfl, .inl ⟨rfl, h⟩⟩⟩
    · rw [h] at e
      have e : ((inArgs ms as).map fun r => (d, Fl.bor) :: r) = some args := by
        cases g with
        | frz => exact absurd rfl hg
        | own => exact e
        | bor => exact e
      obtain ⟨r, e1, e2⟩ := map_some (o := inArgs ms as) e
      exact ⟨d, _, r, e2.symm, e1, .inr ⟨i, rfl, .inr ⟨rfl, g, hg, h⟩⟩⟩
    · rw [h] at e; cases e
    · rw [h] at e; cases e
/-- an own argument at a: out of a temporary list, or lent -/
theorem args_own (rel : Rel K O ms σ H) : ∀ {as : List A} {vs : List V} {args : List (D × Fl)}, RepAL K σ H0 B0 O H (Own ms σ) vs as → inArgs ms as = some args → ∀ (k : Nat) (d : D) (f : Fl) (a : Addr), args[k]? = some (d, f) → f ≠ .frz → vs[k]? = some (.ref a) →
    (∃ d, as[k]? = some (.val d true) ∧ ¬ Own ms σ a ∧ (H0 a = none ∨ B0 a)) ∨ ∃ i g, as[k]? = some (.lend i) ∧ f = .bor ∧ g ≠ .frz ∧ ms[i]? = some (some (d, g)) ∧ σ[i]? = some (some (.ref a))
  | [], _, _, .nil, e, k, d, f, a, h, _, _ => by
    cases e
    simp at h
  | x :: as, _, _, .cons r n t, e, k, d, f, a, h, hf, hv => by
    obtain ⟨d0, f0, args, rfl, e1, c⟩ := inArgs_cons e
    cases k with
    | zero =>
      cases h
      cases hv
      rcases c with ⟨own, rfl, ef⟩ | ⟨i, rfl, c⟩
      · cases own with
        | false => exact absurd ef hf
        | true =>
          obtain ⟨a', e2, _, nb, og⟩ : RepR K H0 B0 O H (Own ms σ) (V.ref a) d true := r
          cases e2
          exact .inl ⟨d, rfl, nb, og⟩
      · rcases c with ⟨ef, _⟩ | ⟨ef, g, hg, hm⟩
        · exact absurd ef hf
        · exact .inr ⟨i, g, rfl, ef, hg, hm, r⟩
    | succ k => exact args_own rel t e1 k d f a h hf hv
theorem noLend_get : ∀ {as : List A} {k i : Nat}, noLend i as = true → as[k]? = some (.lend i) → False
  | [], _, _, _, h => by simp at h
  | .val _ _ :: as, 0, i, n, h => by cases h
  | .lend j :: as, 0, i, n, h => by
    have n : (decide (i ≠ j) && noLend i as) = true := n
    cases h
    simp at n
  | .val _ _ :: as, k + 1, i, n, h => noLend_get (as := as) (k := k) n h
  | .lend j :: as, k + 1, i, n, h => by
    have n : (decide (i ≠ j) && noLend i as) = true := n
    rw [Bool.and_eq_true] at n
    exact noLend_get (as := as) (k := k) n.2 h
theorem lendOk_uniq : ∀ {as : List A} {k j i : Nat}, lendOk as = true → as[k]? = some (.lend i) → as[j]? = some (.lend i) → k = j
  | [], _, _, _, _, h, _ => by simp at h
  | x :: as, 0, 0, _, _, _, _ => rfl
  | x :: as, 0, j + 1, i, n, h, h' => by
    cases h
    have n : (noLend i as && lendOk as) = true := n
    rw [Bool.and_eq_true] at n
    exact (noLend_get n.1 h').elim
  | x :: as, k + 1, 0, i, n, h, h' => by
    cases h'
    have n : (noLend i as && lendOk as) = true := n
    rw [Bool.and_eq_true] at n
    exact (noLend_get n.1 h).elim
  | .val _ _ :: as, k + 1, j + 1, i, n, h, h' => congrArg (· + 1) (lendOk_uniq (as := as) n h h')
  | .lend l :: as, k + 1, j + 1, i, n, h, h' => by
    have n : (noLend l as && lendOk as) = true := n
    rw [Bool.and_eq_true] at n
    exact congrArg (· + 1) (lendOk_uniq (as := as) n.2 h h')
theorem RepAL.apart : ∀ {vs : List V} {as : List A}, RepAL K σ H0 B0 O H B vs as → ∀ (k j : Nat) (a : Addr) (d e : D), vs[k]? = some (.ref a) → vs[j]? = some (.ref a) → as[k]? = some (.val d true) → as[j]? = some (.val e true) → k = j
  | _, _, .nil, k, _, _, _, _, h, _, _, _ => by simp at h
  | _, _, .cons _ _ _, 0, 0, _, _, _, _, _, _, _ => rfl
  | _, _, .cons _ n _, 0, j + 1, a, d, e, h1, h2, h3, h4 => by
    cases h1
    cases h3
    exact (n a d rfl rfl j e h2 h4).elim
  | _, _, .cons _ n _, k + 1, 0, a, d, e, h1, h2, h3, h4 => by
    cases h2
    cases h4
    exact (n a e rfl rfl k d h1 h3).elim
  | _, _, .cons _ _ t, k + 1, j + 1, a, d, e, h1, h2, h3, h4 => congrArg (· + 1) (RepAL.apart t k j a d e h1 h2 h3 h4)
theorem args_slot (rel : Rel K O ms σ H) : ∀ {as : List A} {vs : List V} {args : List (D × Fl)}, RepAL K σ H0 B0 O H (Own ms σ) vs as → inArgs ms as = some args → ∀ (k : Nat) (d : D) (f : Fl), args[k]? = some (d, f) → ∃ v, vs[k]? = some v ∧ RepS K O H v d f
  | [], _, _, .nil, e, k, d, f, h => by
    cases e
    simp at h
  | x :: as, _, _, .cons (v := v) r n t, e, k, d, f, h => by
    obtain ⟨d0, f0, args, rfl, e1, c⟩ := inArgs_cons e
    cases k with
    | succ k => exact args_slot rel t e1 k d f h
    | zero =>
      cases h
      refine ⟨v, rfl, ?_⟩
      unfold RepS
      rcases c with ⟨own, rfl, ef⟩ | ⟨i, rfl, c⟩
      · have r : RepR K H0 B0 O H (Own ms σ) v d own := r
        cases own with
        | false =>
          have ef : f = .frz := ef
          rw [if_pos ef]; exact r
        | true =>
          have ef : f = .own := ef
          obtain ⟨a, e2, q, _⟩ := r
          rw [if_neg (by rw [ef]; decide)]
          exact ⟨a, e2, q⟩
      · have r : σ[i]? = some (some v) := r
        rcases c with ⟨ef, hm⟩ | ⟨ef, g, hg, hm⟩
        · obtain ⟨w, e2, q⟩ := rel.frz hm
          rw [r] at e2
          cases e2
          rw [if_pos ef]; exact q
        · obtain ⟨a, e2, q, _⟩ := rel.own hm hg
          rw [r] at e2
          cases e2
          rw [if_neg (by rw [ef]; decide)]
          exact ⟨a, rfl, q⟩
theorem argM_get {as : List (D × Fl)} {k : Nat} {p : D × Fl} (h : (argM as)[k]? = some (some p)) : as[k]? = some p := by
  rw [List.getElem?_map] at h
  obtain ⟨q, e1, e2⟩ := map_some h
  cases e2
  exact e1
theorem argS_get {vs : List V} {k : Nat} {v : V} (h : (argS vs)[k]? = some (some v)) : vs[k]? = some v := by
  rw [List.getElem?_map] at h
  obtain ⟨q, e1, e2⟩ := map_some h
  cases e2
  exact e1
theorem argS_of {vs : List V} {k : Nat} {v : V} (h : vs[k]? = some v) : (argS vs)[k]? = some (some v) := by
  rw [List.getElem?_map, h]; rfl
theorem inArgs_len : ∀ {as : List A} {args : List (D × Fl)}, inArgs ms as = some args → args.length = as.length
  | [], _, e => by cases e; rfl
  | x :: as, _, e => by
    obtain ⟨d0, f0, args, rfl, e1, c⟩ := inArgs_cons e
    exact congrArg (· + 1) (inArgs_len e1)
/-- the callee's slots -/
theorem call_args {as : List A} {vs : List V} {args : List (D × Fl)} (rel : Rel K O ms σ H) (r : RepAL K σ H0 B0 O H (Own ms σ) vs as) (e : inArgs ms as = some args) (nd : lendOk as = true) : Rel K O (argM args) (argS vs) H := by
  refine ⟨by rw [List.length_map, List.length_map, inArgs_len e, r.length], fun k d f h => ?_, fun k j d d' f g a hk hj hf hg sk sj => ?_, rel.lists⟩
  · obtain ⟨v, h1, h2⟩ := args_slot rel r e k d f (argM_get h)
    exact ⟨v, argS_of h1, h2⟩
  · have sk := argS_get sk
    have sj := argS_get sj
    have c1 := args_own rel r e k d f a (argM_get hk) hf sk
    have c2 := args_own rel r e j d' g a (argM_get hj) hg sj
    rcases c1 with ⟨d1, h1, nb, _⟩ | ⟨i, g1, h1, _, hg1, hm, hs⟩
    · rcases c2 with ⟨d2, h2, _, _⟩ | ⟨i2, g2, h2, _, hg2, hm2, hs2⟩
      · exact r.apart k j a d1 d2 sk sj h1 h2
      · exact (nb ⟨i2, d', g2, hg2, hm2, hs2⟩).elim
    · rcases c2 with ⟨d2, h2, nb, _⟩ | ⟨i2, g2, h2, _, hg2, hm2, hs2⟩
      · exact (nb ⟨i, d, g1, hg1, hm, hs⟩).elim
      · have ei := rel.apart i i2 d d' g1 g2 a hm hm2 hg1 hg2 hs hs2
        subst ei
        exact lendOk_uniq nd h1 h2
/-- the addresses that the callee may change -/
theorem call_own {as : List A} {vs : List V} {args : List (D × Fl)} (rel : Rel K O ms σ H) (r : RepAL K σ H0 B0 O H (Own ms σ) vs as) (e : inArgs ms as = some args) {a : Addr} (h : Own (argM args) (argS vs) a) :
    (¬ Own ms σ a ∧ (H0 a = none ∨ B0 a)) ∨ ∃ (i k : Nat) (d : D) (g : Fl), as[k]? = some (.lend i) ∧ g ≠ .frz ∧ ms[i]? = some (some (d, g)) ∧ σ[i]? = some (some (.ref a)) := by
  obtain ⟨k, d, f, hf, h1, h2⟩ := h
  rcases args_own rel r e k d f a (argM_get h1) hf (argS_get h2) with ⟨d1, _, nb, og⟩ | ⟨i, g, h3, _, hg, hm, hs⟩
  · exact .inl ⟨nb, og⟩
  · exact .inr ⟨i, k, d, g, h3, hg, hm, hs⟩
theorem poison_get : ∀ {is : List (Nat × Fl)} {m : MS} {j : Nat} {p : D × Fl}, (poison is m)[j]? = some (some p) → m[j]? = some (some p) ∧ ∀ q ∈ is, q.1 ≠ j
  | [], m, j, p, h => ⟨h, fun q hq => absurd hq (by simp)⟩
  | (i, f) :: is, m, j, p, h => by
    obtain ⟨h1, h2⟩ := poison_get (is := is) (m := m.set i none) h
    rcases set_get h1 with ⟨_, e, _⟩ | ⟨ne, h1⟩
    · cases e
    · refine ⟨h1, fun q hq => ?_⟩
      rcases List.mem_cons.mp hq with e | hq
      · rw [e]; exact fun z => ne z.symm
      · exact h2 q hq
theorem poison_len : ∀ {is : List (Nat × Fl)} {m : MS}, (poison is m).length = m.length
  | [], m => rfl
  | (i, f) :: is, m => by
    show (poison is (m.set i none)).length = _
    rw [poison_len, List.length_set]
theorem lends_mem : ∀ {as : List A} {q : Nat × Fl}, q ∈ lends ms as → ∃ (k : Nat) (d : D), as[k]? = some (A.lend q.1) ∧ q.2 ≠ .frz ∧ ms[q.1]? = some (some (d, q.2))
  | [], _, h => absurd h (by simp [lends])
  | .val _ _ :: as, q, h => by
    obtain ⟨k, d, h1, h2⟩ := lends_mem (as := as) h
    exact ⟨k + 1, d, h1, h2⟩
  | .lend i :: as, q, h => by
    have h : q ∈ (match ms[i]? with
      | some (some (_, .frz)) => lends ms as
      | some (some (_, f)) => (i, f) :: lends ms as
      | _ => lends ms as) := h
    have more : q ∈ lends ms as → ∃ (k : Nat) (d : D), (A.lend i :: as)[k]? = some (A.lend q.1) ∧ q.2 ≠ .frz ∧ ms[q.1]? = some (some (d, q.2)) := fun h => by
      obtain ⟨k, d, h1, h2⟩ := lends_mem (as := as) h
      exact ⟨k + 1, d, h1, h2⟩
    rcases slot_cases ms[i]? with ⟨d, hm⟩ | ⟨d, g, hg, hm⟩ | hm | hm
    · rw [hm] at h; exact more h
    · rw [hm] at h
      have h : q ∈ (i, g) :: lends ms as := by
        cases g with
        | frz => exact absurd rfl hg
        | own => exact h
        | bor => exact h
      rcases List.mem_cons.mp h with e | h
      · subst e
        exact ⟨0, d, rfl, hg, hm⟩
      · exact more h
    · rw [hm] at h; exact more h
    · rw [hm] at h; exact more h
theorem mem_lends {k : Nat} {d : D} {g : Fl} (hg : g ≠ .frz) (hm : ms[i]? = some (some (d, g))) : ∀ {as : List A} {k : Nat}, as[k]? = some (.lend i) → (i, g) ∈ lends ms as
  | [], _, h => by simp at h
  | .val _ _ :: as, 0, h => by cases h
  | .val _ _ :: as, k + 1, h => mem_lends (k := k) hg hm (as := as) h
  | .lend j :: as, 0, h => by
    cases h
    show (i, g) ∈ (match ms[i]? with
      | some (some (_, .frz)) => lends ms as
      | some (some (_, f)) => (i, f) :: lends ms as
      | _ => lends ms as)
    rw [hm]
    cases g with
    | frz => exact absurd rfl hg
    | own => exact List.mem_cons_self
    | bor => exact List.mem_cons_self
  | .lend j :: as, k + 1, h => by
    have q : (i, g) ∈ lends ms as := mem_lends (k := k) hg hm (as := as) h
    show (i, g) ∈ (match ms[j]? with
      | some (some (_, .frz)) => lends ms as
      | some (some (_, f)) => (j, f) :: lends ms as
      | _ => lends ms as)
    rcases slot_cases ms[j]? with ⟨d', hm'⟩ | ⟨d', g', hg', hm'⟩ | hm' | hm'
    · rw [hm']; exact q
    · rw [hm']
      cases g' with
      | frz => exact absurd rfl hg'
      | own => exact List.mem_cons_of_mem _ q
      | bor => exact List.mem_cons_of_mem _ q
    · rw [hm']; exact q
    · rw [hm']; exact q
/-- behind a call, the lent slots apart -/
theorem post_call {as : List A} {vs : List V} {args : List (D × Fl)} (rel0 : Rel K O0 ms0 σ H0) (P : PostE K O0 ms0 σ H0 ms O H) (r : RepAL K σ H0 (Own ms0 σ) O H (Own ms σ) vs as) (e : inArgs ms as = some args)
    (x : Ext O H (Own (argM args) (argS vs)) O' H') (hl : ∀ a, O' a → ∃ ws, H' a = some (.lst ws)) : PostE K O0 ms0 σ H0 (poison (lends ms as) ms) O' H' := by
  have rel := P.rel
  have nown : ∀ {j : Nat} {d : D} {g : Fl} {a : Addr}, (poison (lends ms as) ms)[j]? = some (some (d, g)) → g ≠ .frz → σ[j]? = some (some (.ref a)) → ¬ Own (argM args) (argS vs) a := fun {j d g a} hj hg hs ho => by
    obtain ⟨h1, h2⟩ := poison_get hj
    rcases call_own rel r e ho with ⟨nb, _⟩ | ⟨i, k, d', g', hk, hg', hm, hs'⟩
    · exact nb ⟨j, d, g, hg, h1, hs⟩
    · have ei := rel.apart i j d' d g' g a hm h1 hg' hg hs' hs
      subst ei
      exact h2 _ (mem_lends (k := k) hg' hm hk) rfl
  refine ⟨⟨by rw [poison_len]; exact rel.len, fun j d g hj => ?_, fun j k d d' f g a hj hk => ?_, hl⟩, ⟨P.ext.keep.trans x.keep, fun a ho nb => ?_, fun a h => x.grow a (P.ext.grow a h)⟩, fun a h => ?_, fun j d hj => ?_⟩
  · obtain ⟨h1, h2⟩ := poison_get hj
    obtain ⟨v, e1, q⟩ := rel.slot j d g h1
    refine ⟨v, e1, ?_⟩
    unfold RepS at q ⊢
    by_cases hg : g = .frz
    · rw [if_pos hg] at q ⊢
      exact q.keep x.keep
    · rw [if_neg hg] at q ⊢
      obtain ⟨a, rfl, ho, ws, es, e2, h3, q⟩ := q
      obtain ⟨h4, h5⟩ := x.held a ho (nown hj hg e1)
      exact ⟨a, rfl, h4, ws, es, e2, h5.trans h3, q.keep x.keep⟩
  · exact rel.apart j k d d' f g a (poison_get hj).1 (poison_get hk).1
  · obtain ⟨h1, h2⟩ := P.ext.held a ho nb
    have h3 : ¬ Own (argM args) (argS vs) a := fun z => by
      rcases call_own rel r e z with ⟨_, z | z⟩ | ⟨i, k, d, g, _, hg, hm, hs⟩
      · exact rel0.some_of ho z
      · exact nb z
      · rcases P.sub a ⟨i, d, g, hg, hm, hs⟩ with z | z
        · exact nb z
        · exact rel0.some_of ho z
    obtain ⟨h4, h5⟩ := x.held a h1 h3
    exact ⟨h4, h5.trans h2⟩
  · obtain ⟨j, d, g, hg, hj, hs⟩ := h
    exact P.sub a ⟨j, d, g, hg, (poison_get hj).1, hs⟩
  · exact P.bor j d (poison_get hj).1
/-- a lent slot gets its list back -/
theorem post_put {a : Addr} {d' : D} {ms1 : MS} (P : PostE K O0 ms0 σ H0 ms1 O H) (hs : σ[i]? = some (some (.ref a))) (q : RepO K O H a d') (nb : ¬ Own ms1 σ a) (ho : Own ms0 σ a ∨ H0 a = none) (hb : f = .bor → ∃ d0, ms0[i]? = some (some (d0, .bor))) (hf : f ≠ .frz) :
    PostE K O0 ms0 σ H0 (ms1.set i (some (d', f))) O H := by
  refine ⟨⟨by rw [List.length_set]; exact P.rel.len, fun j d g hj => ?_, fun j k d e g g' b hj hk hg hg' sj sk => ?_, P.rel.lists⟩, P.ext, fun x hx => ?_, fun j d hj => ?_⟩
  · rcases set_get hj with ⟨rfl, e1, _⟩ | ⟨ne, hj⟩
    · cases e1
      refine ⟨_, hs, ?_⟩
      unfold RepS
      rw [if_neg hf]
      exact ⟨a, rfl, q⟩
    · exact P.rel.slot j d g hj
  · rcases set_get hj with ⟨ej, e1, _⟩ | ⟨ne, hj2⟩
    · rcases set_get hk with ⟨ek, _, _⟩ | ⟨ne', hk2⟩
      · exact ej.trans ek.symm
      · rw [ej, hs] at sj
        cases sj
        exact (nb ⟨k, e, g', hg', hk2, sk⟩).elim
    · rcases set_get hk with ⟨ek, e1, _⟩ | ⟨ne', hk2⟩
      · rw [ek, hs] at sk
        cases sk
        exact (nb ⟨j, d, g, hg, hj2, sj⟩).elim
      · exact P.rel.apart j k d e g g' b hj2 hk2 hg hg' sj sk
  · obtain ⟨j, d, g, hg, hj, sj⟩ := hx
    rcases set_get hj with ⟨rfl, e1, _⟩ | ⟨ne, hj⟩
    · rw [hs] at sj
      cases sj
      exact ho
    · exact P.sub x ⟨j, d, g, hg, hj, sj⟩
  · rcases set_get hj with ⟨rfl, e1, _⟩ | ⟨ne, hj⟩
    · cases e1; exact hb rfl
    · exact P.bor j d hj
theorem poison_own {as : List A} {vs : List V} {args : List (D × Fl)} (rel : Rel K O ms σ H) (r : RepAL K σ H0 B0 O H (Own ms σ) vs as) (e : inArgs ms as = some args) {a : Addr} (h : Own (poison (lends ms as) ms) σ a) : ¬ Own (argM args) (argS vs) a ∧ Own ms σ a := by
  obtain ⟨j, d, g, hg, hj, hs⟩ := h
  obtain ⟨h1, h2⟩ := poison_get hj
  refine ⟨fun ho => ?_, j, d, g, hg, h1, hs⟩
  rcases call_own rel r e ho with ⟨nb, _⟩ | ⟨i, k, d', g', hk, hg', hm, hs'⟩
  · exact nb ⟨j, d, g, hg, h1, hs⟩
  · have ei := rel.apart i j d' d g' g a hm h1 hg' hg hs' hs
    subst ei
    exact h2 _ (mem_lends (k := k) hg' hm hk) rfl
theorem own_set {m1 : MS} {d' : D} {a x : Addr} (hs : σ[i]? = some (some (.ref a))) (h : Own (m1.set i (some (d', f))) σ x) : Own m1 σ x ∨ x = a := by
  obtain ⟨j, d, g, hg, hj, sj⟩ := h
  rcases set_get hj with ⟨rfl, e1, _⟩ | ⟨ne, hj⟩
  · rw [hs] at sj
    cases sj
    exact .inr rfl
  · exact .inl ⟨j, d, g, hg, hj, sj⟩
theorem outs_cons_bor {d : D} {v : V} {args : List (D × Fl)} {vs : List V} {outs : List (Option D)} (h : OutsOk K O H ((d, .bor) :: args) (v :: vs) outs) :
    (∃ a d' os, v = .ref a ∧ outs = some d' :: os ∧ RepO K O H a d' ∧ OutsOk K O H args vs os) ∨ ∃ os, outs = none :: os ∧ OutsOk K O H args vs os := by
  cases h with
  | skip n _ => exact absurd rfl n
  | back q t => exact .inl ⟨_, _, _, rfl, rfl, q, t⟩
  | gone t => exact .inr ⟨_, rfl, t⟩
theorem post_back (rel : Rel K O ms σ H) (P0 : PostE K O0 ms0 σ H0 ms O H) : ∀ {as : List A} {vs : List V} {args : List (D × Fl)} {outs : List (Option D)} {m1 m2 : MS}, RepAL K σ H0 B0 O H (Own ms σ) vs as → inArgs ms as = some args → lendOk as = true → OutsOk K O' H' args vs outs →
    PostE K O0 ms0 σ H0 m1 O' H' → (∀ (k i : Nat) (d : D) (g : Fl) (a : Addr), as[k]? = some (.lend i) → g ≠ .frz → ms[i]? = some (some (d, g)) → σ[i]? = some (some (.ref a)) → ¬ Own m1 σ a) → putBack (lends ms as) outs m1 = some m2 →
    PostE K O0 ms0 σ H0 m2 O' H' ∧ ∀ x, Own m2 σ x → Own m1 σ x ∨ OutOwn args vs outs x
  | [], _, _, outs, m1, m2, .nil, e, _, ho, P, _, hp => by
    cases e
    cases ho
    cases hp
    exact ⟨P, fun x h => .inl h⟩
  | x :: as, _, _, outs, m1, m2, .cons (v := v) r n t, e, nd, ho, P, hno, hp => by
    obtain ⟨d0, f0, args, rfl, e1, c⟩ := inArgs_cons e
    rcases c with ⟨own, rfl, ef⟩ | ⟨i, rfl, c⟩
    · have nf : f0 ≠ .bor := by rw [ef]; cases own <;> decide
      cases ho with
      | skip _ ho =>
        obtain ⟨p, q⟩ := post_back rel P0 t e1 nd ho P (fun k i d g a hk => hno (k + 1) i d g a hk) hp
        exact ⟨p, fun x h => (q x h).imp id fun z => .skip nf z⟩
      | back _ _ => exact absurd rfl nf
      | gone _ => exact absurd rfl nf
    · have nd : (noLend i as && lendOk as) = true := nd
      rw [Bool.and_eq_true] at nd
      rcases c with ⟨ef, hm⟩ | ⟨ef, g, hg, hm⟩
      · subst ef
        have hl : lends ms (.lend i :: as) = lends ms as := by
          show (match ms[i]? with
            | some (some (_, .frz)) => lends ms as
            | some (some (_, f)) => (i, f) :: lends ms as
            | _ => lends ms as) = _
          rw [hm]
        rw [hl] at hp
        cases ho with
        | skip nf ho =>
          obtain ⟨p, q⟩ := post_back rel P0 t e1 nd.2 ho P (fun k i d g a hk => hno (k + 1) i d g a hk) hp
          exact ⟨p, fun x h => (q x h).imp id fun z => .skip nf z⟩
      · subst ef
        have hl : lends ms (.lend i :: as) = (i, g) :: lends ms as := by
          show (match ms[i]? with
            | some (some (_, .frz)) => lends ms as
            | some (some (_, f)) => (i, f) :: lends ms as
            | _ => lends ms as) = _
          rw [hm]
          cases g with
          | frz => exact absurd rfl hg
          | own => rfl
          | bor => rfl
        rw [hl] at hp
        have hs : σ[i]? = some (some v) := r
        rcases outs_cons_bor ho with ⟨a, d', os, rfl, rfl, q, ho2⟩ | ⟨os, rfl, ho2⟩
        · have hp : putBack (lends ms as) os (m1.set i (some (d', g))) = some m2 := hp
          have oa : Own ms σ a := ⟨i, d0, g, hg, hm, hs⟩
          have P1 : PostE K O0 ms0 σ H0 (m1.set i (some (d', g))) O' H' := post_put P hs q (hno 0 i d0 g a rfl hg hm hs) (P0.sub a oa) (fun eg => by subst eg; exact P0.bor i d0 hm) hg
          obtain ⟨p, q2⟩ := post_back rel P0 t e1 nd.2 ho2 P1 (fun k i2 d2 g2 a2 hk hg2 hm2 hs2 z => by
            rcases own_set hs z with z | z
            · exact hno (k + 1) i2 d2 g2 a2 hk hg2 hm2 hs2 z
            · subst z
              have ei := rel.apart i2 i d2 d0 g2 g a2 hm2 hm hg2 hg hs2 hs
              subst ei
              exact noLend_get nd.1 hk) hp
          refine ⟨p, fun x h => ?_⟩
          rcases q2 x h with z | z
          · rcases own_set hs z with z | z
            · exact .inl z
            · subst z; exact .inr .here
          · exact .inr (.next z)
        · have hp : putBack (lends ms as) os m1 = some m2 := hp
          obtain ⟨p, q2⟩ := post_back rel P0 t e1 nd.2 ho2 P (fun k i d g a hk => hno (k + 1) i d g a hk) hp
          exact ⟨p, fun x h => (q2 x h).imp id fun z => .next z⟩
variable {X : Cx} {C : Calls} {e : Exp} {es : List Exp} {pos p : Pos}
theorem callM_run {fn : Nat} {as : List A} : callM C fn as ms = match inArgs ms as with
  | none => .bad
  | some args => if lendOk as then match C.call fn args with
      | .ok d own outs => match putBack (lends ms as) outs (poison (lends ms as) ms) with
        | some m' => .ok (d, own) m'
        | none => .bad
      | .err c v => .err c v (poison (lends ms as) ms)
      | .bad => .bad
    else .bad := rfl
/-- the callee runs, with its arguments -/
theorem call_in {fn : Nat} {as : List A} {vs : List V} {Q : VK} (rel0 : Rel K O0 ms0 σ H0) (P : PostE K O0 ms0 σ H0 ms O H) (r : RepAL K σ H0 (Own ms0 σ) O H (Own ms σ) vs as) (G : End (callM C fn as ms) (ZM K O0 ms0 σ H0 Q) (ZE K XR W O0 ms0 σ H0)) :
    spF K XR C.call fn vs H Q (fun cls d H' => W cls d σ H') := by
  rw [callM_run] at G
  cases e : inArgs ms as with
  | none => rw [e] at G; exact G.elim
  | some args =>
    rw [e] at G
    have G : End (if lendOk as then match C.call fn args with
      | .ok d own outs => match putBack (lends ms as) outs (poison (lends ms as) ms) with
        | some m' => R.ok (d, own) m'
        | none => .bad
      | .err c v => .err c v (poison (lends ms as) ms)
      | .bad => .bad
      else .bad) (ZM K O0 ms0 σ H0 Q) (ZE K XR W O0 ms0 σ H0) := G
    by_cases nd : lendOk as = true
    · rw [if_pos nd] at G
      refine ⟨O, args, call_args P.rel r e nd, ?_⟩
      cases c : C.call fn args with
      | bad => rw [c] at G; exact G.elim
      | err k x =>
        rw [c] at G
        intro cls dx O' H' ex hl xr
        exact G cls dx O' H' (post_call rel0 P r e ex hl) xr
      | ok d own outs =>
        rw [c] at G
        intro v O' H' cp rr
        have G : End (match putBack (lends ms as) outs (poison (lends ms as) ms) with
          | some m' => R.ok (d, own) m'
          | none => .bad) (ZM K O0 ms0 σ H0 Q) (ZE K XR W O0 ms0 σ H0) := G
        cases hp : putBack (lends ms as) outs (poison (lends ms as) ms) with
        | none => rw [hp] at G; exact G.elim
        | some m' =>
          rw [hp] at G
          have P1 := post_call rel0 P r e cp.ext cp.lists
          obtain ⟨P2, q2⟩ := post_back P.rel P r e nd cp.outs P1 (fun k i d g a hk hg hm hs z => by
            have z1 := (poison_own P.rel r e z)
            obtain ⟨j, d', g', hg', hj, hs'⟩ := z
            obtain ⟨h1, h2⟩ := poison_get hj
            have ei := P.rel.apart i j d d' g g' a hm h1 hg hg' hs hs'
            subst ei
            exact h2 _ (mem_lends (k := k) hg hm hk) rfl) hp
          refine G v O' H' P2 ?_
          show RepR K H0 (Own ms0 σ) O' H' (Own m' σ) v d own
          unfold RepR at rr ⊢
          cases own with
          | false => exact rr
          | true =>
            obtain ⟨a, ev, q, nb, og⟩ := rr
            refine ⟨a, ev, q, fun z => ?_, ?_⟩
            · rcases q2 a z with z | z
              · obtain ⟨z1, z2⟩ := poison_own P.rel r e z
                rcases og with og | og
                · exact P.rel.some_of (P.rel.own_O z2) og
                · exact z1 og
              · exact nb z
            · rcases og with og | og
              · refine .inl ?_
                cases h : H0 a with
                | none => rfl
                | some o => exact absurd og (P.ext.grow a (by rw [h]; exact fun z => nomatch z))
              · rcases call_own P.rel r e og with ⟨_, z⟩ | ⟨i, k, d', g, _, hg, hm, hs⟩
                · exact z
                · exact (P.sub a ⟨i, d', g, hg, hm, hs⟩).symm
    · rw [if_neg nd] at G; exact G.elim
/-- f(e, ..) -/
theorem c_call {k : Nat} {fa : Addr} {fd : FuncData} {ps : List Str} {fn : Nat} {x : Str} {g : M (List A)} (F : FnOk X.prog X.w X.K X.mg X.base (L2.CX X.prog X.w) k fa fd ps (spF X.K XR C.call fn)) (hr : Room k X.A) (hg : Gl X x) (hm : X.mg x = some (.ref fa)) (hk : PySem.W.keepIn X.K (.ref fa) = true) (hb : Binds X.K fd ps [])
    (tk : Takes X W) (ha : PA X (e :: es) (tAL X.K XR W g)) (hdb : (x == ("__debug__" : Str)) = false) (he : starEach (e :: es) X.env = (false, eval e X.env) :: starEach es X.env) (hpl : (backTo pos (starEach es X.env)).any (·.1) = false) :
    PE X (.Call (.Name x p) (e :: es) [] pos) (tM X.K XR W (do
    let as ← g
    callM C fn as)) := by
  refine (pe_callS F hr hg hm hk hb (fun σ => passAt tk σ) ha hdb he hpl).weak ?_
  rintro σ H Q ⟨O, ms, rel, G⟩
  exact tAL_in rel (.refl rel) G fun as ms1 vs O1 H1 P1 _ R1 G1 => call_in rel P1 R1 G1
end
end Mi

set_option Elab.async false
set_option linter.all false
set_option maxRecDepth 100000
set_option autoImplicit false
set_option maxHeartbeats 1000000
namespace Mi
open PySem PySem.Spec PyProof.Rows L2
/-! ### enumerate of a tuple -/
section
variable {prog : Program} {w : World} {A : Around} {E : Value → Shared → Prop} {s : Shared}
theorem meets_enum1 {v : Value} {o : Obj} {Hh : Heap → Prop} (Bg : Begins v o Hh) :
    Meets (Builtin.«enumerate.__new__» ⟨[.type "enumerate", v], []⟩) (fun _ R s => Hh s.heap ∧
      R (.ok (.ret (.ref (s.heap.push o).objs.size))) { s with heap := (s.heap.push o).push { cls := .type "enumerate", data := .fields #[.none, .bool false, .ref s.heap.objs.size, rawInt 0, .none, .none] } }) :=
  .of_wp fun prog w A R s h => by
    obtain ⟨hp, g, d, tk, os⟩ := s
    obtain ⟨h1, h⟩ := h
    have hs := sub_enumerate
    have q1 : ∀ {A' : Around} {E : Value → Shared → Prop} {Q : Value → Shared → Prop}, Q (.ref hp.objs.size) ⟨hp.push o, g, d, tk, os⟩ → wpAny (model prog w) A' (pyIter v) Q E ⟨hp, g, d, tk, os⟩ :=
      fun q => Bg.iter prog w _ _ _ _ h1 q
    wp_walk using q1
    refine wpAny_stack_any fun st => wpAny_pure ?_
    split
    · rename_i c _ _ _ _ _
      cases (c == Value.type "enumerate")
      · wp_walk using q1
        exact ⟨_, rfl, h⟩
      · wp_walk using q1
        exact ⟨_, rfl, h⟩
    · wp_walk using q1
      exact ⟨_, rfl, h⟩
theorem enum_tup {l : Addr} {items : Array Value} {Q : Value → Shared → Prop} (hL : s.heap.IsTuple l items)
    (h : ∀ h', IsEnum h' (s.heap.objs.size + 1) s.heap.objs.size 0 .none → h'.IsTupleIter s.heap.objs.size l 0 → h'.objs.size = s.heap.objs.size + 2 →
      (∀ b o, s.heap.get? b = some o → h'.get? b = some o) → Q (.ref (s.heap.objs.size + 1)) { s with heap := h' }) :
    wpAny (model prog w) A (call (.type "enumerate") [.ref l]) Q E s := by
  have Bg := begins_tuple l items
  refine callType_new F.called_enumerate (by decide) (F.typeCall_enumerate_1 _) (F.newCall_enumerate_1 _) (fun obj => F.args_object_init_2 obj _) F.entry_enumerate_new (meets_enum1 Bg) ⟨hL, ?_⟩
  generalize ho : ({ cls := .type "tuple_iterator", data := .fields #[.ref l, .int 0 0] } : Obj) = o
  have hf : o.isFreed = false := by rw [← ho]; rfl
  have z1 : (s.heap.push o).objs.size = s.heap.objs.size + 1 := Heap.size_push ..
  show _ ∧ _
  rw [z1]
  have he : IsEnum ((s.heap.push o).push { cls := .type "enumerate", data := .fields #[.none, .bool false, .ref s.heap.objs.size, rawInt 0, .none, .none] }) (s.heap.objs.size + 1) s.heap.objs.size 0 .none := by
    have q := Heap.get?_push_size (s.heap.push o) (o := { cls := .type "enumerate", data := .fields #[.none, .bool false, .ref s.heap.objs.size, rawInt 0, .none, .none] }) rfl
    rw [z1] at q
    exact q
  refine ⟨⟨_, he, rfl⟩, h _ he ⟨o, Heap.get?_push_of_some _ (Heap.get?_push_size _ hf), by rw [← ho], by rw [← ho]; rfl⟩ (by rw [Heap.size_push, z1]) fun b u q => Heap.get?_push_of_some _ (Heap.get?_push_of_some _ q)⟩
end
/-- the tuple at a, each item in a new pair -/
def IteT (K : PySem.W.Frag) (a : Addr) : It :=
  ⟨fun i H => ∃ (xs : List V) (x : V), SqT K H a xs ∧ xs[i]? = some x, fun i H v H' => ∃ t x, v = .ref t ∧ H t = none ∧ H' = upd H t (.tup [.int (i : Nat), x]) ∧ ∀ xs, SqT K H a xs → xs[i]? = some x, fun i H => ∃ xs : List V, SqT K H a xs ∧ xs.length ≤ i⟩
theorem turn_enumT {P : Program} {w : World} {K : PySem.W.Frag} {elts : List Exp} {kk : Nat} {tpos : Pos} (a e it : Addr) (hai : a ≠ it) :
    Turn P w K (.Tuple elts kk tpos) (IteT K a) [e, it] e (fun i h => (∃ old, IsEnum h e it ((i : Nat) : Int) old) ∧ h.IsTupleIter it a i ∧ e ≠ it ∧ e ≠ a) where
  mem := by simp
  obj := fun i h st b hb => by
    obtain ⟨⟨old, he⟩, ⟨o, ho, hc, hd⟩, _⟩ := st
    rcases (show b = e ∨ b = it by simpa using hb) with z | z
    · subst z
      exact ⟨_, he, fun v q => nomatch q⟩
    · subst z
      exact ⟨o, ho, fun v q => by rw [hd] at q; cases q⟩
  keep := fun i h h' st k => ⟨st.1.imp fun _ he => k e (by simp) _ he, st.2.1.at fun o q => k it (by simp) o q, st.2.2⟩
  item := by
    intro X hP hw hK hc i pins s σ H E I hf st hg
    subst hP hw hK
    obtain ⟨⟨old, he⟩, hit, hne, hea⟩ := st
    obtain ⟨xs, x, hq, hx⟩ := hg
    obtain ⟨its, rv, p, hz⟩ := I.tuple hq
    have hlt : i < its.toArray.size := by
      rw [List.size_toArray, ← rv.length]
      exact (List.getElem?_eq_some_iff.mp hx).1
    have hel : e < s.heap.objs.size := Heap.lt_size he
    have hil : it < s.heap.objs.size := by obtain ⟨_, q, _⟩ := hit; exact Heap.lt_size q
    refine wpAny_pyNext_enum_itemD (Draws.tuple (A := X.A.in1) (show X.A.in1.handled = none from I.ok.hd hc) it a hai its.toArray) he ⟨hit, p⟩ hlt hne (fun z => (show e = it ∨ e = a by simpa using z).elim hne hea) fun u h' tk hu ho st' hT hsz hk => ?_
    obtain ⟨u', hu', ru⟩ := rv.get hx
    have eu : u = u' := by
      have : its[i]? = some u := by simpa using hu
      rw [hu'] at this
      exact (Option.some.inj this).symm
    subst eu
    refine ⟨_, rfl, wpAny_letOwnedTupleGo_enum (s := { s with heap := h', toks := tk + 1 }) ho fun h'' he' sb => ?_⟩
    have hT2 : h''.get? s.heap.objs.size = some { cls := .type "tuple", data := .seq #[.int i tk, u] } := (sb.2 _ (Nat.ne_of_gt hel)).trans hT
    have new : ObjOk X.prog X.w (upd H s.heap.objs.size (.tup [.int (i : Nat), x])) h'' s.heap.objs.size (.tup [.int (i : Nat), x]) :=
      ⟨(by decide : (2 : Nat) ≤ 16777216) |> fun z => by rw [sizeLine_eq]; exact z, [.int i tk, u], .cons ⟨_, rfl⟩ (.cons ru .nil), ⟨_, hT2, rfl, _, rfl⟩⟩
    have kk2 : ∀ b ob, b ∉ [e, it] → s.heap.get? b = some ob → h''.get? b = some ob := fun b ob hb q => by
      have n1 : b ≠ e := fun z => hb (by rw [z]; simp)
      have n2 : b ≠ it := fun z => hb (by rw [z]; simp)
      exact (sb.2 b n1).trans (hk b ob n1 n2 q)
    have I1 : Inv X pins σ (upd H s.heap.objs.size (.tup [.int (i : Nat), x])) { s with heap := h'', toks := tk + 1 } := I.turnedNew (ch := [e, it]) kk2 hf (Nat.le_refl _) new
    refine ⟨.ref s.heap.objs.size, _, I1, rfl, ⟨_, x, rfl, I.hok.fresh (Nat.le_refl _), rfl, fun ys hy => by rw [I.tuple_inj hy hq]; exact hx⟩, ⟨⟨u, ?_⟩, st'.1.at fun o q => (sb.2 it (Ne.symm hne)).trans q, hne, hea⟩, fun b hb => ?_⟩
    · rw [show ((i + 1 : Nat) : Int) = (i : Int) + 1 by omega]; exact he'
    · have hb' : b < s.heap.objs.size := by
        rcases (show b = e ∨ b = it by simpa using hb) with z | z
        · rw [z]; exact hel
        · rw [z]; exact hil
      rw [upd_ne (Nat.ne_of_lt hb')]
      exact (hf b hb).1
  done := by
    intro X hP hw hK hc i pins s σ H E I hf st hg
    subst hP hw hK
    obtain ⟨⟨old, he⟩, hit, hne, hea⟩ := st
    obtain ⟨xs, hq, hx⟩ := hg
    obtain ⟨its, rv, p, hz⟩ := I.tuple hq
    obtain ⟨f0, f1, f2, f3, f4, f5⟩ := hf it (by simp)
    have hle : its.toArray.size ≤ i := by rw [List.size_toArray, ← rv.length]; exact hx
    have hh : X.A.in1.handled = none := I.ok.hd hc
    have D0 : Draws X.prog X.w X.A.in1 it [it, a] i (fun j v => its.toArray[j]? = some v ∧ j < its.toArray.size) (fun j h => (j = i ∧ h.IsTupleIter it a j ∧ h.IsTuple a its.toArray)) :=
      { live := fun _ _ st => let ⟨o, ho, _⟩ := st.2.1; ⟨o, ho⟩
        frame := fun _ _ _ st hk => ⟨st.1, st.2.1.at fun o e => hk it (by simp) o e, st.2.2.at fun o e => hk a (by simp) o e⟩
        item := fun j s Q E hi st hQ => absurd st.1 (by omega)
        done := fun s Q E st hE => wpAny_nextOf_tuple_end hh st.2.1 st.2.2 (by simp; simpa using hle) hE }
    exact wpAny_pyNext_enum_endD D0 he ⟨rfl, hit, p⟩ fun h' eb => ⟨rfl, I.turned (t' := s.toks) (fun b o hb q => eb b o hb q) f0 f1 f3 f4 f5⟩
  self := fun A i s Q E st h => let ⟨⟨_, he⟩, _⟩ := st; wpAny_pyIter_enum he h
def iEnumT (K : PySem.W.Frag) (ta : TA) : TI := fun σ H R => ta σ H fun vs H1 => ∃ a xs, vs = [.ref a] ∧ SqT K H1 a xs ∧ R (IteT K a) H1
theorem pi_enumT {X : Cx} {e : Exp} {ta : TA} {p pos tpos : Pos} {elts : List Exp} {kk : Nat} (hg : Gl X "enumerate") (hm : X.mg "enumerate" = none) (ha : PA X [e] ta) (hs : starEach [e] X.env = [(false, eval e X.env)]) :
    PI X (.Tuple elts kk tpos) (.Call (.Name "enumerate" p) [e] [] pos) (iEnumT X.K ta) := by
  refine ⟨fun pins s σ H R I h => ?_⟩
  refine Call_ (ld_blt I hg hm boot_enumerate (PyProof.Rows.callWith_type1 (thn (ha.run pos pins s σ H _ I h) fun us s1 ⟨vs, H1, I1, r1, q1⟩ => ?_) hs rfl))
  obtain ⟨a, xs, ex, hq, q⟩ := q1
  subst ex
  rw [Vals.ref1 r1]
  obtain ⟨its, rv, p', hz⟩ := I1.tuple hq
  have hal : a < s1.heap.objs.size := by obtain ⟨o, ho, _⟩ := id p'; exact Heap.lt_size ho
  refine enum_tup (show s1.heap.IsTuple a its.toArray from p') fun h' he hit hsz hk => wpAny_pyIter_enum he ?_
  have I2 : Inv X pins σ H1 { s1 with heap := h' } := I1.kept (t' := s1.toks) hk
  refine ⟨s1.heap.objs.size + 1, [s1.heap.objs.size + 1, s1.heap.objs.size], _, _, H1, rfl, I2, turn_enumT a (s1.heap.objs.size + 1) s1.heap.objs.size (Nat.ne_of_lt hal), ⟨⟨.none, he⟩, hit, Nat.succ_ne_self _, Nat.ne_of_gt (Nat.lt_succ_of_lt hal)⟩, fun b hb => ?_, q⟩
  have hle : s1.heap.objs.size ≤ b := by
    rcases (show b = s1.heap.objs.size + 1 ∨ b = s1.heap.objs.size by simpa using hb) with z | z
    · rw [z]; exact Nat.le_add_right _ _
    · rw [z]; exact Nat.le_refl _
  exact I1.fpOk hle (I1.hok.fresh hle)
end Mi

set_option Elab.async false
set_option linter.all false
set_option maxRecDepth 100000
set_option autoImplicit false
set_option maxHeartbeats 1000000
namespace Mi
open PySem PySem.Spec PyProof.Rows L2
/-! ### what is walked -/
def ItD (K : PySem.W.Frag) (ds : List D) (J : It) (O : Addr → Prop) (H : Hp) : Prop := ∃ S : (Addr → Prop) → Hp → Prop, S O H ∧ (∀ O H O' H', S O H → Keeps O H O' H' → S O' H') ∧
  ∀ O H, (∀ a, O a → H a ≠ none) → S O H → ∀ i : Nat, (∀ d, ds[i]? = some d → J.go i H ∧ ∀ x H', J.yld i H x H' → (∀ a o, H a = some o → H' a = some o) ∧ Rep K O H' x d) ∧ (ds.length ≤ i → J.stop i H)
section
variable {K : PySem.W.Frag} {XR : XRep} {W : WX} {O O' O0 : Addr → Prop} {H H' H0 : Hp} {B B' : Addr → Prop} {ms ms' ms0 : MS} {σ : St} {i : Nat} {d : D} {f : Fl}
def ZI (K : PySem.W.Frag) (O : Addr → Prop) (ms : MS) (σ : St) (H : Hp) (R : It → Hp → Prop) : List D → MS → Prop := fun ds ms' => ∀ J O' H', PostE K O ms σ H ms' O' H' → ItD K ds J O' H' → R J H'
def tI (K : PySem.W.Frag) (XR : XRep) (W : WX) (f : M (List D)) : TI := fun σ H R => ∃ O ms, Rel K O ms σ H ∧ End (f ms) (ZI K O ms σ H R) (ZE K XR W O ms σ H)
theorem _root_.L2.PI.weak {X : Cx} {tg e : Exp} {t t' : TI} (h : PI X tg e t) (w : ∀ σ H R, t' σ H R → t σ H R) : PI X tg e t' := ⟨fun pins s σ H R I hw => h.run pins s σ H R I (w σ H R hw)⟩
theorem it_lst {a : Addr} {ds : List D} {v : V} (r : Rep K O H (.ref a) (.lst ds)) : (∃ xs, SqL K H a xs) ∧ ItD K ds (Itl K a) O H := by
  cases r with
  | lst n h q =>
    refine ⟨⟨_, .of h⟩, fun O H => Rep K O H (.ref a) (.lst ds), .lst n h q, fun O H O' H' r k => r.keep k, fun O H hl r i => ?_⟩
    cases r with
    | lst n h q =>
      refine ⟨fun d hd => ?_, fun hi => ⟨_, .of h, by rw [q.length]; exact hi⟩⟩
      obtain ⟨x, hx, rx⟩ := q.get hd
      refine ⟨⟨_, x, .of h, hx⟩, fun y H' hy => ?_⟩
      obtain ⟨e, hy⟩ := hy
      subst e
      have e := hy _ (.of h)
      rw [hx] at e
      cases e
      exact ⟨fun _ _ h => h, rx⟩
theorem it_scr {a : Addr} {ns : List Int} (r : Rep K O H (.ref a) (.scr ns)) : (∃ xs, SqL K H a xs) ∧ ItD K (ns.map D.int) (Itl K a) O H := by
  obtain ⟨a', e, h⟩ := RepB.scr (.inl r)
  cases e
  refine ⟨⟨_, h⟩, fun O H => Rep K O H (.ref a) (.scr ns), r, fun O H O' H' r k => r.keep k, fun O H hl r i => ?_⟩
  obtain ⟨a', e, h⟩ := RepB.scr (.inl r)
  cases e
  have q : RepL K O H (ns.map V.int) (ns.map D.int) := .ints
  refine ⟨fun d hd => ?_, fun hi => ⟨_, h, by rw [q.length]; exact hi⟩⟩
  obtain ⟨x, hx, rx⟩ := q.get hd
  refine ⟨⟨_, x, h, hx⟩, fun y H' hy => ?_⟩
  obtain ⟨e, hy⟩ := hy
  subst e
  have e := hy _ h
  rw [hx] at e
  cases e
  exact ⟨fun _ _ h => h, rx⟩
theorem it_tup {a : Addr} {ds : List D} (r : Rep K O H (.ref a) (.tup ds)) : (∃ xs, SqT K H a xs) ∧ ItD K ds (Itt K a) O H := by
  obtain ⟨a', vs, e, h, q⟩ := RepB.tup (.inl r)
  cases e
  refine ⟨⟨_, h⟩, fun O H => Rep K O H (.ref a) (.tup ds), r, fun O H O' H' r k => r.keep k, fun O H hl r i => ?_⟩
  obtain ⟨a', vs, e, h, q⟩ := RepB.tup (.inl r)
  cases e
  refine ⟨fun d hd => ?_, fun hi => ⟨_, h, by rw [q.length]; exact hi⟩⟩
  obtain ⟨x, hx, rx⟩ := q.get hd
  refine ⟨⟨_, x, h, hx⟩, fun y H' hy => ?_⟩
  obtain ⟨e, hy⟩ := hy
  subst e
  have e := hy _ h
  rw [hx] at e
  cases e
  exact ⟨fun _ _ h => h, rx⟩
theorem tup_new {T : Addr} {vs : List V} {ds : List D} (hl : ∀ a, O a → H a ≠ none) (hT : H T = none) (r : RepL K O H vs ds) : (∀ a o, H a = some o → upd H T (.tup vs) a = some o) ∧ Rep K O (upd H T (.tup vs)) (.ref T) (.tupn ds) :=
  ⟨upd_more hT, .tupn (fun z => hl T z hT) upd_same (r.keep fun a o n h => ⟨n, upd_more hT a o h⟩)⟩
theorem enumD_get : ∀ {ds : List D} {k i : Nat} {d : D}, (enumD k ds)[i]? = some d → ∃ x, ds[i]? = some x ∧ d = .tupn [.int ((k + i : Nat) : Int), x]
  | [], k, i, d, h => by simp [enumD] at h
  | x :: ds, k, 0, d, h => by
    have h : some (D.tupn [.int (k : Int), x]) = some d := h
    cases h
    exact ⟨x, rfl, rfl⟩
  | x :: ds, k, i + 1, d, h => by
    have h : (enumD (k + 1) ds)[i]? = some d := h
    obtain ⟨y, h1, h2⟩ := enumD_get h
    exact ⟨y, h1, by rw [h2, show k + 1 + i = k + (i + 1) by omega]⟩
theorem enumD_len : ∀ (ds : List D) (k : Nat), (enumD k ds).length = ds.length
  | [], _ => rfl
  | x :: ds, k => congrArg (· + 1) (enumD_len ds (k + 1))
theorem it_enumL {a : Addr} {ds : List D} (r : Rep K O H (.ref a) (.lst ds)) : (∃ xs, SqL K H a xs) ∧ ItD K (enumD 0 ds) (Ite K a) O H := by
  cases r with
  | lst n h q =>
    refine ⟨⟨_, .of h⟩, fun O H => Rep K O H (.ref a) (.lst ds), .lst n h q, fun O H O' H' r k => r.keep k, fun O H hl r i => ?_⟩
    cases r with
    | lst n h q =>
      refine ⟨fun d hd => ?_, fun hi => ⟨_, .of h, by rw [q.length, ← enumD_len ds 0]; exact hi⟩⟩
      obtain ⟨x, hx, rfl⟩ := enumD_get hd
      obtain ⟨u, hu, ru⟩ := q.get hx
      refine ⟨⟨_, u, .of h, hu⟩, fun y H' hy => ?_⟩
      obtain ⟨T, w, rfl, hT, rfl, hw⟩ := hy
      have e := hw _ (.of h)
      rw [hu] at e
      cases e
      rw [Nat.zero_add]
      exact tup_new hl hT (.cons (.int _) (.cons ru .nil))
theorem it_enumS {a : Addr} {ns : List Int} (r : Rep K O H (.ref a) (.scr ns)) : (∃ xs, SqL K H a xs) ∧ ItD K (enumD 0 (ns.map D.int)) (Ite K a) O H := by
  obtain ⟨a', e, h⟩ := RepB.scr (.inl r)
  cases e
  refine ⟨⟨_, h⟩, fun O H => Rep K O H (.ref a) (.scr ns), r, fun O H O' H' r k => r.keep k, fun O H hl r i => ?_⟩
  obtain ⟨a', e, h⟩ := RepB.scr (.inl r)
  cases e
  have q : RepL K O H (ns.map V.int) (ns.map D.int) := .ints
  refine ⟨fun d hd => ?_, fun hi => ⟨_, h, by rw [q.length, ← enumD_len (ns.map D.int) 0]; exact hi⟩⟩
  obtain ⟨x, hx, rfl⟩ := enumD_get hd
  obtain ⟨u, hu, ru⟩ := q.get hx
  refine ⟨⟨_, u, h, hu⟩, fun y H' hy => ?_⟩
  obtain ⟨T, w, rfl, hT, rfl, hw⟩ := hy
  have e := hw _ h
  rw [hu] at e
  cases e
  rw [Nat.zero_add]
  exact tup_new hl hT (.cons (.int _) (.cons ru .nil))
theorem it_enumT {a : Addr} {ds : List D} (r : Rep K O H (.ref a) (.tup ds)) : (∃ xs, SqT K H a xs) ∧ ItD K (enumD 0 ds) (IteT K a) O H := by
  obtain ⟨a', vs, e, h, q⟩ := RepB.tup (.inl r)
  cases e
  refine ⟨⟨_, h⟩, fun O H => Rep K O H (.ref a) (.tup ds), r, fun O H O' H' r k => r.keep k, fun O H hl r i => ?_⟩
  obtain ⟨a', vs, e, h, q⟩ := RepB.tup (.inl r)
  cases e
  refine ⟨fun d hd => ?_, fun hi => ⟨_, h, by rw [q.length, ← enumD_len ds 0]; exact hi⟩⟩
  obtain ⟨x, hx, rfl⟩ := enumD_get hd
  obtain ⟨u, hu, ru⟩ := q.get hx
  refine ⟨⟨_, u, h, hu⟩, fun y H' hy => ?_⟩
  obtain ⟨T, w, rfl, hT, rfl, hw⟩ := hy
  have e := hw _ h
  rw [hu] at e
  cases e
  rw [Nat.zero_add]
  exact tup_new hl hT (.cons (.int _) (.cons ru .nil))
theorem zipD_get : ∀ {ds es : List D} {i : Nat} {d : D}, (zipD ds es)[i]? = some d → ∃ x y, ds[i]? = some x ∧ es[i]? = some y ∧ d = .tupn [x, y]
  | [], _, i, d, h => by simp [zipD] at h
  | x :: ds, [], i, d, h => by simp [zipD] at h
  | x :: ds, y :: es, 0, d, h => by
    have h : some (D.tupn [x, y]) = some d := h
    cases h
    exact ⟨x, y, rfl, rfl, rfl⟩
  | x :: ds, y :: es, i + 1, d, h => by
    have h : (zipD ds es)[i]? = some d := h
    obtain ⟨x, y, h1, h2, h3⟩ := zipD_get h
    exact ⟨x, y, h1, h2, h3⟩
theorem zipD_len : ∀ (ds es : List D) {i : Nat}, (zipD ds es).length ≤ i → ds.length ≤ i ∨ es.length ≤ i
  | [], _, i, _ => .inl (Nat.zero_le _)
  | x :: ds, [], i, _ => .inr (Nat.zero_le _)
  | x :: ds, y :: es, 0, h => by
    have h : (zipD ds es).length + 1 ≤ 0 := h
    omega
  | x :: ds, y :: es, i + 1, h => by
    have h : (zipD ds es).length + 1 ≤ i + 1 := h
    rcases zipD_len ds es (i := i) (by omega) with z | z
    · exact .inl (Nat.succ_le_succ z)
    · exact .inr (Nat.succ_le_succ z)
theorem it_zipL {a b : Addr} {ds es : List D} (r : Rep K O H (.ref a) (.lst ds)) (q : Rep K O H (.ref b) (.lst es)) : ∃ xs ys, SqL K H a xs ∧ SqL K H b ys ∧ ItD K (zipD ds es) (Itz K a b) O H := by
  obtain ⟨_, vs, e1, h1, q1⟩ := RepB.lst (.inl r)
  obtain ⟨_, us, e2, h2, q2⟩ := RepB.lst (.inl q)
  cases e1; cases e2
  refine ⟨vs, us, .of h1, .of h2, fun O H => Rep K O H (.ref a) (.lst ds) ∧ Rep K O H (.ref b) (.lst es), ⟨r, q⟩, fun O H O' H' r k => ⟨r.1.keep k, r.2.keep k⟩, fun O H hl r i => ?_⟩
  obtain ⟨_, vs, e1, h1, q1⟩ := RepB.lst (.inl r.1)
  obtain ⟨_, us, e2, h2, q2⟩ := RepB.lst (.inl r.2)
  cases e1; cases e2
  refine ⟨fun d hd => ?_, fun hi => ⟨_, _, .of h1, .of h2, (zipD_len ds es hi).imp (fun z => by rw [q1.length]; exact z) (fun z => by rw [q2.length]; exact z)⟩⟩
  obtain ⟨x, y, hx, hy, rfl⟩ := zipD_get hd
  obtain ⟨u, hu, ru⟩ := q1.get hx
  obtain ⟨w, hw, rw'⟩ := q2.get hy
  refine ⟨⟨_, _, u, w, .of h1, .of h2, hu, hw⟩, fun z H' hz => ?_⟩
  obtain ⟨T, u', w', rfl, hT, rfl, k1, k2⟩ := hz
  have e1 := k1 _ (.of h1)
  have e2 := k2 _ (.of h2)
  rw [hu] at e1
  rw [hw] at e2
  cases e1; cases e2
  exact tup_new hl hT (.cons ru (.cons rw' .nil))
theorem it_zipT {a b : Addr} {ds es : List D} (r : Rep K O H (.ref a) (.tup ds)) (q : Rep K O H (.ref b) (.tup es)) : ∃ xs ys, SqT K H a xs ∧ SqT K H b ys ∧ ItD K (zipD ds es) (RZ.ItzT K a b) O H := by
  obtain ⟨_, vs, e1, h1, q1⟩ := RepB.tup (.inl r)
  obtain ⟨_, us, e2, h2, q2⟩ := RepB.tup (.inl q)
  cases e1; cases e2
  refine ⟨vs, us, h1, h2, fun O H => Rep K O H (.ref a) (.tup ds) ∧ Rep K O H (.ref b) (.tup es), ⟨r, q⟩, fun O H O' H' r k => ⟨r.1.keep k, r.2.keep k⟩, fun O H hl r i => ?_⟩
  obtain ⟨_, vs, e1, h1, q1⟩ := RepB.tup (.inl r.1)
  obtain ⟨_, us, e2, h2, q2⟩ := RepB.tup (.inl r.2)
  cases e1; cases e2
  refine ⟨fun d hd => ?_, fun hi => ⟨_, _, h1, h2, (zipD_len ds es hi).imp (fun z => by rw [q1.length]; exact z) (fun z => by rw [q2.length]; exact z)⟩⟩
  obtain ⟨x, y, hx, hy, rfl⟩ := zipD_get hd
  obtain ⟨u, hu, ru⟩ := q1.get hx
  obtain ⟨w, hw, rw'⟩ := q2.get hy
  refine ⟨⟨_, _, u, w, h1, h2, hu, hw⟩, fun z H' hz => ?_⟩
  obtain ⟨T, u', w', rfl, hT, rfl, k1, k2⟩ := hz
  have e1 := k1 _ h1
  have e2 := k2 _ h2
  rw [hu] at e1
  rw [hw] at e2
  cases e1; cases e2
  exact tup_new hl hT (.cons ru (.cons rw' .nil))
theorem it_range {lo hi : Int} : ItD K (rangeD lo hi) (Itr lo (hi - lo).toNat) O H := by
  refine ⟨fun _ _ => True, trivial, fun _ _ _ _ _ _ => trivial, fun O H hl _ i => ⟨fun d hd => ?_, fun hi' => ?_⟩⟩
  · unfold rangeD at hd
    rw [List.getElem?_map] at hd
    obtain ⟨k, h1, h2⟩ := map_some hd
    have hk := List.getElem?_eq_some_iff.mp h1
    obtain ⟨hk1, hk2⟩ := hk
    rw [List.length_range] at hk1
    rw [List.getElem_range] at hk2
    subst hk2 h2
    refine ⟨hk1, fun x H' hy => ?_⟩
    obtain ⟨rfl, rfl⟩ := hy
    exact ⟨fun _ _ h => h, .int _⟩
  · unfold rangeD at hi'
    rw [List.length_map, List.length_range] at hi'
    exact hi'
theorem it_down {a b : Int} : ItD K ((List.range (a - b).toNat).map fun (k : Nat) => D.int (a - k)) (Itc a (-1) (a - b).toNat) O H := by
  refine ⟨fun _ _ => True, trivial, fun _ _ _ _ _ _ => trivial, fun O H hl _ i => ⟨fun d hd => ?_, fun hi' => ?_⟩⟩
  · rw [List.getElem?_map] at hd
    obtain ⟨k, h1, h2⟩ := map_some hd
    obtain ⟨hk1, hk2⟩ := List.getElem?_eq_some_iff.mp h1
    rw [List.length_range] at hk1
    rw [List.getElem_range] at hk2
    subst hk2 h2
    refine ⟨hk1, fun x H' hy => ?_⟩
    obtain ⟨rfl, rfl⟩ := hy
    refine ⟨fun _ _ h => h, ?_⟩
    rw [show a + (i : Int) * -1 = a - i by omega]
    exact .int _
  · rw [List.length_map, List.length_range] at hi'
    exact hi'
variable {X : Cx} {C : Calls} {e tg : Exp} {es : List Exp} {pos p : Pos}
theorem i_ex {f : M (D × Bool)} (h : PE X e (tM X.K XR W f)) : PI X tg e (tI X.K XR W (do
    let p ← f
    liftO (seqOf p.1))) := by
  refine ⟨fun pins s σ H R I hw => ?_⟩
  obtain ⟨O, ms, rel, G⟩ := hw
  have G1 := G.bind
  have fin : ∀ {ds : List D} {ms1 : MS}, ZI X.K O ms σ H R ds ms1 → ZI X.K O ms σ H R ds ms1 := fun h => h
  cases hf : f ms with
  | bad => rw [hf] at G1; exact G1.elim
  | err c x m =>
    rw [hf] at G1
    refine (pi_list h).run pins s σ H R I ⟨O, ms, rel, ?_⟩
    rw [hf]; exact G1
  | ok r ms1 =>
    obtain ⟨d, b⟩ := r
    rw [hf] at G1
    obtain ⟨ds, e1, G2⟩ := liftO_out G1
    cases d <;> first | (cases e1; done) | skip
    case tup xs =>
      cases e1
      refine (pi_tup h).run pins s σ H R I ⟨O, ms, rel, ?_⟩
      rw [hf]
      intro v O1 H1 P1 R1
      obtain ⟨O2, P2, R2⟩ := post_val rel P1 R1
      obtain ⟨a, vs, rfl, h1, q⟩ := RepB.tup (.inl R2)
      obtain ⟨k1, k2⟩ := it_tup R2
      exact ⟨a, rfl, k1, G2 _ O2 H1 P2 k2⟩
    case lst xs =>
      cases e1
      refine (pi_list h).run pins s σ H R I ⟨O, ms, rel, ?_⟩
      rw [hf]
      intro v O1 H1 P1 R1
      obtain ⟨O2, P2, R2⟩ := post_val rel P1 R1
      obtain ⟨a, vs, rfl, h1, q⟩ := RepB.lst (.inl R2)
      obtain ⟨k1, k2⟩ := it_lst (v := .non) R2
      exact ⟨a, rfl, k1, G2 _ O2 H1 P2 k2⟩
    case scr ns =>
      cases e1
      refine (pi_list h).run pins s σ H R I ⟨O, ms, rel, ?_⟩
      rw [hf]
      intro v O1 H1 P1 R1
      obtain ⟨O2, P2, R2⟩ := post_val rel P1 R1
      obtain ⟨a, rfl, h1⟩ := RepB.scr (.inl R2)
      obtain ⟨k1, k2⟩ := it_scr R2
      exact ⟨a, rfl, k1, G2 _ O2 H1 P2 k2⟩
theorem pa_one {f : M (D × Bool)} (h : PE X e (tM K XR W f)) (hs : starEach [e] X.env = (false, eval e X.env) :: starEach [] X.env) : PA X [e] (tCons (tM K XR W f) tNil) := pa_cons h pa_nil hs
theorem i_enum {f : M (D × Bool)} {elts : List Exp} {kk : Nat} {tpos : Pos} (hg : Gl X "enumerate") (hm : X.mg "enumerate" = none) (hs : starEach [e] X.env = [(false, eval e X.env)]) (h : PE X e (tM X.K XR W f)) :
    PI X (.Tuple elts kk tpos) (.Call (.Name "enumerate" p) [e] [] pos) (tI X.K XR W (do
    let p ← f
    liftO ((seqOf p.1).map (enumD 0)))) := by
  have hL : PI X (.Tuple elts kk tpos) (.Call (.Name "enumerate" p) [e] [] pos) _ := pi_enum hg hm (pa_one h hs) hs
  have hT : PI X (.Tuple elts kk tpos) (.Call (.Name "enumerate" p) [e] [] pos) _ := pi_enumT hg hm (pa_one h hs) hs
  refine ⟨fun pins s σ H R I hw => ?_⟩
  obtain ⟨O, ms, rel, G⟩ := hw
  have G1 := G.bind
  cases hf : f ms with
  | bad => rw [hf] at G1; exact G1.elim
  | err c x m =>
    rw [hf] at G1
    refine hL.run pins s σ H R I ⟨O, ms, rel, ?_⟩
    rw [hf]; exact G1
  | ok r ms1 =>
    obtain ⟨d, b⟩ := r
    rw [hf] at G1
    obtain ⟨ds, e1, G2⟩ := liftO_out G1
    obtain ⟨ds0, e0, rfl⟩ := map_some e1
    cases d <;> first | (cases e0; done) | skip
    case tup xs =>
      cases e0
      refine hT.run pins s σ H R I ⟨O, ms, rel, ?_⟩
      rw [hf]
      intro v O1 H1 P1 R1
      obtain ⟨O2, P2, R2⟩ := post_val rel P1 R1
      obtain ⟨a, vs, rfl, h1, q⟩ := RepB.tup (.inl R2)
      obtain ⟨⟨ys, k1⟩, k2⟩ := it_enumT R2
      exact ⟨a, ys, rfl, k1, G2 _ O2 H1 P2 k2⟩
    case lst xs =>
      cases e0
      refine hL.run pins s σ H R I ⟨O, ms, rel, ?_⟩
      rw [hf]
      intro v O1 H1 P1 R1
      obtain ⟨O2, P2, R2⟩ := post_val rel P1 R1
      obtain ⟨a, vs, rfl, h1, q⟩ := RepB.lst (.inl R2)
      obtain ⟨⟨ys, k1⟩, k2⟩ := it_enumL R2
      exact ⟨a, ys, rfl, k1, G2 _ O2 H1 P2 k2⟩
    case scr ns =>
      cases e0
      refine hL.run pins s σ H R I ⟨O, ms, rel, ?_⟩
      rw [hf]
      intro v O1 H1 P1 R1
      obtain ⟨O2, P2, R2⟩ := post_val rel P1 R1
      obtain ⟨a, rfl, h1⟩ := RepB.scr (.inl R2)
      obtain ⟨⟨ys, k1⟩, k2⟩ := it_enumS R2
      exact ⟨a, ys, rfl, k1, G2 _ O2 H1 P2 k2⟩
theorem i_zip {e1 e2 : Exp} {fa fb : M (D × Bool)} {elts : List Exp} {kk : Nat} {tpos : Pos} (hg : Gl X "zip") (hm : X.mg "zip" = none) (hs : starEach [e1, e2] X.env = (false, eval e1 X.env) :: starEach [e2] X.env) (hs2 : starEach [e2] X.env = (false, eval e2 X.env) :: starEach [] X.env) (ha : PE X e1 (tM X.K XR W fa)) (hb : PE X e2 (tM X.K XR W fb)) :
    PI X (.Tuple elts kk tpos) (.Call (.Name "zip" p) [e1, e2] [] pos) (tI X.K XR W (do
    let p ← fa
    let q ← fb
    liftO (zip2 p.1 q.1))) := by
  refine (RZ.pi_zipA hg hm (pa_cons ha (pa_cons hb pa_nil hs2) hs) hs (by rw [hs2]; rfl)).weak ?_
  rintro σ H R ⟨O, ms, rel, G⟩
  refine ⟨O, ms, rel, End.imp G.bind (fun r ms1 G1 v O1 H1 P1 R1 => ?_) (fun c x m h => h)⟩
  obtain ⟨d, b⟩ := r
  obtain ⟨O2, P2, R2⟩ := post_val rel P1 R1
  refine ⟨O2, ms1, P2.rel, End.imp G1.bind (fun r ms2 G2 u O3 H3 P3 R3 => ?_) (fun c x m h cls dx O' H' p q => h cls dx O' H' (P2.trans rel p) q)⟩
  obtain ⟨d', b'⟩ := r
  obtain ⟨O4, P4, R4⟩ := post_val P2.rel P3 R3
  have R2' := R2.keep P4.ext.keep
  obtain ⟨ds, e0, G3⟩ := liftO_out G2
  have P5 := P2.trans rel P4
  cases d <;> cases d' <;> first | (cases e0; done) | skip
  case tup.tup xs ys =>
    cases e0
    obtain ⟨a, vs, rfl, h1, q⟩ := RepB.tup (.inl R2')
    obtain ⟨b, us, rfl, h2, q2⟩ := RepB.tup (.inl R4)
    obtain ⟨xs', ys', k1, k2, k3⟩ := it_zipT R2' R4
    exact ⟨a, b, xs', ys', rfl, .inr ⟨k1, k2, G3 _ O4 H3 P5 k3⟩⟩
  case lst.lst xs ys =>
    cases e0
    obtain ⟨a, vs, rfl, h1, q⟩ := RepB.lst (.inl R2')
    obtain ⟨b, us, rfl, h2, q2⟩ := RepB.lst (.inl R4)
    obtain ⟨xs', ys', k1, k2, k3⟩ := it_zipL R2' R4
    exact ⟨a, b, xs', ys', rfl, .inl ⟨k1, k2, G3 _ O4 H3 P5 k3⟩⟩
end
end Mi

set_option Elab.async false
set_option linter.all false
set_option maxRecDepth 100000
set_option autoImplicit false
set_option maxHeartbeats 1000000
namespace Mi
open PySem PySem.Spec PyProof.Rows L2
/-- behind a step that may store names -/
structure PostS (K : PySem.W.Frag) (O : Addr → Prop) (ms : MS) (σ : St) (H : Hp) (ms' : MS) (O' : Addr → Prop) (σ' : St) (H' : Hp) : Prop where
  rel : Rel K O' ms' σ' H'
  ext : Ext O H (Own ms σ) O' H'
  sub : Sub H (Own ms σ) (Own ms' σ')
  bor : ∀ (i : Nat) (d : D), ms'[i]? = some (some (d, .bor)) → (∃ d0, ms[i]? = some (some (d0, .bor))) ∧ σ'[i]? = σ[i]?
section
variable {K : PySem.W.Frag} {XR : XRep} {W : WX} {O O' O0 O1 : Addr → Prop} {H H' H0 H1 : Hp} {B B' : Addr → Prop} {ms ms' ms0 ms1 : MS} {σ σ' σ0 σ1 : St} {i : Nat} {d : D} {f : Fl}
theorem PostE.s (p : PostE K O ms σ H ms' O' H') : PostS K O ms σ H ms' O' σ H' := ⟨p.rel, p.ext, p.sub, fun i d h => ⟨p.bor i d h, rfl⟩⟩
theorem PostS.refl (r : Rel K O ms σ H) : PostS K O ms σ H ms O σ H := (PostE.refl r).s
theorem PostS.trans (r : Rel K O0 ms0 σ0 H0) (a : PostS K O0 ms0 σ0 H0 ms O σ H) (b : PostS K O ms σ H ms' O' σ' H') : PostS K O0 ms0 σ0 H0 ms' O' σ' H' :=
  ⟨b.rel, a.ext.trans (fun _ h => r.some_of h) a.sub b.ext, a.sub.trans a.ext.grow b.sub, fun i d h => by
    obtain ⟨⟨e, q⟩, h1⟩ := b.bor i d h
    obtain ⟨q2, h2⟩ := a.bor i e q
    exact ⟨q2, h1.trans h2⟩⟩
/-- a name is stored -/
theorem post_set {v : V} (rel : Rel K O ms σ H) (hb : ∀ d, ms[i]? ≠ some (some (d, .bor))) (h : if f = .frz then Rep K O H v d else ∃ a, v = .ref a ∧ RepO K O H a d ∧ ¬ Own ms σ a ∧ f = .own) :
    Rel K O (ms.set i (some (d, f))) (σ.set i (some v)) H ∧ (∀ x, Own (ms.set i (some (d, f))) (σ.set i (some v)) x → Own ms σ x ∨ (f ≠ .frz ∧ v = .ref x)) ∧
      ∀ (j : Nat) (e : D), (ms.set i (some (d, f)))[j]? = some (some (e, .bor)) → ms[j]? = some (some (e, .bor)) ∧ (σ.set i (some v))[j]? = σ[j]? := by
  have fb : f ≠ .bor := fun z => by
    rw [z, if_neg (by decide)] at h
    obtain ⟨_, _, _, _, z⟩ := h
    cases z
  have get : ∀ {j : Nat} {e : D} {g : Fl}, (ms.set i (some (d, f)))[j]? = some (some (e, g)) → (j = i ∧ e = d ∧ g = f ∧ (σ.set i (some v))[j]? = some (some v)) ∨ (j ≠ i ∧ ms[j]? = some (some (e, g)) ∧ (σ.set i (some v))[j]? = σ[j]?) := fun {j e g} hj => by
    rcases set_get hj with ⟨rfl, e1, hl⟩ | ⟨ne, hj⟩
    · cases e1
      exact .inl ⟨rfl, rfl, rfl, List.getElem?_set_self (by rw [← rel.len]; exact hl)⟩
    · exact .inr ⟨ne, hj, List.getElem?_set_ne (Ne.symm ne)⟩
  refine ⟨⟨by rw [List.length_set, List.length_set]; exact rel.len, fun j e g hj => ?_, fun j k e e' g g' a hj hk hg hg' sj sk => ?_, rel.lists⟩, fun x hx => ?_, fun j e hj => ?_⟩
  · rcases get hj with ⟨_, rfl, rfl, hs⟩ | ⟨_, hj, hs⟩
    · refine ⟨v, hs, ?_⟩
      unfold RepS
      by_cases hg : g = .frz
      · rw [if_pos hg] at h ⊢; exact h
      · rw [if_neg hg] at h ⊢
        obtain ⟨a, e1, q, _⟩ := h
        exact ⟨a, e1, q⟩
    · rw [hs]
      exact rel.slot j e g hj
  · rcases get hj with ⟨ej, _, eg, hs⟩ | ⟨nj, hj, hs⟩
    · rcases get hk with ⟨ek, _, _, _⟩ | ⟨nk, hk, hs'⟩
      · exact ej.trans ek.symm
      · rw [hs] at sj
        rw [hs'] at sk
        rw [if_neg (by rw [← eg]; exact hg)] at h
        obtain ⟨b, e1, _, nb, _⟩ := h
        rw [e1] at sj
        cases sj
        exact (nb ⟨k, e', g', hg', hk, sk⟩).elim
    · rw [hs] at sj
      rcases get hk with ⟨ek, _, eg, hs'⟩ | ⟨nk, hk, hs'⟩
      · rw [hs'] at sk
        rw [if_neg (by rw [← eg]; exact hg')] at h
        obtain ⟨b, e1, _, nb, _⟩ := h
        rw [e1] at sk
        cases sk
        exact (nb ⟨j, e, g, hg, hj, sj⟩).elim
      · rw [hs'] at sk
        exact rel.apart j k e e' g g' a hj hk hg hg' sj sk
  · obtain ⟨j, e, g, hg, hj, sj⟩ := hx
    rcases get hj with ⟨ej, _, eg, hs⟩ | ⟨nj, hj, hs⟩
    · rw [hs] at sj
      cases sj
      exact .inr ⟨by rw [← eg]; exact hg, rfl⟩
    · rw [hs] at sj
      exact .inl ⟨j, e, g, hg, hj, sj⟩
  · rcases get hj with ⟨_, _, eg, _⟩ | ⟨nj, hj, hs⟩
    · exact absurd eg.symm fb
    · exact ⟨hj, hs⟩
theorem stV_run {d : D} {f : Fl} : stV i d f ms = match ms[i]? with
  | some (some (_, .bor)) => .bad
  | some _ => .ok () (ms.set i (some (d, f)))
  | none => .bad := rfl
theorem stV_in {β : Type} {d : D} {f : Fl} {g : Unit → M β} {Zok : β → MS → Prop} {Zerr : Nat → D → MS → Prop} (G : End ((stV i d f >>= g) ms) Zok Zerr) : (∀ d, ms[i]? ≠ some (some (d, .bor))) ∧ i < ms.length ∧ End (g () (ms.set i (some (d, f)))) Zok Zerr := by
  have G := G.bind
  rw [stV_run] at G
  cases h : ms[i]? with
  | none => rw [h] at G; exact G.elim
  | some o =>
    have hl : i < ms.length := (List.getElem?_eq_some_iff.mp h).1
    rw [h] at G
    cases o with
    | none => exact ⟨(fun d z => by cases z), hl, G⟩
    | some p =>
      obtain ⟨e, g⟩ := p
      cases g with
      | bor => exact G.elim
      | frz => exact ⟨(fun d z => by cases z), hl, G⟩
      | own => exact ⟨(fun d z => by cases z), hl, G⟩
/-! ### targets -/
mutual
def slotsT : T → List Nat
  | .nm i => [i]
  | .tp ts => slotsTs ts
def slotsTs : Ts → List Nat
  | .nil => []
  | .cons t ts => slotsT t ++ slotsTs ts
end
/-- behind a target's store: the heap stands -/
structure PostG (K : PySem.W.Frag) (is : List Nat) (O : Addr → Prop) (ms : MS) (σ : St) (H : Hp) (ms' : MS) (σ' : St) : Prop where
  post : PostS K O ms σ H ms' O σ' H
  only : ∀ j, j ∉ is → σ'[j]? = σ[j]?
  len : σ'.length = σ.length
def tG (K : PySem.W.Frag) (is : List Nat) (f : D → M Unit) : TG := fun v σ H Q => ∃ O ms d, Rel K O ms σ H ∧ Rep K O H v d ∧ End (f d ms) (fun _ ms' => ∀ σ', PostG K is O ms σ H ms' σ' → Q σ' H) (fun _ _ _ => False)
def tGs (K : PySem.W.Frag) (is : List Nat) (f : List D → M Unit) : TGs := fun vs σ H Q => ∃ O ms ds, Rel K O ms σ H ∧ RepL K O H vs ds ∧ End (f ds ms) (fun _ ms' => ∀ σ', PostG K is O ms σ H ms' σ' → Q σ' H) (fun _ _ _ => False)
theorem PostG.trans {is js : List Nat} (r : Rel K O ms σ H) (a : PostG K is O ms σ H ms1 σ1) (b : PostG K js O ms1 σ1 H ms' σ') : PostG K (is ++ js) O ms σ H ms' σ' :=
  ⟨a.post.trans r b.post, fun j hj => (b.only j fun z => hj (List.mem_append_right _ z)).trans (a.only j fun z => hj (List.mem_append_left _ z)), b.len.trans a.len⟩
theorem postg_set {v : V} (rel : Rel K O ms σ H) (hb : ∀ d, ms[i]? ≠ some (some (d, .bor))) (h : Rep K O H v d) : PostG K [i] O ms σ H (ms.set i (some (d, .frz))) (σ.set i (some v)) := by
  obtain ⟨h1, h2, h3⟩ := post_set (f := .frz) rel hb (by rw [if_pos rfl]; exact h)
  refine ⟨⟨h1, .refl, fun x hx => ?_, fun j e hj => ?_⟩, fun j hj => List.getElem?_set_ne fun z => hj (by rw [z]; simp), List.length_set⟩
  · rcases h2 x hx with z | z
    · exact .inl z
    · exact absurd rfl z.1
  · obtain ⟨k1, k2⟩ := h3 j e hj
    exact ⟨⟨e, k1⟩, k2⟩
variable {X : Cx} {C : Calls} {e tg : Exp} {es : List Exp} {pos p : Pos}
theorem _root_.L2.PG.weak {X : Cx} {tg : Exp} {t t' : TG} (h : PG X tg t) (w : ∀ v σ H Q, t' v σ H Q → t v σ H Q) : PG X tg t' := ⟨fun pins s σ H v u Q I r hw => h.run pins s σ H v u Q I r (w v σ H Q hw)⟩
theorem _root_.L2.PGs.weak {X : Cx} {tg : List Exp} {t t' : TGs} (h : PGs X tg t) (w : ∀ v σ H Q, t' v σ H Q → t v σ H Q) : PGs X tg t' := ⟨fun pins s σ H v u Q I r hw => h.run pins s σ H v u Q I r (w v σ H Q hw)⟩
theorem g_nm {x : Str} (hN : X.N.Nodup) (hi : X.N[i]? = some x) (hx : Loc X.env.scope x) (hf : X.fn x = true ∨ X.env.scope.names.lookup x = some .local) : PG X (.Name x pos) (tG X.K [i] (fun d => stV i d .frz)) := by
  refine (pg_name hN hi hx hf).weak ?_
  rintro v σ H Q ⟨O, ms, d, rel, r, G⟩
  have G2 : End ((stV i d .frz >>= fun u => (M.ret u : M Unit)) ms) (fun _ ms' => ∀ σ', PostG X.K [i] O ms σ H ms' σ' → Q σ' H) (fun _ _ _ => False) := by
    have G : End (stV i d .frz ms) (fun _ ms' => ∀ σ', PostG X.K [i] O ms σ H ms' σ' → Q σ' H) (fun _ _ _ => False) := G
    rw [bind_run]
    unfold End at G ⊢
    cases h : stV i d .frz ms with
    | ok a m => rw [h] at G; exact G
    | err c x m => rw [h] at G; exact G
    | bad => rw [h] at G; exact G
  obtain ⟨hb, hl, G3⟩ := stV_in G2
  exact G3 _ (postg_set rel hb r)
theorem g_nil : PGs X [] (tGs K [] (setTs .nil)) := by
  refine pgs_nil.weak ?_
  rintro vs σ H Q ⟨O, ms, ds, rel, r, G⟩
  cases r with
  | nil => exact ⟨rfl, G σ ⟨.refl rel, fun _ _ => rfl, rfl⟩⟩
  | cons _ _ => exact G.elim
theorem g_cons {t : T} {ts : Ts} (h : PG X e (tG X.K (slotsT t) (setT t))) (h2 : PGs X es (tGs X.K (slotsTs ts) (setTs ts))) (hs : (assignEach (e :: es) X.env).map (·.2) = assign e X.env :: (assignEach es X.env).map (·.2)) :
    PGs X (e :: es) (tGs X.K (slotsTs (.cons t ts)) (setTs (.cons t ts))) := by
  refine (pgs_cons h h2 hs).weak ?_
  rintro vs σ H Q ⟨O, ms, ds, rel, r, G⟩
  cases r with
  | nil => exact G.elim
  | cons rv rs =>
    rename_i v vs d ds
    refine ⟨v, vs, rfl, O, ms, d, rel, rv, ?_⟩
    have G : End ((setT t d >>= fun _ => setTs ts ds) ms) (fun _ ms' => ∀ σ', PostG X.K (slotsTs (.cons t ts)) O ms σ H ms' σ' → Q σ' H) (fun _ _ _ => False) := G
    refine End.imp G.bind (fun _ ms1 G1 σ1 P1 => ?_) (fun _ _ _ z => z)
    refine ⟨O, ms1, ds, P1.post.rel, rs, End.imp G1 (fun _ ms2 G2 σ2 P2 => G2 σ2 (P1.trans rel P2)) (fun _ _ _ z => z)⟩
def lenTs : Ts → Nat
  | .nil => 0
  | .cons _ ts => lenTs ts + 1
theorem setTs_ok : ∀ {ts : Ts} {ds : List D} {m : MS}, setTs ts ds m = .bad ∨ ds.length = lenTs ts
  | .nil, [], m => .inr rfl
  | .nil, _ :: _, m => .inl rfl
  | .cons t ts, [], m => .inl rfl
  | .cons t ts, d :: ds, m => by
    by_cases hl : ds.length = lenTs ts
    · exact .inr (congrArg (· + 1) hl)
    · show ((setT t d >>= fun _ => setTs ts ds) m = .bad ∨ _)
      rw [bind_run]
      cases h : setT t d m with
      | ok a m1 =>
        rcases setTs_ok (ts := ts) (ds := ds) (m := m1) with z | z
        · exact .inl z
        · exact absurd z hl
      | err c x m1 => exact absurd (show False from by
          have no : ∀ (t : T) (d : D) (m : MS) (c : Nat) (x : D) (m1 : MS), setT t d m ≠ .err c x m1 := fun t => by
            refine T.rec (motive_1 := fun t => ∀ (d : D) (m : MS) (c : Nat) (x : D) (m1 : MS), setT t d m ≠ .err c x m1) (motive_2 := fun ts => ∀ (ds : List D) (m : MS) (c : Nat) (x : D) (m1 : MS), setTs ts ds m ≠ .err c x m1) ?_ ?_ ?_ ?_ t
            · intro i d m c x m1 z
              have z : stV i d .frz m = .err c x m1 := z
              rw [stV_run] at z
              split at z <;> cases z
            · intro ts ih d m c x m1 z
              cases d <;> first | (cases z; done) | exact ih _ m c x m1 z
            · intro ds m c x m1 z
              cases ds <;> cases z
            · intro t ts ih1 ih2 ds m c x m1 z
              cases ds with
              | nil => cases z
              | cons d ds =>
                have z : (setT t d >>= fun _ => setTs ts ds) m = .err c x m1 := z
                rw [bind_run] at z
                cases h : setT t d m with
                | ok a m2 => rw [h] at z; exact ih2 _ _ _ _ _ z
                | err c2 x2 m2 => exact ih1 _ _ _ _ _ h
                | bad => rw [h] at z; cases z
          exact no t d m c x m1 h) (fun z => z)
      | bad => exact .inl rfl
theorem g_tp {ts : Ts} {k : Nat} (hc : X.calm = true) (h : PGs X es (tGs X.K (slotsTs ts) (setTs ts))) (hn : (assignEach es X.env).length = lenTs ts) (hst : (assignEach es X.env).findIdx? (·.1) = none) : PG X (.Tuple es k pos) (tG X.K (slotsTs ts) (setT (.tp ts))) := by
  refine ⟨fun pins s σ H v u Q I r hw => ?_⟩
  obtain ⟨O, ms, d, rel, rd, G⟩ := hw
  have ok : ∀ {ds : List D}, End (setTs ts ds ms) (fun _ ms' => ∀ σ', PostG X.K (slotsTs ts) O ms σ H ms' σ' → Q σ' H) (fun _ _ _ => False) → ds.length = lenTs ts := fun {ds} G => by
    rcases setTs_ok (ts := ts) (ds := ds) (m := ms) with z | z
    · rw [z] at G; exact G.elim
    · exact z
  cases d with
  | tup ds =>
    obtain ⟨a, vs, rfl, h1, q⟩ := RepB.tup (.inl rd)
    have G : End (setTs ts ds ms) (fun _ ms' => ∀ σ', PostG X.K (slotsTs ts) O ms σ H ms' σ' → Q σ' H) (fun _ _ _ => False) := G
    exact (pg_tup hc h hn hst).run pins s σ H _ u Q I r ⟨a, vs, rfl, h1, by rw [q.length]; exact ok G, O, ms, ds, rel, q, G⟩
  | tupn ds =>
    obtain ⟨a, vs, rfl, h1, q⟩ := RepB.tupn (.inl rd)
    have G : End (setTs ts ds ms) (fun _ ms' => ∀ σ', PostG X.K (slotsTs ts) O ms σ H ms' σ' → Q σ' H) (fun _ _ _ => False) := G
    exact (pg_tup hc h hn hst).run pins s σ H _ u Q I r ⟨a, vs, rfl, h1, by rw [q.length]; exact ok G, O, ms, ds, rel, q, G⟩
  | lst ds =>
    obtain ⟨a, vs, rfl, h1, q⟩ := RepB.lst (.inl rd)
    have G : End (setTs ts ds ms) (fun _ ms' => ∀ σ', PostG X.K (slotsTs ts) O ms σ H ms' σ' → Q σ' H) (fun _ _ _ => False) := G
    exact (pg_lst hc h hn hst).run pins s σ H _ u Q I r ⟨a, vs, rfl, .inl (.inl h1), by rw [q.length]; exact ok G, O, ms, ds, rel, q, G⟩
  | _ => exact (show False from G).elim
end
end Mi

set_option Elab.async false
set_option linter.all false
set_option maxRecDepth 100000
set_option autoImplicit false
set_option maxHeartbeats 1000000
namespace Mi
open PySem PySem.Spec PyProof.Rows L2
section
variable {K : PySem.W.Frag} {XR : XRep} {W : WX} {O O' O0 O1 : Addr → Prop} {H H' H0 H1 : Hp} {B B' : Addr → Prop} {ms ms' ms0 ms1 : MS} {σ σ' σ0 σ1 : St} {i : Nat} {d : D} {f : Fl}
/-! ### a comprehension's block -/
theorem wipeM_get : ∀ {vs : List Nat} {m : MS} {j : Nat} {p : D × Fl}, (wipeM m vs)[j]? = some (some p) → m[j]? = some (some p) ∧ j ∉ vs
  | [], m, j, p, h => ⟨h, by simp⟩
  | v :: vs, m, j, p, h => by
    have h : ((wipeM m vs).set v none)[j]? = some (some p) := h
    rcases set_get h with ⟨_, e, _⟩ | ⟨ne, h⟩
    · cases e
    · obtain ⟨h1, h2⟩ := wipeM_get h
      exact ⟨h1, by simp only [List.mem_cons, not_or]; exact ⟨ne, h2⟩⟩
theorem wipeM_len : ∀ {vs : List Nat} {m : MS}, (wipeM m vs).length = m.length
  | [], m => rfl
  | v :: vs, m => by
    show ((wipeM m vs).set v none).length = _
    rw [List.length_set, wipeM_len]
theorem wipe_ne : ∀ {vs : List Nat} {σ : St} {j : Nat}, j ∉ vs → (wipe σ vs)[j]? = σ[j]?
  | [], σ, j, h => rfl
  | v :: vs, σ, j, h => by
    simp only [List.mem_cons, not_or] at h
    show ((wipe σ vs).set v none)[j]? = _
    rw [List.getElem?_set_ne (Ne.symm h.1), wipe_ne h.2]
theorem wipe_eq {vs : List Nat} {σ σ' : St} (hl : σ'.length = σ.length) (h : ∀ j, j ∉ vs → σ'[j]? = σ[j]?) : wipe σ' vs = wipe σ vs := by
  refine List.ext_getElem? fun j => ?_
  by_cases hj : j ∈ vs
  · have key : ∀ {vs : List Nat} {τ : St}, j ∈ vs → (wipe τ vs)[j]? = if j < τ.length then some none else none := fun {vs} => by
      induction vs with
      | nil => intro τ h; cases h
      | cons v vs ih =>
        intro τ h
        show ((wipe τ vs).set v none)[j]? = _
        by_cases e : v = j
        · subst e
          by_cases hl : v < τ.length
          · rw [if_pos hl, List.getElem?_set_self (by rw [wipe_length]; exact hl)]
          · rw [if_neg hl, List.getElem?_eq_none (by rw [List.length_set, wipe_length]; omega)]
        · rw [List.getElem?_set_ne e]
          rcases List.mem_cons.mp h with z | z
          · exact absurd z.symm e
          · exact ih z
    rw [key hj, key hj, hl]
  · rw [wipe_ne hj, wipe_ne hj, h j hj]
theorem rel_wipe {vs : List Nat} (rel : Rel K O ms σ H) : Rel K O (wipeM ms vs) (wipe σ vs) H := by
  refine ⟨by rw [wipeM_len, wipe_length]; exact rel.len, fun j d g hj => ?_, fun j k d e g g' a hj hk hg hg' sj sk => ?_, rel.lists⟩
  · obtain ⟨h1, h2⟩ := wipeM_get hj
    rw [wipe_ne h2]
    exact rel.slot j d g h1
  · obtain ⟨h1, h2⟩ := wipeM_get hj
    obtain ⟨h3, h4⟩ := wipeM_get hk
    rw [wipe_ne h2] at sj
    rw [wipe_ne h4] at sk
    exact rel.apart j k d e g g' a h1 h3 hg hg' sj sk
theorem own_wipe {vs : List Nat} {a : Addr} (h : Own (wipeM ms vs) (wipe σ vs) a) : Own ms σ a := by
  obtain ⟨j, d, g, hg, hj, sj⟩ := h
  obtain ⟨h1, h2⟩ := wipeM_get hj
  rw [wipe_ne h2] at sj
  exact ⟨j, d, g, hg, h1, sj⟩
/-- the block's names forgotten, as a step -/
theorem post_wipe {vs : List Nat} (rel : Rel K O0 ms0 σ0 H0) (P : PostS K O0 ms0 σ0 H0 ms O σ H) : PostS K O0 ms0 σ0 H0 (wipeM ms vs) O (wipe σ vs) H :=
  ⟨rel_wipe P.rel, P.ext, fun a h => P.sub a (own_wipe h), fun j d hj => by
    obtain ⟨h1, h2⟩ := wipeM_get hj
    rw [wipe_ne h2]
    exact P.bor j d h1⟩
theorem backM_get : ∀ {vs : List Nat} {m0 m : MS} {j : Nat} {p : D × Fl}, (backM m0 vs m)[j]? = some (some p) → (j ∈ vs ∧ m0[j]? = some (some p)) ∨ (j ∉ vs ∧ m[j]? = some (some p))
  | [], m0, m, j, p, h => .inr ⟨by simp, h⟩
  | v :: vs, m0, m, j, p, h => by
    have h : ((backM m0 vs m).set v ((m0[v]?).getD none))[j]? = some (some p) := h
    rcases set_get h with ⟨rfl, e, _⟩ | ⟨ne, h⟩
    · refine .inl ⟨by simp, ?_⟩
      cases q : m0[j]? with
      | none => rw [q] at e; cases e
      | some o => rw [q] at e; rw [e]; rfl
    · rcases backM_get h with ⟨h1, h2⟩ | ⟨h1, h2⟩
      · exact .inl ⟨List.mem_cons_of_mem _ h1, h2⟩
      · exact .inr ⟨by simp only [List.mem_cons, not_or]; exact ⟨ne, h1⟩, h2⟩
theorem backM_len : ∀ {vs : List Nat} {m0 m : MS}, (backM m0 vs m).length = m.length
  | [], _, _ => rfl
  | v :: vs, m0, m => by
    show ((backM m0 vs m).set v _).length = _
    rw [List.length_set, backM_len]
/-- behind the block -/
theorem post_block {vs : List Nat} (rel : Rel K O ms σ H) (P : PostS K O (wipeM ms vs) (wipe σ vs) H ms' O' (wipe σ vs) H') : PostE K O ms σ H (backM ms vs ms') O' H' := by
  have nown : ∀ {j : Nat} {d : D} {g : Fl} {a : Addr}, j ∈ vs → g ≠ .frz → ms[j]? = some (some (d, g)) → σ[j]? = some (some (.ref a)) → ¬ Own (wipeM ms vs) (wipe σ vs) a := fun {j d g a} hv hg hj hs ho => by
    obtain ⟨k, e, g', hg', hk, sk⟩ := ho
    obtain ⟨h1, h2⟩ := wipeM_get hk
    rw [wipe_ne h2] at sk
    have := rel.apart j k d e g g' a hj h1 hg hg' hs sk
    subst this
    exact h2 hv
  have sl : ∀ {j : Nat} {d : D} {g : Fl}, (backM ms vs ms')[j]? = some (some (d, g)) → ∃ v, σ[j]? = some (some v) ∧ RepS K O' H' v d g := fun {j d g} hj => by
    rcases backM_get hj with ⟨hv, h1⟩ | ⟨hv, h1⟩
    · obtain ⟨v, e1, q⟩ := rel.slot j d g h1
      refine ⟨v, e1, ?_⟩
      unfold RepS at q ⊢
      by_cases hg : g = .frz
      · rw [if_pos hg] at q ⊢; exact q.keep P.ext.keep
      · rw [if_neg hg] at q ⊢
        obtain ⟨a, rfl, ho, ws, es, e2, h2, q⟩ := q
        obtain ⟨h3, h4⟩ := P.ext.held a ho (nown hv hg h1 e1)
        exact ⟨a, rfl, h3, ws, es, e2, h4.trans h2, q.keep P.ext.keep⟩
    · obtain ⟨v, e1, q⟩ := P.rel.slot j d g h1
      rw [wipe_ne hv] at e1
      exact ⟨v, e1, q⟩
  have ow : ∀ {j : Nat} {d : D} {g : Fl} {a : Addr}, j ∉ vs → g ≠ .frz → ms'[j]? = some (some (d, g)) → σ[j]? = some (some (.ref a)) → Own (wipeM ms vs) (wipe σ vs) a ∨ H a = none := fun {j d g a} hv hg hj hs => P.sub a ⟨j, d, g, hg, hj, by rw [wipe_ne hv]; exact hs⟩
  have lenm : ms'.length = ms.length := by
    have h1 := P.rel.len
    have h2 := (rel_wipe (vs := vs) rel).len
    rw [wipeM_len] at h2
    omega
  refine ⟨⟨by rw [backM_len, lenm]; exact rel.len, fun j d g hj => sl hj, fun j k d e g g' a hj hk hg hg' sj sk => ?_, P.rel.lists⟩, ⟨P.ext.keep, fun a ho nb => P.ext.held a ho fun z => nb (own_wipe z), P.ext.grow⟩, fun a h => ?_, fun j d hj => ?_⟩
  · rcases backM_get hj with ⟨hv, h1⟩ | ⟨hv, h1⟩
    · rcases backM_get hk with ⟨hv', h2⟩ | ⟨hv', h2⟩
      · exact rel.apart j k d e g g' a h1 h2 hg hg' sj sk
      · rcases ow hv' hg' h2 sk with z | z
        · exact (nown hv hg h1 sj z).elim
        · exact (rel.some_of (rel.own_O ⟨j, d, g, hg, h1, sj⟩) z).elim
    · rcases backM_get hk with ⟨hv', h2⟩ | ⟨hv', h2⟩
      · rcases ow hv hg h1 sj with z | z
        · exact (nown hv' hg' h2 sk z).elim
        · exact (rel.some_of (rel.own_O ⟨k, e, g', hg', h2, sk⟩) z).elim
      · exact P.rel.apart j k d e g g' a h1 h2 hg hg' (by rw [wipe_ne hv]; exact sj) (by rw [wipe_ne hv']; exact sk)
  · obtain ⟨j, d, g, hg, hj, sj⟩ := h
    rcases backM_get hj with ⟨hv, h1⟩ | ⟨hv, h1⟩
    · exact .inl ⟨j, d, g, hg, h1, sj⟩
    · rcases ow hv hg h1 sj with z | z
      · exact .inl (own_wipe z)
      · exact .inr z
  · rcases backM_get hj with ⟨hv, h1⟩ | ⟨hv, h1⟩
    · exact ⟨d, h1⟩
    · obtain ⟨⟨e, h2⟩, _⟩ := P.bor j d h1
      exact ⟨e, (wipeM_get h2).1⟩
/-- a list under way, nobody's slot: it is changed -/
theorem post_fresh {Da : Addr} {ws : List V} (P : PostS K O0 ms0 σ0 H0 ms O σ H) (ho : O Da) (n0 : ¬ O0 Da) (nb : ¬ Own ms σ Da) : PostS K O0 ms0 σ0 H0 ms O σ (upd H Da (.lst ws)) := by
  have kp : Keeps O H O (upd H Da (.lst ws)) := upd_keeps ho
  refine ⟨⟨P.rel.len, fun j e g hj => ?_, P.rel.apart, fun x hx => ?_⟩, ⟨P.ext.keep.trans kp, fun x hx nx => ?_, fun x hx => ?_⟩, P.sub, P.bor⟩
  · obtain ⟨v, e1, q1⟩ := P.rel.slot j e g hj
    refine ⟨v, e1, ?_⟩
    unfold RepS at q1 ⊢
    by_cases hg : g = .frz
    · rw [if_pos hg] at q1 ⊢; exact q1.keep kp
    · rw [if_neg hg] at q1 ⊢
      obtain ⟨b, rfl, hb, us, es, e2, h2, r2⟩ := q1
      have nb2 : b ≠ Da := fun z => nb (z ▸ ⟨j, e, g, hg, hj, e1⟩)
      exact ⟨b, rfl, hb, us, es, e2, by rw [upd_ne nb2]; exact h2, r2.keep kp⟩
  · by_cases e : x = Da
    · subst e; exact ⟨ws, upd_same⟩
    · rw [upd_ne e]; exact P.rel.lists x hx
  · obtain ⟨h1, h2⟩ := P.ext.held x hx nx
    exact ⟨h1, (upd_ne fun z => n0 (by rw [← z]; exact hx)).trans h2⟩
  · by_cases e : x = Da
    · subst e; rw [upd_same]; exact fun z => nomatch z
    · rw [upd_ne e]; exact P.ext.grow x hx
variable {X : Cx} {C : Calls} {e tg : Exp} {es : List Exp} {pos p : Pos}
def noW : WX := fun _ _ _ _ => False
theorem compL_cons {vs : List Nat} {tgf : D → M Unit} {cd : M Bool} {el : M (D × Bool)} {x : D} {xs acc : List D} : compL vs tgf cd el (x :: xs) acc ms = (tgf x >>= fun _ => cd >>= fun b => if b = true then el >>= fun p => fun m => compL vs tgf cd el xs (acc ++ [p.1]) (wipeM m vs) else fun m => compL vs tgf cd el xs acc (wipeM m vs)) ms := by
  rfl
theorem comp_weak {vs : List Nat} {t : T} {fi : M (List D)} {cd : M Bool} {el : M (D × Bool)} (hv : ∀ j ∈ slotsT t, j ∈ vs) : ∀ σ H Q, tM X.K XR W (do
    let xs ← fi
    compM vs xs (setT t) cd el) σ H Q → tLc (tI X.K XR W fi) (tG X.K (slotsT t) (setT t)) (tT X.K XR noW cd) (tM X.K XR noW el) vs σ H Q := by
  rintro σ H Q ⟨O, ms, rel, G⟩
  refine ⟨O, ms, rel, End.imp G.bind (fun ds ms1 G1 J O1 H1 P1 it => ?_) (fun c x m h => h)⟩
  have G1 : End (if ds.length ≤ LINE then (match compL vs (setT t) cd el ds [] (wipeM ms1 vs) with
    | .ok acc m' => R.ok (D.lst acc, true) (backM ms1 vs m')
    | _ => .bad) else .bad) (ZM X.K O ms σ H Q) (ZE X.K XR W O ms σ H) := G1
  by_cases hlen : ds.length ≤ LINE
  · rw [if_pos hlen] at G1
    cases hcl : compL vs (setT t) cd el ds [] (wipeM ms1 vs) with
    | bad => rw [hcl] at G1; exact G1.elim
    | err c x m => rw [hcl] at G1; exact G1.elim
    | ok accF mF =>
      rw [hcl] at G1
      have G1 : ZM X.K O ms σ H Q (D.lst accF, true) (backM ms1 vs mF) := G1
      intro Da hD
      have relw : Rel X.K O1 (wipeM ms1 vs) (wipe σ vs) H1 := rel_wipe P1.rel
      have nD : ¬ O1 Da := fun z => by
        obtain ⟨ws, e⟩ := P1.rel.lists Da z
        rw [hD] at e; cases e
      obtain ⟨S, hS0, hSk, hSt⟩ := it
      -- the state at a turn: D holds what is made so far
      refine ⟨fun i m H' => m = ds.length - i ∧ i ≤ ds.length ∧ ∃ O' mb acc vacc, PostS X.K O1 (wipeM ms1 vs) (wipe σ vs) H1 mb O' (wipe σ vs) H' ∧ S O' H' ∧ O' Da ∧ ¬ Own mb (wipe σ vs) Da ∧ H' Da = some (.lst vacc) ∧ RepL X.K O' H' vacc acc ∧ acc.length ≤ i ∧
        compL vs (setT t) cd el (ds.drop i) acc mb = .ok accF mF, ⟨ds.length, ?_⟩, ?_⟩
      · -- the start
        obtain ⟨O2, P2, R2⟩ := prm_post (K := X.K) (d := D.lst []) (b := true) (v := .ref Da) relw (prm_lst (vs := []) hD .nil)
        obtain ⟨a, ea, ⟨ho, ws, es, e1, e2, r2⟩, nb, _⟩ : RepR X.K H1 _ O2 _ _ (V.ref Da) (D.lst []) true := R2
        cases ea; cases e1
        cases r2
        refine ⟨by omega, Nat.zero_le _, O2, wipeM ms1 vs, [], [], P2.s, hSk _ _ _ _ hS0 P2.ext.keep, ho, nb, e2, .nil, Nat.zero_le _, ?_⟩
        rw [List.drop_zero]
        exact hcl
      · rintro i m H' ⟨rfl, hil, O', mb, acc, vacc, Pb, hS, hO, nbD, hDa, racc, hal, hcomp⟩
        obtain ⟨hgo, hstop⟩ := hSt O' H' (fun a h => Pb.rel.some_of h) hS i
        by_cases hi : i < ds.length
        · obtain ⟨go, hy⟩ := hgo ds[i] (List.getElem?_eq_getElem hi)
          refine .inr ⟨go, fun H'' => ∃ O' mb acc vacc, PostS X.K O1 (wipeM ms1 vs) (wipe σ vs) H1 mb O' (wipe σ vs) H'' ∧ S O' H'' ∧ O' Da ∧ ¬ Own mb (wipe σ vs) Da ∧ H'' Da = some (.lst vacc) ∧ RepL X.K O' H'' vacc acc ∧ acc.length ≤ i + 1 ∧
            compL vs (setT t) cd el (ds.drop (i + 1)) acc mb = .ok accF mF, fun H'' hN => ⟨ds.length - (i + 1), by omega, rfl, hi, hN⟩, fun x H2 hyl => ?_⟩
          obtain ⟨ky, ry⟩ := hy x H2 hyl
          -- the item has come
          have k0 : Keeps O' H' O' H2 := fun a o n h => ⟨n, ky a o h⟩
          have rel2 : Rel X.K O' mb (wipe σ vs) H2 := Pb.rel.more ky (fun _ h => h) (fun _ _ n _ => n) fun a h => by
            obtain ⟨ws, e⟩ := Pb.rel.lists a h
            exact ⟨ws, ky _ _ e⟩
          have Pk : PostS X.K O' mb (wipe σ vs) H' mb O' (wipe σ vs) H2 := ⟨rel2, ⟨k0, fun a h _ => ⟨h, by
              obtain ⟨ws, e⟩ := Pb.rel.lists a h
              rw [e, ky _ _ e]⟩, fun a h => by
                cases e : H' a with
                | none => exact absurd e h
                | some o => rw [ky a o e]; exact fun z => nomatch z⟩, .refl, fun j d h => ⟨⟨d, h⟩, rfl⟩⟩
          have P2 := Pb.trans relw Pk
          have hd : ds.drop i = ds[i] :: ds.drop (i + 1) := List.drop_eq_getElem_cons hi
          rw [hd, compL_cons] at hcomp
          have ww : wipe (wipe σ vs) vs = wipe σ vs := wipe_eq (by rw [wipe_length]) fun j hj => wipe_ne hj
          have hE : End ((setT t ds[i] >>= fun _ => cd >>= fun b => if b = true then el >>= fun p => fun m => compL vs (setT t) cd el (ds.drop (i + 1)) (acc ++ [p.1]) (wipeM m vs) else fun m => compL vs (setT t) cd el (ds.drop (i + 1)) acc (wipeM m vs)) mb) (fun r m => r = accF ∧ m = mF) (fun _ _ _ => False) := by
            rw [hcomp]
            exact ⟨rfl, rfl⟩
          refine ⟨O', mb, ds[i], P2.rel, ry, End.imp hE.bind (fun _ m3 G3 σ3 PG3 => ?_) (fun _ _ _ z => z)⟩
          have hw3 : wipe σ3 vs = wipe σ vs := by
            have h1 : wipe σ3 vs = wipe (wipe σ vs) vs := wipe_eq PG3.len fun j hj => PG3.only j fun z => hj (hv j z)
            rw [h1, ww]
          refine ⟨hw3, ?_⟩
          have P4 := P2.trans relw PG3.post
          have nD3 : ¬ Own m3 σ3 Da := fun z => by
            rcases PG3.post.sub Da z with z | z
            · exact nbD z
            · rw [ky _ _ hDa] at z; cases z
          have hD2 : H2 Da = some (.lst vacc) := ky _ _ hDa
          have S2 : S O' H2 := hSk _ _ _ _ hS k0
          have ra2 : RepL X.K O' H2 vacc acc := racc.keep k0
          refine ⟨O', m3, P4.rel, End.imp G3.bind (fun b m4 G4 O4 H4 P5 => ?_) (fun _ _ _ z => z.elim)⟩
          have hold : ∀ {m5 : MS} {O5 : Addr → Prop} {H5 : Hp}, PostE X.K O' m3 σ3 H2 m5 O5 H5 → O5 Da ∧ H5 Da = some (.lst vacc) ∧ ¬ Own m5 σ3 Da ∧ S O5 H5 ∧ RepL X.K O5 H5 vacc acc := fun {m5 O5 H5} P => by
            obtain ⟨h1, h2⟩ := P.ext.held Da hO nD3
            refine ⟨h1, h2.trans hD2, fun z => ?_, hSk _ _ _ _ S2 P.ext.keep, ra2.keep P.ext.keep⟩
            rcases P.sub Da z with z | z
            · exact nD3 z
            · rw [hD2] at z; cases z
          have wp : ∀ {m5 : MS} {O5 : Addr → Prop} {H5 : Hp}, PostE X.K O' m3 σ3 H2 m5 O5 H5 → PostS X.K O1 (wipeM ms1 vs) (wipe σ vs) H1 (wipeM m5 vs) O5 (wipe σ vs) H5 := fun {m5 O5 H5} P => by
            have h := post_wipe (vs := vs) relw (P4.trans relw P.s)
            rw [hw3] at h
            exact h
          -- the rest begins with the block's names forgotten, so forgetting them now is no change
          have same : ∀ {m5 : MS} {acc' : List D}, End (compL vs (setT t) cd el (ds.drop (i + 1)) acc' m5) (fun r m => r = accF ∧ m = mF) (fun _ _ _ => False) → compL vs (setT t) cd el (ds.drop (i + 1)) acc' m5 = .ok accF mF := fun {m5 acc'} h => by
            unfold End at h
            cases q : compL vs (setT t) cd el (ds.drop (i + 1)) acc' m5 with
            | ok r m => rw [q] at h; rw [h.1, h.2]
            | err c x m => rw [q] at h; exact h.elim
            | bad => rw [q] at h; exact h.elim
          cases b with
          | false =>
            simp only [Bool.false_eq_true, if_false] at G4 ⊢
            obtain ⟨h1, h2, h3, h4, h5⟩ := hold P5
            exact ⟨O4, wipeM m4 vs, acc, vacc, wp P5, h4, h1, fun z => h3 (by rw [← hw3] at z; exact own_wipe z), h2, h5, by omega, same G4⟩
          | true =>
            simp only [if_true] at G4 ⊢
            refine ⟨O4, m4, P5.rel, End.imp G4.bind (fun p m6 G6 y O6 H6 P6 ry6 => ?_) (fun _ _ _ z => z.elim)⟩
            obtain ⟨O7, P7, ry7⟩ := post_val P4.rel (P5.trans P4.rel P6) (RepR.base P5 ry6)
            obtain ⟨h1, h2, h3, h4, h5⟩ := hold P7
            have hle : vacc.length < sizeLine := by
              rw [h5.length, sizeLine_eq]
              have : ds.length ≤ 16000000 := hlen
              omega
            have nw : ¬ Own (wipeM m6 vs) (wipe σ vs) Da := fun z => h3 (by rw [← hw3] at z; exact own_wipe z)
            have kp : Keeps O7 H6 O7 (upd H6 Da (.lst (vacc ++ [y]))) := upd_keeps h1
            refine ⟨vacc, h2, hle, O7, wipeM m6 vs, acc ++ [p.1], vacc ++ [y], post_fresh (wp P7) h1 nD nw, hSk _ _ _ _ h4 kp, h1, nw, upd_same, (h5.append (.cons ry7 .nil)).keep kp, by rw [List.length_append]; simp; omega, same G6⟩
        · have hie : i = ds.length := by omega
          refine .inl ⟨hstop (by omega), ?_⟩
          rw [hie, List.drop_length] at hcomp
          have hcomp : R.ok acc mb = R.ok accF mF := hcomp
          cases hcomp
          have P2 := post_block P1.rel Pb
          refine G1 (.ref Da) O' H' (P1.trans rel P2) ⟨Da, rfl, ⟨hO, vacc, accF, rfl, hDa, racc⟩, fun z => ?_, .inl ?_⟩
          · obtain ⟨j, d, g, hg, hj, sj⟩ := z
            rcases backM_get hj with ⟨_, h1⟩ | ⟨hv1, h1⟩
            · exact nD (P1.rel.own_O ⟨j, d, g, hg, h1, sj⟩)
            · exact nbD ⟨j, d, g, hg, h1, by rw [wipe_ne hv1]; exact sj⟩
          · cases h : H Da with
            | none => rfl
            | some o => exact absurd hD (P1.ext.grow Da (by rw [h]; exact fun z => nomatch z))
  · rw [if_neg hlen] at G1; exact G1.elim
/-- [elt for target in iter if test] -/
theorem c_comp {elt iter : Exp} {ifs : List Exp} {scope : Scope} {own : List (Str × Nat)} {t : T} {fi : M (List D)} {cd : M Bool} {el : M (D × Bool)} (hc : X.calm = true) (hN : X.N.Nodup) (hi : PI X tg iter (tI X.K XR W fi)) (ok : BlkOk X.N X.env.scope scope own)
    (hv : ∀ j ∈ slotsT t, j ∈ own.map (·.2))
    (hg : ∀ (s : Shared) (H : Hp) (C : Addr) (cl : List (Str × Addr)) (fp : List Addr), PG (X.blk s H scope (compEnvC scope cl C X.env) fp) tg (tG X.K (slotsT t) (setT t))) (ht : ∀ (s : Shared) (H : Hp) (C : Addr) (cl : List (Str × Addr)) (fp : List Addr), PTs (X.blk s H scope (compEnvC scope cl C X.env) fp) ifs (tT X.K XR noW cd))
    (he : ∀ (s : Shared) (H : Hp) (C : Addr) (cl : List (Str × Addr)) (fp : List Addr), PE (X.blk s H scope (compEnvC scope cl C X.env) fp) elt (tM X.K XR noW el)) (hs : ∀ x, foldedSetIterable iter X.env x = pure x) :
    PE X (.ListComp elt [⟨tg, iter, ifs, 0⟩] scope pos) (tM X.K XR W (do
    let xs ← fi
    compM (own.map (·.2)) xs (setT t) cd el)) :=
  (pe_lc hc hN hi ok hg ht he hs).weak (comp_weak hv)
end
end Mi

set_option Elab.async false
set_option linter.all false
set_option maxRecDepth 100000
set_option autoImplicit false
set_option maxHeartbeats 1000000
namespace Mi
open PySem PySem.Spec PyProof.Rows L2
/-! ### statements -/
def ZX (K : PySem.W.Frag) (XR : XRep) (W : WX) (O : Addr → Prop) (ms : MS) (σ : St) (H : Hp) : Nat → D → MS → Prop := fun c x ms' =>
  ∀ cls dx O' σ' H', PostS K O ms σ H ms' O' σ' H' → XR c x cls dx O' H' → W cls dx σ' H'
def ZS (K : PySem.W.Frag) (O : Addr → Prop) (ms : MS) (σ : St) (H : Hp) (D : Ends) : Fw → MS → Prop := fun fw ms' =>
  ∀ O' σ' H', PostS K O ms σ H ms' O' σ' H' → match fw with
    | .nx => D.nx σ' H'
    | .bk => D.bk σ' H'
    | .ct => D.ct σ' H'
    | .rt d o => ∀ v, RepR K H (Own ms σ) O' H' (Own ms' σ') v d o → D.rt v H'
def tS (K : PySem.W.Frag) (XR : XRep) (W : WX) (f : M Fw) : TS := fun D σ H => ∃ O ms, Rel K O ms σ H ∧ End (f ms) (ZS K O ms σ H D) (ZX K XR W O ms σ H)
section
variable {K : PySem.W.Frag} {XR : XRep} {W : WX} {O O' O0 O1 : Addr → Prop} {H H' H0 H1 : Hp} {B B' : Addr → Prop} {ms ms' ms0 ms1 : MS} {σ σ' σ0 σ1 : St} {i : Nat} {d : D} {f : Fl}
theorem RepR.baseS {v : V} {d : D} {b : Bool} (p : PostS K O0 ms0 σ0 H0 ms O σ H) (r : RepR K H (Own ms σ) O' H' B' v d b) : RepR K H0 (Own ms0 σ0) O' H' B' v d b := by
  unfold RepR at r ⊢
  cases b with
  | false => exact r
  | true =>
    obtain ⟨a, e, q, nb, z⟩ := r
    refine ⟨a, e, q, nb, ?_⟩
    rcases z with z | z
    · refine .inl ?_
      cases h : H0 a with
      | none => rfl
      | some o => exact absurd z (p.ext.grow a (by rw [h]; exact fun z => nomatch z))
    · exact (p.sub a z).symm
/-- an expression in a statement -/
theorem tM_inS {β : Type} {f : M (D × Bool)} {g : D × Bool → M β} {Zok : β → MS → Prop} {C : VK} (rel : Rel K O0 ms0 σ0 H0) (P : PostS K O0 ms0 σ0 H0 ms O σ H) (G : End ((f >>= g) ms) Zok (ZX K XR W O0 ms0 σ0 H0))
    (k : ∀ d b ms1 v O1 H1, PostS K O0 ms0 σ0 H0 ms1 O1 σ H1 → PostE K O ms σ H ms1 O1 H1 → RepR K H (Own ms σ) O1 H1 (Own ms1 σ) v d b → End (g (d, b) ms1) Zok (ZX K XR W O0 ms0 σ0 H0) → C v H1) : tM K XR W f σ H C := by
  refine ⟨O, ms, P.rel, End.imp G.bind (fun r m h v O' H' p q => ?_) (fun c x m h cls dx O' H' p q => h cls dx O' σ H' (P.trans rel p.s) q)⟩
  obtain ⟨d, b⟩ := r
  exact k d b m v O' H' (P.trans rel p.s) p q h
theorem tT_inS {β : Type} {f : M Bool} {g : Bool → M β} {Zok : β → MS → Prop} {C : Bool → Hp → Prop} (rel : Rel K O0 ms0 σ0 H0) (P : PostS K O0 ms0 σ0 H0 ms O σ H) (G : End ((f >>= g) ms) Zok (ZX K XR W O0 ms0 σ0 H0))
    (k : ∀ b ms1 O1 H1, PostS K O0 ms0 σ0 H0 ms1 O1 σ H1 → End (g b ms1) Zok (ZX K XR W O0 ms0 σ0 H0) → C b H1) : tT K XR W f σ H C :=
  ⟨O, ms, P.rel, End.imp G.bind (fun r m h O' H' p => k r m O' H' (P.trans rel p.s) h) (fun c x m h cls dx O' H' p q => h cls dx O' σ H' (P.trans rel p.s) q)⟩
theorem tI_inS {β : Type} {f : M (List D)} {g : List D → M β} {Zok : β → MS → Prop} {C : It → Hp → Prop} (rel : Rel K O0 ms0 σ0 H0) (P : PostS K O0 ms0 σ0 H0 ms O σ H) (G : End ((f >>= g) ms) Zok (ZX K XR W O0 ms0 σ0 H0))
    (k : ∀ ds ms1 J O1 H1, PostS K O0 ms0 σ0 H0 ms1 O1 σ H1 → ItD K ds J O1 H1 → End (g ds ms1) Zok (ZX K XR W O0 ms0 σ0 H0) → C J H1) : tI K XR W f σ H C :=
  ⟨O, ms, P.rel, End.imp G.bind (fun r m h J O' H' p q => k r m J O' H' (P.trans rel p.s) q h) (fun c x m h cls dx O' H' p q => h cls dx O' σ H' (P.trans rel p.s) q)⟩
/-- a statement behind a statement -/
theorem tS_out {g : M Fw} {D : Ends} (rel : Rel K O0 ms0 σ0 H0) (P : PostS K O0 ms0 σ0 H0 ms O σ H) (G : End (g ms) (ZS K O0 ms0 σ0 H0 D) (ZX K XR W O0 ms0 σ0 H0)) : tS K XR W g D σ H := by
  refine ⟨O, ms, P.rel, End.imp G (fun fw m h O' σ' H' p => ?_) (fun c x m h cls dx O' σ' H' p q => h cls dx O' σ' H' (P.trans rel p) q)⟩
  have h := h O' σ' H' (P.trans rel p)
  cases fw with
  | rt d o => exact fun v r => h v (r.baseS P)
  | _ => exact h
theorem tS_in {f : M Fw} {g : Fw → M Fw} {D D' : Ends} (rel : Rel K O0 ms0 σ0 H0) (P : PostS K O0 ms0 σ0 H0 ms O σ H) (G : End ((f >>= g) ms) (ZS K O0 ms0 σ0 H0 D) (ZX K XR W O0 ms0 σ0 H0))
    (k : ∀ fw ms1 O1 σ1 H1, PostS K O0 ms0 σ0 H0 ms1 O1 σ1 H1 → End (g fw ms1) (ZS K O0 ms0 σ0 H0 D) (ZX K XR W O0 ms0 σ0 H0) → match fw with
      | .nx => D'.nx σ1 H1
      | .bk => D'.bk σ1 H1
      | .ct => D'.ct σ1 H1
      | .rt d o => ∀ v, RepR K H0 (Own ms0 σ0) O1 H1 (Own ms1 σ1) v d o → D'.rt v H1) : tS K XR W f D' σ H := by
  refine ⟨O, ms, P.rel, End.imp G.bind (fun fw m h O' σ' H' p => ?_) (fun c x m h cls dx O' σ' H' p q => h cls dx O' σ' H' (P.trans rel p) q)⟩
  have h := k fw m O' σ' H' (P.trans rel p) h
  cases fw with
  | rt d o => exact fun v r => h v (r.baseS P)
  | _ => exact h
theorem setT_noerr (t : T) : ∀ (d : D) (m : MS) (c : Nat) (x : D) (m1 : MS), setT t d m ≠ .err c x m1 := by
  refine T.rec (motive_1 := fun t => ∀ (d : D) (m : MS) (c : Nat) (x : D) (m1 : MS), setT t d m ≠ .err c x m1) (motive_2 := fun ts => ∀ (ds : List D) (m : MS) (c : Nat) (x : D) (m1 : MS), setTs ts ds m ≠ .err c x m1) ?_ ?_ ?_ ?_ t
  · intro i d m c x m1 z
    have z : stV i d .frz m = .err c x m1 := z
    rw [stV_run] at z
    split at z <;> cases z
  · intro ts ih d m c x m1 z
    cases d <;> first | (cases z; done) | exact ih _ m c x m1 z
  · intro ds m c x m1 z
    cases ds <;> cases z
  · intro t ts ih1 ih2 ds m c x m1 z
    cases ds with
    | nil => cases z
    | cons d ds =>
      have z : (setT t d >>= fun _ => setTs ts ds) m = .err c x m1 := z
      rw [bind_run] at z
      cases h : setT t d m with
      | ok a m2 => rw [h] at z; exact ih2 _ _ _ _ _ z
      | err c2 x2 m2 => exact ih1 _ _ _ _ _ h
      | bad => rw [h] at z; cases z
theorem End.noerr {β : Type} {r : R β} {Zok : β → MS → Prop} {Zerr Zerr' : Nat → D → MS → Prop} (G : End r Zok Zerr) (h : ∀ c x m, r ≠ .err c x m) : End r Zok Zerr' := by
  unfold End at G ⊢
  cases r with
  | ok a m => exact G
  | err c x m => exact absurd rfl (h c x m)
  | bad => exact G
variable {X : Cx} {C : Calls} {e tg : Exp} {es : List Exp} {pos p : Pos} {st : PySem.Stmt} {rest a b : List PySem.Stmt}
theorem s_nil : PSs X [] (tS K XR W (pure .nx)) := by
  refine pss_nil.weak ?_
  rintro D σ H ⟨O, ms, rel, G⟩
  exact G O σ H (.refl rel)
def seqF (f g : M Fw) : M Fw := do
  let r ← f
  match r with
  | .nx => g
  | r => pure r
theorem s_cons {f g : M Fw} (h : PS X st (tS K XR W f)) (h2 : PSs X rest (tS K XR W g)) : PSs X (st :: rest) (tS K XR W (seqF f g)) := by
  refine (pss_cons h h2).weak ?_
  rintro D σ H ⟨O, ms, rel, G⟩
  refine tS_in (D' := { D with nx := tS K XR W g D }) rel (.refl rel) G (fun fw ms1 O1 σ1 H1 P1 G1 => ?_)
  cases fw with
  | nx => exact tS_out rel P1 G1
  | bk => exact (G1 : ZS K O ms σ H D .bk ms1) O1 σ1 H1 P1
  | ct => exact (G1 : ZS K O ms σ H D .ct ms1) O1 σ1 H1 P1
  | rt d o => exact (G1 : ZS K O ms σ H D (.rt d o) ms1) O1 σ1 H1 P1
theorem s_pass : PS X (.Pass pos) (tS K XR W (pure .nx)) := by
  refine ps_pass.weak ?_
  rintro D σ H ⟨O, ms, rel, G⟩
  exact G O σ H (.refl rel)
theorem s_break : PS X (.Break pos) (tS K XR W (pure .bk)) := by
  refine ps_break.weak ?_
  rintro D σ H ⟨O, ms, rel, G⟩
  exact G O σ H (.refl rel)
theorem s_cont : PS X (.Continue pos) (tS K XR W (pure .ct)) := by
  refine ps_continue.weak ?_
  rintro D σ H ⟨O, ms, rel, G⟩
  exact G O σ H (.refl rel)
theorem s_retN : PS X (.Return none pos) (tS K XR W (pure (.rt .non false))) := by
  refine ps_retN.weak ?_
  rintro D σ H ⟨O, ms, rel, G⟩
  exact (G : ZS K O ms σ H D (.rt .non false) ms) O σ H (.refl rel) .non .non
theorem s_never : PS X st (tS K XR W fail) := by
  refine ps_never.weak ?_
  rintro D σ H ⟨O, ms, rel, G⟩
  exact G
theorem s_expr {f : M (D × Bool)} (h : PE X e (tM K XR W f)) (hs : swapsWith e none pos.line X.env = pure false) : PS X (.Expr e pos) (tS K XR W (do
    let _ ← f
    pure .nx)) := by
  refine (ps_expr h hs).weak ?_
  rintro D σ H ⟨O, ms, rel, G⟩
  refine tM_inS rel (.refl rel) G (fun d b ms1 v O1 H1 P1 _ _ G1 => ?_)
  exact (G1 : ZS K O ms σ H D .nx ms1) O1 σ H1 P1
theorem s_ret {f : M (D × Bool)} (h : PE X e (tM K XR W f)) : PS X (.Return (some e) pos) (tS K XR W (do
    let p ← f
    pure (.rt p.1 p.2))) := by
  refine (ps_ret h).weak ?_
  rintro D σ H ⟨O, ms, rel, G⟩
  refine tM_inS rel (.refl rel) G (fun d b ms1 v O1 H1 P1 _ R1 G1 => ?_)
  exact (G1 : ZS K O ms σ H D (.rt d b) ms1) O1 σ H1 P1 v R1
theorem s_if {c : Exp} {fc : M Bool} {fa fb : M Fw} (hc : PT X c (tT K XR W fc)) (ha : PSs X a (tS K XR W fa)) (hb : PSs X b (tS K XR W fb)) : PS X (.If c a b pos) (tS K XR W (do
    let x ← fc
    if x then fa else fb)) := by
  refine (ps_if hc ha hb).weak ?_
  rintro D σ H ⟨O, ms, rel, G⟩
  refine tT_inS rel (.refl rel) G (fun b ms1 O1 H1 P1 G1 => ?_)
  cases b with
  | true => rw [if_pos rfl]; exact tS_out rel P1 G1
  | false => rw [if_neg Bool.false_ne_true]; exact tS_out rel P1 G1
/-- the store behind a value -/
theorem post_store {v : V} {d : D} {b : Bool} (rel : Rel K O0 ms0 σ0 H0) (P : PostS K O0 ms0 σ0 H0 ms O σ H) (hb : ∀ d, ms[i]? ≠ some (some (d, .bor))) (r : RepR K H0 (Own ms0 σ0) O H (Own ms σ) v d b) :
    PostS K O0 ms0 σ0 H0 (ms.set i (some (d, if b then .own else .frz))) O (σ.set i (some v)) H := by
  have h : if (if b = true then Fl.own else .frz) = Fl.frz then Rep K O H v d else ∃ a, v = .ref a ∧ RepO K O H a d ∧ ¬ Own ms σ a ∧ (if b = true then Fl.own else .frz) = Fl.own := by
    cases b with
    | false => exact r
    | true =>
      obtain ⟨a, e, q, nb, _⟩ := r
      exact ⟨a, e, q, nb, rfl⟩
  obtain ⟨h1, h2, h3⟩ := post_set P.rel hb h
  refine ⟨h1, P.ext, fun x hx => ?_, fun j e hj => ?_⟩
  · rcases h2 x hx with z | ⟨z1, z2⟩
    · exact P.sub x z
    · cases b with
      | false => exact absurd rfl z1
      | true =>
        obtain ⟨a, e, q, nb, og⟩ := r
        rw [e] at z2
        cases z2
        exact og.symm
  · obtain ⟨k1, k2⟩ := h3 j e hj
    obtain ⟨q1, q2⟩ := P.bor j e k1
    exact ⟨q1, k2.trans q2⟩
def flOf (b : Bool) : Fl := if b then .own else .frz
theorem s_set {x : Str} {f : M (D × Bool)} {pos' : Pos} (hN : X.N.Nodup) (hi : X.N[i]? = some x) (hx : Loc X.env.scope x) (h : PE X e (tM K XR W f)) (hs : swapsWith e (some (.Name x pos')) pos.line X.env = pure false) (hf : X.fn x = true ∨ X.env.scope.names.lookup x = some .local) :
    PS X (.Assign [.Name x pos'] e pos) (tS K XR W (do
    let p ← f
    stV i p.1 (if p.2 then .own else .frz)
    pure .nx)) := by
  refine (ps_set hN hi hx h hs hf).weak ?_
  rintro D σ H ⟨O, ms, rel, G⟩
  refine tM_inS rel (.refl rel) G (fun d b ms1 v O1 H1 P1 _ R1 G1 => ?_)
  obtain ⟨hb, hl, G2⟩ := stV_in (i := i) G1
  exact (G2 : ZS K O ms σ H D .nx _) O1 _ H1 (post_store rel P1 hb R1)
theorem s_setT {t : T} {f : M (D × Bool)} {g : Exp} (h : PE X e (tM X.K XR W f)) (hg : PG X g (tG X.K (slotsT t) (setT t))) (hs : swapsWithSole [g] e pos.line X.env = pure false) (hw : swappedStores [g] e X.env = pure none) (h1 : (assignEach [g] X.env).map (·.2) = [assign g X.env]) :
    PS X (.Assign [g] e pos) (tS X.K XR W (do
    let p ← f
    setT t p.1
    pure .nx)) := by
  refine (ps_asg h hg hs hw h1).weak ?_
  rintro D σ H ⟨O, ms, rel, G⟩
  refine tM_inS rel (.refl rel) G (fun d b ms1 v O1 H1 P1 PE1 R1 G1 => ?_)
  obtain ⟨O2, P2, r2⟩ := post_val rel PE1 R1
  refine ⟨O2, ms1, d, P2.rel, r2, End.imp (G1.bind.noerr fun c x m => setT_noerr t d ms1 c x m) (fun _ ms2 G2 σ2 P3 => ?_) (fun c x m h => h)⟩
  exact (G2 : ZS X.K O ms σ H D .nx ms2) O2 σ2 H1 (P2.s.trans rel P3.post)
/-- several values, then several stores -/
def RepRs (K : PySem.W.Frag) (H0 : Hp) (B0 O : Addr → Prop) (H : Hp) (B : Addr → Prop) : List V → List (D × Bool) → Prop
  | [], [] => True
  | v :: vs, p :: ps => RepR K H0 B0 O H B v p.1 p.2 ∧ (p.2 = true → ∀ (j : Nat) (q : D × Bool) (w : V), ps[j]? = some q → q.2 = true → vs[j]? = some w → w ≠ v) ∧ RepRs K H0 B0 O H B vs ps
  | _, _ => False
def ZRs (K : PySem.W.Frag) (O : Addr → Prop) (ms : MS) (σ : St) (H : Hp) (Q : List V → Hp → Prop) : List (D × Bool) → MS → Prop := fun ps ms' => ∀ vs O' H', PostE K O ms σ H ms' O' H' → RepRs K H (Own ms σ) O' H' (Own ms' σ) vs ps → Q vs H'
def tRs (K : PySem.W.Frag) (XR : XRep) (W : WX) (f : M (List (D × Bool))) : TA := fun σ H Q => ∃ O ms, Rel K O ms σ H ∧ End (f ms) (ZRs K O ms σ H Q) (ZE K XR W O ms σ H)
theorem RepRs.base {v : List V} {ps : List (D × Bool)} (p : PostE K O0 ms0 σ H0 ms O H) (r : RepRs K H (Own ms σ) O' H' B' v ps) : RepRs K H0 (Own ms0 σ) O' H' B' v ps := by
  induction ps generalizing v with
  | nil => cases v <;> exact r
  | cons q ps ih =>
    cases v with
    | nil => exact r
    | cons v vs => exact ⟨r.1.base p, r.2.1, ih r.2.2⟩
theorem RepRs.own {vs : List V} {ps : List (D × Bool)} (r : RepRs K H0 B O H B' vs ps) {j : Nat} {q : D × Bool} {w : V} (h : ps[j]? = some q) (hq : q.2 = true) (hw : vs[j]? = some w) : ∃ a, w = .ref a ∧ (H0 a = none ∨ B a) := by
  induction ps generalizing vs j with
  | nil => cases h
  | cons p ps ih =>
    cases vs with
    | nil => cases hw
    | cons v vs =>
      cases j with
      | zero =>
        have e1 : p = q := by simpa using h
        have e2 : v = w := by simpa using hw
        subst e1 e2
        have r1 := r.1
        unfold RepR at r1
        rw [if_pos hq] at r1
        obtain ⟨a, e, _, _, z⟩ := r1
        exact ⟨a, e, z⟩
      | succ j => exact ih r.2.2 (by simpa using h) (by simpa using hw)
theorem rs_nil : PA X [] (tRs K XR W (M.ret [])) := by
  refine pa_nil.weak ?_
  rintro σ H Q ⟨O, ms, rel, G⟩
  exact G [] O H (.refl rel) trivial
theorem rs_cons {f : M (D × Bool)} {g : M (List (D × Bool))} (h : PE X e (tM K XR W f)) (t : PA X es (tRs K XR W g)) (hs : starEach (e :: es) X.env = (false, eval e X.env) :: starEach es X.env) : PA X (e :: es) (tRs K XR W (do
    let p ← f
    let ps ← g
    pure (p :: ps))) := by
  refine (pa_cons h t hs).weak ?_
  rintro σ H Q ⟨O, ms, rel, G⟩
  refine tM_in rel (.refl rel) G (fun d b ms1 v O1 H1 P1 _ R1 G1 => ?_)
  refine ⟨O1, ms1, P1.rel, End.imp G1.bind (fun ps m G2 vs O2 H2 P2 R2 => ?_) (fun c x m h cls dx O' H' p q => h cls dx O' H' (P1.trans rel p) q)⟩
  have hk : RepA K σ H (Own ms σ) O2 H2 (Own m σ) v (.val d b) := RepA.keep P2 (show RepA K σ H (Own ms σ) O1 H1 (Own ms1 σ) v (.val d b) from R1) P1.rel
  refine (G2 : ZRs K O ms σ H Q ((d, b) :: ps) m) (v :: vs) O2 H2 (P1.trans rel P2) ⟨hk, fun hb j q w hq hqb hw e => ?_, R2.base P1⟩
  have hb : b = true := hb
  subst hb
  obtain ⟨a, e1, ⟨ho, ws, es, e2, h2, _⟩, nb, _⟩ : RepR K H _ O1 H1 _ v d true := R1
  obtain ⟨a', e3, z⟩ := R2.own hq hqb hw
  rw [e, e1] at e3
  cases e3
  rcases z with z | z
  · rw [h2] at z; cases z
  · exact nb z
def setAll : St → List Nat → List V → St
  | σ, i :: is, v :: vs => setAll (σ.set i (some v)) is vs
  | σ, _, _ => σ
theorem stVs_in {β : Type} {g : Unit → M β} {Zok : β → MS → Prop} {Zerr : Nat → D → MS → Prop} (rel : Rel K O0 ms0 σ0 H0) : ∀ {is : List Nat} {ps : List (D × Bool)} {vs : List V} {ms : MS} {σ : St}, PostS K O0 ms0 σ0 H0 ms O σ H → RepRs K H0 (Own ms0 σ0) O H (Own ms σ) vs ps →
    End ((stVs is ps >>= g) ms) Zok Zerr → ∃ ms', PostS K O0 ms0 σ0 H0 ms' O (setAll σ is vs) H ∧ vs.length = is.length ∧ End (g () ms') Zok Zerr
  | [], [], [], ms, σ, P, r, G => ⟨ms, P, rfl, G⟩
  | [], [], _ :: _, ms, σ, P, r, G => r.elim
  | [], _ :: _, _, ms, σ, P, r, G => (G : False).elim
  | _ :: _, [], _, ms, σ, P, r, G => (G : False).elim
  | i :: is, p :: ps, [], ms, σ, P, r, G => r.elim
  | i :: is, (d, b) :: ps, v :: vs, ms, σ, P, r, G => by
    have G : End (((stV i d (if b then .own else .frz) >>= fun _ => stVs is ps) >>= g) ms) Zok Zerr := G
    rw [bind_assoc'] at G
    obtain ⟨hb, hl, G2⟩ := stV_in G
    have P2 := post_store rel P hb r.1
    have h : if (if b = true then Fl.own else .frz) = Fl.frz then Rep K O H v d else ∃ a, v = .ref a ∧ RepO K O H a d ∧ ¬ Own ms σ a ∧ (if b = true then Fl.own else .frz) = Fl.own := by
      cases b with
      | false => exact r.1
      | true =>
        obtain ⟨a, e, q, nb, _⟩ := r.1
        exact ⟨a, e, q, nb, rfl⟩
    obtain ⟨_, h2, _⟩ := post_set P.rel hb h
    have tl : ∀ {vs : List V} {ps : List (D × Bool)}, (b = true → ∀ (j : Nat) (q : D × Bool) (w : V), ps[j]? = some q → q.2 = true → vs[j]? = some w → w ≠ v) → RepRs K H0 (Own ms0 σ0) O H (Own ms σ) vs ps → RepRs K H0 (Own ms0 σ0) O H (Own (ms.set i (some (d, if b then .own else .frz))) (σ.set i (some v))) vs ps := fun {vs ps} => by
      induction ps generalizing vs with
      | nil => intro _ z; cases vs <;> exact z
      | cons q ps ih =>
        cases vs with
        | nil => intro _ z; exact z
        | cons w vs =>
          intro nz z
          refine ⟨?_, z.2.1, ih (fun hb j q' w' h1 h2 h3 => nz hb (j + 1) q' w' (by simpa using h1) h2 (by simpa using h3)) z.2.2⟩
          have z1 := z.1
          unfold RepR at z1 ⊢
          by_cases hq : q.2 = true
          · rw [if_pos hq] at z1 ⊢
            obtain ⟨a, e, q1, nb, og⟩ := z1
            refine ⟨a, e, q1, fun y => ?_, og⟩
            rcases h2 a y with y | ⟨y1, y2⟩
            · exact nb y
            · have hb1 : b = true := by
                cases b with
                | true => rfl
                | false => exact absurd rfl y1
              exact nz hb1 0 q w rfl hq rfl (by rw [e, y2])
          · rw [if_neg hq] at z1 ⊢
            exact z1
    obtain ⟨ms', P3, hlen, G3⟩ := stVs_in rel P2 (tl r.2.1 r.2.2) G2
    exact ⟨ms', P3, by rw [List.length_cons, List.length_cons, hlen], G3⟩
theorem s_par2 {i j : Nat} {x y : Str} {a b : Exp} {f : M (List (D × Bool))} {px py pt : Pos} {kt k2 pt2} (hc : X.calm = true) (hN : X.N.Nodup) (hi : X.N[i]? = some x) (hj : X.N[j]? = some y) (hij : i ≠ j)
    (hx : X.env.scope.names.lookup x = some .local) (hy : X.env.scope.names.lookup y = some .local) (ha : PA X [a, b] (tRs K XR W f))
    (hw : swappedStores [.Tuple [.Name x px, .Name y py] kt pt] (.Tuple [a, b] k2 pt2) X.env = pure (some [x, y]))
    (hs : swapsWithSole [.Tuple [.Name x px, .Name y py] kt pt] (.Tuple [a, b] k2 pt2) pos.line X.env = pure false) :
    PS X (.Assign [.Tuple [.Name x px, .Name y py] kt pt] (.Tuple [a, b] k2 pt2) pos) (tS K XR W (do
    let ps ← f
    stVs [i, j] ps
    pure .nx)) := by
  refine (ps_par hc hN hi hj hij hx hy ha hw hs).weak ?_
  rintro D σ H ⟨O, ms, rel, G⟩
  refine ⟨O, ms, rel, End.imp G.bind (fun ps m1 G1 vs O1 H1 P1 R1 => ?_) (fun c x m h cls dx O' H' p q => h cls dx O' σ H' p.s q)⟩
  obtain ⟨ms', P2, hl, G2⟩ := stVs_in rel P1.s R1 G1
  match vs, hl with
  | [v, w], _ => exact ⟨v, w, rfl, (G2 : ZS K O ms σ H D .nx ms') O1 _ H1 P2⟩
theorem s_par3 {i j l : Nat} {x y z : Str} {a b c : Exp} {f : M (List (D × Bool))} {px py pz pt : Pos} {kt k2 pt2} (hc : X.calm = true) (hN : X.N.Nodup) (hi : X.N[i]? = some x) (hj : X.N[j]? = some y) (hl : X.N[l]? = some z) (hij : i ≠ j) (hil : i ≠ l) (hjl : j ≠ l)
    (hx : X.env.scope.names.lookup x = some .local) (hy : X.env.scope.names.lookup y = some .local) (hz : X.env.scope.names.lookup z = some .local) (ha : PA X [a, b, c] (tRs K XR W f))
    (hw : swappedStores [.Tuple [.Name x px, .Name y py, .Name z pz] kt pt] (.Tuple [a, b, c] k2 pt2) X.env = pure (some [x, y, z]))
    (hs : swapsWithSole [.Tuple [.Name x px, .Name y py, .Name z pz] kt pt] (.Tuple [a, b, c] k2 pt2) pos.line X.env = pure false) :
    PS X (.Assign [.Tuple [.Name x px, .Name y py, .Name z pz] kt pt] (.Tuple [a, b, c] k2 pt2) pos) (tS K XR W (do
    let ps ← f
    stVs [i, j, l] ps
    pure .nx)) := by
  refine (ps_par3 hc hN hi hj hl hij hil hjl hx hy hz ha hw hs).weak ?_
  rintro D σ H ⟨O, ms, rel, G⟩
  refine ⟨O, ms, rel, End.imp G.bind (fun ps m1 G1 vs O1 H1 P1 R1 => ?_) (fun c x m h cls dx O' H' p q => h cls dx O' σ H' p.s q)⟩
  obtain ⟨ms', P2, hl, G2⟩ := stVs_in rel P1.s R1 G1
  match vs, hl with
  | [u, v, w], _ => exact ⟨u, v, w, rfl, (G2 : ZS K O ms σ H D .nx ms') O1 _ H1 P2⟩
end
end Mi

set_option Elab.async false
set_option linter.all false
set_option maxRecDepth 100000
set_option autoImplicit false
set_option maxHeartbeats 1000000
namespace Mi
open PySem PySem.Spec PyProof.Rows L2
section
variable {K : PySem.W.Frag} {XR : XRep} {W : WX} {O O' O0 O1 : Addr → Prop} {H H' H0 H1 : Hp} {B B' : Addr → Prop} {ms ms' ms0 ms1 : MS} {σ σ' σ0 σ1 : St} {i : Nat} {d : D} {f : Fl}
variable {X : Cx} {C : Calls} {e tg : Exp} {es : List Exp} {pos p : Pos} {st : PySem.Stmt} {rest a b : List PySem.Stmt}
def ipOf : Op → Option Operator
  | .add => some .Add
  | .sub => some .Sub
  | _ => none
def ipR (o : Op) : TIp := fun x y H Q => ∃ i j k, x = .int i ∧ y = .int j ∧ aug2 o (.int i) (.int j) = some (.int k) ∧ Q (.int k) H
theorem ip_ok {o : Op} {po : Operator} (h : ipOf o = some po) : PIp X po (ipR o) := by
  intro pins s σ H x y v u Q I r1 r2 hq
  obtain ⟨i, j, k, rfl, rfl, e, q⟩ := hq
  cases o <;> first | (cases h; done) | skip
  · cases h
    cases e
    exact ip_add pins s σ H _ _ v u Q I r1 r2 ⟨i, j, rfl, rfl, q⟩
  · cases h
    cases e
    exact ip_sub pins s σ H _ _ v u Q I r1 r2 ⟨i, j, rfl, rfl, q⟩
theorem aug2_int {o : Op} {x y d : D} (h : aug2 o x y = some d) : ∃ i j k, x = .int i ∧ y = .int j ∧ d = .int k := by
  cases o <;> cases x <;> first | (cases h; done) | skip
  all_goals (cases y <;> first | (cases h; done) | skip)
  · exact ⟨_, _, _, rfl, rfl, (Option.some.inj h).symm⟩
  · exact ⟨_, _, _, rfl, rfl, (Option.some.inj h).symm⟩
  · rename_i i j
    have h : (if mulOk i j = true then some (D.int (i * j)) else none) = some d := h
    split at h <;> cases h
    exact ⟨_, _, _, rfl, rfl, rfl⟩
  · rename_i i j
    have h : (if 0 < j ∧ j < 1073741824 then some (D.int (i / j)) else none) = some d := h
    split at h <;> cases h
    exact ⟨_, _, _, rfl, rfl, rfl⟩
  · rename_i i j
    have h : (if 0 < j then some (D.int (i % j)) else none) = some d := h
    split at h <;> cases h
    exact ⟨_, _, _, rfl, rfl, rfl⟩
/-- a read of a name, as a step -/
theorem rdV_in {β : Type} {g : D × Bool → M β} {Zok : β → MS → Prop} {Zerr : Nat → D → MS → Prop} (rel : Rel K O ms σ H) (G : End ((rdV i >>= g) ms) Zok Zerr) : ∃ v d O' ms', σ[i]? = some (some v) ∧ PostE K O ms σ H ms' O' H ∧ Rep K O' H v d ∧ End (g (d, false) ms') Zok Zerr := by
  have G := G.bind
  rw [rdV_run] at G
  rcases slot_cases ms[i]? with ⟨d, h⟩ | ⟨d, f, hf, h⟩ | h | h
  · rw [h] at G
    obtain ⟨v, e, r⟩ := rel.frz h
    exact ⟨v, d, O, ms, e, .refl rel, r, G⟩
  · rw [h] at G
    obtain ⟨a, e, q, _⟩ := rel.own h hf
    refine ⟨.ref a, d, _, ms.set i (some (d, .frz)), e, post_frz rel h hf e q, q.frozen, ?_⟩
    cases f with
    | frz => exact absurd rfl hf
    | own => exact G
    | bor => exact G
  · rw [h] at G; exact G.elim
  · rw [h] at G; exact G.elim
theorem s_aug {x : Str} {o : Op} {po : Operator} {f : M (D × Bool)} {pos' : Pos} (hN : X.N.Nodup) (hi : X.N[i]? = some x) (hx : Loc X.env.scope x) (he : PE X e (tM K XR W f)) (ho : ipOf o = some po) (hf : X.fn x = true ∨ X.env.scope.names.lookup x = some .local) :
    PS X (.AugAssign (.Name x pos') po e pos) (tS K XR W (do
    let p ← rdV i
    let q ← f
    let d ← liftO (aug2 o p.1 q.1)
    stV i d .frz
    pure .nx)) := by
  refine (ps_aug hN hi hx he (ip_ok ho) hf).weak ?_
  rintro D σ H ⟨O, ms, rel, G⟩
  obtain ⟨v, d, O1, ms1, hv, P1, r1, G1⟩ := rdV_in rel G
  refine ⟨v, hv, tM_inS rel P1.s G1 (fun d2 b2 ms2 v2 O2 H2 P2 PE2 R2 G2 => ?_)⟩
  obtain ⟨d3, e3, G3⟩ := liftO_in G2
  obtain ⟨x, y, k, rfl, rfl, rfl⟩ := aug2_int e3
  have ev : v = .int x := RepB.int (.inl r1)
  have ev2 : v2 = .int y := R2.int'
  obtain ⟨hb, hl, G4⟩ := stV_in G3
  refine ⟨x, y, k, ev, ev2, e3, ?_⟩
  exact (G4 : ZS K O ms σ H D .nx _) O2 _ H2 (post_store (b := false) rel P2 hb (Rep.int k))
theorem PE.ofVar {x : Str} (hN : X.N[i]? = some x) (hv : Vis X.env.scope x) (hd : (x == ("__debug__" : Str)) = false) (hcd : (x == ("__classdict__" : Str)) = false) : PE X (.Name x pos) (tVar i) := pe_var hN hv hd hcd
theorem hasV_in {β : Type} {g : Unit → M β} {Zok : β → MS → Prop} {Zerr : Nat → D → MS → Prop} (rel : Rel K O ms σ H) (G : End ((hasV i >>= g) ms) Zok Zerr) : ∃ a vs, σ[i]? = some (some (.ref a)) ∧ H a = some (.lst vs) ∧ End (g () ms) Zok Zerr := by
  have G : End (match ms[i]? with
    | some (some (.lst _, f)) => if f = Fl.frz then R.bad else R.ok () ms
    | _ => .bad) (fun a m => End (g a m) Zok Zerr) Zerr := G.bind
  cases h : ms[i]? with
  | none => rw [h] at G; exact G.elim
  | some o =>
    cases o with
    | none => rw [h] at G; exact G.elim
    | some p =>
      obtain ⟨d, f⟩ := p
      rw [h] at G
      cases d with
      | lst ds =>
        have G : End (if f = Fl.frz then R.bad else R.ok () ms) (fun a m => End (g a m) Zok Zerr) Zerr := G
        by_cases hf : f = .frz
        · rw [if_pos hf] at G; exact G.elim
        · rw [if_neg hf] at G
          obtain ⟨a, ha, ⟨ho, vs, es, e, e2, r⟩, _⟩ := rel.own h hf
          exact ⟨a, vs, ha, e2, G⟩
      | _ => exact (G : False).elim
theorem oInt_some {d : D} {k : Int} (h : oInt d = some k) : d = .int k := by
  cases d <;> first | (cases h; done) | skip
  cases h; rfl
/-- a name's list is written to at a place -/
theorem s_seti {x : Str} {ix : Exp} {f g : M (D × Bool)} {px p2 : Pos} (hN : X.N[i]? = some x) (hv : Vis X.env.scope x) (hd : (x == ("__debug__" : Str)) = false) (hcd : (x == ("__classdict__" : Str)) = false) (he : PE X e (tM X.K XR W f)) (hix : PE X ix (tM X.K XR W g))
    (ha : ∀ v, assign (.Subscript (.Name x px) ix p2) X.env v = (do
      let ov ← holding [v] (eval (.Name x px) X.env)
      let iv ← holding [v, ov] (eval ix X.env)
      standAt p2
      holding [v, ov, iv] (setItem ov iv v)
      release [v, ov, iv] [])) (hs : swapsWithSole [.Subscript (.Name x px) ix p2] e pos.line X.env = pure false) (hw : swappedStores [.Subscript (.Name x px) ix p2] e X.env = pure none)
    (h1 : (assignEach [.Subscript (.Name x px) ix p2] X.env).map (·.2) = [assign (.Subscript (.Name x px) ix p2) X.env]) :
    PS X (.Assign [.Subscript (.Name x px) ix p2] e pos) (tS X.K XR W (do
    let p ← f
    hasV i
    let q ← g
    let k ← liftO (oInt q.1)
    updL i fun xs => (ixN xs.length k).map fun j => (xs.set j p.1, ())
    pure .nx)) := by
  refine (ps_asg he (pg_sub (pe_var hN hv hd hcd) hix set_list ha) hs hw h1).weak ?_
  rintro D σ H ⟨O, ms, rel, G⟩
  refine tM_inS rel (.refl rel) G (fun d b ms1 v O1 H1 P1 PE1 R1 G1 => ?_)
  obtain ⟨O2, P2, r2⟩ := post_val rel PE1 R1
  obtain ⟨u, _, hu, _, G2⟩ := hasV_in P2.rel G1
  refine ⟨.ref u, hu, tM_inS rel P2.s G2 (fun d2 b2 ms3 v2 O3 H3 P3 PE3 R3 G3 => ?_)⟩
  obtain ⟨k, ek, G4⟩ := liftO_in G3
  have ek := oInt_some ek
  subst ek
  have ev2 : v2 = .int k := R3.int'
  obtain ⟨a, vs, ds, fl, es, y, h1, hf, ha, ho, hH, rl, eg, G5⟩ := updL_in P3.rel G4
  rw [hu] at ha
  cases ha
  obtain ⟨j, e1, e2⟩ := map_some eg
  cases e2
  have hj : L2.ixN vs.length k = some j := by rw [rl.length]; exact e1
  refine ⟨u, vs, k, j, rfl, ev2, hH, hj, ?_⟩
  have P6 := post_upd P3.rel h1 hf hu ho (rl.set j (r2.keep PE3.ext.keep))
  exact (G5 : ZS X.K O ms σ H D .nx _) O3 σ _ (P3.trans rel P6.s)
/-- o[i], by values -/
theorem get_list : PGet X (fun o i H Q => ∃ O a ds k d vs, o = .ref a ∧ i = .int k ∧ H a = some (.lst vs) ∧ RepL X.K O H vs ds ∧ atL ds k = some d ∧ ∀ w, Rep X.K O H w d → Q w H) := by
  intro pins s σ H o i ov iv Q I ro ri h
  obtain ⟨O, a, ds, k, d, vs, rfl, rfl, hH, rl, ea, q⟩ := h
  cases ro
  obtain ⟨t, rfl⟩ := ri
  obtain ⟨z, hz, rz⟩ := atL_get rl ea
  obtain ⟨its, r, pl, hsz⟩ := I.list (SqL.of hH)
  obtain ⟨j, h1, h2, h3, h4, h5⟩ := atI_get hz
  obtain ⟨w, ew, rw'⟩ := r.get h2
  have hl := r.length
  have hn := line63
  have fin : EP X pins σ Q w s := ⟨z, H, I, rw', q z rz⟩
  by_cases h0 : 0 ≤ k
  · have hj : k.toNat = j := by
      rw [seqIndex_of h0 h5] at h1
      exact Option.some.inj h1
    exact wpAny_getItem_list pl.isList h0 (by omega) (by rw [hj]; simpa using ew) fin
  · have hj : (k + (its.toArray.size : Int)).toNat = j := by
      rw [seqIndex_neg (by omega) h4] at h1
      rw [List.size_toArray, ← hl]
      exact Option.some.inj h1
    exact wpAny_getItem_list_neg pl.isList (by omega) (by rw [List.size_toArray] <;> omega) (by omega) (by rw [hj]; simpa using ew) fin
theorem s_augi {x : Str} {ix : Exp} {o : Op} {po : Operator} {f g : M (D × Bool)} {px p2 : Pos} (hN : X.N[i]? = some x) (hv : Vis X.env.scope x) (hd : (x == ("__debug__" : Str)) = false) (hcd : (x == ("__classdict__" : Str)) = false) (he : PE X e (tM X.K XR W f)) (hix : PE X ix (tM X.K XR W g))
    (ho : ipOf o = some po) (ha : ∀ ov iv new, augStore ix ov iv new = (do holding [new, ov, iv] (setItem ov iv new); release [new, ov, iv] []; pure .next)) :
    PS X (.AugAssign (.Subscript (.Name x px) ix p2) po e pos) (tS X.K XR W (do
    hasV i
    let q ← g
    let k ← liftO (oInt q.1)
    let old ← updL i fun xs => (atL xs k).map fun x => (xs, x)
    let p ← f
    let d ← liftO (aug2 o old p.1)
    updL i fun xs => (ixN xs.length k).map fun j => (xs.set j d, ())
    pure .nx)) := by
  refine (ps_augS (pe_var hN hv hd hcd) hix get_list he (ip_ok ho) set_list ha).weak ?_
  rintro D σ H ⟨O, ms, rel, G⟩
  obtain ⟨u, _, hu, _, G2⟩ := hasV_in rel G
  refine ⟨.ref u, hu, tM_inS rel (.refl rel) G2 (fun d2 b2 ms3 v2 O3 H3 P3 PE3 R3 G3 => ?_)⟩
  obtain ⟨k, ek, G4⟩ := liftO_in G3
  have ek := oInt_some ek
  subst ek
  have ev2 : v2 = .int k := R3.int'
  obtain ⟨a, vs, ds, fl, es, y, h1, hf, ha, hoo, hH, rl, eg, G5⟩ := updL_in P3.rel G4
  rw [hu] at ha
  cases ha
  obtain ⟨d, e1, e2⟩ := map_some eg
  cases e2
  have same : ms3.set i (some (Mi.D.lst ds, fl)) = ms3 := by
    obtain ⟨hl, e⟩ := List.getElem?_eq_some_iff.mp h1
    rw [← e]; exact List.set_getElem_self hl
  rw [same] at G5
  refine ⟨O3, u, ds, k, y, vs, rfl, ev2, hH, rl, e1, fun w rw1 => ?_⟩
  refine tM_inS rel P3 G5 (fun d4 b4 ms4 v4 O4 H4 P4 PE4 R4 G6 => ?_)
  obtain ⟨d5, e5, G7⟩ := liftO_in G6
  obtain ⟨x, z, r, rfl, rfl, rfl⟩ := aug2_int e5
  have ew : w = .int x := RepB.int (.inl rw1)
  have ev4 : v4 = .int z := R4.int'
  refine ⟨x, z, r, ew, ev4, e5, ?_⟩
  obtain ⟨a', vs', ds', fl', es', y', h1', hf', ha', ho', hH', rl', eg', G8⟩ := updL_in P4.rel G7
  rw [hu] at ha'
  cases ha'
  obtain ⟨j, e7, e8⟩ := map_some eg'
  cases e8
  have hj : L2.ixN vs'.length k = some j := by rw [rl'.length]; exact e7
  refine ⟨u, vs', k, j, rfl, ev2, hH', hj, ?_⟩
  have P6 := post_upd P4.rel h1' hf' hu ho' (rl'.set j (Rep.int r))
  exact (G8 : ZS X.K O ms σ H D .nx _) O4 σ _ (P4.trans rel P6.s)
end
end Mi

set_option Elab.async false
set_option linter.all false
set_option maxRecDepth 100000
set_option autoImplicit false
set_option maxHeartbeats 1000000
namespace Mi
open PySem PySem.Spec PyProof.Rows L2
section
variable {K : PySem.W.Frag} {XR : XRep} {W : WX} {O O' O0 O1 : Addr → Prop} {H H' H0 H1 : Hp} {B B' : Addr → Prop} {ms ms' ms0 ms1 : MS} {σ σ' σ0 σ1 : St} {i : Nat} {d : D} {f : Fl}
variable {X : Cx} {C : Calls} {e tg : Exp} {es : List Exp} {pos p : Pos} {st : PySem.Stmt} {rest a b body : List PySem.Stmt}
theorem s_while {c : Exp} {fc : M Bool} {fb : M Fw} (n : Nat) (hp : PassesOwn (model X.prog X.w) X.A X.env X.xe) (hc : PT X c (tT K XR W fc)) (hb : PSs X body (tS K XR W fb)) : PS X (.While c body [] pos) (tS K XR W (whN fc fb n)) := by
  refine (ps_while hp hc hb).weak ?_
  rintro D σ H ⟨O, ms, rel, G⟩
  refine ⟨fun m σ1 H1 => ∃ O1 ms1, PostS K O ms σ H ms1 O1 σ1 H1 ∧ End (whN fc fb m ms1) (ZS K O ms σ H D) (ZX K XR W O ms σ H), ⟨n, O, ms, .refl rel, G⟩, ?_⟩
  rintro m σ1 H1 ⟨O1, ms1, P1, G1⟩
  cases m with
  | zero => exact (G1 : False).elim
  | succ m =>
    refine tT_inS rel P1 G1 (fun b ms2 O2 H2 P2 G2 => ?_)
    cases b with
    | false =>
      rw [if_neg Bool.false_ne_true] at G2 ⊢
      exact (G2 : ZS K O ms σ H D .nx ms2) O2 σ1 H2 P2
    | true =>
      rw [if_pos rfl] at G2 ⊢
      refine ⟨fun σ3 H3 => ∃ O3 ms3, PostS K O ms σ H ms3 O3 σ3 H3 ∧ End (whN fc fb m ms3) (ZS K O ms σ H D) (ZX K XR W O ms σ H), fun σ3 H3 z => ⟨m, Nat.lt_succ_self m, z⟩, ?_⟩
      refine tS_in rel P2 G2 (fun fw ms3 O3 σ3 H3 P3 G3 => ?_)
      cases fw with
      | nx => exact ⟨O3, ms3, P3, G3⟩
      | ct => exact ⟨O3, ms3, P3, G3⟩
      | bk => exact (G3 : ZS K O ms σ H D .nx ms3) O3 σ3 H3 P3
      | rt d o => exact (G3 : ZS K O ms σ H D (.rt d o) ms3) O3 σ3 H3 P3
/-- the item has come: a step -/
theorem post_yld (rel0 : Rel K O0 ms0 σ0 H0) (P : PostS K O0 ms0 σ0 H0 ms O σ H) (k : ∀ a o, H a = some o → H' a = some o) : PostS K O0 ms0 σ0 H0 ms O σ H' := by
  have k0 : Keeps O H O H' := fun a o n h => ⟨n, k a o h⟩
  have rel2 : Rel K O ms σ H' := P.rel.more k (fun _ h => h) (fun _ _ n _ => n) fun a h => by
    obtain ⟨ws, e⟩ := P.rel.lists a h
    exact ⟨ws, k _ _ e⟩
  refine P.trans rel0 ⟨rel2, ⟨k0, fun a h _ => ⟨h, by
      obtain ⟨ws, e⟩ := P.rel.lists a h
      rw [e, k _ _ e]⟩, fun a h => by
        cases e : H a with
        | none => exact absurd e h
        | some o => rw [k a o e]; exact fun z => nomatch z⟩, .refl, fun j d h => ⟨⟨d, h⟩, rfl⟩⟩
theorem forL_cons {tgf : D → M Unit} {fb : M Fw} {x : D} {xs : List D} : forL tgf fb (x :: xs) = (tgf x >>= fun _ => fb >>= fun f => match f with
    | .bk => pure .nx
    | .rt d o => pure (.rt d o)
    | _ => forL tgf fb xs) := rfl
theorem s_for {iter : Exp} {t : T} {fi : M (List D)} {fb : M Fw} (hp : PassesOwn (model X.prog X.w) X.A X.env X.xe) (hc : X.calm = true) (hi : PI X tg iter (tI X.K XR W fi)) (hg : PG X tg (tG X.K (slotsT t) (setT t))) (hb : PSs X body (tS X.K XR W fb))
    (hs : ∀ x, foldedSetIterable iter X.env x = pure x) : PS X (.For tg iter body [] pos) (tS X.K XR W (do
    let xs ← fi
    forL (setT t) fb xs)) := by
  refine (ps_for hp hc hi hg hb hs).weak ?_
  rintro D σ H ⟨O, ms, rel, G⟩
  refine tI_inS rel (.refl rel) G (fun ds ms1 J O1 H1 P1 it G1 => ?_)
  obtain ⟨S, hS0, hSk, hSt⟩ := it
  refine ⟨fun i m σ' H' => m = ds.length - i ∧ i ≤ ds.length ∧ ∃ O' ms', PostS X.K O ms σ H ms' O' σ' H' ∧ S O' H' ∧ End (forL (setT t) fb (ds.drop i) ms') (ZS X.K O ms σ H D) (ZX X.K XR W O ms σ H),
    ⟨ds.length, by omega, Nat.zero_le _, O1, ms1, P1, hS0, by rw [List.drop_zero]; exact G1⟩, ?_⟩
  rintro i m σ2 H2 ⟨rfl, hil, O2, ms2, P2, hS, G2⟩
  obtain ⟨hgo, hstop⟩ := hSt O2 H2 (fun a h => P2.rel.some_of h) hS i
  by_cases hi : i < ds.length
  · obtain ⟨go, hy⟩ := hgo ds[i] (List.getElem?_eq_getElem hi)
    refine .inr ⟨go, fun σ' H' => ∃ O' ms', PostS X.K O ms σ H ms' O' σ' H' ∧ S O' H' ∧ End (forL (setT t) fb (ds.drop (i + 1)) ms') (ZS X.K O ms σ H D) (ZX X.K XR W O ms σ H), fun σ' H' z => ⟨ds.length - (i + 1), by omega, rfl, hi, z⟩, fun x H3 hyl => ?_⟩
    obtain ⟨ky, ry⟩ := hy x H3 hyl
    have P3 := post_yld rel P2 ky
    have S3 : S O2 H3 := hSk _ _ _ _ hS fun a o n h => ⟨n, ky a o h⟩
    have hd : ds.drop i = ds[i] :: ds.drop (i + 1) := List.drop_eq_getElem_cons hi
    rw [hd, forL_cons] at G2
    refine ⟨O2, ms2, ds[i], P3.rel, ry, End.imp (G2.bind.noerr fun c x m => setT_noerr t ds[i] ms2 c x m) (fun _ ms4 G4 σ4 PG => ?_) (fun _ _ _ z => z)⟩
    have P4 := P3.trans rel PG.post
    have rel3 : Rel X.K O2 ms2 σ2 H3 := P3.rel
    refine ⟨O2, ms4, P4.rel, End.imp G4.bind (fun fw m G5 O6 σ6 H6 P6 => ?_) (fun c x m h cls dx O' σ' H' p q => h cls dx O' σ' H' (P4.trans rel p) q)⟩
    have P7 := P4.trans rel P6
    have S6 : S O6 H6 := hSk _ _ _ _ S3 P6.ext.keep
    cases fw with
    | nx => exact ⟨O6, m, P7, S6, G5⟩
    | ct => exact ⟨O6, m, P7, S6, G5⟩
    | bk => exact (G5 : ZS X.K O ms σ H D .nx m) O6 σ6 H6 P7
    | rt d o => exact fun v r => (G5 : ZS X.K O ms σ H D (.rt d o) m) O6 σ6 H6 P7 v (r.baseS P4)
  · have hie : i = ds.length := by omega
    refine .inl ⟨hstop (by omega), ?_⟩
    rw [hie, List.drop_length] at G2
    exact (G2 : ZS X.K O ms σ H D .nx ms2) O2 σ2 H2 P2
end
end Mi

set_option Elab.async false
set_option linter.all false
set_option maxRecDepth 100000
set_option autoImplicit false
set_option maxHeartbeats 1000000
namespace Mi
open PySem PySem.Spec PyProof.Rows L2
/-! ### a tuple's items from the right -/
section
variable {prog : Program} {w : World} {A : Around} {E : Value → Shared → Prop} {s : Shared}
theorem adjust_rev (n : Nat) : Builtin.Slice.sliceAdjust none none (-1) (n : Int) = ((n : Int) - 1, -1) := by
  unfold Builtin.Slice.sliceAdjust
  rfl
theorem places_rev (n : Nat) : Builtin.Slice.slicePlaces ((n : Int) - 1) (-1) (-1) = n := by
  unfold Builtin.Slice.slicePlaces
  have h1 : ¬ ((-1 : Int) > 0) := by omega
  simp only [h1, if_false]
  rw [show (- -1 : Int) = 1 from rfl, Int.ediv_one]
  split <;> omega
theorem sliceApplied_rev {sl : Addr} {vs : Value} {n : Nat} {Q : Int × Int × Nat → Shared → Prop} (hs : s.heap.IsSliceOf sl .none .none vs) (ps : IsPart vs (some (-1)))
    (h : Q ((n : Int) - 1, -1, n) s) : wpAny (model prog w) A (Builtin.Slice.sliceApplied (.ref sl) (pure (n : Int))) Q E s := by
  obtain ⟨os, hos, hcs, hds⟩ := id hs
  unfold Builtin.Slice.sliceApplied Builtin.Slice.sliceFields
  refine wpAny_bind (wpAny_bind (wpAny_field hos hds (x := .none) rfl (wpAny_bind (wpAny_field hos hds (x := .none) rfl (wpAny_bind (wpAny_field hos hds (x := vs) rfl (wpAny_pure ?_)))))))
  refine wpAny_bind (HT.slicePart_ ps ?_)
  show wpAny _ _ (if ((-1 : Int) == 0) = true then _ else _) _ _ s
  rw [if_neg (by decide)]
  refine wpAny_bind (HT.slicePart_ .none (wpAny_bind (HT.slicePart_ .none (wpAny_bind (wpAny_pure ?_)))))
  show wpAny _ _ (match Builtin.Slice.sliceAdjust none none (-1) (n : Int) with | (lo, hi) => pure (lo, (-1 : Int), Builtin.Slice.slicePlaces lo hi (-1))) _ _ s
  rw [adjust_rev n]
  show wpAny _ _ (pure ((n : Int) - 1, (-1 : Int), Builtin.Slice.slicePlaces ((n : Int) - 1) (-1) (-1))) _ _ s
  rw [places_rev]
  exact wpAny_pure h
theorem pick_rev (xs : Array Value) : ((List.range xs.size).filterMap fun (m : Nat) => xs[(((xs.size : Nat) : Int) - 1 + (m : Int) * -1).toNat]?).toArray = xs.toList.reverse.toArray := by
  have e : (List.range xs.size).filterMap (fun (m : Nat) => xs[(((xs.size : Nat) : Int) - 1 + (m : Int) * -1).toNat]?) = ((List.range xs.size).map fun k => xs.size - 1 - k).filterMap (xs[·]?) := by
    rw [List.filterMap_map]
    congr 1
    funext m
    have : ((((xs.size : Nat) : Int) - 1 + (m : Int) * -1).toNat) = xs.size - 1 - m := by omega
    rw [this]
    rfl
  rw [e, PySem.W.krv_range, List.filterMap_reverse, PySem.W.krv_all]
theorem getItem_tuple_rev {t sl : Addr} {items : Array Value} {vs : Value} {Q : Value → Shared → Prop} (ht : IsTup s.heap t items) (hs : s.heap.IsSliceOf sl .none .none vs) (ps : IsPart vs (some (-1)))
    (h : Q (.ref s.heap.objs.size) { s with heap := s.heap.push { cls := .type "tuple", data := .seq items.toList.reverse.toArray } })
    (hsz : items.size ≤ sizeLine) : wpAny (model prog w) A (getItem (.ref t) (.ref sl)) Q E s := by
  have htake : sizeOk (.seq items.toList.reverse.toArray) := by
    show items.toList.reverse.toArray.size ≤ sizeLine
    rw [List.size_toArray, List.length_reverse, Array.length_toList]
    exact hsz
  obtain ⟨os, hos, hcs, hds⟩ := id hs
  have hTs : s.TypeIs (.ref sl) "slice" := ⟨os, hos, hcs⟩
  unfold getItem
  try with_reducible refine wpAny_holding ?_
  first | refine wpAny_bind (wpAny_pure ?_) | skip
  refine wpAny_bind (wpAny_sequenceKey ht.typeIs (by decide) ?_)
  refine wpAny_bind (wpAny_callSpecial?_slot (name := Str.ofString "__getitem__") ht.typeIs PyProof.Rows.slot_tuple_getitem
    (wpAny_call_entry PyProof.Rows.slot_tuple_getitem ht.typeIs entry_tuple_getitem ?_ (args_tuple_getitem _ _)))
  show wpAny _ _ (Builtin.Tuple.tupleItemsOf (.ref t) >>= _) _ _ s
  refine wpAny_bind (tupleItemsOf_ ht ?_)
  refine wpAny_bind (wpAny_typeOf hTs ?_)
  rw [if_pos (by decide)]
  refine wpAny_bind (sliceApplied_rev hs ps ?_)
  have hno : ¬ ((((items.size : Nat) : Int) - 1 == 0 && (-1 : Int) == 1 && items.size == items.size) = true) := by
    intro q
    rw [Bool.and_eq_true, Bool.and_eq_true] at q
    exact absurd q.1.2 (by decide)
  show wpAny _ _ (if ((((items.size : Nat) : Int) - 1) == 0 && (-1 : Int) == 1 && items.size == items.size) = true then _ else _) _ _ s
  rw [if_neg hno, pick_rev]
  first
    | exact wpAny_bind (m := Builtin.Tuple.tupleExact _) (wpAny_newObj_type (wpAny_pure ⟨_, rfl, wpAny_pure h⟩) htake)
    | exact wpAny_bind (m := Builtin.Tuple.tupleExact _) (wpAny_newObj_type (wpAny_bind (wpAny_pure (wpAny_pure ⟨_, rfl, wpAny_pure h⟩))) htake)
    | exact wpAny_bind (wpAny_bind (m := Builtin.Tuple.tupleExact _) (wpAny_newObj_type (wpAny_pure (wpAny_pure ⟨_, rfl, wpAny_pure h⟩)) htake))
    | exact wpAny_bind (wpAny_bind (m := Builtin.Tuple.tupleExact _) (wpAny_newObj_type (wpAny_pure ⟨_, rfl, wpAny_pure h⟩) htake))
end
section
variable {K : PySem.W.Frag} {XR : XRep} {W : WX} {O O' O0 O1 : Addr → Prop} {H H' H0 H1 : Hp} {B B' : Addr → Prop} {ms ms' ms0 ms1 : MS} {σ σ' σ0 σ1 : St} {i : Nat} {d : D} {f : Fl}
variable {X : Cx} {C : Calls} {e e1 e2 e3 tg : Exp} {es : List Exp} {pos p p1 p2 p3 : Pos}
theorem pe_revX {te : TE} {k : Nat} (he : PE X e te) : PE X (.Subscript e (.Slice none none (some (.UnaryOp .USub (.Constant (.int 1) k p1) p2)) p3) pos) (fun σ H Q => te σ H fun x H1 => ∃ a xs, x = .ref a ∧
    ((SqL X.K H1 a xs ∧ ∀ p, H1 p = none → Q (.ref p) (upd H1 p (.lst xs.reverse))) ∨ (SqT X.K H1 a xs ∧ ∀ p o, H1 p = none → o.dict = none → Q (.ref p) (upd H1 p (.frz o (.tup xs.reverse)))))) := by
  refine ⟨fun pins s σ H Q I h => ?_⟩
  refine Subscript_ (thn (he.run pins s σ H _ I h) fun v s1 ⟨x, H1, I1, r1, q1⟩ => ?_)
  obtain ⟨a, xs, ex, q⟩ := q1
  subst ex
  cases r1
  have hst : PO X (some (.UnaryOp .USub (.Constant (.int 1) k p1) p2)) (tPart (tUn (rU fun i => .int (-i)) (tC (.int 1)))) := po_some (pe_un un_neg pe_int)
  refine wpAny_Slice (thn (po_none.run pins s1 σ H1 (fun o H2 => o = none ∧ H2 = H1) I1 ⟨rfl, rfl⟩) fun vl s2 ⟨l, H2, I2, pl, el, e2⟩ => ?_)
  subst el e2
  refine thn (po_none.run pins s2 σ H2 (fun o H3 => o = none ∧ H3 = H2) I2 ⟨rfl, rfl⟩) fun vu s3 ⟨u, H3, I3, pu, eu, e3⟩ => ?_
  subst eu e3
  refine thn (hst.run pins s3 σ H3 (fun o H4 => o = some (-1) ∧ H4 = H3) I3 ⟨1, rfl, -1, rfl, rfl, rfl⟩) fun vs s4 ⟨o, H4, I4, ps, eo, e4⟩ => ?_
  subst eo e4
  have I5 : Inv X pins σ H4 { s4 with heap := s4.heap.push { cls := .type "slice", data := .fields #[vl, vu, vs] } } := I4.kept (t' := s4.toks) fun b ob q => Heap.get?_push_of_some _ q
  show wpAny (model X.prog X.w) X.A (subscriptTail e (.Slice none none (some (.UnaryOp .USub (.Constant (.int 1) k p1) p2)) p3) (.ref a) (.ref s4.heap.objs.size)) (EP X pins σ Q) X.xe { s4 with heap := s4.heap.push { cls := .type "slice", data := .fields #[vl, vu, vs] } }
  rcases q with ⟨hx, q⟩ | ⟨hx, q⟩
  · obtain ⟨its, r, ht, hz⟩ := I5.list hx
    have hlen := r.length
    refine tail_any (ops := [.ref a, .ref s4.heap.objs.size]) ht.isList.typeIs (PySem.slot_list_getitem.lookup) ?_ (by with_unfolding_all rfl)
    refine wpAny_getItem_list_slice ht.isList (Heap.IsSliceOf.new _ vl vu vs) pl pu ps (by decide) ?_ (by rw [List.size_toArray]; omega)
    rw [PySem.W.krv_pick]
    refine ⟨.ref _, _, I5.laid (t' := s4.toks) (o := .lst xs.reverse) (fun b ob q => Heap.get?_push_of_some _ q) (Nat.le_refl _) ?_, rfl, q _ (I5.hok.fresh (Nat.le_refl _))⟩
    exact ⟨by rw [List.length_reverse]; exact hz, _, 0, r.reverse, Heap.get?_push_size _ rfl⟩
  · obtain ⟨its, r, ht, hz⟩ := I5.tuple hx
    have hlen := r.length
    cases pl
    cases pu
    refine tail_any (ops := [.ref a, .ref s4.heap.objs.size]) ht.typeIs PyProof.Rows.slot_tuple_getitem.lookup ?_ (by with_unfolding_all rfl)
    refine getItem_tuple_rev ht (Heap.IsSliceOf.new _ .none .none vs) ps ?_ (by rw [List.size_toArray]; omega)
    refine ⟨.ref _, _, I5.laid (t' := s4.toks) (o := .frz { cls := .type "tuple", data := .seq its.toArray.toList.reverse.toArray } (.tup xs.reverse)) (fun b ob q => Heap.get?_push_of_some _ q) (Nat.le_refl _) ?_, rfl, q _ _ (I5.hok.fresh (Nat.le_refl _)) rfl⟩
    exact ⟨Heap.get?_push_size _ rfl, by rw [List.length_reverse]; exact hz, _, r.reverse, IsTup.new _ _⟩
theorem c_rev {k : Nat} {fa : M A} (ha : PE X e (tA X.K XR W fa)) : PE X (.Subscript e (.Slice none none (some (.UnaryOp .USub (.Constant (.int 1) k p1) p2)) p3) pos) (tM X.K XR W (do
    let x ← fa
    let dx ← rdA x
    match dx with
    | .lst xs => pure (.lst xs.reverse, true)
    | .tup xs => pure (.tup xs.reverse, false)
    | _ => fail)) := by
  refine (pe_revX ha).weak ?_
  rintro σ H Q ⟨O, ms, rel, G⟩
  refine tA_in rel (.refl rel) G fun x ms1 v O1 H1 P1 _ R1 G1 => ?_
  obtain ⟨dx, rx, G2⟩ := rdA_in P1.rel R1 G1
  cases dx with
  | lst xs =>
    obtain ⟨a, vs, rfl, h1, r1⟩ := rx.lst
    exact ⟨a, vs, rfl, .inl ⟨.inl (.inl h1), fun p hp => fin_in rel P1 G2 _ _ (prm_lst hp r1.reverse)⟩⟩
  | tup xs =>
    obtain ⟨a, vs, rfl, h1, r1⟩ := rx.tup
    exact ⟨a, vs, rfl, .inr ⟨h1, fun p o hp ho => fin_in rel P1 G2 _ _ (prm_tup (fun _ h => P1.rel.some_of h) hp ho r1.reverse)⟩⟩
  | _ => exact (G2 : False).elim
theorem t_chn {o p : Cm} {fa fb fc : M A} (hu : X.A.units + 64 < cLine) (ha : PE X e1 (tA X.K XR W fa)) (hb : PE X e2 (tA X.K XR W fb)) (hc : PE X e3 (tA X.K XR W fc))
    (hm : lastMarks [pyCm o, pyCm p] [e2, e3] = false) : PT X (.Compare e1 [pyCm o, pyCm p] [e2, e3] pos) (tT X.K XR W (tst (do
    let x ← fa
    let y ← fb
    let dx ← rdA x
    let dy ← rdA y
    let r ← liftO (cm2 o dx dy)
    if r then
      let z ← fc
      let dy ← rdA y
      let dz ← rdA z
      let q ← liftO (cm2 p dy dz)
      pure (.bl q, false)
    else pure (.bl false, false)))) := by
  refine (pt_chain (cm2_ok hu o) (cm2_ok hu p) ha hb hc hm).weak ?_
  rintro σ H Q ⟨O, ms, rel, G⟩
  simp only [tst, bind_assoc'] at G
  refine tA_in rel (.refl rel) G fun x ms1 v O1 H1 P1 _ R1 G1 => ?_
  refine tA_in rel P1 G1 fun y ms2 u O2 H2 P2 S2 R2 G2 => ?_
  obtain ⟨dx, rx, G3⟩ := rdA_in P2.rel (R1.keep S2 P1.rel) G2
  obtain ⟨dy, ry, G4⟩ := rdA_in P2.rel R2 G3
  obtain ⟨r, e, G5⟩ := liftO_in G4
  refine ⟨O2, dx, dy, r, rx, ry, e, r, rfl, ?_⟩
  cases r with
  | false =>
    rw [if_neg Bool.false_ne_true]
    exact ⟨false, rfl, (G5 : ZT X.K O ms σ H Q false ms2) O2 H2 P2⟩
  | true =>
    rw [if_pos rfl]
    simp only [if_true, bind_assoc'] at G5
    refine tA_in rel P2 G5 fun z ms3 w O3 H3 P3 S3 R3 G6 => ?_
    obtain ⟨dy', ry', G7⟩ := rdA_in P3.rel (R2.keep S3 P2.rel) G6
    obtain ⟨dz, rz, G8⟩ := rdA_in P3.rel R3 G7
    obtain ⟨q, e', G9⟩ := liftO_in G8
    exact ⟨O3, dy', dz, q, ry', rz, e', q, rfl, (G9 : ZT X.K O ms σ H Q q ms3) O3 H3 P3⟩
end
end Mi

set_option Elab.async false
set_option linter.all false
set_option maxRecDepth 100000
set_option autoImplicit false
set_option maxHeartbeats 1000000
namespace Mi
open PySem PySem.Spec PyProof.Rows L2
section
variable {K : PySem.W.Frag} {XR : XRep} {W : WX} {O O' O0 O1 : Addr → Prop} {H H' H0 H1 : Hp} {B B' : Addr → Prop} {ms ms' ms0 ms1 : MS} {σ σ' σ0 σ1 : St} {i : Nat} {d : D} {f : Fl}
variable {X : Cx} {C : Calls} {e e1 e2 e3 tg : Exp} {es : List Exp} {pos p p1 p2 p3 apos cpos : Pos}
/-! ### list(range(..)), tuple(range(..)) -/
theorem rg_rep {a b : Int} : RepL K O H (rgV a b) (rangeD a b) := by
  unfold rgV rangeD
  generalize (b - a).toNat = n
  generalize hl : List.range n = l
  clear hl
  induction l with
  | nil => exact .nil
  | cons x l ih => exact .cons (.int _) ih
theorem rg_ok1 {n : Int} {xs : List D} (h : rangeL [.int n] = some xs) : RgOk 0 n ∧ xs = rangeD 0 n := by
  have h : (if -(2 ^ 62) ≤ n ∧ n ≤ (LINE : Int) then some (rangeD 0 n) else none) = some xs := h
  split at h
  · rename_i q
    obtain ⟨q1, q2⟩ := q
    cases h
    have q2 : n ≤ 16000000 := q2
    exact ⟨⟨by omega, by omega, by omega, by omega, by omega⟩, rfl⟩
  · cases h
theorem rg_ok2 {a b : Int} {xs : List D} (h : rangeL [.int a, .int b] = some xs) : RgOk a b ∧ xs = rangeD a b := by
  have h : (if -(2 ^ 61) ≤ a ∧ a ≤ 2 ^ 61 ∧ -(2 ^ 61) ≤ b ∧ b ≤ 2 ^ 61 ∧ b - a ≤ (LINE : Int) then some (rangeD a b) else none) = some xs := h
  split at h
  · rename_i q
    obtain ⟨q1, q2, q3, q4, q5⟩ := q
    cases h
    have q5 : b - a ≤ 16000000 := q5
    exact ⟨⟨by omega, by omega, by omega, by omega, by omega⟩, rfl⟩
  · cases h
/-- tuple(range(..)), the new tuple by its object -/
theorem pe_tupRgX {te : St → Hp → (Int → Int → Hp → Prop) → Prop} (hc : X.calm = true) (hg : Gl X "tuple") (hm : X.mg "tuple" = none) (he : PRg X e te) (na : starEach [e] X.env = (false, eval e X.env) :: starEach [] X.env) : PE X (.Call (.Name "tuple" p) [e] [] pos) (fun σ H Q => te σ H fun a b H1 => RgOk a b ∧ ∀ q o, H1 q = none → o.dict = none → Q (.ref q) (upd H1 q (.frz o (.tup (rgV a b))))) := by
  refine ⟨fun pins s σ H Q I h => ?_⟩
  refine Call_ (ld_blt I hg hm boot_tuple (PyProof.Rows.callWith_type1 (args_cons (thn (he pins s σ H _ I h) fun x s1 ⟨r, a, b, t, u, v, H1, ex, hr, I1, ok, q⟩ => args_nil ?_) na) na))
  subst ex
  obtain ⟨b1, b2, b3, b4, b5⟩ := ok
  refine call_tuple_range (n := (b - a).toNat) (I1.ok.hd hc) hr (small_one b1 b2 b3 b4) (rangeSize_nat a b) b5 fun h' tk acc hk hi => ?_
  have I2 : Inv X pins σ H1 { s1 with heap := h', toks := tk } := I1.kept hk
  refine ⟨.ref h'.objs.size, _, I2.laid (t' := tk) (o := .frz { cls := .type "tuple", data := .seq acc } (.tup (rgV a b))) (fun c o e => Heap.get?_push_of_some _ e) (Nat.le_refl _) ⟨Heap.get?_push_size _ rfl, ?_, acc.toList, vals_rg hi, ?_⟩, rfl, q _ _ (I2.hok.fresh (Nat.le_refl _)) rfl⟩
  · rw [rgV_length, sizeLine_eq]; omega
  · rw [Array.toArray_toList]; exact IsTup.new _ _
theorem c_rg1 {t : Bool} {f : M (D × Bool)} {x : Str} (hx : x = if t then "tuple" else "list") (hc : X.calm = true) (hg : Gl X x) (hm : X.mg x = none) (hgr : Gl X "range") (hmr : X.mg "range" = none) (h : PE X e (tM X.K XR W f))
    (na1 : starEach [e] X.env = (false, eval e X.env) :: starEach [] X.env) (na : starEach [.Call (.Name "range" p2) [e] [] p3] X.env = (false, eval (.Call (.Name "range" p2) [e] [] p3) X.env) :: starEach [] X.env) :
    PE X (.Call (.Name x p) [.Call (.Name "range" p2) [e] [] p3] [] pos) (tM X.K XR W (do
    let ds ← (do
      let p ← f
      let ds ← M.ret []
      pure (p.1 :: ds))
    let xs ← liftO (rangeL ds)
    pure (if t then (.tup xs, false) else (.lst xs, true)))) := by
  have key : ∀ {σ : St} {H : Hp} {Q : VK} {R : Int → Int → Hp → Prop}, tM X.K XR W (do
      let ds ← (do
        let p ← f
        let ds ← M.ret []
        pure (p.1 :: ds))
      let xs ← liftO (rangeL ds)
      pure (if t then (.tup xs, false) else (.lst xs, true))) σ H Q →
      (∀ n O ms O1 ms1 H1, Rel X.K O ms σ H → PostE X.K O ms σ H ms1 O1 H1 → RgOk 0 n → ZM X.K O ms σ H Q (if t then (.tup (rangeD 0 n), false) else (.lst (rangeD 0 n), true)) ms1 → R 0 n H1) → tRg1 (tM X.K XR W f) σ H R := by
    rintro σ H Q R ⟨O, ms, rel, G⟩ k
    simp only [bind_assoc'] at G
    refine tM_in rel (.refl rel) G fun d b ms1 v O1 H1 P1 _ R1 G1 => ?_
    obtain ⟨xs, e1, G2⟩ := liftO_in (g := fun xs => (pure (if t then (.tup xs, false) else (.lst xs, true)) : M (D × Bool))) (show End ((liftO (rangeL [d]) >>= fun xs => (pure (if t then (.tup xs, false) else (.lst xs, true)) : M (D × Bool))) ms1) _ _ from G1)
    cases d <;> first | (cases e1; done) | skip
    rename_i n
    obtain ⟨ok, rfl⟩ := rg_ok1 e1
    exact ⟨n, R1.int', k n O ms O1 ms1 H1 rel P1 ok G2⟩
  cases t with
  | true =>
    subst hx
    refine (pe_tupRgX hc hg hm (prg_1 hgr hmr h na1) na).weak ?_
    intro σ H Q hq
    exact key hq fun n O ms O1 ms1 H1 rel P1 ok G => ⟨ok, fun q o hp ho => fin_in rel P1 G _ _ (prm_tup (fun _ h => P1.rel.some_of h) hp ho rg_rep)⟩
  | false =>
    subst hx
    refine (pe_listRg hc hg hm (prg_1 hgr hmr h na1) na).weak ?_
    intro σ H Q hq
    exact key hq fun n O ms O1 ms1 H1 rel P1 ok G => ⟨ok, fun q hp => fin_in rel P1 G _ _ (prm_lst hp rg_rep)⟩
/-! ### methods -/
theorem c_mu {m : Mu} {x : Str} {g : M (List D)} {T : Str} (hN : X.N[i]? = some x) (hv : Vis X.env.scope x) (hd : (x == ("__debug__" : Str)) = false) (hcd : (x == ("__classdict__" : Str)) = false)
    (hp : ∀ (r : V → List V → Hp → VK → Prop) (to : TE) (t : TA), MtR X (muId m) r → PE X (.Name x p) to → PA X es t → PE X e (tBM X.K "list" r to t)) (ha : PA X es (tF X.K XR W g)) : PE X e (tM X.K XR W (do
    hasV i
    let ds ← g
    let r ← updL i fun xs => mu1 m xs ds
    pure (r, false))) := by
  refine (hp _ _ _ (mu1_ok m) (pe_var hN hv hd hcd) ha).weak ?_
  rintro σ H Q ⟨O, ms, rel, G⟩
  obtain ⟨a, vs, hs, hH, G1⟩ := hasV_in rel G
  refine ⟨.ref a, hs, .inl ⟨rfl, vs, .inl (.inl hH)⟩, tF_in rel (.refl rel) G1 fun ds ms1 ws O1 H1 P1 _ R1 G2 => ?_⟩
  obtain ⟨a', us, ds', fl, el, r, h1, hf, ha', ho, hH', rl, em, G3⟩ := updL_in P1.rel G2
  rw [hs] at ha'
  cases ha'
  refine ⟨O1, a, us, ds', ds, el, r, rfl, ho, hH', rl, R1, em, fun v ws' rw1 rv => ?_⟩
  have P2 := post_upd P1.rel h1 hf hs ho rw1
  exact fin_raw (b := false) (P1.trans rel P2) G3 (rv.keep P2.ext.keep)
/-- .. without arguments -/
theorem c_mu0 {m : Mu} {x : Str} (hN : X.N[i]? = some x) (hv : Vis X.env.scope x) (hd : (x == ("__debug__" : Str)) = false) (hcd : (x == ("__classdict__" : Str)) = false)
    (hp : ∀ (r : V → List V → Hp → VK → Prop) (to : TE), MtR X (muId m) r → PE X (.Name x p) to → PE X e (tBM0 X.K "list" r to)) : PE X e (tM X.K XR W (do
    hasV i
    let ds ← M.ret []
    let r ← updL i fun xs => mu1 m xs ds
    pure (r, false))) := by
  refine (hp _ _ (mu1_ok m) (pe_var hN hv hd hcd)).weak ?_
  rintro σ H Q ⟨O, ms, rel, G⟩
  obtain ⟨a, vs, hs, hH, G1⟩ := hasV_in rel G
  refine ⟨.ref a, hs, .inl ⟨rfl, vs, .inl (.inl hH)⟩, ?_⟩
  obtain ⟨a', us, ds', fl, el, r, h1, hf, ha', ho, hH', rl, em, G3⟩ := updL_in (g := fun xs => mu1 m xs []) (k := fun r => (pure (r, false) : M (D × Bool))) rel G1
  rw [hs] at ha'
  cases ha'
  refine ⟨O, a, us, ds', [], el, r, rfl, ho, hH', rl, .nil, em, fun v ws' rw1 rv => ?_⟩
  have P2 := post_upd rel h1 hf hs ho rw1
  exact fin_raw (b := false) P2 G3 (rv.keep P2.ext.keep)
/-! ### x.index(y) -/
theorem firstIx_rep {xs : List D} {vs : List V} {y : D} {w : V} {j : Nat} (r : RepL K O H vs xs) (ry : Rep K O H w y) (fy : flatD y = true) (fxs : xs.all flatD = true) (h : firstIx y xs 0 = some j) :
    flatV w = true ∧ vs.all flatV = true ∧ ∃ z, vs[j]? = some z ∧ eqV z w = true ∧ ∀ (m : Nat) (z' : V), m < j → vs[m]? = some z' → eqV z' w = false := by
  obtain ⟨m, e, hm, ⟨z, hz1, hz2⟩, hn⟩ := firstIx_spec h
  rw [Nat.zero_add] at e
  subst e
  have fl : ∀ {k : Nat} {z : D}, xs[k]? = some z → flatD z = true := fun {k z} h => List.all_eq_true.mp fxs z (List.mem_of_getElem? h)
  obtain ⟨v, h1, h2⟩ := r.get hz1
  refine ⟨ry.flat fy, r.flat fxs, v, h1, by rw [eqV_D h2 ry (fl hz1) fy]; exact hz2, fun k z' hk hz' => ?_⟩
  obtain ⟨d, h3, h4⟩ := r.get' hz'
  rw [eqV_D h4 ry (fl h3) fy]
  exact hn k d hk h3
theorem mt_tupIx : MtR X "tuple.index" (fun x xs H Q => ∃ (a : Addr) (ys : List V) (y : V) (j : Nat) (z : V), x = V.ref a ∧ xs = [y] ∧ SqT X.K H a ys ∧ flatV y = true ∧ ys.all flatV = true ∧ ys[j]? = some z ∧ eqV z y = true ∧
    (∀ (m : Nat) (z' : V), m < j → ys[m]? = some z' → eqV z' y = false) ∧ Q (.int (j : Nat)) H) := by
  intro pins s σ H x xs v us Q I rx rxs h
  obtain ⟨a, ys, y, j, z, rfl, rfl, hs, fy, fys, hz, hzj, hno, q⟩ := h
  cases rx
  obtain ⟨uy, rfl, ry⟩ := vals1 rxs
  obtain ⟨its, rv, ⟨⟨cls, dd, data, sl⟩, ho, hc, n, hd⟩, hlen⟩ := I.tuple hs
  simp only at hc hd
  subst hc hd
  obtain ⟨u, hu, ru⟩ := rv.get hz
  obtain ⟨hjl, hje⟩ := List.getElem?_eq_some_iff.mp hu
  have hvl := rv.length
  have hj : j < its.toArray.size := by simpa using hjl
  have hsl := sizeLine_eq
  refine call_meets PySem.F.slot_tuple_index ⟨_, ho, rfl⟩ PySem.F.entry_tuple_index (PySem.F.args_tuple_index_2 _ _)
    (TI.tuple_indexAt a its.toArray n dd sl uy (eqU y) j hj ?_ ?_) ⟨ho, fun u' hu' => mem_eqAt ry fy rv fys u' (by simpa using hu'), ?_⟩
  · have e1 : its.toArray[j] = u := by simpa using hje
    rw [e1, eqU_of ru (flat_at fys hz)]
    exact hzj
  · intro m hm hmj
    have hml : m < its.length := by simpa using hm
    have hmy : m < ys.length := by omega
    have hy' : ys[m]? = some ys[m] := List.getElem?_eq_getElem hmy
    obtain ⟨u2, hu2, ru2⟩ := rv.get hy'
    obtain ⟨_, hme⟩ := List.getElem?_eq_some_iff.mp hu2
    have e1 : its.toArray[m] = u2 := by simpa using hme
    rw [e1, eqU_of ru2 (flat_at fys hy')]
    exact hno m _ hmj hy'
  · exact ⟨.int (j : Nat), H, I.tok _, ⟨_, rfl⟩, q⟩
/-- a list, or a tuple whose object is known -/
def tyX (K : PySem.W.Frag) (T : String) (x : V) (H : Hp) : Prop := ∃ a, x = .ref a ∧ ((T = "list" ∧ ∃ xs, SqL K H a xs) ∨ (T = "tuple" ∧ ∃ o xs, SqT K H a xs ∧ o.dict = none ∧ (H a = some (.frz o (.tup xs)) ∨ K.lookup a = some o)))
theorem tyX_is {pins : List (Addr × Obj)} {s : Shared} {T : String} {x : V} {v : Value} (I : Inv X pins σ H s) (r : RelV x v) (ty : tyX X.K T x H) :
    s.TypeIs v T ∧ ∀ a, v = .ref a → ∃ ob, s.heap.get? a = some ob ∧ ob.dict = none := by
  obtain ⟨a, rfl, h⟩ := ty
  cases r
  rcases h with ⟨rfl, xs, hq⟩ | ⟨rfl, o, xs, hq, hd, ho⟩
  · obtain ⟨its, _, pl, _⟩ := I.list hq
    refine ⟨pl.isList.typeIs, fun a e => ?_⟩
    cases e
    obtain ⟨o, n, e, c, hd, _⟩ := pl
    exact ⟨o, e, hd⟩
  · obtain ⟨its, _, pl, _⟩ := I.tuple hq
    refine ⟨pl.typeIs, fun b e => ?_⟩
    cases e
    rcases ho with ho | ho
    · obtain ⟨e, _⟩ := (show ObjOk X.prog X.w H s.heap a (.frz o (.tup xs)) from I.hok a _ ho)
      exact ⟨o, e, hd⟩
    · exact ⟨o, I.kIn a o ho, hd⟩
theorem pe_index {o : Exp} {to : TE} {t : TA} (ho : PE X o to) (ha : PA X (e :: es) t)
    (hbase : attributeBase o "index" X.env (eval o X.env) = eval o X.env)
    (hfew : ((backTo cpos (starEach (e :: es) X.env)).all (fun x => !x.1) && (backToKw cpos (keywordEach [] X.env)).all (fun x => x.1.isSome)
      && decide ((e :: es).length + ([] : List Keyword).length + (if ([] : List Keyword).isEmpty then 0 else 1) < 30)) = true)
    (hline : (apos.endLine == cpos.line) = true) (hs : starEach (e :: es) X.env = (false, eval e X.env) :: starEach es X.env) (hplain : (backTo cpos (starEach es X.env)).any (·.1) = false) :
    PE X (.Call (.Attribute o "index" apos) (e :: es) [] cpos) (fun σ H Q => to σ H fun x H1 => ∃ T, tyX X.K T x H1 ∧ t σ H1 fun xs H2 => ∃ (a : Addr) (ys : List V) (y : V) (j : Nat) (z : V), x = V.ref a ∧ xs = [y] ∧ ((T = "list" ∧ SqL X.K H2 a ys) ∨ (T = "tuple" ∧ SqT X.K H2 a ys)) ∧ flatV y = true ∧ ys.all flatV = true ∧ ys[j]? = some z ∧ eqV z y = true ∧
      (∀ (m : Nat) (z' : V), m < j → ys[m]? = some z' → eqV z' y = false) ∧ Q (.int (j : Nat)) H2) := by
  refine ⟨fun pins s σ H Q I h => ?_⟩
  refine wpAny_Call_method_late hbase hfew hline rfl (thn (ho.run pins s σ H _ I h) fun v s1 ⟨x, H1, I1, r1, T, ty, q1⟩ => ?_)
  obtain ⟨h1, h2⟩ := tyX_is I1 r1 ty
  obtain ⟨a, rfl, ty⟩ := ty
  have hA := ha.run cpos pins s1 σ H1 _ I1 q1
  rw [hs] at hA
  rcases ty with ⟨rfl, _⟩ | ⟨rfl, _⟩
  · refine ⟨"list", "list.index", PySem.F.plainAttrs_list, PySem.F.slot_list_index, PySem.F.type_list_index, h1, h2, ?_⟩
    rw [hs]
    refine Calls.callWith_builtin (by show (false || (backTo cpos (starEach es X.env)).any (·.1)) = false; rw [hplain] <;> rfl) (Calls.evalArgs_plain ?_)
    refine thn hA fun us s2 ⟨xs, H2, I2, r2, a', ys, y, j, z, ex, exs, sq, fy, fys, hz, hzj, hno, q2⟩ => ?_
    cases ex
    subst exs
    rcases sq with ⟨_, sq⟩ | ⟨z, _⟩
    · exact mt_index pins s2 σ H2 _ _ v us Q I2 r1 r2 ⟨a, ys, y, j, _, rfl, rfl, sq, fy, fys, hz, hzj, hno, q2⟩
    · exact absurd z (by decide)
  · refine ⟨"tuple", "tuple.index", PySem.F.plainAttrs_tuple, PySem.F.slot_tuple_index, PySem.F.type_tuple_index, h1, h2, ?_⟩
    rw [hs]
    refine Calls.callWith_builtin (by show (false || (backTo cpos (starEach es X.env)).any (·.1)) = false; rw [hplain] <;> rfl) (Calls.evalArgs_plain ?_)
    refine thn hA fun us s2 ⟨xs, H2, I2, r2, a', ys, y, j, z, ex, exs, sq, fy, fys, hz, hzj, hno, q2⟩ => ?_
    cases ex
    subst exs
    rcases sq with ⟨z, _⟩ | ⟨_, sq⟩
    · exact absurd z (by decide)
    · exact mt_tupIx pins s2 σ H2 _ _ v us Q I2 r1 r2 ⟨a, ys, y, j, _, rfl, rfl, sq, fy, fys, hz, hzj, hno, q2⟩
theorem c_index {o : Exp} {fa : M (D × Bool)} {g : M (List D)} (ho : PE X o (tM X.K XR W fa)) (ha : PA X (e :: es) (tF X.K XR W g))
    (hbase : attributeBase o "index" X.env (eval o X.env) = eval o X.env)
    (hfew : ((backTo cpos (starEach (e :: es) X.env)).all (fun x => !x.1) && (backToKw cpos (keywordEach [] X.env)).all (fun x => x.1.isSome)
      && decide ((e :: es).length + ([] : List Keyword).length + (if ([] : List Keyword).isEmpty then 0 else 1) < 30)) = true)
    (hline : (apos.endLine == cpos.line) = true) (hs : starEach (e :: es) X.env = (false, eval e X.env) :: starEach es X.env) (hplain : (backTo cpos (starEach es X.env)).any (·.1) = false) :
    PE X (.Call (.Attribute o "index" apos) (e :: es) [] cpos) (tM X.K XR W (do
    let p ← fa
    let _ ← liftO (mtOk .index p.1)
    let ds ← g
    let r ← liftO (me1 .index p.1 ds)
    pure (r, false))) := by
  refine (pe_index ho ha hbase hfew hline hs hplain).weak ?_
  rintro σ H Q ⟨O, ms, rel, G⟩
  refine tM_in rel (.refl rel) G fun d b ms1 v O1 H1 P1 _ R1 G1 => ?_
  obtain ⟨O2, P2, r2⟩ := post_val rel P1 R1
  obtain ⟨u, eu, G1⟩ := liftO_in G1
  have fin : ∀ {H2 : Hp} {O3 : Addr → Prop} {ms3 : MS} {w : V} {y r : D} {xs : List D} {ys : List V}, PostE X.K O ms σ H ms3 O3 H2 → RepL X.K O3 H2 ys xs → Rep X.K O3 H2 w y → ((if flatD y && xs.all flatD then (firstIx y xs 0).map fun k => D.int (k : Nat) else none) = some r) → ZM X.K O ms σ H Q (r, false) ms3 →
      ∃ (j : Nat) (z : V), flatV w = true ∧ ys.all flatV = true ∧ ys[j]? = some z ∧ eqV z w = true ∧ (∀ (m : Nat) (z' : V), m < j → ys[m]? = some z' → eqV z' w = false) ∧ Q (.int (j : Nat)) H2 := fun {H2 O3 ms3 w y r xs ys} P3 rl ry e G => by
    by_cases hf : (flatD y && xs.all flatD) = true
    · rw [if_pos hf] at e
      rw [Bool.and_eq_true] at hf
      obtain ⟨j, e1, e2⟩ := map_some e
      cases e2
      obtain ⟨f1, f2, z, f3, f4, f5⟩ := firstIx_rep rl ry hf.1 hf.2 e1
      exact ⟨j, z, f1, f2, f3, f4, f5, fin_val P3 G (.int _)⟩
    · rw [if_neg hf] at e; cases e
  have hd : (∃ xs, d = .lst xs) ∨ ∃ xs, d = .tup xs := by
    cases d <;> first | (cases eu; done) | skip
    · exact .inr ⟨_, rfl⟩
    · exact .inl ⟨_, rfl⟩
  · rcases hd with ⟨xs, rfl⟩ | ⟨xs, rfl⟩
    · obtain ⟨a, ys, rfl, h1, q1⟩ := RepB.lst (.inl r2)
      refine ⟨"list", ⟨a, rfl, .inl ⟨rfl, ys, .inl (.inl h1)⟩⟩, tF_in rel P2 G1 fun ds ms2 vs O3 H2 P3 S3 R3 G3 => ?_⟩
      obtain ⟨r, e, G5⟩ := liftO_in G3
      obtain ⟨a', ys', ex, h1', q1'⟩ := RepB.lst (.inl (r2.keep S3.ext.keep))
      cases ex
      match ds, R3, e with
      | [y], .cons (v := w) ry .nil, e =>
        obtain ⟨j, z, f1, f2, f3, f4, f5, f6⟩ := fin P3 q1' ry e G5
        exact ⟨a, ys', w, j, z, rfl, rfl, .inl ⟨rfl, .inl (.inl h1')⟩, f1, f2, f3, f4, f5, f6⟩
      | [], _, e => cases e
      | _ :: _ :: _, _, e => cases e
    · obtain ⟨a, ys, o, rfl, h1, q1, hd, ho⟩ := RepB.tupx (.inl r2)
      refine ⟨"tuple", ⟨a, rfl, .inr ⟨rfl, o, ys, h1, hd, ho⟩⟩, tF_in rel P2 G1 fun ds ms2 vs O3 H2 P3 S3 R3 G3 => ?_⟩
      obtain ⟨r, e, G5⟩ := liftO_in G3
      obtain ⟨a', ys', ex, h1', q1'⟩ := RepB.tup (.inl (r2.keep S3.ext.keep))
      cases ex
      match ds, R3, e with
      | [y], .cons (v := w) ry .nil, e =>
        obtain ⟨j, z, f1, f2, f3, f4, f5, f6⟩ := fin P3 q1' ry e G5
        exact ⟨a, ys', w, j, z, rfl, rfl, .inr ⟨rfl, h1'⟩, f1, f2, f3, f4, f5, f6⟩
      | [], _, e => cases e
      | _ :: _ :: _, _, e => cases e
end
end Mi

set_option Elab.async false
set_option linter.all false
set_option maxRecDepth 100000
set_option autoImplicit false
set_option maxHeartbeats 4000000
namespace Mi
open PySem PySem.Spec PyProof.Rows L2
section
variable {XR : XRep} {W : WX} {O O' O0 : Addr → Prop} {H H' : Hp} {ms : MS} {σ : St} {K : PySem.W.Frag} {X : Cx} {e : Exp} {es : List Exp} {apos cpos : Pos}
/-! ### how often y stands in a list -/
theorem mt_lcnt : MtR X "list.count" (fun x xs H Q => ∃ (a : Addr) (ys : List V) (y : V), x = V.ref a ∧ xs = [y] ∧ SqL X.K H a ys ∧ flatV y = true ∧ ys.all flatV = true ∧ Q (.int ((ys.countP fun z => eqV z y : Nat) : Int)) H) := by
  intro pins s σ H x xs v us Q I rx rxs h
  obtain ⟨a, ys, y, rfl, rfl, hs, fy, fys, q⟩ := h
  cases rx
  obtain ⟨uy, rfl, ry⟩ := vals1 rxs
  obtain ⟨its, rv, pl, hlen⟩ := I.list hs
  obtain ⟨⟨cls, dd, data, sl⟩, n, ho, hc, hdn, hd⟩ := pl
  simp only at hc hd
  subst hc hd
  have cnt : ∀ {ys : List V} {us : List Value}, Vals ys us → ys.all flatV = true → us.countP (eqU y) = ys.countP fun z => eqV z y := by
    intro ys us rv
    induction rv with
    | nil => intro _; rfl
    | cons r t ih =>
      intro f
      rw [List.all_cons, Bool.and_eq_true] at f
      rw [List.countP_cons, List.countP_cons, ih f.2, eqU_of r f.1]
  refine call_meets PySem.F.slot_list_count ⟨_, ho, rfl⟩ PySem.F.entry_list_count (PySem.F.args_list_count_2 _ _)
    (SeqAt.list_countAt a its.toArray n dd sl uy (eqU y)) ⟨ho, fun u' hu' => mem_eqAt ry fy rv fys u' (by simpa using hu'), ?_⟩
  have e1 : its.toArray.toList.countP (eqU y) = ys.countP fun z => eqV z y := cnt rv fys
  rw [e1]
  exact ⟨.int ((ys.countP fun z => eqV z y : Nat) : Int), H, I.tok _, ⟨_, rfl⟩, q⟩
theorem countP_rep {xs : List D} {vs : List V} {y : D} {w : V} (r : RepL K O H vs xs) (ry : Rep K O H w y) (fy : flatD y = true) (fxs : xs.all flatD = true) : vs.countP (fun z => eqV z w) = xs.countP fun z => eqD z y := by
  induction xs generalizing vs with
  | nil => cases r; rfl
  | cons x xs ih =>
    cases r with
    | cons r t =>
      rw [List.all_cons, Bool.and_eq_true] at fxs
      rw [List.countP_cons, List.countP_cons, ih t fxs.2, eqV_D r ry fxs.1 fy]
theorem me1_count {d r : D} {ds : List D} (q : me1 .count d ds = some r) : ∃ xs y, d = .lst xs ∧ ds = [y] ∧ flatD y = true ∧ xs.all flatD = true ∧ r = .int ((xs.countP fun z => eqD z y : Nat) : Int) := by
  cases d <;> try (cases q; done)
  rename_i xs
  match ds, q with
  | [y], q =>
    have q : (if flatD y && xs.all flatD then some (D.int ((xs.countP fun z => eqD z y : Nat) : Int)) else none) = some r := q
    split at q
    · rename_i hf
      rw [Bool.and_eq_true] at hf
      cases q
      exact ⟨xs, y, rfl, rfl, hf.1, hf.2, rfl⟩
    · cases q
  | [], q => cases q
  | _ :: _ :: _, q => cases q
theorem c_count {o : Exp} {fa : M (D × Bool)} {g : M (List D)} (ho : PE X o (tM X.K XR W fa)) (ha : PA X (e :: es) (tF X.K XR W g))
    (hbase : attributeBase o "count" X.env (eval o X.env) = eval o X.env)
    (hfew : ((backTo cpos (starEach (e :: es) X.env)).all (fun x => !x.1) && (backToKw cpos (keywordEach [] X.env)).all (fun x => x.1.isSome)
      && decide ((e :: es).length + ([] : List Keyword).length + (if ([] : List Keyword).isEmpty then 0 else 1) < 30)) = true)
    (hline : (apos.endLine == cpos.line) = true) (hs : starEach (e :: es) X.env = (false, eval e X.env) :: starEach es X.env) (hplain : (backTo cpos (starEach es X.env)).any (·.1) = false) :
    PE X (.Call (.Attribute o "count" apos) (e :: es) [] cpos) (tM X.K XR W (do
    let p ← fa
    let _ ← liftO (mtOk .count p.1)
    let ds ← g
    let r ← liftO (me1 .count p.1 ds)
    pure (r, false))) := by
  refine (pe_bm PySem.F.plainAttrs_list PySem.F.slot_list_count PySem.F.type_list_count mt_lcnt ho ha hbase hfew hline hs hplain).weak ?_
  rintro σ H Q ⟨O, ms, rel, G⟩
  refine tM_in rel (.refl rel) G fun d b ms1 v O1 H1 P1 _ R1 G1 => ?_
  obtain ⟨O2, P2, r2⟩ := post_val rel P1 R1
  obtain ⟨u, eu, G1⟩ := liftO_in G1
  have hl : ∃ xs, d = .lst xs := by
    cases d <;> first | (cases eu; done) | exact ⟨_, rfl⟩
  obtain ⟨xs0, rfl⟩ := hl
  obtain ⟨a, ys, ex, h1, q1⟩ := RepB.lst (.inl r2)
  subst ex
  refine ⟨.inl ⟨rfl, ys, .inl (.inl h1)⟩, tF_in rel P2 G1 fun ds ms2 vs O3 H2 P3 S3 R3 G3 => ?_⟩
  obtain ⟨r, e, G5⟩ := liftO_in G3
  obtain ⟨xs, y, ed, rfl, f1, f2, rfl⟩ := me1_count e
  cases ed
  obtain ⟨a', ys', ex, h1', q1'⟩ := RepB.lst (.inl (r2.keep S3.ext.keep))
  cases ex
  cases R3 with
  | cons ry rn =>
    cases rn
    exact ⟨a, ys', _, rfl, rfl, .inl (.inl h1'), ry.flat f1, q1'.flat f2, by rw [countP_rep q1' ry f1 f2]; exact fin_val P3 G5 (.int _)⟩
end
end Mi

set_option Elab.async false
set_option linter.all false
set_option maxRecDepth 100000
set_option autoImplicit false
set_option maxHeartbeats 1000000
namespace Mi
open PySem PySem.Spec PyProof.Rows L2
section
variable {K : PySem.W.Frag} {XR : XRep} {W : WX} {O O' O0 O1 : Addr → Prop} {H H' H0 H1 : Hp} {B B' : Addr → Prop} {ms ms' ms0 ms1 : MS} {σ σ' σ0 σ1 : St} {i : Nat} {d : D} {f : Fl}
variable {X : Cx} {C : Calls} {e e1 e2 e3 tg : Exp} {es : List Exp} {pos p p1 p2 p3 apos cpos : Pos}
/-! ### isinstance -/
def tyD : D → Option String
  | .non => some "NoneType"
  | .bl _ => some "bool"
  | .int _ => some "int"
  | .str _ => some "str"
  | .tup _ => some "tuple"
  | .tupn _ => some "tuple"
  | .lst _ => some "list"
  | .scr _ => some "list"
  | .exc _ _ => none
def tyName : Ty → Option String
  | .int => some "int"
  | .bool => some "bool"
  | .str => some "str"
  | .tuple => some "tuple"
  | .list => some "list"
  | _ => none
theorem RepB.tyx {v : V} (r : RepB K O H v d) {t : String} (h : tyD d = some t) : TyX K H v (.type t) := by
  cases d with
  | non => cases h; rw [r.non]; exact .base .non
  | bl b => cases h; rw [r.bl]; exact .base (.bl _)
  | int b => cases h; rw [r.int]; exact .base (.int _)
  | str b => cases h; rw [r.str]; exact .base (.str _)
  | tup xs =>
    cases h
    rcases r with r | ⟨a, e, ho, vs, es, e2, h, q⟩
    · cases r with
      | tup n h d q => exact .fTuple h
      | tupK a b d c e f q => exact .kTuple a b
    · cases e2
  | tupn xs =>
    cases h
    rcases r with r | ⟨a, e, ho, vs, es, e2, h, q⟩
    · cases r with
      | tupn n h q => exact .base (.tup h)
    · cases e2
  | lst xs =>
    cases h
    obtain ⟨a, vs, rfl, h, _⟩ := r.lst
    exact .base (.lst h)
  | scr xs =>
    cases h
    rcases r with r | ⟨a, e, ho, vs, es, e2, h, q⟩
    · cases r with
      | scr n h => exact .base (.frz h)
      | scrK a b c d e f => exact .kList a b
    · cases e2
  | exc c x => cases h
def tyTab : List (String × String × Bool) := [("NoneType", "int", false), ("NoneType", "bool", false), ("NoneType", "str", false), ("NoneType", "tuple", false), ("NoneType", "list", false),
  ("bool", "int", true), ("bool", "bool", true), ("bool", "str", false), ("bool", "tuple", false), ("bool", "list", false),
  ("int", "int", true), ("int", "bool", false), ("int", "str", false), ("int", "tuple", false), ("int", "list", false),
  ("str", "int", false), ("str", "bool", false), ("str", "str", true), ("str", "tuple", false), ("str", "list", false),
  ("tuple", "int", false), ("tuple", "bool", false), ("tuple", "str", false), ("tuple", "tuple", true), ("tuple", "list", false),
  ("list", "int", false), ("list", "bool", false), ("list", "str", false), ("list", "tuple", false), ("list", "list", true)]
theorem tyTab_ok : tyTab.all (fun q => kitB q.1 q.2.1 == some q.2.2) = true := by decide +kernel
theorem kit_in {a b : String} {r : Bool} (h : (a, b, r) ∈ tyTab) : PySem.W.kitOne K (.type a) (.type b) = some r :=
  kit_ty (eq_of_beq (List.all_eq_true.mp tyTab_ok _ h))
theorem kit_D {sub : Nat → Nat → Bool} {t : Ty} {a b : String} {r : Bool} (h : isT sub t d = some r) (ha : tyD d = some a) (hb : tyName t = some b) : PySem.W.kitOne K (.type a) (.type b) = some r := by
  cases t <;> first | (cases hb; done) | skip
  all_goals (cases d <;> first | (cases h; done) | (cases ha; done) | skip)
  all_goals (cases ha; cases hb; cases h; exact kit_in (by dsimp only; decide))
def tysT (K : PySem.W.Frag) : List String → TA
  | [] => tNil
  | t :: ts => tCons (tC (.ty t)) (tysT K ts)
theorem tysT_run : ∀ {ts : List String} {σ : St} {H : Hp} {Q : List V → Hp → Prop}, Q (ts.map V.ty) H → tysT K ts σ H Q
  | [], σ, H, Q, h => h
  | t :: ts, σ, H, Q, h => by
    show tC (.ty t) σ H fun x H1 => tysT K ts σ H1 fun xs H2 => Q (x :: xs) H2
    exact tysT_run (ts := ts) h
theorem c_typ {x : Str} {T : String} (hg : Gl X x) (hm : X.mg x = none) (hv : bootBuiltins x = some (.type T)) (hn : x ≠ "__name__") (hd : (x == ("__debug__" : Str)) = false) : PE X (.Name x pos) (tC (.ty T)) :=
  ⟨fun pins s σ H Q I h => ld_blt I hg hm hv ⟨.ty T, H, I, rfl, h⟩ hn hd⟩
/-- the names of types -/
def nmTy : Ty → Option Str
  | .int => some "int"
  | .bool => some "bool"
  | .str => some "str"
  | .tuple => some "tuple"
  | .list => some "list"
  | _ => none
theorem boot_ty {t : Ty} {x : Str} {T : String} (h : nmTy t = some x) (h2 : tyName t = some T) : bootBuiltins x = some (.type T) ∧ x ≠ "__name__" ∧ (x == ("__debug__" : Str)) = false := by
  cases t <;> first | (cases h; done) | skip
  all_goals (cases h; cases h2)
  · exact ⟨boot_int, by decide, by decide⟩
  · exact ⟨boot_bool, by decide, by decide⟩
  · exact ⟨boot_str, by decide, by decide⟩
  · exact ⟨boot_tuple, by decide, by decide⟩
  · exact ⟨boot_list, by decide, by decide⟩
theorem tyName_of {t : Ty} {x : Str} (h : nmTy t = some x) : ∃ T, tyName t = some T := by
  cases t <;> first | (cases h; done) | exact ⟨_, rfl⟩
theorem c_isi1 {sub : Nat → Nat → Bool} {t : Ty} {x : Str} {fa : M A} (hgi : Gl X "isinstance") (hmi : X.mg "isinstance" = none) (hx : nmTy t = some x) (hg : Gl X x) (hm : X.mg x = none) (ha : PE X e (tA X.K XR W fa))
    (he : starEach [e, .Name x p2] X.env = (false, eval e X.env) :: starEach [.Name x p2] X.env) (hpl : (backTo pos (starEach [.Name x p2] X.env)).any (·.1) = false) (he2 : starEach [.Name x p2] X.env = (false, eval (.Name x p2) X.env) :: starEach [] X.env) :
    PE X (.Call (.Name "isinstance" p) [e, .Name x p2] [] pos) (tM X.K XR W (do
    let x ← fa
    let d ← rdA x
    let b ← liftO (isAny sub d [t])
    pure (.bl b, false))) := by
  obtain ⟨T, hT⟩ := tyName_of hx
  obtain ⟨hv, hn, hd⟩ := boot_ty hx hT
  refine (pe_callB call_isi hgi hmi boot_isinstance (pa_cons ha (pa_cons (c_typ hg hm hv hn hd) pa_nil he2) he) (by decide) (by decide) he hpl).weak ?_
  rintro σ H Q ⟨O, ms, rel, G⟩
  refine tA_in rel (.refl rel) G fun x ms1 v O1 H1 P1 _ R1 G1 => ?_
  obtain ⟨d, rd, G2⟩ := rdA_in P1.rel R1 G1
  obtain ⟨b, e1, G3⟩ := liftO_in G2
  have hb : isT sub t d = some b := by
    have e1 : (match isT sub t d with
      | none => none
      | some true => some true
      | some false => some false) = some b := e1
    cases q : isT sub t d with
    | none => rw [q] at e1; cases e1
    | some r => rw [q] at e1; cases r <;> exact e1
  have hda : ∃ a, tyD d = some a := by
    cases d with
    | exc c x =>
      cases t <;> first | (cases hx; done) | (cases hb; done)
    | _ => exact ⟨_, rfl⟩
  obtain ⟨a, hda⟩ := hda
  exact ⟨v, .ty T, .type a, .type T, b, rfl, .ty T, rd.tyx hda, kit_D hb hda hT, fin_val P1 G3 (.bl b)⟩
theorem tyNames_of : ∀ {ts : List Ty} {b : Bool} {sub : Nat → Nat → Bool} {a : String} {Ts : List String}, isAny sub d ts = some b → tyD d = some a → ts.map tyName = Ts.map some → PySem.W.kitAny K (.type a) (Ts.map Value.type) = some b
  | [], b, sub, a, Ts, h, ha, ht => by
    cases Ts with
    | nil => exact h
    | cons _ _ => cases ht
  | t :: ts, b, sub, a, Ts, h, ha, ht => by
    cases Ts with
    | nil => cases ht
    | cons T Ts =>
      rw [List.map_cons, List.map_cons] at ht
      injection ht with h1 h2
      have h : (match isT sub t d with
        | none => none
        | some true => some true
        | some false => isAny sub d ts) = some b := h
      cases q : isT sub t d with
      | none => rw [q] at h; cases h
      | some r =>
        rw [q] at h
        refine kitAny_cons (kit_D q ha h1) (fun hr => ?_) (fun hr => ?_)
        · subst hr
          exact tyNames_of h ha h2
        · subst hr
          exact (Option.some.inj h).symm
theorem clsV_tys : ∀ Ts : List String, Paired ClsV (Ts.map V.ty) (Ts.map Value.type)
  | [] => .nil
  | T :: Ts => .cons (.ty T) (clsV_tys Ts)
theorem c_isiT {sub : Nat → Nat → Bool} {ts : List Ty} {Ts : List String} {fa : M A} {k : Nat} (hgi : Gl X "isinstance") (hmi : X.mg "isinstance" = none) (ht : ts.map tyName = Ts.map some) (hs : PA X es (tysT X.K Ts)) (hl : Ts.length ≤ 1000) (hne : ts ≠ []) (ha : PE X e (tA X.K XR W fa))
    (he : starEach [e, .Tuple es k p2] X.env = (false, eval e X.env) :: starEach [.Tuple es k p2] X.env) (hpl : (backTo pos (starEach [.Tuple es k p2] X.env)).any (·.1) = false) (he2 : starEach [.Tuple es k p2] X.env = (false, eval (.Tuple es k p2) X.env) :: starEach [] X.env) :
    PE X (.Call (.Name "isinstance" p) [e, .Tuple es k p2] [] pos) (tM X.K XR W (do
    let x ← fa
    let d ← rdA x
    let b ← liftO (isAny sub d ts)
    pure (.bl b, false))) := by
  refine (pe_callB call_isiT hgi hmi boot_isinstance (pa_cons ha (pa_cons (pe_tup hs) pa_nil he2) he) (by decide) (by decide) he hpl).weak ?_
  rintro σ H Q ⟨O, ms, rel, G⟩
  refine tA_in rel (.refl rel) G fun x ms1 v O1 H1 P1 _ R1 G1 => ?_
  obtain ⟨d, rd, G2⟩ := rdA_in P1.rel R1 G1
  obtain ⟨b, e1, G3⟩ := liftO_in G2
  have hsz : (Ts.map V.ty).length ≤ sizeLine := by rw [List.length_map, sizeLine_eq]; omega
  refine tysT_run ⟨hsz, fun q hq => ?_⟩
  have hda' : ∃ a, tyD d = some a := by
    cases d with
    | exc c x =>
      cases ts with
      | nil => exact absurd rfl hne
      | cons t ts =>
        cases Ts with
        | nil => cases ht
        | cons T Ts =>
          have ht1 : tyName t = some T := (List.cons.inj ht).1
          have e1 : (match isT sub t (.exc c x) with
            | none => none
            | some true => some true
            | some false => isAny sub (.exc c x) ts) = some b := e1
          cases t <;> first | (cases ht1; done) | (cases e1; done)
    | _ => exact ⟨_, rfl⟩
  obtain ⟨a, hda⟩ := hda'
  have k0 : Keeps O1 H1 O1 (upd H1 q (.tup (Ts.map V.ty))) := fun b o n h => ⟨n, upd_more hq b o h⟩
  have rd2 : RepB X.K O1 (upd H1 q (.tup (Ts.map V.ty))) v d := by
    rcases rd with rd | ⟨a, e, ho, vs, es, e2, h, r⟩
    · exact .inl (rd.keep k0)
    · exact .inr ⟨a, e, ho, vs, es, e2, upd_more hq _ _ h, r.keep k0⟩
  have P2 := post_yld rel P1.s (upd_more (o := HO.tup (Ts.map V.ty)) hq)
  have P3 : PostE X.K O ms σ H ms1 O1 (upd H1 q (.tup (Ts.map V.ty))) := ⟨P2.rel, P2.ext, P2.sub, fun i d h => (P2.bor i d h).1⟩
  exact ⟨v, q, Ts.map V.ty, .type a, Ts.map Value.type, b, rfl, upd_same, clsV_tys Ts, rd2.tyx hda, tyNames_of e1 hda ht, fin_val P3 G3 (.bl b)⟩
/-! ### global numbers -/
theorem c_glb {x : Str} {d : D} {v : V} {u : Value} (hg : Gl X x) (hm : X.mg x = some u) (r : RelV v u) (rd : ∀ O H, Rep K O H v d) (hd : (x == ("__debug__" : Str)) = false) : PE X (.Name x pos) (tM K XR W (do
    let d ← liftO (some d)
    pure (d, false))) := by
  refine (pe_glob hg hm r hd).weak ?_
  rintro σ H Q ⟨O, ms, rel, G⟩
  exact (G : ZM K O ms σ H Q (d, false) ms) v O H (.refl rel) (rd O H)
/-! ### ranges in for -/
theorem range1 {n : Int} {xs : List D} (h : rangeO [.int n] = some xs) : -(2 ^ 62) ≤ n ∧ n < 2 ^ 62 ∧ xs = rangeD 0 n := by
  have h : (if -(2 ^ 61) ≤ n ∧ n ≤ 2 ^ 61 then some (rangeD 0 n) else none) = some xs := h
  split at h
  · rename_i q
    cases h
    exact ⟨by omega, by omega, rfl⟩
  · cases h
theorem i_range1 (hg : Gl X "range") (hm : X.mg "range" = none) {g : M (List D)} (ha : PA X [e] (tF X.K XR W g)) (hs : starEach [e] X.env = [(false, eval e X.env)]) (hl : ∀ m ds m', g m = .ok ds m' → ds.length = 1) : PI X tg (.Call (.Name "range" p) [e] [] pos) (tI X.K XR W (do
    let ds ← g
    liftO (rangeO ds))) := by
  refine (pi_range1 hg hm ha hs).weak ?_
  rintro σ H R ⟨O, ms, rel, G⟩
  have hl1 : ∀ ds m', g ms = .ok ds m' → ds.length = 1 := fun ds m' h => hl ms ds m' h
  have G := G.bind
  refine ⟨O, ms, rel, ?_⟩
  unfold End at G ⊢
  cases h : g ms with
  | bad => rw [h] at G; exact G
  | err c x m => rw [h] at G; exact G
  | ok ds m =>
    rw [h] at G
    have hl2 := hl1 ds m h
    intro vs O1 H1 P1 R1
    match ds, hl2, R1 with
    | [d], _, .cons (v := v) rv .nil =>
      have G : End (liftO (rangeO [d]) m) (ZI X.K O ms σ H R) (ZE X.K XR W O ms σ H) := G
      obtain ⟨xs, e1, G2⟩ := liftO_out G
      obtain ⟨n, rfl⟩ : ∃ n, d = .int n := by cases d <;> first | (cases e1; done) | exact ⟨_, rfl⟩
      obtain ⟨q1, q2, rfl⟩ := range1 e1
      refine ⟨n, by rw [RepB.int (.inl rv)], q1, q2, ?_⟩
      have it := it_range (K := X.K) (O := O1) (H := H1) (lo := 0) (hi := n)
      rw [Int.sub_zero] at it
      exact G2 _ O1 H1 P1 it
theorem range2 {a b : Int} {xs : List D} (h : rangeO [.int a, .int b] = some xs) : (-(2 ^ 62) ≤ a ∧ a < 2 ^ 62 ∧ -(2 ^ 62) ≤ b ∧ b < 2 ^ 62) ∧ xs = rangeD a b := by
  have h : (if -(2 ^ 61) ≤ a ∧ a ≤ 2 ^ 61 ∧ -(2 ^ 61) ≤ b ∧ b ≤ 2 ^ 61 then some (rangeD a b) else none) = some xs := h
  split at h
  · rename_i q
    cases h
    exact ⟨⟨by omega, by omega, by omega, by omega⟩, rfl⟩
  · cases h
theorem i_range2 (hg : Gl X "range") (hm : X.mg "range" = none) {g : M (List D)} (ha : PA X [e1, e2] (tF X.K XR W g)) (hs : starEach [e1, e2] X.env = [(false, eval e1 X.env), (false, eval e2 X.env)]) (hs2 : starEach [e2] X.env = [(false, eval e2 X.env)]) (hl : ∀ m ds m', g m = .ok ds m' → ds.length = 2) : PI X tg (.Call (.Name "range" p) [e1, e2] [] pos) (tI X.K XR W (do
    let ds ← g
    liftO (rangeO ds))) := by
  refine (pi_range2 hg hm ha hs hs2).weak ?_
  rintro σ H R ⟨O, ms, rel, G⟩
  have hl1 : ∀ ds m', g ms = .ok ds m' → ds.length = 2 := fun ds m' h => hl ms ds m' h
  have G := G.bind
  refine ⟨O, ms, rel, ?_⟩
  unfold End at G ⊢
  cases h : g ms with
  | bad => rw [h] at G; exact G
  | err c x m => rw [h] at G; exact G
  | ok ds m =>
    rw [h] at G
    have hl2 := hl1 ds m h
    intro vs O1 H1 P1 R1
    match ds, hl2, R1 with
    | [d, d'], _, .cons (v := v) rv (.cons (v := v') rv' .nil) =>
      have G : End (liftO (rangeO [d, d']) m) (ZI X.K O ms σ H R) (ZE X.K XR W O ms σ H) := G
      obtain ⟨xs, e1, G2⟩ := liftO_out G
      obtain ⟨a, rfl⟩ : ∃ n, d = .int n := by cases d <;> first | (cases e1; done) | exact ⟨_, rfl⟩
      obtain ⟨b, rfl⟩ : ∃ n, d' = .int n := by cases d' <;> first | (cases e1; done) | exact ⟨_, rfl⟩
      obtain ⟨q1, rfl⟩ := range2 e1
      exact ⟨a, b, by rw [RepB.int (.inl rv), RepB.int (.inl rv')], q1, G2 _ O1 H1 P1 it_range⟩
theorem range3 {a b c : Int} {xs : List D} (h : rangeO [.int a, .int b, .int c] = some xs) : c = -1 ∧ (-(2 ^ 62) ≤ a ∧ a < 2 ^ 62 ∧ -(2 ^ 62) ≤ b ∧ b < 2 ^ 62) ∧ xs = (List.range (a - b).toNat).map fun (k : Nat) => D.int (a - k) := by
  have h : (if c = -1 ∧ -(2 ^ 61) ≤ a ∧ a ≤ 2 ^ 61 ∧ -(2 ^ 61) ≤ b ∧ b ≤ 2 ^ 61 then some ((List.range (a - b).toNat).map fun (k : Nat) => D.int (a - k)) else none) = some xs := h
  split at h
  · rename_i q
    cases h
    exact ⟨q.1, ⟨by omega, by omega, by omega, by omega⟩, rfl⟩
  · cases h
theorem i_range3 (hg : Gl X "range") (hm : X.mg "range" = none) {g : M (List D)} (ha : PA X [e1, e2, e3] (tF X.K XR W g)) (hs : starEach [e1, e2, e3] X.env = (false, eval e1 X.env) :: starEach [e2, e3] X.env)
    (hpl : (backTo pos (starEach [e2, e3] X.env)).any (·.1) = false) (hl : ∀ m ds m', g m = .ok ds m' → ds.length = 3) : PI X tg (.Call (.Name "range" p) [e1, e2, e3] [] pos) (tI X.K XR W (do
    let ds ← g
    liftO (rangeO ds))) := by
  refine (pi_range3 hg hm ha hs hpl).weak ?_
  rintro σ H R ⟨O, ms, rel, G⟩
  have hl1 : ∀ ds m', g ms = .ok ds m' → ds.length = 3 := fun ds m' h => hl ms ds m' h
  have G := G.bind
  refine ⟨O, ms, rel, ?_⟩
  unfold End at G ⊢
  cases h : g ms with
  | bad => rw [h] at G; exact G
  | err c x m => rw [h] at G; exact G
  | ok ds m =>
    rw [h] at G
    have hl2 := hl1 ds m h
    intro vs O1 H1 P1 R1
    match ds, hl2, R1 with
    | [d, d', d''], _, .cons (v := v) rv (.cons (v := v') rv' (.cons (v := v'') rv'' .nil)) =>
      have G : End (liftO (rangeO [d, d', d'']) m) (ZI X.K O ms σ H R) (ZE X.K XR W O ms σ H) := G
      obtain ⟨xs, e1, G2⟩ := liftO_out G
      obtain ⟨a, rfl⟩ : ∃ n, d = .int n := by cases d <;> first | (cases e1; done) | exact ⟨_, rfl⟩
      obtain ⟨b, rfl⟩ : ∃ n, d' = .int n := by cases d' <;> first | (cases e1; done) | exact ⟨_, rfl⟩
      obtain ⟨c, rfl⟩ : ∃ n, d'' = .int n := by cases d'' <;> first | (cases e1; done) | exact ⟨_, rfl⟩
      obtain ⟨rfl, q1, rfl⟩ := range3 e1
      exact ⟨a, b, -1, (a - b).toNat, by rw [RepB.int (.inl rv), RepB.int (.inl rv'), RepB.int (.inl rv'')], .neg q1.1 q1.2.1 q1.2.2.1 q1.2.2.2, G2 _ O1 H1 P1 it_down⟩
end
end Mi

set_option Elab.async false
set_option linter.all false
set_option maxRecDepth 100000
set_option autoImplicit false
set_option maxHeartbeats 1000000
namespace Mi
open PySem PySem.Spec PyProof.Rows L2
/-! ### sorted by lengths -/
theorem each_zip {K : PySem.W.Frag} {O : Addr → Prop} {H : Hp} : ∀ {vs : List V} {ds : List D} {us : List Value}, Vals vs us → RepL K O H vs ds → PySem.W.EachIs (fun (u : Value) (b : V × D) => RelV b.1 u ∧ Rep K O H b.1 b.2) us (vs.zip ds)
  | _, _, _, .nil, .nil => .nil
  | _, _, _, .cons r t, .cons q u => .cons ⟨r, q⟩ (each_zip t u)
theorem vals_each {P : V × D → Prop} : ∀ {us : List Value} {bs : List (V × D)}, PySem.W.EachIs (fun (u : Value) (b : V × D) => RelV b.1 u ∧ P b) us bs → Vals (bs.map (·.1)) us
  | _, _, .nil => .nil
  | _, _, .cons h t => .cons h.1 (vals_each t)
theorem rep_each {K : PySem.W.Frag} {O : Addr → Prop} {H : Hp} : ∀ {us : List Value} {bs : List (V × D)}, PySem.W.EachIs (fun (u : Value) (b : V × D) => RelV b.1 u ∧ Rep K O H b.1 b.2) us bs → RepL K O H (bs.map (·.1)) (bs.map (·.2))
  | _, _, .nil => .nil
  | _, _, .cons h t => .cons h.2 (rep_each t)
theorem zip_snd {K : PySem.W.Frag} {O : Addr → Prop} {H : Hp} : ∀ {vs : List V} {ds : List D}, RepL K O H vs ds → (vs.zip ds).map (·.2) = ds
  | _, _, .nil => rfl
  | _, _, .cons _ t => congrArg (List.cons _) (zip_snd t)
theorem le_len : PySem.W.dataLe false (fun b : V × D => PyData.int (lenN b.2 : Nat)) = fun a b => leLen a.2 b.2 := by
  rw [PySem.W.dataLe_int (fun b : V × D => ((lenN b.2 : Nat) : Int))]
  funext a b
  unfold leLen
  congr 1
  apply propext
  omega
section
variable {X : Cx} {O : Addr → Prop} {H : Hp}
theorem len_turn {A : Around} {E : Value → Shared → Prop} {pins : List (Addr × Obj)} {s : Shared} {σ : L2.St} {d : D} {v : V} {u : Value} (I : Inv X pins σ H s) (rv : RelV v u) (r : Rep X.K O H v d) (hq : isSeq d = true) {h : Heap} {tk : Nat} (kp : ∀ b o, s.heap.get? b = some o → h.get? b = some o) :
    wpAny (model X.prog X.w) A (call (.builtin "len") [u]) (PySem.W.KeyPure (.int (lenN d : Nat)) { s with heap := h, toks := tk }) E { s with heap := h, toks := tk } := by
  have hl := line63
  have hs := sizeLine_eq
  obtain ⟨ds, e, hn⟩ : ∃ ds, seqOf d = some ds ∧ ds.length = lenN d := by
    cases d <;> first | (cases hq; done) | exact ⟨_, rfl, rfl⟩
  obtain ⟨c, vs, rfl, hx, q⟩ := RepB.seq (.inl r) e
  have hlen := q.length
  obtain rfl : u = Value.ref c := rv
  rcases hx with hx | hx
  · obtain ⟨its, r', pl, hz⟩ := I.list hx
    have h1 := r'.length
    obtain ⟨o, ho, k2⟩ := pl.isList
    refine Calls.call_len_list (items := its.toArray) ⟨o, kp _ _ ho, k2⟩ (by simp only [List.size_toArray]; omega) ⟨h, tk + 1 + 1, rfl, fun b o e => e, ?_⟩
    rw [List.size_toArray, ← h1, hlen, hn]
    exact .int _ _
  · obtain ⟨its, r', pl, hz⟩ := I.tuple hx
    have h1 := r'.length
    obtain ⟨o, ho, k2⟩ := pl
    refine len_tuple (items := its.toArray) ⟨o, kp _ _ ho, k2⟩ (by simp only [List.size_toArray]; omega) ⟨h, tk + 1 + 1, rfl, fun b o e => e, ?_⟩
    rw [List.size_toArray, ← h1, hlen, hn]
    exact .int _ _
theorem sortedLen_run {pins : List (Addr × Obj)} {s : Shared} {σ : L2.St} {a : Addr} {vs : List V} {ds : List D} {Q : VK} (hu : X.A.units + 64 < cLine) (I : Inv X pins σ H s) (hs : SqL X.K H a vs) (r : RepL X.K O H vs ds) (hq : ds.all isSeq = true)
    (q : ∀ (vs' : List V) (p : Addr), RepL X.K O H vs' (ds.mergeSort leLen) → H p = none → Q (.ref p) (upd H p (.lst vs'))) :
    wpAny (model X.prog X.w) X.A (call (.builtin "sorted") [.ref a] [(Str.ofString "key", .builtin "len")]) (EP X pins σ Q) X.xe s := by
  obtain ⟨its, rv, hl, hz⟩ := I.list hs
  have e := each_zip rv r
  have hlen := r.length
  have hz' : (vs.zip ds).length ≤ sizeLine := by
    rw [List.length_zip, ← hlen, Nat.min_self]
    exact hz
  have hal : PySem.W.AllAlike ((vs.zip ds).map fun b : V × D => PyData.int (lenN b.2 : Nat)) := PySem.W.AllAlike.of fun _ _ => rfl
  have hso : PySem.W.Sortable ((vs.zip ds).map fun b : V × D => PyData.int (lenN b.2 : Nat)) := by
    refine .inr fun d hd => ?_
    obtain ⟨b, _, rfl⟩ := List.mem_map.mp hd
    exact ⟨(fun z => nomatch z), (fun xs z => nomatch z)⟩
  refine PySem.W.sorted_key_data (f := .builtin "len") (b := false) (fun b : V × D => PyData.int (lenN b.2 : Nat)) hl.isList e hal hso hz' ?hu ?h1 ?h2 ?h3 ?ht ?hr
  case hu =>
    intro p _
    show X.A.units + 2 + 0 < cLine
    omega
  case h1 => exact ksk_s1 _ _
  case h2 => exact fun _ => ksk_l1 _ _
  case h3 => exact fun _ => ksk_t4 _ _
  case ht =>
    intro v p hp hm h tk kp
    have hd : p.2 ∈ ds := (List.of_mem_zip (a := p.1) (b := p.2) hm).2
    exact len_turn I hp.1 hp.2 (List.all_eq_true.mp hq _ hd) kp
  case hr =>
    intro out c h' tk kp _ hD hol eo
    rw [le_len] at eo
    have hv := vals_each eo
    have hr := rep_each eo
    have hm : ((vs.zip ds).mergeSort fun a b => leLen a.2 b.2).map (·.2) = ds.mergeSort leLen := by
      rw [List.map_mergeSort (s := leLen) (fun a _ b _ => rfl), zip_snd r]
    rw [hm] at hr
    have hz2 : (((vs.zip ds).mergeSort fun a b => leLen a.2 b.2).map (·.1)).length ≤ sizeLine := by
      rw [List.length_map, List.length_mergeSort]
      exact hz'
    exact ⟨.ref _, upd H (s.heap.objs.size + 1) (.lst _), I.laid (t' := tk) kp (Nat.le_succ _) ⟨hz2, out, c, hv, hD⟩, rfl, q _ _ hr (I.hok.fresh (Nat.le_succ _))⟩
/-- f(e, nm=g), f and g built-in functions -/
theorem pe_callBL {x y nm : Str} {id jd : String} {e : Exp} {p p2 kpos pos : Pos} {t : TA} {r : List V → Hp → VK → Prop}
    (hc : ∀ (pins : List (Addr × Obj)) (s : Shared) (σ : L2.St) (H : Hp) (xs : List V) (us : List Value) (Q : VK), Inv X pins σ H s → Vals xs us → r xs H Q → wpAny (model X.prog X.w) X.A (call (.builtin id) us [(nm, .builtin jd)]) (EP X pins σ Q) X.xe s)
    (hg : Gl X x) (hm : X.mg x = none) (hv : bootBuiltins x = some (.builtin id)) (hg2 : Gl X y) (hm2 : X.mg y = none) (hv2 : bootBuiltins y = some (.builtin jd)) (ha : PA X [e] t) (hn : x ≠ "__name__") (hdb : (x == ("__debug__" : Str)) = false) (hn2 : y ≠ "__name__") (hdb2 : (y == ("__debug__" : Str)) = false)
    (he : backTo pos (starEach [e] X.env) = (false, eval e X.env) :: backTo pos (starEach [] X.env)) (hpl : (backTo pos (starEach [e] X.env)).any (·.1) = false) :
    PE X (.Call (.Name x p) [e] [⟨some nm, .Name y p2, kpos⟩] pos) (tCB r t) := by
  refine ⟨fun pins s σ H Q I h => ?_⟩
  refine wpAny_Call_Name_kw (ld_blt I hg hm hv ?_ hn hdb)
  refine PyProof.Rows.callWith_kw (thn (ha.run pos pins s σ H _ I h) fun us s1 ⟨vs, H1, I1, r1, q1⟩ => ?_) he hpl rfl rfl
  show wpAny _ _ (evalAll [(do let v ← eval (.Name y p2) X.env; standAt pos; pure v)]) _ _ s1
  refine wpAny_evalAll_cons (wpAny_bind (ld_blt I1 hg2 hm2 hv2 (wpAny_bind (wpAny_standAt (wpAny_pure (wpAny_evalAll_nil ?_)))) hn2 hdb2))
  exact hc pins s1 σ H1 vs us Q I1 r1 q1
end
section
variable {K : PySem.W.Frag} {XR : XRep} {W : WX} {O : Addr → Prop} {H : Hp} {ms : MS} {σ : St}
variable {X : Cx} {e : Exp} {pos p p2 kpos : Pos}
theorem c_srtl {fa : M A} (hu : X.A.units + 64 < cLine) (hg : Gl X "sorted") (hm : X.mg "sorted" = none) (hg2 : Gl X "len") (hm2 : X.mg "len" = none) (ha : PE X e (tA X.K XR W fa))
    (he0 : starEach [e] X.env = (false, eval e X.env) :: starEach [] X.env) (he : backTo pos (starEach [e] X.env) = (false, eval e X.env) :: backTo pos (starEach [] X.env)) (hpl : (backTo pos (starEach [e] X.env)).any (·.1) = false) :
    PE X (.Call (.Name "sorted" p) [e] [⟨some (Str.ofString "key"), .Name "len" p2, kpos⟩] pos) (tM X.K XR W (do
    let x ← fa
    let d ← rdA x
    let xs ← liftO (srtLen d)
    pure (.lst xs, true))) := by
  refine (pe_callBL (id := "sorted") (jd := "len") (r := fun xs H Q => ∃ O a vs ds, xs = [V.ref a] ∧ (∀ a, O a → H a ≠ none) ∧ SqL X.K H a vs ∧ RepL X.K O H vs ds ∧ ds.all isSeq = true ∧ ∀ v H', Prm X.K O H (.lst (ds.mergeSort leLen)) true v H' → Q v H')
    (fun pins s σ H xs us Q I r h => ?_) hg hm (by decide +kernel) hg2 hm2 PySem.boot_len (pa_cons ha pa_nil he0) (by decide) (by decide) (by decide) (by decide) he hpl).weak ?_
  · obtain ⟨O, a, vs, ds, rfl, hl, hs, rl, hq, q⟩ := h
    rw [Vals.ref1 r]
    exact sortedLen_run hu I hs rl hq fun vs' p r hp => q _ _ (prm_lst hp r)
  · rintro σ H Q ⟨O, ms, rel, G⟩
    refine tA_in rel (.refl rel) G fun x ms1 v O1 H1 P1 _ R1 G1 => ?_
    obtain ⟨d, rd, G2⟩ := rdA_in P1.rel R1 G1
    obtain ⟨xs, e1, G3⟩ := liftO_in G2
    cases d <;> first | (cases e1; done) | skip
    case lst ds =>
      have e1 : (if ds.all isSeq = true then some (ds.mergeSort leLen) else none) = some xs := e1
      split at e1
      · rename_i hq
        cases e1
        obtain ⟨a, vs, rfl, h1, r1⟩ := rd.lst
        exact ⟨O1, a, vs, ds, rfl, fun _ h => P1.rel.some_of h, .inl (.inl h1), r1, hq, fin_in rel P1 G3⟩
      · cases e1
end
end Mi

set_option Elab.async false
set_option linter.all false
set_option maxRecDepth 100000
set_option autoImplicit false
set_option maxHeartbeats 1000000
namespace Mi
open PySem PySem.Spec PyProof.Rows L2
/-- places of the values in the parameters' order -/
def gK {α : Type} (np nk : Nat) (ord : List Nat) (us ws : List α) : List α := if us.length = np ∧ ws.length = nk then (pick (us ++ ws) ord).getD [] else []
section
variable {K : PySem.W.Frag} {XR : XRep} {W : WX} {O O' O0 O1 : Addr → Prop} {H H' H0 H1 : Hp} {B B' : Addr → Prop} {ms ms' ms0 ms1 : MS} {σ σ' σ0 σ1 : St} {i : Nat} {d : D} {f : Fl}
variable {X : Cx} {C : Calls} {e e1 e2 e3 tg : Exp} {es : List Exp} {pos p p1 p2 p3 apos cpos : Pos}
theorem pick_len {α : Type} {xs : List α} : ∀ {ord : List Nat} {ys : List α}, pick xs ord = some ys → ys.length = ord.length
  | [], ys, h => by cases h; rfl
  | k :: ks, ys, h => by
    unfold pick at h
    cases h1 : xs[k]? with
    | none => rw [h1] at h; cases h
    | some x =>
      cases h2 : pick xs ks with
      | none => rw [h1, h2] at h; cases h
      | some r =>
        rw [h1, h2] at h
        cases h
        rw [List.length_cons, List.length_cons, pick_len h2]
theorem pick_rep {xs : List D} {vs : List V} (r : RepL K O H vs xs) : ∀ {ord : List Nat} {ds : List D}, pick xs ord = some ds → ∃ ws, pick vs ord = some ws ∧ RepL K O H ws ds
  | [], ds, h => by cases h; exact ⟨[], rfl, .nil⟩
  | k :: ks, ds, h => by
    unfold pick at h
    cases h1 : xs[k]? with
    | none => rw [h1] at h; cases h
    | some x =>
      cases h2 : pick xs ks with
      | none => rw [h1, h2] at h; cases h
      | some t =>
        rw [h1, h2] at h
        cases h
        obtain ⟨v, q1, q2⟩ := r.get h1
        obtain ⟨ws, q3, q4⟩ := pick_rep r h2
        exact ⟨v :: ws, by unfold pick; rw [q1, q3], .cons q2 q4⟩
theorem repAL_vals {vs : List V} {ds : List D} (r : RepL K O H vs ds) : RepAL K σ H0 B O H B' vs (ds.map fun d => A.val d false) := by
  induction ds generalizing vs with
  | nil => cases r; exact .nil
  | cons d ds ih =>
    cases r with
    | cons rv rt => exact .cons (show RepR K H0 B O H B' _ d false from rv) (fun a d' _ h => by cases h) (ih rt)
theorem vals_get {vs : List V} {us : List Value} (r : Vals vs us) {k : Nat} : (vs[k]? = none ∧ us[k]? = none) ∨ ∃ v u, vs[k]? = some v ∧ us[k]? = some u ∧ RelV v u := by
  cases h : vs[k]? with
  | none => exact .inl ⟨rfl, by rw [List.getElem?_eq_none_iff] at h ⊢; rw [← r.length]; exact h⟩
  | some v =>
    obtain ⟨u, h1, h2⟩ := r.get h
    exact .inr ⟨v, u, rfl, h1, h2⟩
theorem pick_vals {vs : List V} {us : List Value} (r : Vals vs us) : ∀ {ord : List Nat}, Vals ((pick vs ord).getD []) ((pick us ord).getD []) ∧ ((pick vs ord).isSome = (pick us ord).isSome)
  | [] => ⟨.nil, rfl⟩
  | k :: ks => by
    obtain ⟨ih, hs⟩ := pick_vals r (ord := ks)
    unfold pick
    rcases vals_get r (k := k) with ⟨h1, h2⟩ | ⟨v, u, h1, h2, h3⟩
    · rw [h1, h2]
      exact ⟨.nil, rfl⟩
    · rw [h1, h2]
      cases q1 : pick vs ks with
      | none =>
        cases q2 : pick us ks with
        | none => exact ⟨.nil, rfl⟩
        | some b => rw [q1, q2] at hs; cases hs
      | some a =>
        cases q2 : pick us ks with
        | none => rw [q1, q2] at hs; cases hs
        | some b =>
          rw [q1, q2] at ih
          exact ⟨.cons h3 ih, rfl⟩
theorem gK_rel {np nk : Nat} {ord : List Nat} {vs : List V} {us : List Value} {zs : List V} {ws : List Value} (r : Vals vs us) (q : Vals zs ws) : Vals (gK np nk ord vs zs) (gK np nk ord us ws) := by
  unfold gK
  rw [r.length, q.length]
  by_cases h : us.length = np ∧ ws.length = nk
  · rw [if_pos h, if_pos h]
    exact (pick_vals (r.append q)).1
  · rw [if_neg h, if_neg h]
    exact .nil
theorem kbinds_of {fd : FuncData} {ps ks : List Str} {np : Nat} {ord : List Nat} (hp : ps ≠ []) (h : ∀ us ws : List Value, us.length = np → ws.length = ks.length → bindArgs fd ⟨us, ks.zip ws⟩ = pure (ps.zip ((pick (us ++ ws) ord).getD []))) :
    KBinds K fd ps ks (gK np ks.length ord) (gK np ks.length ord) where
  to := fun s us ws _ hl => by
    unfold gK at hl ⊢
    by_cases q : us.length = np ∧ ws.length = ks.length
    · rw [if_pos q] at hl ⊢
      exact .of_eq (h us ws q.1 q.2)
    · rw [if_neg q] at hl
      cases ps with
      | nil => exact absurd rfl hp
      | cons _ _ => cases hl
  rel := gK_rel
theorem run_fnKS {CX : CXT} {k : Nat} {fa : Addr} {fd : FuncData} {ps ks : List Str} {sp : Sp} {E : XK} {g : List Value → List Value → List Value} {gV : List V → List V → List V} {pins : List (Addr × Obj)} {s : Shared} {Q : VK} {us ws : List Value} {vs zs : List V} (F : FnOk X.prog X.w X.K X.mg X.base CX k fa fd ps sp) (hr : Room k X.A) (hb : KBinds X.K fd ps ks g gV) (hx : PassesAt CX X σ E)
    (I : Inv X pins σ H s) (r : Vals vs us) (rz : Vals zs ws) (h : sp (gV vs zs) H Q E) : wpAny (model X.prog X.w) X.A (call (.ref fa) us (ks.zip ws)) (EP X pins σ Q) X.xe s := by
  have r2 := hb.rel r rz
  have hl : (g us ws).length = ps.length := by rw [← r2.length]; exact F.len _ _ _ _ h
  refine wpAny_call (codeAny_mono (F.run X.A X.stack s H ⟨us, ks.zip ws⟩ (g us ws) (gV vs zs) Q E hr I.env0 (hb.to s us ws I.kIn hl) r2 h) fun r s' hq => ?_)
  cases r with
  | error e => exact hx pins H s e s' I hq
  | ok fl =>
    cases fl with
    | ret u => exact I.after hq
    | next => exact False.elim hq
    | brk => exact False.elim hq
    | cont => exact False.elim hq
theorem c_callk {kws : List Keyword} {k np : Nat} {ord : List Nat} {fa : Addr} {fd : FuncData} {ps ks : List Str} {fn : Nat} {x : Str} {g1 g2 : M (List D)} (F : FnOk X.prog X.w X.K X.mg X.base (L2.CX X.prog X.w) k fa fd ps (spF X.K XR C.call fn)) (hr : Room k X.A) (hg : Gl X x) (hm : X.mg x = some (.ref fa)) (hk : PySem.W.keepIn X.K (.ref fa) = true)
    (hb : KBinds X.K fd ps ks (gK np ks.length ord) (gK np ks.length ord)) (tk : Takes X W) (ha : PA X (e :: es) (tF X.K XR W g1)) (hkw : PK X kws (tF X.K XR W g2)) (hn1 : ∀ m ds m', g1 m = .ok ds m' → ds.length = np) (hn2 : ∀ m ds m', g2 m = .ok ds m' → ds.length = ks.length) (hdb : (x == ("__debug__" : Str)) = false)
    (hall : (backToKw pos (keywordEach kws X.env)).all (·.1.isSome) = true) (hks : (backToKw pos (keywordEach kws X.env)).filterMap (·.1) = ks) (he : starEach (e :: es) X.env = (false, eval e X.env) :: starEach es X.env)
    (hpl : ((backTo pos (starEach (e :: es) X.env)).any (·.1) || (backToKw pos (keywordEach kws X.env)).any (·.1.isNone)) = false) :
    PE X (.Call (.Name x p) (e :: es) kws pos) (tM X.K XR W (do
    let as ← g1
    let bs ← g2
    let cs ← liftO (pick (as ++ bs) ord)
    callM C fn (cs.map fun d => .val d false))) := by
  refine ⟨fun pins s σ H Q I hw => ?_⟩
  obtain ⟨O, ms, rel, G⟩ := hw
  refine wpAny_Call_Name_kw (ld_glob I hg hm ?_ hdb)
  have hl1 : ∀ ds m', g1 ms = .ok ds m' → ds.length = np := fun ds m' h => hn1 ms ds m' h
  have w1 : tF X.K XR W g1 σ H fun vs H1 => tF X.K XR W g2 σ H1 fun zs H2 => spF X.K XR C.call fn (gK np ks.length ord vs zs) H2 Q (fun cls d H' => W cls d σ H') := by
    refine ⟨O, ms, rel, ?_⟩
    have G := G.bind
    unfold End at G ⊢
    cases h : g1 ms with
    | bad => rw [h] at G; exact G
    | err c x m => rw [h] at G; exact G
    | ok as m =>
      rw [h] at G
      intro vs O1 H1 P1 R1
      have hla := hl1 as m h
      have G : End ((g2 >>= fun bs => liftO (pick (as ++ bs) ord) >>= fun cs => callM C fn (cs.map fun d => .val d false)) m) (ZM X.K O ms σ H Q) (ZE X.K XR W O ms σ H) := G
      refine ⟨O1, m, P1.rel, ?_⟩
      have G := G.bind
      have hl2 : ∀ ds m', g2 m = .ok ds m' → ds.length = ks.length := fun ds m' h => hn2 m ds m' h
      unfold End at G ⊢
      cases h' : g2 m with
      | bad => rw [h'] at G; exact G
      | err c x m2 => rw [h'] at G; exact fun cls dx O' H' p q => G cls dx O' H' (P1.trans rel p) q
      | ok bs m2 =>
        rw [h'] at G
        intro zs O2 H2 P2 R2
        have hlb := hl2 bs m2 h'
        have G : End ((liftO (pick (as ++ bs) ord) >>= fun cs => callM C fn (cs.map fun d => .val d false)) m2) (ZM X.K O ms σ H Q) (ZE X.K XR W O ms σ H) := G
        obtain ⟨cs, ec, G2⟩ := liftO_in G
        obtain ⟨wv, q1, q2⟩ := pick_rep ((R1.keep P2.ext.keep).append R2) ec
        have eg : gK np ks.length ord vs zs = wv := by
          unfold gK
          rw [if_pos ⟨by rw [R1.length]; exact hla, by rw [R2.length]; exact hlb⟩, q1]
          rfl
        rw [eg]
        exact call_in rel (P1.trans rel P2) (repAL_vals q2) G2
  refine PySem.W.callWith_KW (h₀ := X.base) I.ok.mod.kin hk hall (thn (ha.run pos pins s σ H _ I w1) fun us s1 ⟨vs, H1, I1, r, q⟩ => ?_) hpl he
  refine thn (hkw.run pos pins s1 σ H1 _ I1 q) fun ws s2 ⟨zs, H2, I2, rz, q2⟩ => ⟨I2.kIn, ?_⟩
  rw [hks]
  exact run_fnKS F hr hb (passAt tk σ) I2 r rz q2
/-- only keywords -/
theorem c_callk0 {kws : List Keyword} {k : Nat} {ord : List Nat} {fa : Addr} {fd : FuncData} {ps ks : List Str} {fn : Nat} {x : Str} {g2 : M (List D)} (F : FnOk X.prog X.w X.K X.mg X.base (L2.CX X.prog X.w) k fa fd ps (spF X.K XR C.call fn)) (hr : Room k X.A) (hg : Gl X x) (hm : X.mg x = some (.ref fa)) (hk : PySem.W.keepIn X.K (.ref fa) = true)
    (hb : KBinds X.K fd ps ks (gK 0 ks.length ord) (gK 0 ks.length ord)) (tk : Takes X W) (hkw : PK X kws (tF X.K XR W g2)) (hn2 : ∀ m ds m', g2 m = .ok ds m' → ds.length = ks.length) (hdb : (x == ("__debug__" : Str)) = false)
    (hall : (backToKw pos (keywordEach kws X.env)).all (·.1.isSome) = true) (hks : (backToKw pos (keywordEach kws X.env)).filterMap (·.1) = ks)
    (hpl : ((backTo pos (starEach [] X.env)).any (·.1) || (backToKw pos (keywordEach kws X.env)).any (·.1.isNone)) = false) :
    PE X (.Call (.Name x p) [] kws pos) (tM X.K XR W (do
    let as ← (M.ret [] : M (List D))
    let bs ← g2
    let cs ← liftO (pick (as ++ bs) ord)
    callM C fn (cs.map fun d => .val d false))) := by
  refine ⟨fun pins s σ H Q I hw => ?_⟩
  obtain ⟨O, ms, rel, G⟩ := hw
  refine wpAny_Call_Name_kw (ld_glob I hg hm ?_ hdb)
  have w1 : tF X.K XR W g2 σ H fun zs H2 => spF X.K XR C.call fn (gK 0 ks.length ord [] zs) H2 Q (fun cls d H' => W cls d σ H') := by
    refine ⟨O, ms, rel, ?_⟩
    have G : End ((g2 >>= fun bs => liftO (pick ([] ++ bs) ord) >>= fun cs => callM C fn (cs.map fun d => .val d false)) ms) (ZM X.K O ms σ H Q) (ZE X.K XR W O ms σ H) := G
    have G := G.bind
    have hl2 : ∀ ds m', g2 ms = .ok ds m' → ds.length = ks.length := fun ds m' h => hn2 ms ds m' h
    unfold End at G ⊢
    cases h' : g2 ms with
    | bad => rw [h'] at G; exact G
    | err c x m2 => rw [h'] at G; exact G
    | ok bs m2 =>
      rw [h'] at G
      intro zs O2 H2 P2 R2
      have hlb := hl2 bs m2 h'
      have G : End ((liftO (pick ([] ++ bs) ord) >>= fun cs => callM C fn (cs.map fun d => .val d false)) m2) (ZM X.K O ms σ H Q) (ZE X.K XR W O ms σ H) := G
      obtain ⟨cs, ec, G2⟩ := liftO_in G
      obtain ⟨wv, q1, q2⟩ := pick_rep ((RepL.nil).append R2) ec
      have eg : gK 0 ks.length ord [] zs = wv := by
        unfold gK
        rw [if_pos ⟨rfl, by rw [R2.length]; exact hlb⟩, q1]
        rfl
      rw [eg]
      exact call_in rel P2 (repAL_vals q2) G2
  refine PySem.W.callWith_KW0 (h₀ := X.base) I.ok.mod.kin hk hall (thn (hkw.run pos pins s σ H _ I w1) fun ws s2 ⟨zs, H2, I2, rz, q2⟩ => ⟨I2.kIn, ?_⟩) hpl
  rw [hks]
  exact run_fnKS F hr hb (passAt tk σ) I2 .nil rz q2
theorem pk_fnil : PK X [] (tF X.K XR W (M.ret [])) := by
  refine ⟨fun pos pins s σ H Q I h => ?_⟩
  obtain ⟨O, ms, rel, G⟩ := h
  exact pk_nil.run pos pins s σ H Q I (G [] O H (.refl rel) .nil)
theorem pk_fcons {nm : Option Str} {kws : List Keyword} {f : M (D × Bool)} {g : M (List D)} (h : PE X e (tM X.K XR W f)) (t : PK X kws (tF X.K XR W g)) : PK X (⟨nm, e, p⟩ :: kws) (tF X.K XR W (do
    let p ← f
    let ds ← g
    pure (p.1 :: ds))) := by
  refine ⟨fun pos pins s σ H Q I hw => (pk_cons h t).run pos pins s σ H Q I ?_⟩
  obtain ⟨O, ms, rel, G⟩ := hw
  refine ⟨O, ms, rel, End.imp G.bind (fun r ms1 G1 v O1 H1 P1 R1 => ?_) (fun c x m h => h)⟩
  obtain ⟨d, b⟩ := r
  obtain ⟨O2, P2, R2⟩ := post_val rel P1 R1
  refine tF_in rel P2 G1 fun ds ms3 vs O3 H3 P3 S3 R3 G3 => ?_
  exact G3 (v :: vs) O3 H3 P3 (.cons (R2.keep S3.ext.keep) R3)
end
end Mi

set_option Elab.async false
set_option linter.all false
set_option maxRecDepth 100000
set_option autoImplicit false
set_option maxHeartbeats 4000000
namespace Mi
open PySem PySem.Spec PyProof.Rows L2
section
variable {K : PySem.W.Frag} {XR : XRep} {W : WX} {X : Cx} {O O' O0 : Addr → Prop} {H H' H0 : Hp} {ms ms' ms0 : MS} {σ : St} {e : Exp} {p p2 pos : Pos} {i j : Nat}
/-- a slot is emptied -/
theorem post_clr (rel : Rel K O ms σ H) : PostS K O ms σ H (ms.set i none) O (σ.set i none) H := by
  have get : ∀ {k : Nat} {d : D} {g : Fl}, (ms.set i none)[k]? = some (some (d, g)) → k ≠ i ∧ ms[k]? = some (some (d, g)) := fun {k d g} hk => by
    rcases set_get hk with ⟨rfl, e1, _⟩ | ⟨ne, hk⟩
    · cases e1
    · exact ⟨ne, hk⟩
  have same : ∀ {k : Nat}, k ≠ i → (σ.set i none)[k]? = σ[k]? := fun {k} h => List.getElem?_set_ne (Ne.symm h)
  refine ⟨⟨by rw [List.length_set, List.length_set]; exact rel.len, fun k d g hk => ?_, fun k l d d' g g' b hk hl hg hg' sk sl => ?_, rel.lists⟩, .refl, fun x hx => ?_, fun k d hk => ?_⟩
  · rw [same (get hk).1]
    exact rel.slot k d g (get hk).2
  · rw [same (get hk).1] at sk
    rw [same (get hl).1] at sl
    exact rel.apart k l d d' g g' b (get hk).2 (get hl).2 hg hg' sk sl
  · obtain ⟨k, d, g, hg, hk, sk⟩ := hx
    rw [same (get hk).1] at sk
    exact .inl ⟨k, d, g, hg, (get hk).2, sk⟩
  · exact ⟨⟨d, (get hk).2⟩, same (get hk).1⟩
/-! ### e.value -/
def tVal (te : TE) : TE := fun σ H Q => te σ H fun x H1 => ∃ (a C dx : Addr) (v : V), x = .ref a ∧ H1 a = some (exE a C dx) ∧ XfC X.K C ∧ PySem.W.findIn X.K (.ref C) "value" = some none ∧ H1 dx = some (.xd [("value", v)]) ∧ Q v H1
theorem pe_val {te : TE} (he : PE X e te) (hb : attributeBase e "value" X.env (eval e X.env) = eval e X.env) : PE X (.Attribute e "value" pos) (tVal (X := X) te) := by
  refine ⟨fun pins s σ H Q I h => attr_of hb (thn (he.run pins s σ H _ I h) fun u s1 hh => ?_)⟩
  obtain ⟨x, H1, I1, rx, a, C, dx, v, ex, ea, T, hno, ed, q⟩ := hh
  subst ex
  obtain rfl : u = Value.ref a := rx
  obtain ⟨oe, vs, ha, hz, hd⟩ := exE_at I1.hok ea
  have hx : ObjOk X.prog X.w H1 s1.heap dx (.xd [("value", v)]) := I1.hok dx _ ed
  obtain ⟨mA, hns, hr⟩ := hx
  obtain ⟨od, ho, hl⟩ := lookIn_ns hns
  have lk : ([("value", v)] : List (Str × V)).lookup ("value" : Str) = some v := by
    rw [List.lookup_cons_self]
  obtain ⟨u, hu, ru⟩ := RelO.some_of (v := v) (o := mA "value") (by rw [← lk]; exact hr "value")
  have J : PySem.W.InstAt s1.heap a oe C (some od) := ⟨ha, hz.1, by unfold PySem.W.notCls; rw [hd] <;> rfl, by rw [hz.2]; exact ho⟩
  exact HandSPX.exc_get I1.kIn J T.ga T.gg T.exC (PySem.W.findObj_own T.hdC hno rfl (by rw [hl, hu])) (handed_of ru) ⟨v, H1, I1.tok _, ru, q⟩
theorem c_val {fI : Addr} {f : M (D × Bool)} (hF : excB X.K fI = true) (he : PE X e (tM X.K XR W f)) (hb : attributeBase e "value" X.env (eval e X.env) = eval e X.env) : PE X (.Attribute e "value" pos) (tM X.K XR W (do
    let p ← f
    match p.1 with
    | .exc _ v => pure (v, false)
    | _ => fail)) := by
  refine (pe_val he hb).weak ?_
  rintro σ H Q ⟨O, ms, rel, G⟩
  refine tM_in rel (.refl rel) G fun d b ms1 v O1 H1 P1 _ R1 G1 => ?_
  cases d with
  | exc c x =>
    have G1 : ZM X.K O ms σ H Q (x, false) ms1 := G1
    have R1 : Rep X.K O1 H1 v (.exc c x) := by
      cases b with
      | false => exact R1
      | true =>
        obtain ⟨a, _, ⟨_, _, _, z, _⟩, _⟩ := R1
        cases z
    cases R1 with
    | @exc a C dx _ u _ n1 h1 n2 h2 hc r =>
      have T := excB_one hF hc
      exact ⟨a, C, dx, u, rfl, h1, T.xf, T.fld, h2, G1 u O1 H1 P1 r⟩
  | _ => exact (G1 : False).elim
/-! ### isinstance of an error -/
def rIsX (K : PySem.W.Frag) : List V → Hp → VK → Prop := fun xs H Q => ∃ (a C dx fI : Addr) (c : V) (cv : Value) (b : Bool), xs = [.ref a, c] ∧ H a = some (exE a C dx) ∧ ExcF K fI C ∧ (∃ o, H dx = some (.xd o)) ∧ (∀ u, RelV c u → u = cv) ∧ PySem.W.kitOne K (.ref C) cv = some b ∧ Q (.bl b) H
theorem call_isX : CallR X (.builtin "isinstance") (rIsX X.K) := by
  intro pins s σ H xs us Q I r h
  obtain ⟨a, C, dx, fI, c, cv, b, rfl, ea, T, ⟨fs, ed⟩, hcv, eb, q⟩ := h
  cases r with
  | cons rx rr =>
    cases rr with
    | cons rt rr =>
      cases rr
      cases rx
      have ec := hcv _ rt
      subst ec
      obtain ⟨oe, vs, ha, hz, hd⟩ := exE_at I.hok ea
      have hx : ObjOk X.prog X.w H s.heap dx (.xd fs) := I.hok dx _ ed
      obtain ⟨mA, hns, hr⟩ := hx
      obtain ⟨od, ho, hl⟩ := lookIn_ns hns
      have J : PySem.W.InstAt s.heap a oe C (some od) := ⟨ha, hz.1, by unfold PySem.W.notCls; rw [hd] <;> rfl, by rw [hz.2]; exact ho⟩
      exact PySem.W.kia_one (PySem.W.kitx_exc T.cl T.xf.ga T.xf.gg T.xf.exC T.ha T.hn T.ht T.hm) I.kIn J eb (fun z => nomatch z) fun tk => ⟨.bl b, H, I.kept (t' := tk) fun _ _ z => z, rfl, q⟩
/-- of an own class, of ValueError -/
theorem c_isx {fI : Addr} {t : Ty} {nm : Exp} {cV : V} {cv : Value} {fa : M A} (hF : excB X.K fI = true) (hgi : Gl X "isinstance") (hmi : X.mg "isinstance" = none) (hn : PE X nm (tC cV)) (hcv : ∀ u, RelV cV u → u = cv) (sub : Nat → Nat → Bool)
    (hk : ∀ c C b, clsAt X.K c C → (∃ x, isT sub t (.exc c x) = some b) → PySem.W.kitOne X.K (.ref C) cv = some b) (hb : ∀ d, (∀ c x, d ≠ .exc c x) → isT sub t d = none) (ha : PE X e (tA X.K XR W fa))
    (he : starEach [e, nm] X.env = (false, eval e X.env) :: starEach [nm] X.env) (hpl : (backTo pos (starEach [nm] X.env)).any (·.1) = false) (he2 : starEach [nm] X.env = (false, eval nm X.env) :: starEach [] X.env) :
    PE X (.Call (.Name "isinstance" p) [e, nm] [] pos) (tM X.K XR W (do
    let x ← fa
    let d ← rdA x
    let b ← liftO (isAny sub d [t])
    pure (.bl b, false))) := by
  refine (pe_callB call_isX hgi hmi boot_isinstance (pa_cons ha (pa_cons hn pa_nil he2) he) (by decide) (by decide) he hpl).weak ?_
  rintro σ H Q ⟨O, ms, rel, G⟩
  refine tA_in rel (.refl rel) G fun x ms1 v O1 H1 P1 _ R1 G1 => ?_
  obtain ⟨d, rd, G2⟩ := rdA_in P1.rel R1 G1
  obtain ⟨b, e1, G3⟩ := liftO_in G2
  have hb' : isT sub t d = some b := by
    have e1 : (match isT sub t d with
      | none => none
      | some true => some true
      | some false => some false) = some b := e1
    cases q : isT sub t d with
    | none => rw [q] at e1; cases e1
    | some r => rw [q] at e1; cases r <;> exact e1
  cases d with
  | exc c y =>
    rcases rd with rd | ⟨_, _, _, _, _, z, _⟩
    · cases rd with
      | @exc a C dx _ u _ n1 h1 n2 h2 hc r =>
        exact ⟨a, C, dx, fI, cV, cv, b, rfl, h1, excB_one hF hc, ⟨_, h2⟩, hcv, hk c C b hc ⟨y, hb'⟩, fin_val P1 G3 (.bl b)⟩
    · cases z
  | _ =>
    rw [hb _ (fun c x z => by cases z)] at hb'
    cases hb'
/-! ### raise -/
theorem s_raise {fI C : Addr} {fd : FuncData} {x : Str} {c : Nat} {g : M (List D)} (hF : excB X.K fI = true) (hxr : XR = excXR X.K) (hcl : X.calm = true) (tk : Takes X W) (hC : clsAt X.K c C) (hg : Gl X x) (hm : X.mg x = some (.ref C)) (hdb : (x == ("__debug__" : Str)) = false)
    (F1 : FnOk X.prog X.w X.K X.mg X.base (L2.CX X.prog X.w) 1 fI fd [("self" : Str), ("value" : Str)] (iniSp X.K)) (hr : Room 2 X.A) (hbn : Binds X.K fd [("self" : Str), ("value" : Str)] []) (tI : PySem.W.typeIn X.K (.ref fI) = some (.type "function"))
    (ha : PA X [e] (tF X.K XR W g)) (hl : ∀ m ds m', g m = .ok ds m' → ds.length = 1) (he : starEach [e] X.env = (false, eval e X.env) :: starEach [] X.env) (hpl : (backTo pos (starEach [] X.env)).any (·.1) = false) :
    PS X (.Raise (some (.Call (.Name x p) [e] [] pos)) none p2) (tS X.K XR W (do
    let ds ← g
    fun m => .err c (ds.getD 0 .non) m)) := by
  have T := excB_one hF hC
  refine (ps_raise hcl tk (pmk_oex (dvs := []) T.oex T.ini tI F1 hr hbn .nil (passes_call (E := fun _ _ _ => False) tk fun _ _ _ _ z => z.elim) hg hm ha hdb he hpl)).weak ?_
  rintro Ds σ H ⟨O, ms, rel, G⟩
  subst hxr
  refine ⟨O, ms, rel, ?_⟩
  have G := G.bind
  unfold End at G ⊢
  cases hx : g ms with
  | bad => rw [hx] at G; exact G
  | err c' x' m =>
    rw [hx] at G
    intro cls dx O' H' P xr
    exact (G : ZX X.K (excXR X.K) W O ms σ H c' x' m) cls dx O' σ H' P.s xr
  | ok ds m1 =>
    rw [hx] at G
    have G : ZX X.K (excXR X.K) W O ms σ H c (ds.getD 0 .non) m1 := G
    intro vs O1 H1 P1 r1
    have hlen := hl _ _ _ hx
    obtain ⟨v, d, rfl, rfl, rv⟩ : ∃ v d, vs = [v] ∧ ds = [d] ∧ Rep X.K O1 H1 v d := by
      cases r1 with
      | nil => cases hlen
      | cons a t =>
        cases t with
        | nil => exact ⟨_, _, rfl, rfl, a⟩
        | cons _ _ => simp at hlen
    refine ⟨by show 1 ≤ 1000; decide, fun a na => ⟨a, C, v, rfl, T.oex, T.fld, upd_same, fun dx n ne => ?_⟩⟩
    have nd1 : H1 dx = none := by rw [upd_ne ne] at n; exact n
    refine ⟨rfl, dx, [("value", v)], upd_same, by rw [upd_ne ne, upd_same], nd1, ?_⟩
    -- the heap behind it: the dict alone is new
    have eqH : upd (L2.del (upd (upd (upd H1 a (exo a C none)) dx (exd dx [("value", v)])) a (exo a C (some dx))) a) dx (.xd [("value", v)]) = upd H1 dx (.xd [("value", v)]) := by
      funext b
      by_cases hb : b = dx
      · rw [hb, upd_same, upd_same]
      · rw [upd_ne hb, upd_ne hb]
        by_cases hb2 : b = a
        · rw [hb2, L2.del_same, na]
        · rw [L2.del_ne hb2, upd_ne hb2, upd_ne hb, upd_ne hb2]
    rw [eqH]
    have more : ∀ b o, H1 b = some o → upd H1 dx (.xd [("value", v)]) b = some o := fun b o h => upd_more nd1 b o h
    obtain ⟨O2, P2, R2⟩ := prm_post (b := false) P1.rel (⟨more, rv.keep (fun b o n h => ⟨n, more b o h⟩)⟩ : Prm X.K O1 H1 d false v (upd H1 dx (.xd [("value", v)])))
    have nO : ¬ O2 dx := fun z => by
      obtain ⟨ws, ez⟩ := P2.rel.lists dx z
      rw [upd_same] at ez
      cases ez
    exact G (.ref C) (some dx) O2 σ _ (P1.trans rel P2).s ⟨C, dx, v, rfl, hC, rfl, nO, upd_same, R2⟩
/-! ### try: .. / except c as n: m = n -/
theorem s_try {fI C : Addr} {x n m : Str} {c : Nat} {body : List PySem.Stmt} {f : M Fw} {sub : Nat → Nat → Bool} {p1 p3 p4 p5 p6 : Pos} (hF : excB X.K fI = true) (hxr : XR = excXR X.K) (hsub : ∀ c' C', clsAt X.K c' C' → sub c' c = subT c' c) (hC : clsAt X.K c C)
    (hs : X.stack = X.env :: X.outer) (hf : X.env.frame = some X.env.locals) (hN : X.N.Nodup) (hi : X.N[i]? = some n) (hj : X.N[j]? = some m) (hij : i ≠ j) (hn : X.env.kindOf n = some .local) (hm : X.env.scope.names.lookup m = some .local) (hc : Names X x (.ref C)) (tk : Takes X W)
    (d1 : (n == ("__debug__" : Str)) = false) (d2 : (n == ("__classdict__" : Str)) = false)
    (hb : ∀ (W' : WX) (pn : List (Addr × Obj)) (xe : Value → Shared → Prop), Takes (X.tr pn xe) W' → PassesOwn (model X.prog X.w) X.A X.env xe → PSs (X.tr pn xe) body (tS X.K XR W' f)) :
    PS X (.Try body [.ExceptHandler (some (.Name x p1)) (some n) (.Assign [.Name m p2] (.Name n p3) p4 :: []) p5] [] [] p6) (tS X.K XR W (fun ms => match f ms with
      | .err c' v m' => if sub c' c then caughtAs i j c' v m' else .err c' v m'
      | r => r)) := by
  refine (ps_try_keep hs hf hN hi hj hij hn hm hc tk d1 d2 (tb := fun W' => tS X.K XR W' f) hb).weak ?_
  rintro Ds σ H ⟨O, ms, rel, G⟩
  dsimp only at G
  refine ⟨O, ms, rel, ?_⟩
  unfold End at G ⊢
  cases hx : f ms with
  | bad => rw [hx] at G; exact G
  | ok fw m1 => rw [hx] at G; exact G
  | err c' v m1 =>
    rw [hx] at G
    intro cls dx O1 σ1 H1 P1 xr
    have xr' := xr
    rw [hxr] at xr'
    obtain ⟨C', d, u, rfl, hC', rfl, nd, hd, ru⟩ := xr'
    refine ⟨subT c' c, (excB_two hF hC' hC).2, fun ht => ?_, fun hz => ?_⟩
    · refine ⟨C', d, rfl, rfl, fun a na => ?_⟩
      have G : End (if sub c' c = true then caughtAs i j c' v m1 else R.err c' v m1) (ZS X.K O ms σ H Ds) (ZX X.K XR W O ms σ H) := G
      rw [if_pos (by rw [hsub c' C' hC', ht])] at G
      have G : End ((stV j (.exc c' v) .frz >>= fun _ => clrV i) m1) (ZS X.K O ms σ H Ds) (ZX X.K XR W O ms σ H) := G
      obtain ⟨nb, jl, G⟩ := stV_in G
      have G : ZS X.K O ms σ H Ds .nx ((m1.set j (some (.exc c' v, .frz))).set i none) := G
      -- the error is tracked
      have more : ∀ b o, H1 b = some o → upd H1 a (exE a C' d) b = some o := fun b o h => upd_more na b o h
      have nOa : ¬ O1 a := fun z => by
        obtain ⟨ws, ez⟩ := P1.rel.lists a z
        rw [na] at ez
        cases ez
      have kp : Keeps O1 H1 O1 (upd H1 a (exE a C' d)) := fun b o n h => ⟨n, more b o h⟩
      have rE : Rep X.K O1 (upd H1 a (exE a C' d)) (.ref a) (.exc c' v) := .exc nOa upd_same nd (more _ _ hd) hC' (ru.keep kp)
      obtain ⟨O2, P2, R2⟩ := prm_post (b := false) P1.rel (⟨more, rE⟩ : Prm X.K O1 H1 (.exc c' v) false (.ref a) (upd H1 a (exE a C' d)))
      -- it is stored
      obtain ⟨q1, q2, q3⟩ := post_set (i := j) (f := .frz) P2.rel nb (by rw [if_pos rfl]; exact R2)
      have P3 : PostS X.K O2 m1 σ1 (upd H1 a (exE a C' d)) (m1.set j (some (.exc c' v, .frz))) O2 (σ1.set j (some (.ref a))) (upd H1 a (exE a C' d)) :=
        ⟨q1, .refl, fun b hb => (q2 b hb).elim .inl fun z => absurd rfl z.1, fun k e hk => ⟨⟨e, (q3 k e hk).1⟩, (q3 k e hk).2⟩⟩
      have P4 := post_clr (i := i) q1
      have P := ((P1.trans rel P2.s).trans rel P3).trans rel P4
      have es : ((σ1.set i (some (.ref a))).set j (some (.ref a))).set i none = (σ1.set j (some (.ref a))).set i none := by
        rw [List.set_comm _ _ hij, List.set_set]
      rw [es]
      exact G O2 _ _ P
    · have G : End (if sub c' c = true then caughtAs i j c' v m1 else R.err c' v m1) (ZS X.K O ms σ H Ds) (ZX X.K XR W O ms σ H) := G
      rw [if_neg (by rw [hsub c' C' hC', hz]; decide)] at G
      exact (G : ZX X.K XR W O ms σ H c' v m1) _ _ O1 σ1 H1 P1 xr
end
end Mi

set_option Elab.async false
set_option linter.all false
set_option maxRecDepth 100000
set_option autoImplicit false
set_option maxHeartbeats 1000000
namespace Mi
open PySem PySem.Spec PyProof.Rows L2
/-! ### sorted(set(t)) -/
theorem nubI_spec : ∀ l : List Int, l.Pairwise (· ≤ ·) → (nubI l).Pairwise (· < ·) ∧ ∀ k, k ∈ nubI l ↔ k ∈ l
  | [], _ => by unfold nubI; simp
  | [x], _ => by unfold nubI; simp
  | x :: y :: r, h => by
    have h' := List.pairwise_cons.mp h
    obtain ⟨h1, h2⟩ := nubI_spec (y :: r) h'.2
    unfold nubI
    show (if x = y then nubI (y :: r) else x :: nubI (y :: r)).Pairwise (· < ·) ∧ ∀ k, k ∈ (if x = y then nubI (y :: r) else x :: nubI (y :: r)) ↔ k ∈ x :: y :: r
    by_cases e : x = y
    · rw [if_pos e]
      refine ⟨h1, fun k => ?_⟩
      rw [h2 k, e]
      simp
    · rw [if_neg e]
      refine ⟨List.pairwise_cons.mpr ⟨fun z hz => ?_, h1⟩, fun k => ?_⟩
      · have hz := (h2 z).mp hz
        have a := h'.1 y List.mem_cons_self
        have b : y ≤ z := by
          rcases List.mem_cons.mp hz with e | hz
          · omega
          · exact (List.pairwise_cons.mp h'.2).1 z hz
        omega
      · rw [List.mem_cons, h2 k, List.mem_cons (a := k) (b := x)]
theorem asc_uniq : ∀ {xs ys : List Int}, xs.Pairwise (· < ·) → ys.Pairwise (· < ·) → (∀ k, k ∈ xs ↔ k ∈ ys) → xs = ys
  | [], [], _, _, _ => rfl
  | [], y :: _, _, _, h => absurd ((h y).mpr List.mem_cons_self) (by simp)
  | x :: _, [], _, _, h => absurd ((h x).mp List.mem_cons_self) (by simp)
  | x :: xs, y :: ys, h1, h2, h => by
    rw [List.pairwise_cons] at h1 h2
    have e : x = y := by
      rcases List.mem_cons.mp ((h x).mp List.mem_cons_self) with e | e
      · exact e
      · rcases List.mem_cons.mp ((h y).mpr List.mem_cons_self) with e2 | e2
        · exact e2.symm
        · have a := h1.1 y e2
          have b := h2.1 x e
          omega
    subst e
    rw [asc_uniq h1.2 h2.2 fun k => ⟨fun hk => ?_, fun hk => ?_⟩]
    · rcases List.mem_cons.mp ((h k).mp (List.mem_cons_of_mem _ hk)) with e | e
      · exact absurd (h1.1 k hk) (by omega)
      · exact e
    · rcases List.mem_cons.mp ((h k).mpr (List.mem_cons_of_mem _ hk)) with e | e
      · exact absurd (h2.1 k hk) (by omega)
      · exact e
theorem boot_setM : bootBuiltins "set" = some (.type "set") := by decide +kernel
section
variable {prog : Program} {w : World} {A : Around} {E : Value → Shared → Prop} {s : Shared}
/-- sorted of a set of ints, of any size -/
theorem sorted_setA {a : Addr} {S : Int → Bool} {n : Nat} {Q : Value → Shared → Prop} (R : SetR w s.heap a S n) (hh : A.handled = none)
    (hQ : ∀ s' p (out : List Value) (c : Nat) (ns : List Int), (∀ b o, s.heap.get? b = some o → s'.heap.get? b = some o) → s'.gens = s.gens → s'.os = s.os → s.heap.objs.size ≤ p →
      s'.heap.get? p = some (seqObj "list" out.toArray c) → IntsAre out ns → ns.Pairwise (· < ·) → (∀ k, k ∈ ns ↔ S k = true) → ns.length ≤ sizeLine → Q (.ref p) s') :
    wpAny (model prog w) A (call (.builtin "sorted") [.ref a]) Q E s := by
  obtain ⟨o, es, ep, t, ho, hex, hd, g, nd, hm, hb, hf, hn, hr, hl⟩ := R
  refine Calls.call_function_entry kind_sorted plain_sorted entry_sorted (args_sorted1 _) ?_
  unfold Builtin.«sorted»
  refine wpAny_bind (m := checkCount "sorted" 1 1 _) (wpAny_pure ?_)
  refine wpAny_bind (collect_set (A := A.in1) hh ⟨o, ho, hex.1, hd⟩ hf hb hr hl fun s1 vs k1 hz g1 o1 pm => ?_)
  have hvl : vs.length ≤ sizeLine := by
    rw [pm.length_eq, List.length_map, Array.length_toList]
    exact fits_of_scanBound hb
  have hI : IntsAre vs (vs.map Builtin.Re.reRawOf) := ints_of vs fun v hv => by
    obtain ⟨e, he, q⟩ := List.mem_map.mp (pm.mem_iff.mp hv)
    obtain ⟨k, tk, h1, _⟩ := g e he
    exact ⟨k, tk, by rw [← q]; exact h1⟩
  have pk : (vs.map Builtin.Re.reRawOf).Perm (es.toList.map keyOf) := by
    have q := pm.map Builtin.Re.reRawOf
    rw [List.map_map] at q
    exact q
  refine wpAny_bind (wpAny_newList ?_ hvl)
  have hoL : (s1.heap.push (seqObj "list" vs.toArray 0)).get? s1.heap.objs.size = some (seqObj "list" vs.toArray 0) := Heap.get?_push_size _ rfl
  refine wpAny_bind (wpAny_holding (wpAny_call_entry slot_list_sort ⟨_, hoL, rfl⟩ entry_list_sort (SrtO.list_sort_ord SrtO.swo_int hoL hvl (fun h2 => SrtO.ints_sortable hI h2) fun out hs hb => ⟨_, rfl, ?_⟩) (args_list_sort _)))
  obtain ⟨a1, a2, a3⟩ := SrtO.ints_out hI hs hb
  obtain ⟨c, hc⟩ := sortedHeap_at (vs := vs) (out := out.toArray) hoL
  have pn := a2.trans pk
  refine wpAny_pure ⟨_, rfl, hQ _ s1.heap.objs.size out c _ (fun b u e => ?_) g1 o1 hz hc a1 (lt_of_le_nodup _ a3 (pn.nodup_iff.mpr nd)) (fun k => by rw [pn.mem_iff, ← hm k]) ?_⟩
  · have q := k1 b u e
    have hlt := Heap.lt_size q
    show (sortedHeap (s1.heap.push (seqObj "list" vs.toArray 0)) s1.heap.objs.size vs out.toArray).get? b = some u
    rw [sortedHeap_old (Nat.ne_of_lt hlt) (by rw [size_push']; exact Nat.lt_succ_of_lt hlt)]
    exact Heap.get?_push_of_some _ q
  · rw [a2.length_eq, List.length_map]
    exact hvl
end
section
variable {X : Cx}
theorem cr_setI (hc : X.calm = true) : CallR X (.type "set") (fun vs H Q => ∃ (a : Addr) (ns : List Int), vs = [V.ref a] ∧ SqT X.K H a (ns.map V.int) ∧ ns.length ≤ 1000 ∧ ∀ p n, H p = none → Q (.ref p) (upd H p (SetO X.w p (fun j => decide (j ∈ ns)) n))) := by
  intro pins s σ H vs us Q I r h
  obtain ⟨a, ns, rfl, hs, hn, q⟩ := h
  obtain ⟨its, rv, hl, hz⟩ := I.tuple hs
  rw [Vals.ref1 r]
  refine call_set_tupI ns (I.ok.hd hc) (show s.heap.IsTuple a its.toArray from hl) (ints_of_vals rv) (by unfold scanBound; omega) fun h' tk c R1 hcn k => ?_
  exact ⟨.ref _, _, I.laid (t' := tk) k (Nat.le_refl _) (setO_new R1), rfl, q _ c (I.hok.fresh (Nat.le_refl _))⟩
theorem cr_sortedSetA (hc : X.calm = true) : CallR X (.builtin "sorted") (fun vs H Q => ∃ (a : Addr) (S : Int → Bool) (n : Nat), vs = [V.ref a] ∧ H a = some (SetO X.w a S n) ∧
    ∀ (ns : List Int) (p : Addr), ns.Pairwise (· < ·) → (∀ k : Int, k ∈ ns ↔ S k = true) → H p = none → Q (.ref p) (upd H p (.lst (ns.map V.int)))) := by
  intro pins s σ H vs us Q I r h
  obtain ⟨a, S, n, rfl, ha, q⟩ := h
  have R := setO_get I ha
  rw [Vals.ref1 r]
  refine sorted_setA R (I.ok.hd hc) fun s' p out c ns k g o hp hg hi hs hm hl => ?_
  have hlen : (ns.map V.int).length ≤ sizeLine := by rw [List.length_map]; exact hl
  have hn : H p = none := I.hok.fresh hp
  have J : Inv X pins σ (upd H p (.lst (ns.map V.int))) { s with heap := s'.heap, gens := s'.gens, drawn := s'.drawn, toks := s'.toks } :=
    I.call (ch := []) (Un.laid k hp hn) (I.hok.laid k hp ⟨hlen, out, c, vals_of_ints hi, hg⟩) (by rw [g]; exact I.bare) (fun _ z => nomatch z)
  have e : s' = { s with heap := s'.heap, gens := s'.gens, drawn := s'.drawn, toks := s'.toks } := by
    cases s'
    cases s
    cases o
    rfl
  rw [e]
  exact ⟨.ref p, _, J, rfl, q ns p hs hm hn⟩
end
section
variable {K : PySem.W.Frag} {XR : XRep} {W : WX} {O : Addr → Prop} {H : Hp} {ms : MS} {σ : St}
variable {X : Cx} {e : Exp} {pos p p2 pos2 : Pos}
theorem c_sset {fa : M A} (hc : X.calm = true) (hg : Gl X "sorted") (hm : X.mg "sorted" = none) (hg2 : Gl X "set") (hm2 : X.mg "set" = none) (ha : PE X e (tA X.K XR W fa))
    (he0 : starEach [e] X.env = (false, eval e X.env) :: starEach [] X.env) (hpl : (backTo pos2 (starEach [] X.env)).any (·.1) = false)
    (he1 : starEach [.Call (.Name "set" p2) [e] [] pos2] X.env = (false, eval (.Call (.Name "set" p2) [e] [] pos2) X.env) :: starEach [] X.env) (hpl1 : (backTo pos (starEach [] X.env)).any (·.1) = false) :
    PE X (.Call (.Name "sorted" p) [.Call (.Name "set" p2) [e] [] pos2] [] pos) (tM X.K XR W (do
    let x ← fa
    let d ← rdA x
    let xs ← liftO (srtSet d)
    pure (.lst xs, true))) := by
  refine (pe_callB (cr_sortedSetA hc) hg hm (by decide +kernel) (pa_cons (pe_callTy (cr_setI hc) hg2 hm2 boot_setM (pa_cons ha pa_nil he0) (by decide) (by decide) he0 hpl) pa_nil he1) (by decide) (by decide) he1 hpl1).weak ?_
  rintro σ H Q ⟨O, ms, rel, G⟩
  refine tA_in rel (.refl rel) G fun x ms1 v O1 H1 P1 _ R1 G1 => ?_
  obtain ⟨d, rd, G2⟩ := rdA_in P1.rel R1 G1
  obtain ⟨xs, e1, G3⟩ := liftO_in G2
  cases d <;> first | (cases e1; done) | skip
  case tup ds =>
    have e1 : (if ds.length ≤ 1000 then (intsOf ds).map fun ns => (nubI (sortI ns)).map D.int else none) = some xs := e1
    split at e1
    · rename_i hl
      obtain ⟨ns, hns, rfl⟩ := map_some e1
      obtain ⟨a, vs, rfl, h1, r1⟩ := rd.tup
      obtain ⟨e2, e3⟩ := r1.intsOf hns
      subst e2
      refine ⟨a, ns, rfl, h1, by rw [e3, List.length_map] at hl; exact hl, fun p n hp => ⟨p, _, n, rfl, upd_same, fun ns' p' hs hk hp' => ?_⟩⟩
      have e4 : ns' = nubI (sortI ns) := asc_uniq hs (nubI_spec _ (sortI_sorted ns)).1 fun k => by
        rw [hk k, decide_eq_true_eq, (nubI_spec _ (sortI_sorted ns)).2 k, (sortI_perm ns).mem_iff]
      subst e4
      have hne : p' ≠ p := fun z => by rw [z, upd_same] at hp'; cases hp'
      have hp2 : H1 p' = none := by rw [upd_ne hne] at hp'; exact hp'
      refine fin_in rel P1 G3 _ _ ⟨fun b o hb => ?_, p', _, _, rfl, rfl, hp2, upd_same, .ints⟩
      exact upd_more hp' b o (upd_more hp b o hb)
    · cases e1
end
end Mi

set_option Elab.async false
set_option linter.all false
set_option maxRecDepth 100000
set_option autoImplicit false
set_option maxHeartbeats 4000000
namespace PySem
namespace HandSPX
/-! ### an error made by keywords alone -/
section
variable {M : Model} {A : Around} {E : Value → Shared → Prop} {h : Heap} {g : Array GenState} {d : Drawn} {t : Nat} {os : OsState}
variable {nm q : Str} {C N : Addr} {bs bm bmB : List Value} {hdct : Bool} {sn : List Str} {sub : List Value} {ab : Bool} {col : Option Bool} {dd : Option Addr} {k0 k1 k2 k3 k5 : Option Value} {B newId initId : String}
theorem check_new_ownK (F : ExcBaseFacts B newId initId bmB) (hT : ∀ X : String, bm.contains (.type X) = bmB.contains (.type X)) {kw : List (Str × Value)} {Q : Unit → Shared → Prop}
    (hC : h.get? C = some (excClassObj nm q C N bs bm hdct sn sub ab col dd k0 k1 k2 k3 k5 newId)) (hq : Q () ⟨h, g, d, t, os⟩) : wpAny M A (checkBuiltinCall newId ⟨[.ref C], kw⟩) Q E ⟨h, g, d, t, os⟩ := by
  have hcont : (Value.ref C :: bm).contains (.type B) = true := by rw [List.contains_cons, hT, F.hasB, Bool.or_true]
  have hstar := F.noStar
  simp only [checkBuiltinCall, F.newKind, F.newSplit, F.newRow]
  repeat (first | refine wpAny_loadPart_at hC ?_ | (refine wpAny_isSubtype_exc hC ?_; rw [hcont]) | refine wpAny_staticBase_exc hC ?_ | refine wpAny_madeBy_exc hC ?_ | simp only [bne_self_eq_false, Bool.false_eq_true, if_false] | wp_step)
  exact hq
end
section
variable {prog : Program} {w : World} {A : Around} {E : Value → Shared → Prop} {R : Result → Shared → Prop} {h : Heap} {g : Array GenState} {d : Drawn} {t : Nat} {os : OsState}
variable {nm q : Str} {C N : Addr} {bs bm bmB : List Value} {hdct : Bool} {sn : List Str} {sub : List Value} {ab : Bool} {col : Option Bool} {dd : Option Addr} {k0 k1 k2 k3 k5 : Option Value} {B newId initId : String}
theorem new_ownK (F : ExcBaseFacts B newId initId bmB) (hT : ∀ X : String, bm.contains (.type X) = bmB.contains (.type X)) {kw : List (Str × Value)}
    (hC : h.get? C = some (excClassObj nm q C N bs bm hdct sn sub ab col dd k0 k1 k2 k3 k5 newId))
    (hq : R (.ok (.ret (.ref (h.objs.size + 1)))) ⟨(h.push { cls := .type "tuple", data := .seq ([] : List Value).toArray }).push
      { cls := .ref C, data := .fields #[.ref h.objs.size, .none, .none, .none, .bool false, .none] }, g, d, t, os⟩) :
    codeAny (model prog w) A (.builtin newId ⟨[.ref C], kw⟩) R ⟨h, g, d, t, os⟩ := by
  have hends := F.ends
  have hcB : (Value.ref C :: bm).contains (.type B) = true := by rw [List.contains_cons, hT, F.hasB, Bool.or_true]
  have hcA : (Value.ref C :: bm).contains (.type "AttributeError") = false := by rw [List.contains_cons, hT, F.noAttr]; rfl
  have hcN : (Value.ref C :: bm).contains (.type "NameError") = false := by rw [List.contains_cons, hT, F.noName]; rfl
  refine codeAny_builtinAt F.entry ?_
  unfold Builtin.«BaseException.__new__»
  refine wpAt_bind ?_
  show wpAt _ _ _ (stack >>= _) _ _ _
  refine wpAt_bind (wpAt_stack fun p below => wpAt_of_wpAny ?_)
  wp_walk
  refine wpAt_of_wpAny ?_
  rw [F.owner]
  repeat (first | with_reducible refine wpAny_madeHere_exc F.canon hC ?_ | with_reducible refine wpAny_loadPart_at hC ?_ | (with_reducible refine wpAny_isSubtype_exc hC ?_; first | rw [hcB] | rw [hcA] | rw [hcN]) | wp_step)
  show R _ _
  rw [Heap.size_push]
  exact hq
theorem check_type_callK {M : Model} {kw : List (Str × Value)} {Q : Unit → Shared → Prop} (hC : h.get? C = some (excClassObj nm q C N bs bm hdct sn sub ab col dd k0 k1 k2 k3 k5 newId))
    (hq : Q () ⟨h, g, d, t, os⟩) : wpAny M A (checkBuiltinCall "type.__call__" ⟨[.ref C], kw⟩) Q E ⟨h, g, d, t, os⟩ := by
  have f3 := tc_sub
  have hT : (⟨h, g, d, t, os⟩ : Shared).TypeIs (.ref C) "type" := ⟨_, hC, rfl⟩
  simp only [checkBuiltinCall, tc_kind, tc_split]
  repeat (any_goals (first | assumption | with_reducible refine wpAny_loadPart_at hC ?_ | with_reducible refine wpAny_onRaise ?_ | with_reducible refine wpAny_map ?_ | wp_step))
theorem type_call_ownK (F : ExcBaseFacts B newId initId bmB) (hT : ∀ X : String, bm.contains (.type X) = bmB.contains (.type X)) {kw : List (Str × Value)} {fI : Addr} {Q : Fin → Shared → Prop}
    (hC : h.get? C = some (excClassObj nm q C N bs bm hdct sn sub ab col dd k0 k1 k2 k3 k5 newId))
    (hi : W.Looks (model prog w) h (typeLookup (.ref C) "__init__") (some (.ref fI))) (hb : ∀ self, W.Looks (model prog w) h (bindSpecial (.ref fI) self) (.ref fI, [self]))
    (hq : codeAny (model prog w) A (.call (.ref fI) ⟨[.ref (h.objs.size + 1)], kw⟩)
      (fun r s' => match r with | .ok (.ret v) => v = .none ∧ Q (.done (.ret (.ref (h.objs.size + 1)))) s' | .ok _ => False | .error e => E e s')
      ⟨(h.push (W.kdv_tup [])).push (excO C h.objs.size), g, d, t, os⟩) :
    wpAny (model prog w) A (Builtin.«type.__call__» ⟨[.ref C], kw⟩) Q E ⟨h, g, d, t, os⟩ := by
  repeat (first | with_reducible refine wpAny_loadPart_at hC ?_ | with_reducible refine wpAny_madeBy_exc hC ?_ | wp_step)
  refine codeAny_call_builtin_code (Code.quiet_builtin _ F.quiet) (check_new_ownK F hT hC ?_)
  refine new_ownK F hT hC ?_
  show wpAny _ _ _ _ _ _
  have k : ∀ b o, h.get? b = some o → ((h.push (W.kdv_tup [])).push (excO C h.objs.size)).get? b = some o := fun b o e => Heap.get?_push_of_some _ (Heap.get?_push_of_some _ e)
  have hC₁ := k _ _ hC
  have hget : ((h.push (W.kdv_tup [])).push (excO C h.objs.size)).get? (h.objs.size + 1) = some (excO C h.objs.size) := by heap_get
  have hcC : (Value.ref C :: bm).contains (.ref C) = true := by simp
  have i1 := hi.keeps k
  have b1 := (hb (.ref (h.objs.size + 1))).keeps k
  unfold isInstance
  repeat (first | with_reducible refine wpAny_loadPart_at hget ?_ | (with_reducible refine wpAny_isSubtype_exc hC₁ ?_; rw [hcC]) | wp_step)
  show wpAny _ _ (typeLookup (.ref C) _) _ _ _
  refine i1.at ?_
  refine wpAny_holding (wpAny_bind (b1.at ?_))
  refine wpAny_bind (wpAny_call (codeAny_mono hq fun r s' z => ?_))
  rcases r with e | (v | _ | _ | _) <;> first | exact z | exact z.elim | skip
  obtain ⟨rfl, z⟩ := z
  first
    | exact wpAny_pure (wpAny_pure z)
    | (wp_walk; exact z)
theorem call_ownK (F : ExcBaseFacts B newId initId bmB) (hT : ∀ X : String, bm.contains (.type X) = bmB.contains (.type X)) {kw : List (Str × Value)} {fI : Addr}
    (hC : h.get? C = some (excClassObj nm q C N bs bm hdct sn sub ab col dd k0 k1 k2 k3 k5 newId))
    (hi : W.Looks (model prog w) h (typeLookup (.ref C) "__init__") (some (.ref fI))) (hb : ∀ self, W.Looks (model prog w) h (bindSpecial (.ref fI) self) (.ref fI, [self]))
    (hq : codeAny (model prog w) (A.under (.builtin "type.__call__" ⟨[.ref C], kw⟩)) (.call (.ref fI) ⟨[.ref (h.objs.size + 1)], kw⟩) (W.InitBack (h.objs.size + 1) R)
      ⟨(h.push (W.kdv_tup [])).push (excO C h.objs.size), g, d, t, os⟩) :
    codeAny (model prog w) A (.call (.ref C) ⟨[], kw⟩) R ⟨h, g, d, t, os⟩ := by
  have f1 := tc_lookup
  have f2 := tc_bind (.ref C)
  have hTy : (⟨h, g, d, t, os⟩ : Shared).TypeIs (.ref C) "type" := ⟨_, hC, rfl⟩
  refine codeAny_of_tree ?_
  show wpAny _ _ (callAny (.ref C) _) _ _ _
  repeat (any_goals (first | assumption | with_reducible refine wpAny_loadPart_at hC ?_ | wp_step))
  refine ⟨rfl, ?_⟩
  refine codeAny_call_builtin_at (Code.quiet_builtin _ (by decide +kernel)) entry_typeCall (check_type_callK hC (type_call_ownK F hT hC hi hb ?_))
  refine codeAny_mono hq fun r s' z => ?_
  rcases r with e | (v | _ | _ | _) <;> exact z
end
end HandSPX
end PySem

namespace L2
open PySem PySem.Spec PyProof.Rows
section
variable {X : Cx} {e : Expr} {ta : TA} {p pos kpos : Pos}
theorem pmk_oexK {CX : CXT} {x : Str} {C fI : Addr} {k : Nat} {fd : FuncData} {sp : Sp} (T : OexC X.K C) (iC : PySem.W.findIn X.K (.ref C) "__init__" = some (some (.ref fI))) (tI : PySem.W.typeIn X.K (.ref fI) = some (.type "function"))
    (F1 : FnOk X.prog X.w X.K X.mg X.base CX k fI fd [("self" : Str), ("value" : Str)] sp) (hr : Room (k + 1) X.A) (hb : ∀ (s : Shared) (a z : Value), X.K.In s.heap → BindsTo s fd ⟨[a], [(("value" : Str), z)]⟩ [(("self" : Str), a), (("value" : Str), z)]) (hx : Passes CX X (fun _ _ _ => False)) (hg : Gl X x) (hm : X.mg x = some (.ref C)) (hk : PK X [⟨some ("value" : Str), e, kpos⟩] ta)
    (hdb : (x == ("__debug__" : Str)) = false := by decide) :
    PMk X (.Call (.Name x p) [] [⟨some ("value" : Str), e, kpos⟩] pos) (tMkO C sp [] ta) := by
  intro pins s σ H Q I h
  obtain ⟨nm, q, N, bs, bm, sn, sub, ab, col, dd, k0, k1, k2, k3, k5, hC, hbm⟩ := T.cls
  refine wpAny_Call_Name_kw (ld_glob I hg hm ?_ hdb)
  refine PySem.W.callWith_KW0 (h₀ := X.base) I.ok.mod.kin T.kC (by rfl) (thn (hk.run pos pins s σ H _ I h) fun ws s1 ⟨vs, H1, I1, r1, hz, q1⟩ => ⟨I1.kIn, ?_⟩) (by rfl)
  show wpAny _ _ (call (.ref C) [] ([("value" : Str)].zip ws)) _ _ _
  obtain ⟨hp, g, dr, tk, os⟩ := s1
  have hsz : hp.objs.size ≤ hp.objs.size + 1 := Nat.le_succ _
  have hn : H1 (hp.objs.size + 1) = none := I1.hok.fresh hsz
  have hq := q1 (hp.objs.size + 1) hn
  have hl2 := F1.len _ _ _ _ hq
  obtain ⟨v, w, rfl, rfl, rv⟩ : ∃ v w, vs = [v] ∧ ws = [w] ∧ RelV v w := by
    cases r1 with
    | nil => simp at hl2
    | cons a t =>
      cases t with
      | nil => exact ⟨_, _, rfl, rfl, a⟩
      | cons _ _ => simp at hl2
  have kk : ∀ b o, hp.get? b = some o → ((hp.push (PySem.W.kdv_tup [])).push (PySem.HandSPX.excO C hp.objs.size)).get? b = some o := fun b o e => Heap.get?_push_of_some _ (Heap.get?_push_of_some _ e)
  have hget : ((hp.push (PySem.W.kdv_tup [])).push (PySem.HandSPX.excO C hp.objs.size)).get? (hp.objs.size + 1) = some (PySem.HandSPX.excO C hp.objs.size) := by heap_get
  have I2 : Inv X pins σ (upd H1 (hp.objs.size + 1) (exo (hp.objs.size + 1) C none)) ⟨(hp.push (PySem.W.kdv_tup [])).push (PySem.HandSPX.excO C hp.objs.size), g, dr, tk, os⟩ :=
    I1.laid (t' := tk) (a := hp.objs.size + 1) (o := exo (hp.objs.size + 1) C none) (h' := (hp.push (PySem.W.kdv_tup [])).push (PySem.HandSPX.excO C hp.objs.size)) kk hsz (exo_ok hget)
  have r2 : Vals [V.ref (hp.objs.size + 1), v] [Value.ref (hp.objs.size + 1), w] := .cons rfl (.cons rv .nil)
  refine wpAny_call (PySem.HandSPX.call_ownK F.excBase_ValueError (fun Y => PySem.HandSPX.refsVE_contains Y bm hbm) (I1.kIn _ _ hC) (PySem.W.looks_findIn I1.kIn iC) (fun self => PySem.W.bind_fn I1.kIn self tI)
    (codeAny_mono (F1.run _ X.stack _ _ ⟨[Value.ref (hp.objs.size + 1)], [(("value" : Str), w)]⟩ [Value.ref (hp.objs.size + 1), w] _ _ (fun _ _ _ => False) (hr.make C [] [(("value" : Str), w)]) (I2.env0.make C [] [(("value" : Str), w)]) (hb _ _ _ I2.kIn) r2 hq) fun r s' hq' => ?_))
  cases r with
  | error er => exact hx pins σ _ _ er s' I2 hq'
  | ok fl =>
    cases fl with
    | ret u =>
      obtain ⟨v, H2, os2, bare2, un2, hok2, rv, ev, d, fs, ea, ed, hd1, q2⟩ := hq'
      subst ev
      obtain ⟨h2, g2, d2, t2, os'⟩ := s'
      exact ⟨rv, mk_end (raises_own T.exC T.tyC) I1 hsz kk un2 hok2 os2 bare2 ea ed hd1 q2⟩
    | next => exact False.elim hq'
    | brk => exact False.elim hq'
    | cont => exact False.elim hq'
end
end L2
namespace Mi
open PySem PySem.Spec PyProof.Rows L2
section
variable {K : PySem.W.Frag} {XR : XRep} {W : WX} {X : Cx} {O O' O0 : Addr → Prop} {H H' H0 : Hp} {ms ms' ms0 : MS} {σ : St} {e : Exp} {p p2 pos kpos : Pos} {i j : Nat}
theorem s_raiseK {fI C : Addr} {fd : FuncData} {x : Str} {c : Nat} {g : M (List D)} (hF : excB X.K fI = true) (hxr : XR = excXR X.K) (hcl : X.calm = true) (tk : Takes X W) (hC : clsAt X.K c C) (hg : Gl X x) (hm : X.mg x = some (.ref C)) (hdb : (x == ("__debug__" : Str)) = false)
    (F1 : FnOk X.prog X.w X.K X.mg X.base (L2.CX X.prog X.w) 1 fI fd [("self" : Str), ("value" : Str)] (iniSp X.K)) (hr : Room 2 X.A) (hbn : ∀ (s : Shared) (a z : Value), X.K.In s.heap → BindsTo s fd ⟨[a], [(("value" : Str), z)]⟩ [(("self" : Str), a), (("value" : Str), z)]) (tI : PySem.W.typeIn X.K (.ref fI) = some (.type "function"))
    (hk : PK X [⟨some ("value" : Str), e, kpos⟩] (tF X.K XR W g)) (hl : ∀ m ds m', g m = .ok ds m' → ds.length = 1) :
    PS X (.Raise (some (.Call (.Name x p) [] [⟨some ("value" : Str), e, kpos⟩] pos)) none p2) (tS X.K XR W (do
    let ds ← g
    fun m => .err c (ds.getD 0 .non) m)) := by
  have T := excB_one hF hC
  refine (ps_raise hcl tk (pmk_oexK T.oex T.ini tI F1 hr hbn (passes_call (E := fun _ _ _ => False) tk fun _ _ _ _ z => z.elim) hg hm hk hdb)).weak ?_
  rintro Ds σ H ⟨O, ms, rel, G⟩
  subst hxr
  refine ⟨O, ms, rel, ?_⟩
  have G := G.bind
  unfold End at G ⊢
  cases hx : g ms with
  | bad => rw [hx] at G; exact G
  | err c' x' m =>
    rw [hx] at G
    intro cls dx O' H' P xr
    exact (G : ZX X.K (excXR X.K) W O ms σ H c' x' m) cls dx O' σ H' P.s xr
  | ok ds m1 =>
    rw [hx] at G
    have G : ZX X.K (excXR X.K) W O ms σ H c (ds.getD 0 .non) m1 := G
    intro vs O1 H1 P1 r1
    have hlen := hl _ _ _ hx
    obtain ⟨v, d, rfl, rfl, rv⟩ : ∃ v d, vs = [v] ∧ ds = [d] ∧ Rep X.K O1 H1 v d := by
      cases r1 with
      | nil => cases hlen
      | cons a t =>
        cases t with
        | nil => exact ⟨_, _, rfl, rfl, a⟩
        | cons _ _ => simp at hlen
    refine ⟨by show 1 ≤ 1000; decide, fun a na => ⟨a, C, v, rfl, T.oex, T.fld, upd_same, fun dx n ne => ?_⟩⟩
    have nd1 : H1 dx = none := by rw [upd_ne ne] at n; exact n
    refine ⟨rfl, dx, [("value", v)], upd_same, by rw [upd_ne ne, upd_same], nd1, ?_⟩
    -- the heap behind it: the dict alone is new
    have eqH : upd (L2.del (upd (upd (upd H1 a (exo a C none)) dx (exd dx [("value", v)])) a (exo a C (some dx))) a) dx (.xd [("value", v)]) = upd H1 dx (.xd [("value", v)]) := by
      funext b
      by_cases hb : b = dx
      · rw [hb, upd_same, upd_same]
      · rw [upd_ne hb, upd_ne hb]
        by_cases hb2 : b = a
        · rw [hb2, L2.del_same, na]
        · rw [L2.del_ne hb2, upd_ne hb2, upd_ne hb, upd_ne hb2]
    rw [eqH]
    have more : ∀ b o, H1 b = some o → upd H1 dx (.xd [("value", v)]) b = some o := fun b o h => upd_more nd1 b o h
    obtain ⟨O2, P2, R2⟩ := prm_post (b := false) P1.rel (⟨more, rv.keep (fun b o n h => ⟨n, more b o h⟩)⟩ : Prm X.K O1 H1 d false v (upd H1 dx (.xd [("value", v)])))
    have nO : ¬ O2 dx := fun z => by
      obtain ⟨ws, ez⟩ := P2.rel.lists dx z
      rw [upd_same] at ez
      cases ez
    exact G (.ref C) (some dx) O2 σ _ (P1.trans rel P2).s ⟨C, dx, v, rfl, hC, rfl, nO, upd_same, R2⟩

end
end Mi

set_option Elab.async false
set_option linter.all false
set_option maxRecDepth 100000
set_option autoImplicit false
set_option maxHeartbeats 1000000
namespace Mi
open PySem PySem.Spec PyProof.Rows L2
/-! ### looks at the text -/
def vNm : Exp → Option (Str × Pos)
  | .Name x p => some (x, p)
  | _ => none
theorem vNm_ok {e : Exp} {x : Str} {p : Pos} (h : vNm e = some (x, p)) : e = .Name x p := by
  cases e <;> first | (cases h; rfl) | (cases h; done)
def vCon : Exp → Option (Const × Nat × Pos)
  | .Constant c j p => some (c, j, p)
  | _ => none
theorem vCon_ok {e : Exp} {c : Const} {j : Nat} {p : Pos} (h : vCon e = some (c, j, p)) : e = .Constant c j p := by
  cases e <;> first | (cases h; rfl) | (cases h; done)
def vTup : Exp → Option (List Exp × Nat × Pos)
  | .Tuple es k p => some (es, k, p)
  | _ => none
theorem vTup_ok {e : Exp} {es : List Exp} {k : Nat} {p : Pos} (h : vTup e = some (es, k, p)) : e = .Tuple es k p := by
  cases e <;> first | (cases h; rfl) | (cases h; done)
def vLst : Exp → Option (List Exp × Pos)
  | .List es p => some (es, p)
  | _ => none
theorem vLst_ok {e : Exp} {es : List Exp} {p : Pos} (h : vLst e = some (es, p)) : e = .List es p := by
  cases e <;> first | (cases h; rfl) | (cases h; done)
def vBin : Exp → Option (Exp × Operator × Exp × Pos)
  | .BinOp a o b p => some (a, o, b, p)
  | _ => none
theorem vBin_ok {e a b : Exp} {o : Operator} {p : Pos} (h : vBin e = some (a, o, b, p)) : e = .BinOp a o b p := by
  cases e <;> first | (cases h; rfl) | (cases h; done)
def vUn : Exp → Option (UnaryOp × Exp × Pos)
  | .UnaryOp o a p => some (o, a, p)
  | _ => none
theorem vUn_ok {e a : Exp} {o : UnaryOp} {p : Pos} (h : vUn e = some (o, a, p)) : e = .UnaryOp o a p := by
  cases e <;> first | (cases h; rfl) | (cases h; done)
def vCmp : Exp → Option (Exp × List CmpOp × List Exp × Pos)
  | .Compare a os bs p => some (a, os, bs, p)
  | _ => none
theorem vCmp_ok {e a : Exp} {os : List CmpOp} {bs : List Exp} {p : Pos} (h : vCmp e = some (a, os, bs, p)) : e = .Compare a os bs p := by
  cases e <;> first | (cases h; rfl) | (cases h; done)
def vBool : Exp → Option (BoolOp × List Exp × Pos)
  | .BoolOp o es p => some (o, es, p)
  | _ => none
theorem vBool_ok {e : Exp} {o : BoolOp} {es : List Exp} {p : Pos} (h : vBool e = some (o, es, p)) : e = .BoolOp o es p := by
  cases e <;> first | (cases h; rfl) | (cases h; done)
def vIf : Exp → Option (Exp × Exp × Exp × Pos)
  | .IfExp a b c p => some (a, b, c, p)
  | _ => none
theorem vIf_ok {e a b c : Exp} {p : Pos} (h : vIf e = some (a, b, c, p)) : e = .IfExp a b c p := by
  cases e <;> first | (cases h; rfl) | (cases h; done)
def vSub : Exp → Option (Exp × Exp × Pos)
  | .Subscript a b p => some (a, b, p)
  | _ => none
theorem vSub_ok {e a b : Exp} {p : Pos} (h : vSub e = some (a, b, p)) : e = .Subscript a b p := by
  cases e <;> first | (cases h; rfl) | (cases h; done)
def vSlc : Exp → Option (Option Exp × Option Exp × Option Exp × Pos)
  | .Slice a b c p => some (a, b, c, p)
  | _ => none
theorem vSlc_ok {e : Exp} {a b c : Option Exp} {p : Pos} (h : vSlc e = some (a, b, c, p)) : e = .Slice a b c p := by
  cases e <;> first | (cases h; rfl) | (cases h; done)
def vCall : Exp → Option (Exp × List Exp × List Keyword × Pos)
  | .Call f es ks p => some (f, es, ks, p)
  | _ => none
theorem vCall_ok {e f : Exp} {es : List Exp} {ks : List Keyword} {p : Pos} (h : vCall e = some (f, es, ks, p)) : e = .Call f es ks p := by
  cases e <;> first | (cases h; rfl) | (cases h; done)
/-- a call by a name -/
def vCallN (e : Exp) : Option (Str × Pos × List Exp × List Keyword × Pos) := match vCall e with
  | some (f, es, ks, p) => match vNm f with
    | some (x, q) => some (x, q, es, ks, p)
    | none => none
  | none => none
theorem vCallN_ok {e : Exp} {x : Str} {q p : Pos} {es : List Exp} {ks : List Keyword} (h : vCallN e = some (x, q, es, ks, p)) : e = .Call (.Name x q) es ks p := by
  unfold vCallN at h
  cases h1 : vCall e with
  | none => rw [h1] at h; cases h
  | some t =>
    obtain ⟨f, es', ks', p'⟩ := t
    rw [h1] at h
    cases h2 : vNm f with
    | none => simp only [h2] at h; cases h
    | some u =>
      obtain ⟨x', q'⟩ := u
      simp only [h2] at h
      cases h
      rw [vCall_ok h1, vNm_ok h2]
def vAttr : Exp → Option (Exp × Str × Pos)
  | .Attribute e a p => some (e, a, p)
  | _ => none
theorem vAttr_ok {e f : Exp} {a : Str} {p : Pos} (h : vAttr e = some (f, a, p)) : e = .Attribute f a p := by
  cases e <;> first | (cases h; rfl) | (cases h; done)
/-- a call of a method -/
def vMeth (e : Exp) : Option (Exp × Str × Pos × List Exp × List Keyword × Pos) := match vCall e with
  | some (f, es, ks, p) => match vAttr f with
    | some (o, a, q) => some (o, a, q, es, ks, p)
    | none => none
  | none => none
theorem vMeth_ok {e o : Exp} {a : Str} {q p : Pos} {es : List Exp} {ks : List Keyword} (h : vMeth e = some (o, a, q, es, ks, p)) : e = .Call (.Attribute o a q) es ks p := by
  unfold vMeth at h
  cases h1 : vCall e with
  | none => rw [h1] at h; cases h
  | some t =>
    obtain ⟨f, es', ks', p'⟩ := t
    rw [h1] at h
    cases h2 : vAttr f with
    | none => simp only [h2] at h; cases h
    | some u =>
      obtain ⟨x', y', q'⟩ := u
      simp only [h2] at h
      cases h
      rw [vCall_ok h1, vAttr_ok h2]
def vLc : Exp → Option (Exp × List Comprehension × Scope × Pos)
  | .ListComp e g s p => some (e, g, s, p)
  | _ => none
theorem vLc_ok {e f : Exp} {g : List Comprehension} {s : Scope} {p : Pos} (h : vLc e = some (f, g, s, p)) : e = .ListComp f g s p := by
  cases e <;> first | (cases h; rfl) | (cases h; done)
/-! ### no star -/
def noStar : Exp → Bool
  | .Starred _ _ => false
  | _ => true
theorem star_cons {e : Exp} {es : List Exp} {env : Env} (h : noStar e = true) : starEach (e :: es) env = (false, eval e env) :: starEach es env := by
  cases e <;> first | rfl | (cases h; done)
theorem back_any {pos : Pos} {env : Env} : ∀ {es : List Exp}, es.all noStar = true → (backTo pos (starEach es env)).any (·.1) = false
  | [], _ => rfl
  | e :: es, h => by
    rw [List.all_cons, Bool.and_eq_true] at h
    rw [star_cons h.1]
    show (false || (backTo pos (starEach es env)).any (·.1)) = false
    rw [Bool.false_or, back_any h.2]
theorem back_all {pos : Pos} {env : Env} : ∀ {es : List Exp}, es.all noStar = true → (backTo pos (starEach es env)).all (fun x => !x.1) = true
  | [], _ => rfl
  | e :: es, h => by
    rw [List.all_cons, Bool.and_eq_true] at h
    rw [star_cons h.1]
    show (true && (backTo pos (starEach es env)).all (fun x => !x.1)) = true
    rw [Bool.true_and, back_all h.2]
theorem asg_cons {e : Exp} {es : List Exp} {env : Env} (h : noStar e = true) : assignEach (e :: es) env = (false, assign e env) :: assignEach es env := by
  cases e <;> first | rfl | (cases h; done)
theorem asg_len {env : Env} : ∀ {es : List Exp}, es.all noStar = true → (assignEach es env).length = es.length ∧ (assignEach es env).findIdx? (·.1) = none
  | [], _ => ⟨rfl, rfl⟩
  | e :: es, h => by
    rw [List.all_cons, Bool.and_eq_true] at h
    rw [asg_cons h.1]
    obtain ⟨h1, h2⟩ := asg_len (env := env) h.2
    refine ⟨by rw [List.length_cons, List.length_cons, h1], ?_⟩
    rw [List.findIdx?_cons, h2]
    rfl
theorem kw_all {pos : Pos} {env : Env} : ∀ {ks : List Keyword}, (backToKw pos (keywordEach ks env)).map (·.1) = ks.map (·.arg)
  | [] => rfl
  | ⟨n, v, p⟩ :: ks => by
    show n :: (backToKw pos (keywordEach ks env)).map (·.1) = n :: ks.map (·.arg)
    rw [kw_all]
end Mi

set_option Elab.async false
set_option linter.all false
set_option maxRecDepth 100000
set_option autoImplicit false
set_option maxHeartbeats 4000000
namespace Mi
open PySem PySem.Spec PyProof.Rows L2
/-! ### the check of an expression -/
structure Sig where
  N : List Str
  fns : List Str
  kws : List (Nat × Nat × List Str × List Nat)
  globs : List Str
  blts : List Str
  gcd : Bool
  cls : List Nat
structure Ctx where
  sc : Scope
  raw : Option Scope
def visC (sc : Scope) (x : Str) : Bool := match sc.names.lookup x with
  | some .local => true
  | some .cell => true
  | some .free => true
  | _ => false
def notDbg (x : Str) : Bool := !(x == ("__debug__" : Str)) && !(x == ("__classdict__" : Str))
def nmC (sg : Sig) (cx : Ctx) (i : Nat) (x : Str) : Bool := decide (sg.N[i]? = some x) && visC cx.sc x && notDbg x
def glC (cx : Ctx) (x : Str) : Bool := decide (cx.sc.names.lookup x = some .globalImplicit)
def bltC (sg : Sig) (cx : Ctx) (x : Str) : Bool := glC cx x && decide (x ∈ sg.blts)
def fnb : Option Scope → Str → Bool
  | none, _ => true
  | some s, x => s.names.lookup x == some .cell
def locC (sg : Sig) (cx : Ctx) (i : Nat) (x : Str) : Bool := decide (sg.N[i]? = some x) && match cx.sc.names.lookup x with
  | some .local => true
  | some .cell => fnb cx.raw x
  | _ => false
def relabelS (scope sc : Scope) : Scope :=
  { scope with names := scope.names.map fun (n, k) => if (k == .free && sc.kind == .function && sc.names.lookup n == some .cell) then (n, .cell) else (n, k) }
def Ctx.blk (cx : Ctx) (scope : Scope) : Ctx := ⟨relabelS scope cx.sc, some scope⟩
def lenEs : Es → Nat
  | .nil => 0
  | .cons _ es => lenEs es + 1
def biNm : Bi → Str
  | .len => "len" | .tuple => "tuple" | .list => "list" | .sorted => "sorted" | .sum => "sum" | .min => "min" | .max => "max" | .any => "any" | .all => "all" | .abs => "abs" | .int => "int" | .gcd => "gcd" | .divmod => "divmod"
def biC (sg : Sig) (cx : Ctx) (b : Bi) (x : Str) : Bool := match b with
  | .gcd => decide (x = "gcd") && glC cx x && sg.gcd
  | b => decide (x = biNm b) && bltC sg cx x
def muNm : Mu → Str
  | .append => "append" | .pop => "pop" | .remove => "remove" | .extend => "extend"
def noSlice : Exp → Bool
  | .Slice _ _ _ _ => false
  | _ => true
def noCall : Exp → Bool
  | .Call _ _ _ _ => false
  | _ => true
def noSet : Exp → Bool
  | .Set _ _ _ => false
  | _ => true
def tysC (sg : Sig) (cx : Ctx) : List Ty → List Exp → Bool
  | [], [] => true
  | t :: ts, e :: es => (match vNm e with
    | some (x, _) => decide (nmTy t = some x) && bltC sg cx x && noStar e
    | none => false) && tysC sg cx ts es
  | _, _ => false
mutual
def chkT (sg : Sig) (cx : Ctx) : T → Exp → Bool
  | .nm i, pe => match vNm pe with
    | some (x, _) => locC sg cx i x
    | none => false
  | .tp ts, pe => match vTup pe with
    | some (es, _, _) => es.all noStar && decide (es.length = lenTs ts) && chkTs sg cx ts es
    | none => false
def chkTs (sg : Sig) (cx : Ctx) : Ts → List Exp → Bool
  | .nil, [] => true
  | .cons t ts, e :: es => noStar e && chkT sg cx t e && chkTs sg cx ts es
  | _, _ => false
end
def isTup : Exp → Bool
  | .Tuple _ _ _ => true
  | _ => false
mutual
def chkE (sg : Sig) : Ctx → Bool → E → Exp → Bool
  | cx, _, .var i, pe => match vNm pe with
    | some (x, _) => nmC sg cx i x
    | none => false
  | _, _, .non, pe => match vCon pe with
    | some (c, _, _) => decide (c = .none)
    | none => false
  | _, _, .bl b, pe => match vCon pe with
    | some (c, _, _) => decide (c = .bool b)
    | none => false
  | _, _, .int i, pe => match vCon pe with
    | some (c, _, _) => decide (c = .int i)
    | none => false
  | _, _, .str s, pe => match vCon pe with
    | some (c, _, _) => decide (c = .str s)
    | none => false
  | cx, _, .glb g, pe => match vNm pe with
    | some (x, _) => decide (sg.globs[g]? = some x) && glC cx x && notDbg x
    | none => false
  | cx, _, .tup es, pe => match vTup pe with
    | some (pes, _, _) => decide (lenEs es ≤ 1000) && chkEs sg cx es pes
    | none => false
  | cx, _, .lst es, pe => match vLst pe with
    | some (pes, _) => decide (lenEs es ≤ 1000) && chkEs sg cx es pes
    | none => false
  | cx, _, .op o a b, pe => match vBin pe with
    | some (ea, po, eb, _) => decide (po = pyOp o) && chkE sg cx false a ea && chkE sg cx false b eb
    | none => false
  | cx, _, .neg a, pe => match vUn pe with
    | some (o, ea, _) => decide (o = .USub) && chkE sg cx false a ea
    | none => false
  | cx, _, .cmp o a b, pe => match vCmp pe with
    | some (ea, [po], [eb], _) => decide (po = pyCm o) && !behindInMarks (pyCm o) eb && chkE sg cx false a ea && chkE sg cx false b eb
    | _ => false
  | cx, _, .chn o q a b c, pe => match vCmp pe with
    | some (ea, [po, pq], [eb, ec], _) => decide (po = pyCm o) && decide (pq = pyCm q) && !lastMarks [pyCm o, pyCm q] [eb, ec] && chkE sg cx false a ea && chkE sg cx false b eb && chkE sg cx false c ec
    | _ => false
  | cx, m, .land a b, pe => match vBool pe with
    | some (o, e1 :: e2 :: rest, p) => decide (o = .And) && chkE sg cx m a e1 && (match rest with
      | [] => chkE sg cx m b e2
      | r :: rs => chkE sg cx m b (.BoolOp .And (e2 :: r :: rs) p))
    | _ => false
  | cx, m, .lor a b, pe => match vBool pe with
    | some (o, e1 :: e2 :: rest, p) => decide (o = .Or) && chkE sg cx m a e1 && (match rest with
      | [] => chkE sg cx m b e2
      | r :: rs => chkE sg cx m b (.BoolOp .Or (e2 :: r :: rs) p))
    | _ => false
  | cx, m, .lnot a, pe => match vUn pe with
    | some (o, ea, _) => decide (o = .Not) && chkE sg cx m a ea
    | none => false
  | cx, m, .ife c a b, pe => match vIf pe with
    | some (ec, ea, eb, _) => !m && chkE sg cx true c ec && chkE sg cx false a ea && chkE sg cx false b eb
    | none => false
  | cx, _, .idx a i, pe => match vSub pe with
    | some (ea, ei, _) => noSlice ei && chkE sg cx false a ea && chkE sg cx false i ei
    | none => false
  | cx, _, .slc a lo hi, pe => match vSub pe with
    | some (ea, es, _) => match vSlc es with
      | some (pl, ph, ps, _) => ps.isNone && chkE sg cx false a ea && chkO sg cx lo pl && chkO sg cx hi ph
      | none => false
    | none => false
  | cx, _, .rev a, pe => match vSub pe with
    | some (ea, es, _) => match vSlc es with
      | some (none, none, some s, _) => (match vUn s with
        | some (o, c, _) => decide (o = .USub) && (match vCon c with
          | some (k, _, _) => decide (k = .int 1)
          | none => false)
        | none => false) && chkE sg cx false a ea
      | _ => false
    | none => false
  | cx, _, .call f es, pe => match vCallN pe with
    | some (x, _, e :: pes, [], _) => decide (sg.fns[f]? = some x) && glC cx x && notDbg x && (e :: pes).all noStar && chkEs sg cx es (e :: pes)
    | _ => false
  | cx, _, .callk f ord es ks, pe => match vCallN pe with
    | some (x, _, pes, kws, _) => decide (sg.fns[f]? = some x) && glC cx x && notDbg x && pes.all noStar && chkEs sg cx es pes && (kws.map (·.arg)).all (·.isSome) && chkEs sg cx ks (kws.map (·.value)) && decide ((f, pes.length, (kws.map (·.arg)).filterMap id, ord) ∈ sg.kws)
    | none => false
  | cx, _, .bi b es, pe => match vCallN pe with
    | some (x, _, e :: pes, [], _) => biC sg cx b x && (e :: pes).all noStar && chkEs sg cx es (e :: pes)
    | _ => false
  | cx, _, .rlist t es, pe => match es with
    | .cons a .nil => match vCallN pe with
      | some (x, _, [er], [], _) => match vCallN er with
        | some (r, _, [ea], [], _) => decide (x = if t then "tuple" else "list") && bltC sg cx x && decide (r = "range") && bltC sg cx r && noStar ea && chkE sg cx false a ea
        | _ => false
      | _ => false
    | _ => false
  | cx, _, .isi a ts, pe => match vCallN pe with
    | some (f, _, [ea, et], [], _) => decide (f = "isinstance") && bltC sg cx f && noStar ea && noStar et && chkE sg cx false a ea && (match vTup et with
      | some (es, _, _) => decide (ts.length ≤ 1000) && !ts.isEmpty && tysC sg cx ts es
      | none => (match ts with
        | [.cls c] => decide (c ∈ sg.cls) && (match vNm et with
          | some (x, _) => decide (x = excNm c) && glC cx x && notDbg x
          | none => false)
        | [.valueError] => !sg.cls.isEmpty && (match vNm et with
          | some (x, _) => decide (x = "ValueError") && bltC sg cx x
          | none => false)
        | [t] => tysC sg cx [t] [et]
        | _ => false))
    | _ => false
  | cx, _, .me m a es, pe => match vMeth pe with
    | some (o, nm, ap, e :: pes, [], cp) => (match m with
      | .index => decide (nm = "index")
      | .count => decide (nm = "count")) && noCall o && (ap.endLine == cp.line) && (e :: pes).all noStar && decide ((e :: pes).length < 29) && chkE sg cx false a o && chkEs sg cx es (e :: pes)
    | _ => false
  | cx, _, .mu m i es, pe => match vMeth pe with
    | some (o, nm, ap, pes, [], cp) => decide (nm = muNm m) && (match vNm o with
      | some (x, _) => nmC sg cx i x
      | none => false) && (ap.endLine == cp.line) && pes.all noStar && decide (pes.length < 29) && chkEs sg cx es pes
    | _ => false
  | cx, _, .comp vs t it cs elt, pe => match vLc pe with
    | some (pelt, [g], scope, _) => decide (g.is_async = 0) && blkC sg.N cx.sc scope (vs.map fun v => ((sg.N[v]?).getD "", v)) && (slotsT t).all (fun j => decide (j ∈ vs)) && chkT sg (cx.blk scope) t g.target && chkI sg cx g.target it g.iter && noSet g.iter &&
      chkB sg (cx.blk scope) cs g.ifs && chkE sg (cx.blk scope) false elt pelt
    | _ => false
  | cx, _, .valOf a, pe => match vAttr pe with
    | some (o, nm, _) => decide (nm = "value") && !sg.cls.isEmpty && noCall o && chkE sg cx false a o
    | none => false
  | cx, _, .srtl a, pe => match vCallN pe with
    | some (f, _, [ea], [kw], _) => decide (f = "sorted") && bltC sg cx f && decide (kw.arg = some (Str.ofString "key")) && (match vNm kw.value with
      | some (l, _) => decide (l = "len") && bltC sg cx l
      | none => false) && noStar ea && chkE sg cx false a ea
    | _ => false
  | cx, _, .sset a, pe => match vCallN pe with
    | some (f, _, [es], [], _) => decide (f = "sorted") && bltC sg cx f && (match vCallN es with
      | some (f2, _, [ea], [], _) => decide (f2 = "set") && bltC sg cx f2 && noStar ea && chkE sg cx false a ea
      | _ => false)
    | _ => false
  | cx, m, .as _ _ a, pe => chkE sg cx m a pe
  | _, _, .bad, _ => true
def chkEs (sg : Sig) : Ctx → Es → List Exp → Bool
  | _, .nil, pes => pes.isEmpty
  | cx, .cons e es, pes => match pes with
    | p :: ps => noStar p && chkE sg cx false e p && chkEs sg cx es ps
    | [] => false
/-- none or one test -/
def chkB (sg : Sig) : Ctx → Es → List Exp → Bool
  | _, .nil, pes => pes.isEmpty
  | cx, .cons e es, pes => match es, pes with
    | .nil, [p] => chkE sg cx true e p
    | _, _ => false
def chkO (sg : Sig) : Ctx → Eo → Option Exp → Bool
  | _, .none, pe => pe.isNone
  | cx, .some e, pe => match pe with
    | some p => chkE sg cx false e p
    | none => false
def chkI (sg : Sig) : Ctx → Exp → I → Exp → Bool
  | cx, _, .ex e, pe => chkE sg cx false e pe
  | _, _, .lend _, _ => false
  | cx, _, .range es, pe => match vCallN pe with
    | some (r, _, pes, [], _) => decide (r = "range") && bltC sg cx r && pes.all noStar && (pes.length == 1 || pes.length == 2 || pes.length == 3) && chkEs sg cx es pes
    | _ => false
  | cx, tg, .enum e, pe => match vCallN pe with
    | some (r, _, [p], [], _) => decide (r = "enumerate") && bltC sg cx r && noStar p && isTup tg && chkE sg cx false e p
    | _ => false
  | cx, tg, .zip a b, pe => match vCallN pe with
    | some (r, _, [p, q], [], _) => decide (r = "zip") && bltC sg cx r && noStar p && noStar q && isTup tg && chkE sg cx false a p && chkE sg cx false b q
    | _ => false
end
/-- the context that the check speaks of -/
structure Good (X : Cx) (XR : XRep) (C : Calls) (sg : Sig) (cx : Ctx) (W : WX) : Prop where
  nd : X.N.Nodup
  hN : X.N = sg.N
  sc : X.env.scope = cx.sc
  calm : X.calm = true
  fnb : ∀ x, X.fn x = fnb cx.raw x
  tk : Takes X W
  fns : ∀ f x, sg.fns[f]? = some x → ∃ k fa fd ps, Room k X.A ∧ FnOk X.prog X.w X.K X.mg X.base (L2.CX X.prog X.w) k fa fd ps (spF X.K XR C.call f) ∧ X.mg x = some (.ref fa) ∧ PySem.W.keepIn X.K (.ref fa) = true ∧ Binds X.K fd ps [] ∧
    ∀ np ks ord, (f, np, ks, ord) ∈ sg.kws → KBinds X.K fd ps ks (gK np ks.length ord) (gK np ks.length ord)
  units : X.A.units + 64 < cLine
  blt : ∀ x, x ∈ sg.blts → X.mg x = none
  gcd : sg.gcd = true → X.mg "gcd" = some (.builtin "math.gcd")
  glob : ∀ g x, sg.globs[g]? = some x → ∃ d v u, X.mg x = some u ∧ RelV v u ∧ (∀ O H, Rep X.K O H v d) ∧ C.glob g = some d
  exf : sg.cls ≠ [] → XR = excXR X.K ∧ ∃ fI fd, excB X.K fI = true ∧ PySem.W.typeIn X.K (.ref fI) = some (.type "function") ∧ FnOk X.prog X.w X.K X.mg X.base (L2.CX X.prog X.w) 1 fI fd [("self" : Str), ("value" : Str)] (iniSp X.K) ∧ Binds X.K fd [("self" : Str), ("value" : Str)] [] ∧ (∀ (s : Shared) (a z : Value), X.K.In s.heap → BindsTo s fd ⟨[a], [(("value" : Str), z)]⟩ [(("self" : Str), a), (("value" : Str), z)])
  cls : ∀ c, c ∈ sg.cls → ∃ Ca, clsAt X.K c Ca ∧ X.mg (excNm c) = some (.ref Ca)
  sub : ∀ c' c, C.sub c' c = subT c' c
  room : Room 2 X.A
end Mi

set_option Elab.async false
set_option linter.all false
set_option maxRecDepth 100000
set_option autoImplicit false
set_option maxHeartbeats 4000000
namespace Mi
open PySem PySem.Spec PyProof.Rows L2
section
variable {X : Cx} {XR : XRep} {C : Calls} {sg : Sig} {cx : Ctx} {W : WX} {x : Str} {i : Nat} {pe e : Exp} {f : M (D × Bool)} {m : Bool}
theorem vis_of (g : Good X XR C sg cx W) (h : visC cx.sc x = true) : Vis X.env.scope x := by
  rw [g.sc]
  unfold visC at h
  split at h
  · rename_i q; exact .inl q
  · rename_i q; exact .inr (.inl q)
  · rename_i q; exact .inr (.inr q)
  · cases h
theorem dbg_of (h : notDbg x = true) : (x == ("__debug__" : Str)) = false ∧ (x == ("__classdict__" : Str)) = false := by
  unfold notDbg at h
  simpa using h
theorem nm_of (g : Good X XR C sg cx W) (h : nmC sg cx i x = true) : X.N[i]? = some x ∧ Vis X.env.scope x ∧ (x == ("__debug__" : Str)) = false ∧ (x == ("__classdict__" : Str)) = false := by
  unfold nmC at h
  simp only [Bool.and_eq_true, decide_eq_true_eq] at h
  obtain ⟨⟨h1, h2⟩, h3⟩ := h
  obtain ⟨h4, h5⟩ := dbg_of h3
  exact ⟨by rw [g.hN]; exact h1, vis_of g h2, h4, h5⟩
theorem gl_of (g : Good X XR C sg cx W) (h : glC cx x = true) : Gl X x := by
  unfold glC at h
  show X.env.scope.names.lookup x = _
  rw [g.sc]
  exact of_decide_eq_true h
theorem blt_of (g : Good X XR C sg cx W) (h : bltC sg cx x = true) : Gl X x ∧ X.mg x = none := by
  unfold bltC at h
  rw [Bool.and_eq_true, decide_eq_true_eq] at h
  exact ⟨gl_of g h.1, g.blt x h.2⟩
theorem loc_of (g : Good X XR C sg cx W) (h : locC sg cx i x = true) : X.N[i]? = some x ∧ Loc X.env.scope x ∧ (X.fn x = true ∨ X.env.scope.names.lookup x = some .local) := by
  unfold locC at h
  rw [Bool.and_eq_true, decide_eq_true_eq] at h
  obtain ⟨h1, h2⟩ := h
  refine ⟨by rw [g.hN]; exact h1, ?_⟩
  rw [g.sc]
  split at h2
  · rename_i q; exact ⟨.inl q, .inr q⟩
  · rename_i q; exact ⟨.inr q, .inl (by rw [g.fnb]; exact h2)⟩
  · cases h2
theorem Good.blk (g : Good X XR C sg cx W) {scope : Scope} {s : Shared} {H : Hp} {Cc : Addr} {cl : List (Str × Addr)} {fp : List Addr} : Good (X.blk s H scope (compEnvC scope cl Cc X.env) fp) XR C sg (cx.blk scope) noW where
  nd := g.nd
  hN := g.hN
  sc := by
    show relabel scope X.env = relabelS scope cx.sc
    rw [← g.sc]
    rfl
  calm := g.calm
  fnb := fun x => rfl
  tk := takes0
  fns := g.fns
  units := g.units
  blt := g.blt
  gcd := g.gcd
  glob := g.glob
  exf := g.exf
  cls := g.cls
  sub := g.sub
  room := g.room
def Snd (X : Cx) (XR : XRep) (W : WX) (m : Bool) (f : M (D × Bool)) (pe : Exp) : Prop := if m = true then PT X pe (tT X.K XR W (tst f)) else PE X pe (tM X.K XR W f)
theorem Snd.toE (h : Snd X XR W false f pe) : PE X pe (tM X.K XR W f) := h
theorem Snd.toT (h : Snd X XR W true f pe) : PT X pe (tT X.K XR W (tst f)) := h
theorem snd_plain (h : PE X pe (tM X.K XR W f)) (he : ∀ whole, isTrue pe X.env whole = (do let v ← whole; standAt pe.pos; holding [v] (truthy v))) : Snd X XR W m f pe := by
  unfold Snd
  cases m with
  | true => exact t_plain h he
  | false => exact h
theorem snd_both (h : PE X pe (tM X.K XR W f)) (h2 : PT X pe (tT X.K XR W (tst f))) : Snd X XR W m f pe := by
  unfold Snd
  cases m with
  | true => exact h2
  | false => exact h
def asM (κ : Kd) (o : Option Bool) (f : M (D × Bool)) : M (D × Bool) := do
  let p ← f
  if kdOk κ p.1 && owOk o p.2 then pure (p.1, owTo o p.2) else fail
theorem tM_as {K : PySem.W.Frag} {κ : Kd} {o : Option Bool} {σ : St} {H : Hp} {Q : VK} (h : tM K XR W (asM κ o f) σ H Q) : tM K XR W f σ H Q := by
  obtain ⟨O, ms, rel, G⟩ := h
  refine ⟨O, ms, rel, End.imp G.bind (fun r ms1 G1 v O1 H1 P1 R1 => ?_) (fun c x m h => h)⟩
  obtain ⟨d, b⟩ := r
  dsimp only at G1
  split at G1
  · cases o with
    | none => exact (G1 : ZM K O ms σ H Q (d, b) ms1) v O1 H1 P1 R1
    | some a =>
      cases a with
      | true => exact (G1 : ZM K O ms σ H Q (d, b) ms1) v O1 H1 P1 R1
      | false =>
        obtain ⟨O2, P2, R2⟩ := post_val rel P1 R1
        exact (G1 : ZM K O ms σ H Q (d, false) ms1) v O2 H1 P2 R2
  · exact G1.elim
theorem tst_as (κ : Kd) (o : Option Bool) (ms : MS) : tst (asM κ o f) ms = .bad ∨ tst (asM κ o f) ms = tst f ms := by
  have e3 : ∀ (p : D × Bool) (m : MS), ((if kdOk κ p.1 && owOk o p.2 then pure (p.1, owTo o p.2) else fail : M (D × Bool)) m : Mi.R (D × Bool)) = .bad ∨ ((if kdOk κ p.1 && owOk o p.2 then pure (p.1, owTo o p.2) else fail : M (D × Bool)) m : Mi.R (D × Bool)) = .ok (p.1, owTo o p.2) m := fun p m => by
    split
    · exact .inr rfl
    · exact .inl rfl
  unfold tst asM
  rw [bind_run, bind_run, bind_run]
  cases f ms with
  | ok p m =>
    dsimp only
    rcases e3 p m with h | h
    · rw [h]; exact .inl rfl
    · rw [h]; exact .inr rfl
  | err c v m => exact .inr rfl
  | bad => exact .inr rfl
theorem snd_as {κ : Kd} {o : Option Bool} (h : Snd X XR W m f pe) : Snd X XR W m (asM κ o f) pe := by
  unfold Snd at h ⊢
  cases m with
  | true =>
    rw [if_pos rfl] at h ⊢
    refine h.weak ?_
    rintro σ H Q ⟨O, ms, rel, G⟩
    rcases tst_as (f := f) κ o ms with z | z
    · rw [z] at G; exact G.elim
    · rw [z] at G; exact ⟨O, ms, rel, G⟩
  | false =>
    rw [if_neg Bool.false_ne_true] at h ⊢
    exact h.weak fun σ H Q q => tM_as q
/-- an operand -/
theorem arg_ok (g : Good X XR C sg cx W) {e : E} (h : PE X pe (tM X.K XR W (ev C e))) (hc : chkE sg cx false e pe = true) : PE X pe (tA X.K XR W (argOf e (ev C e))) := by
  cases e with
  | var i =>
    simp only [chkE] at hc
    cases q : vNm pe with
    | none => simp only [q] at hc; cases hc
    | some t =>
      obtain ⟨x, p⟩ := t
      simp only [q] at hc
      rw [vNm_ok q]
      obtain ⟨h1, h2, h3, h4⟩ := nm_of g hc
      exact c_argv h1 h2 h3 h4
  | _ => exact c_argm h
theorem evFs_len : ∀ {es : Es} {m : MS} {ds : List D} {m' : MS}, evFs C es m = .ok ds m' → ds.length = lenEs es
  | .nil, m, ds, m', h => by
    simp only [evFs] at h
    have h : R.ok ([] : List D) m = .ok ds m' := h
    cases h; rfl
  | .cons e es, m, ds, m', h => by
    simp only [evFs] at h
    have h : (ev C e >>= fun p => evFs C es >>= fun ds => (pure (p.1 :: ds) : M (List D))) m = .ok ds m' := h
    rw [bind_run] at h
    cases h1 : ev C e m with
    | err c x m => rw [h1] at h; cases h
    | bad => rw [h1] at h; cases h
    | ok p m1 =>
      rw [h1] at h
      have h : (evFs C es >>= fun ds => (pure (p.1 :: ds) : M (List D))) m1 = .ok ds m' := h
      rw [bind_run] at h
      cases h2 : evFs C es m1 with
      | err c x m => rw [h2] at h; cases h
      | bad => rw [h2] at h; cases h
      | ok ds2 m2 =>
        rw [h2] at h
        have h : R.ok (p.1 :: ds2) m2 = .ok ds m' := h
        cases h
        show ds2.length + 1 = _
        rw [evFs_len h2]
        rfl
theorem lenEs_le {es : Es} (h : lenEs es ≤ 1000) : ∀ m ds m', evFs C es m = .ok ds m' → ds.length ≤ LINE := fun m ds m' q => by
  rw [evFs_len q]
  show lenEs es ≤ 16000000
  omega
theorem and_split {a b : Bool} (h : (a && b) = true) : a = true ∧ b = true := by simpa using h
theorem pt_pw_and {rest : List Exp} {pos : Pos} {t : TT} (h : PT X (.BoolOp .And rest pos) t) : PW X (.BoolOp .And rest pos) t := ⟨fun wh pins s σ H Q I hw => h.run pins s σ H Q I hw⟩
theorem pt_pw_or {rest : List Exp} {pos : Pos} {t : TT} (h : PT X (.BoolOp .Or rest pos) t) : PW X (.BoolOp .Or rest pos) t := ⟨fun wh pins s σ H Q I hw => h.run pins s σ H Q I hw⟩
theorem Snd.and1 {pos : Pos} (h : Snd X XR W m f pe) : Snd X XR W m f (.BoolOp .And [pe] pos) := by
  unfold Snd at h ⊢
  cases m with
  | true => exact (pw_and1 h).pt
  | false => exact pe_one h
theorem Snd.or1 {pos : Pos} (h : Snd X XR W m f pe) : Snd X XR W m f (.BoolOp .Or [pe] pos) := by
  unfold Snd at h ⊢
  cases m with
  | true => exact (pw_or1 h).pt
  | false => exact pe_one h
theorem Snd.land {fb : M (D × Bool)} {e2 : Exp} {rest : List Exp} {pos : Pos} (h : Snd X XR W m f pe) (h2 : Snd X XR W m fb (.BoolOp .And (e2 :: rest) pos)) : Snd X XR W m (do
    let p ← f
    let x ← asB p.1
    if x then fb else pure (.bl false, false)) (.BoolOp .And (pe :: e2 :: rest) pos) := by
  unfold Snd at h h2 ⊢
  cases m with
  | true => exact (t_land h (pt_pw_and h2)).pt
  | false => exact c_land h h2
theorem Snd.lor {fb : M (D × Bool)} {e2 : Exp} {rest : List Exp} {pos : Pos} (h : Snd X XR W m f pe) (h2 : Snd X XR W m fb (.BoolOp .Or (e2 :: rest) pos)) : Snd X XR W m (do
    let p ← f
    let x ← asB p.1
    if x then pure (.bl true, false) else fb) (.BoolOp .Or (pe :: e2 :: rest) pos) := by
  unfold Snd at h h2 ⊢
  cases m with
  | true => exact (t_lor h (pt_pw_or h2)).pt
  | false => exact c_lor h h2
theorem Snd.lnot {pos : Pos} (h : Snd X XR W m f pe) : Snd X XR W m (do
    let p ← f
    let x ← asB p.1
    pure (.bl (!x), false)) (.UnaryOp .Not pe pos) := by
  unfold Snd at h ⊢
  cases m with
  | true => exact t_lnot h
  | false => exact c_lnot h
end
end Mi

set_option Elab.async false
set_option linter.all false
set_option maxRecDepth 100000
set_option autoImplicit false
set_option maxHeartbeats 8000000
namespace Mi
open PySem PySem.Spec PyProof.Rows L2
section
variable {X : Cx} {XR : XRep} {C : Calls} {sg : Sig} {cx : Ctx} {W : WX} {x : Str} {i : Nat} {pe e : Exp} {f : M (D × Bool)} {m : Bool}
theorem tysC_ok (g : Good X XR C sg cx W) : ∀ {ts : List Ty} {es : List Exp}, tysC sg cx ts es = true → ∃ Ts, ts.map tyName = Ts.map some ∧ PA X es (tysT X.K Ts)
  | [], [], h => ⟨[], rfl, pa_nil⟩
  | [], _ :: _, h => by cases h
  | _ :: _, [], h => by cases h
  | t :: ts, e :: es, h => by
    unfold tysC at h
    obtain ⟨h1, h2⟩ := and_split h
    cases q : vNm e with
    | none => simp only [q] at h1; cases h1
    | some r =>
      obtain ⟨x, p⟩ := r
      simp only [q, Bool.and_eq_true, decide_eq_true_eq] at h1
      obtain ⟨⟨hx, hb⟩, hs⟩ := h1
      obtain ⟨hg, hm⟩ := blt_of g hb
      obtain ⟨T, hT⟩ := tyName_of hx
      obtain ⟨hv, hn, hd⟩ := boot_ty hx hT
      obtain ⟨Ts, k1, k2⟩ := tysC_ok g h2
      refine ⟨T :: Ts, by rw [List.map_cons, List.map_cons, hT, k1], ?_⟩
      have hc := vNm_ok q
      subst hc
      exact pa_cons (c_typ hg hm hv hn hd) k2 (star_cons hs)
mutual
theorem chkT_ok (g : Good X XR C sg cx W) : ∀ (t : T) {pe : Exp}, chkT sg cx t pe = true → PG X pe (tG X.K (slotsT t) (setT t))
  | .nm i, pe, h => by
    simp only [chkT] at h
    cases q : vNm pe with
    | none => simp only [q] at h; cases h
    | some r =>
      obtain ⟨x, p⟩ := r
      simp only [q] at h
      obtain ⟨h1, h2, h3⟩ := loc_of g h
      rw [vNm_ok q]
      exact g_nm g.nd h1 h2 h3
  | .tp ts, pe, h => by
    simp only [chkT] at h
    cases q : vTup pe with
    | none => simp only [q] at h; cases h
    | some r =>
      obtain ⟨es, k, p⟩ := r
      simp only [q, Bool.and_eq_true, decide_eq_true_eq] at h
      obtain ⟨⟨h1, h2⟩, h3⟩ := h
      rw [vTup_ok q]
      obtain ⟨k1, k2⟩ := asg_len (env := X.env) h1
      exact g_tp g.calm (chkTs_ok g ts h3) (k1.trans h2) k2
theorem chkTs_ok (g : Good X XR C sg cx W) : ∀ (ts : Ts) {es : List Exp}, chkTs sg cx ts es = true → PGs X es (tGs X.K (slotsTs ts) (setTs ts))
  | .nil, [], h => g_nil
  | .nil, _ :: _, h => by simp [chkTs] at h
  | .cons t ts, [], h => by simp [chkTs] at h
  | .cons t ts, e :: es, h => by
    simp only [chkTs, Bool.and_eq_true] at h
    obtain ⟨⟨h1, h2⟩, h3⟩ := h
    refine g_cons (chkT_ok g t h2) (chkTs_ok g ts h3) ?_
    rw [asg_cons h1]
    rfl
end
theorem bi_call (g : Good X XR C sg cx W) {b : Bi} {x : Str} {p pos : Pos} {e : Exp} {es : List Exp} (h : biC sg cx b x = true) (hs : (e :: es).all noStar = true) :
    ∀ (r : List V → Hp → VK → Prop) (t : TA), CallR X (biV b) r → PA X (e :: es) t → PE X (.Call (.Name x p) (e :: es) [] pos) (tCB r t) := by
  intro r t hc ha
  rw [List.all_cons] at hs
  obtain ⟨s1, s2⟩ := and_split hs
  have he : starEach (e :: es) X.env = (false, eval e X.env) :: starEach es X.env := star_cons s1
  have hpl : (backTo pos (starEach es X.env)).any (·.1) = false := back_any s2
  cases b with
  | gcd =>
    simp only [biC, Bool.and_eq_true, decide_eq_true_eq] at h
    obtain ⟨⟨rfl, h2⟩, h3⟩ := h
    exact pe_callBfun hc (gl_of g h2) (g.gcd h3) ha (by decide) he hpl
  | len =>
    simp only [biC, Bool.and_eq_true, decide_eq_true_eq] at h
    obtain ⟨rfl, h2⟩ := h
    obtain ⟨hg, hm⟩ := blt_of g h2
    exact pe_callB hc hg hm PySem.boot_len ha (by decide) (by decide) he hpl
  | tuple =>
    simp only [biC, Bool.and_eq_true, decide_eq_true_eq] at h
    obtain ⟨rfl, h2⟩ := h
    obtain ⟨hg, hm⟩ := blt_of g h2
    exact pe_callTy hc hg hm boot_tuple ha (by decide) (by decide) he hpl
  | list =>
    simp only [biC, Bool.and_eq_true, decide_eq_true_eq] at h
    obtain ⟨rfl, h2⟩ := h
    obtain ⟨hg, hm⟩ := blt_of g h2
    exact pe_callTy hc hg hm boot_list ha (by decide) (by decide) he hpl
  | int =>
    simp only [biC, Bool.and_eq_true, decide_eq_true_eq] at h
    obtain ⟨rfl, h2⟩ := h
    obtain ⟨hg, hm⟩ := blt_of g h2
    exact pe_callTy hc hg hm boot_int ha (by decide) (by decide) he hpl
  | divmod =>
    simp only [biC, Bool.and_eq_true, decide_eq_true_eq] at h
    obtain ⟨rfl, h2⟩ := h
    obtain ⟨hg, hm⟩ := blt_of g h2
    exact pe_callB hc hg hm (by decide +kernel) ha (by decide) (by decide) he hpl
  | sorted =>
    simp only [biC, Bool.and_eq_true, decide_eq_true_eq] at h
    obtain ⟨rfl, h2⟩ := h
    obtain ⟨hg, hm⟩ := blt_of g h2
    exact pe_callB hc hg hm (by decide +kernel) ha (by decide) (by decide) he hpl
  | sum =>
    simp only [biC, Bool.and_eq_true, decide_eq_true_eq] at h
    obtain ⟨rfl, h2⟩ := h
    obtain ⟨hg, hm⟩ := blt_of g h2
    exact pe_callB hc hg hm (by decide +kernel) ha (by decide) (by decide) he hpl
  | min =>
    simp only [biC, Bool.and_eq_true, decide_eq_true_eq] at h
    obtain ⟨rfl, h2⟩ := h
    obtain ⟨hg, hm⟩ := blt_of g h2
    exact pe_callB hc hg hm (by decide +kernel) ha (by decide) (by decide) he hpl
  | max =>
    simp only [biC, Bool.and_eq_true, decide_eq_true_eq] at h
    obtain ⟨rfl, h2⟩ := h
    obtain ⟨hg, hm⟩ := blt_of g h2
    exact pe_callB hc hg hm (by decide +kernel) ha (by decide) (by decide) he hpl
  | any =>
    simp only [biC, Bool.and_eq_true, decide_eq_true_eq] at h
    obtain ⟨rfl, h2⟩ := h
    obtain ⟨hg, hm⟩ := blt_of g h2
    exact pe_callB hc hg hm (by decide +kernel) ha (by decide) (by decide) he hpl
  | all =>
    simp only [biC, Bool.and_eq_true, decide_eq_true_eq] at h
    obtain ⟨rfl, h2⟩ := h
    obtain ⟨hg, hm⟩ := blt_of g h2
    exact pe_callB hc hg hm (by decide +kernel) ha (by decide) (by decide) he hpl
  | abs =>
    simp only [biC, Bool.and_eq_true, decide_eq_true_eq] at h
    obtain ⟨rfl, h2⟩ := h
    obtain ⟨hg, hm⟩ := blt_of g h2
    exact pe_callB hc hg hm (by decide +kernel) ha (by decide) (by decide) he hpl
theorem few_ok {cpos : Pos} {es : List Exp} (h : es.all noStar = true) (hl : es.length < 29) : ((backTo cpos (starEach es X.env)).all (fun x => !x.1) && (backToKw cpos (keywordEach [] X.env)).all (fun x => x.1.isSome)
      && decide (es.length + ([] : List Keyword).length + (if ([] : List Keyword).isEmpty then 0 else 1) < 30)) = true := by
  rw [back_all h]
  show (true && true && decide (es.length + 0 + 0 < 30)) = true
  simp
  omega
theorem mu_call {m : Mu} {o e : Exp} {es : List Exp} {apos cpos : Pos} (hs : (e :: es).all noStar = true) (hl : (e :: es).length < 29) (hline : (apos.endLine == cpos.line) = true) (hbase : attributeBase o (muNm m) X.env (eval o X.env) = eval o X.env) :
    ∀ (r : V → List V → Hp → VK → Prop) (to : TE) (t : TA), MtR X (muId m) r → PE X o to → PA X (e :: es) t → PE X (.Call (.Attribute o (muNm m) apos) (e :: es) [] cpos) (tBM X.K "list" r to t) := by
  intro r to t hm ho ha
  have hf := few_ok (X := X) (cpos := cpos) hs hl
  rw [List.all_cons] at hs
  obtain ⟨s1, s2⟩ := and_split hs
  cases m with
  | append => exact pe_bm PySem.F.plainAttrs_list PySem.F.slot_list_append PySem.F.type_list_append hm ho ha hbase hf hline (star_cons s1) (back_any s2)
  | pop => exact pe_bm PySem.F.plainAttrs_list PySem.F.slot_list_pop PySem.F.type_list_pop hm ho ha hbase hf hline (star_cons s1) (back_any s2)
  | remove => exact pe_bm PySem.F.plainAttrs_list PySem.F.slot_list_remove PySem.F.type_list_remove hm ho ha hbase hf hline (star_cons s1) (back_any s2)
  | extend => exact pe_bm PySem.F.plainAttrs_list PySem.F.slot_list_extend PySem.F.type_list_extend hm ho ha hbase hf hline (star_cons s1) (back_any s2)
theorem mu_call0 {m : Mu} {o : Exp} {apos cpos : Pos} (hline : (apos.endLine == cpos.line) = true) (hbase : attributeBase o (muNm m) X.env (eval o X.env) = eval o X.env) :
    ∀ (r : V → List V → Hp → VK → Prop) (to : TE), MtR X (muId m) r → PE X o to → PE X (.Call (.Attribute o (muNm m) apos) [] [] cpos) (tBM0 X.K "list" r to) := by
  intro r to hm ho
  cases m with
  | append => exact pe_bm0 PySem.F.plainAttrs_list PySem.F.slot_list_append PySem.F.type_list_append hm ho hbase hline
  | pop => exact pe_bm0 PySem.F.plainAttrs_list PySem.F.slot_list_pop PySem.F.type_list_pop hm ho hbase hline
  | remove => exact pe_bm0 PySem.F.plainAttrs_list PySem.F.slot_list_remove PySem.F.type_list_remove hm ho hbase hline
  | extend => exact pe_bm0 PySem.F.plainAttrs_list PySem.F.slot_list_extend PySem.F.type_list_extend hm ho hbase hline
theorem base_ok {o : Exp} {nm : Str} (h : noCall o = true) : attributeBase o nm X.env (eval o X.env) = eval o X.env := by
  cases o <;> first | rfl | (cases h; done)
theorem set_ok {o : Exp} (h : noSet o = true) : ∀ x, foldedSetIterable o X.env x = pure x := by
  intro x
  cases o <;> first | rfl | (cases h; done)
theorem ix_ok {o : Exp} (h : noSlice o = true) : PlainIx o := by
  intro a b
  cases o <;> first | rfl | (cases h; done)
end
end Mi

set_option Elab.async false
set_option linter.all false
set_option maxRecDepth 100000
set_option autoImplicit false
set_option maxHeartbeats 16000000
namespace Mi
open PySem PySem.Spec PyProof.Rows L2
theorem kw_isSome {X : Cx} {pos : Pos} {ks : List Keyword} (h : (ks.map (·.arg)).all (·.isSome) = true) : (backToKw pos (keywordEach ks X.env)).all (·.1.isSome) = true := by
  have e := kw_all (pos := pos) (env := X.env) (ks := ks)
  rw [← e, List.all_map] at h
  exact h
theorem kw_names {X : Cx} {pos : Pos} {ks : List Keyword} : (backToKw pos (keywordEach ks X.env)).filterMap (·.1) = (ks.map (·.arg)).filterMap id := by
  rw [← kw_all (pos := pos) (env := X.env) (ks := ks), List.filterMap_map]
  rfl
theorem kw_none {X : Cx} {pos : Pos} {ks : List Keyword} (h : (ks.map (·.arg)).all (·.isSome) = true) : (backToKw pos (keywordEach ks X.env)).any (·.1.isNone) = false := by
  have e := kw_isSome (X := X) (pos := pos) h
  rw [List.any_eq_false]
  intro x hx
  have := List.all_eq_true.mp e x hx
  cases q : x.1 with
  | none => rw [q] at this; cases this
  | some y => simp
theorem kw_len {ks : List Keyword} (h : (ks.map (·.arg)).all (·.isSome) = true) : ((ks.map (·.arg)).filterMap id).length = ks.length := by
  induction ks with
  | nil => rfl
  | cons k ks ih =>
    rw [List.map_cons, List.all_cons] at h
    obtain ⟨h1, h2⟩ := and_split h
    cases q : k.arg with
    | none => rw [q] at h1; cases h1
    | some y =>
      rw [List.map_cons, q, List.filterMap_cons]
      show (y :: _).length = _
      rw [List.length_cons, List.length_cons, ih h2]
theorem own_names {sg : Sig} {vs : List Nat} : ((vs.map fun v => ((sg.N[v]?).getD "", v) : List (Str × Nat))).map (·.2) = vs := by
  rw [List.map_map]
  exact List.map_id vs
section
variable {XR : XRep} {C : Calls} {sg : Sig}
mutual
theorem chkE_ok : ∀ (e : E) {X : Cx} {cx : Ctx} {W : WX} {m : Bool} {pe : Exp}, Good X XR C sg cx W → chkE sg cx m e pe = true → Snd X XR W m (ev C e) pe
  | .var i, X, cx, W, m, pe, g, h => by
    simp only [chkE] at h
    cases q : vNm pe with
    | none => simp only [q] at h; cases h
    | some r =>
      obtain ⟨x, p⟩ := r
      simp only [q] at h
      rw [vNm_ok q]
      obtain ⟨h1, h2, h3, h4⟩ := nm_of g h
      simp only [ev]
      exact snd_plain (c_var h1 h2 h3 h4) (fun _ => rfl)
  | .non, X, cx, W, m, pe, g, h => by
    simp only [chkE] at h
    cases q : vCon pe with
    | none => simp only [q] at h; cases h
    | some r =>
      obtain ⟨c, j, p⟩ := r
      simp only [q, decide_eq_true_eq] at h
      rw [vCon_ok q, h]
      simp only [ev]
      exact snd_plain (c_const pe_non (fun _ _ => .non)) (fun _ => rfl)
  | .bl b, X, cx, W, m, pe, g, h => by
    simp only [chkE] at h
    cases q : vCon pe with
    | none => simp only [q] at h; cases h
    | some r =>
      obtain ⟨c, j, p⟩ := r
      simp only [q, decide_eq_true_eq] at h
      rw [vCon_ok q, h]
      simp only [ev]
      exact snd_plain (c_const pe_bl (fun _ _ => .bl b)) (fun _ => rfl)
  | .int b, X, cx, W, m, pe, g, h => by
    simp only [chkE] at h
    cases q : vCon pe with
    | none => simp only [q] at h; cases h
    | some r =>
      obtain ⟨c, j, p⟩ := r
      simp only [q, decide_eq_true_eq] at h
      rw [vCon_ok q, h]
      simp only [ev]
      exact snd_plain (c_const pe_int (fun _ _ => .int b)) (fun _ => rfl)
  | .str b, X, cx, W, m, pe, g, h => by
    simp only [chkE] at h
    cases q : vCon pe with
    | none => simp only [q] at h; cases h
    | some r =>
      obtain ⟨c, j, p⟩ := r
      simp only [q, decide_eq_true_eq] at h
      rw [vCon_ok q, h]
      simp only [ev]
      exact snd_plain (c_const pe_str (fun _ _ => .str b)) (fun _ => rfl)
  | .glb n, X, cx, W, m, pe, g, h => by
    simp only [chkE] at h
    cases q : vNm pe with
    | none => simp only [q] at h; cases h
    | some r =>
      obtain ⟨x, p⟩ := r
      simp only [q, Bool.and_eq_true, decide_eq_true_eq] at h
      obtain ⟨⟨h1, h2⟩, h3⟩ := h
      rw [vNm_ok q]
      obtain ⟨d, v, u, k1, k2, k3, k4⟩ := g.glob n x h1
      simp only [ev, k4]
      exact snd_plain (c_glb (gl_of g h2) k1 k2 k3 (dbg_of h3).1) (fun _ => rfl)
  | .tup es, X, cx, W, m, pe, g, h => by
    simp only [chkE] at h
    cases q : vTup pe with
    | none => simp only [q] at h; cases h
    | some r =>
      obtain ⟨pes, k, p⟩ := r
      simp only [q, Bool.and_eq_true, decide_eq_true_eq] at h
      rw [vTup_ok q]
      simp only [ev]
      exact snd_plain (c_tup (chkEs_ok es g h.2).1 (lenEs_le h.1)) (fun _ => rfl)
  | .lst es, X, cx, W, m, pe, g, h => by
    simp only [chkE] at h
    cases q : vLst pe with
    | none => simp only [q] at h; cases h
    | some r =>
      obtain ⟨pes, p⟩ := r
      simp only [q, Bool.and_eq_true, decide_eq_true_eq] at h
      rw [vLst_ok q]
      simp only [ev]
      exact snd_plain (c_lst (chkEs_ok es g h.2).1 (lenEs_le h.1)) (fun _ => rfl)
  | .op o a b, X, cx, W, m, pe, g, h => by
    simp only [chkE] at h
    cases q : vBin pe with
    | none => simp only [q] at h; cases h
    | some r =>
      obtain ⟨ea, po, eb, p⟩ := r
      simp only [q, Bool.and_eq_true, decide_eq_true_eq] at h
      obtain ⟨⟨rfl, h2⟩, h3⟩ := h
      rw [vBin_ok q]
      simp only [ev]
      exact snd_plain (c_op (arg_ok g (chkE_ok a g h2).toE h2) (arg_ok g (chkE_ok b g h3).toE h3)) (fun _ => rfl)
  | .neg a, X, cx, W, m, pe, g, h => by
    simp only [chkE] at h
    cases q : vUn pe with
    | none => simp only [q] at h; cases h
    | some r =>
      obtain ⟨o, ea, p⟩ := r
      simp only [q, Bool.and_eq_true, decide_eq_true_eq] at h
      obtain ⟨rfl, h2⟩ := h
      rw [vUn_ok q]
      simp only [ev]
      exact snd_plain (c_neg (chkE_ok a g h2).toE) (fun _ => rfl)
  | .cmp o a b, X, cx, W, m, pe, g, h => by
    simp only [chkE] at h
    cases q : vCmp pe with
    | none => simp only [q] at h; cases h
    | some r =>
      obtain ⟨ea, os, bs, p⟩ := r
      simp only [q] at h
      split at h
      · rename_i hq
        injection hq with hq
        injection hq with e1 hq
        injection hq with e2 hq
        injection hq with e3 e4
        subst e1 e2 e3 e4
        simp only [Bool.and_eq_true, decide_eq_true_eq, Bool.not_eq_true'] at h
        obtain ⟨⟨⟨rfl, hm⟩, h2⟩, h3⟩ := h
        rw [vCmp_ok q]
        simp only [ev]
        exact snd_both (c_cmp g.units hm (arg_ok g (chkE_ok a g h2).toE h2) (arg_ok g (chkE_ok b g h3).toE h3)) (t_cmp g.units hm (arg_ok g (chkE_ok a g h2).toE h2) (arg_ok g (chkE_ok b g h3).toE h3))
      · cases h
  | .chn o o2 a b c, X, cx, W, m, pe, g, h => by
    simp only [chkE] at h
    cases q : vCmp pe with
    | none => simp only [q] at h; cases h
    | some r =>
      obtain ⟨ea, os, bs, p⟩ := r
      simp only [q] at h
      split at h
      · rename_i hq
        injection hq with hq
        injection hq with e1 hq
        injection hq with e2 hq
        injection hq with e3 e4
        subst e1 e2 e3 e4
        simp only [Bool.and_eq_true, decide_eq_true_eq, Bool.not_eq_true'] at h
        obtain ⟨⟨⟨⟨⟨rfl, rfl⟩, hm⟩, h2⟩, h3⟩, h4⟩ := h
        rw [vCmp_ok q]
        simp only [ev]
        exact snd_both (c_chn g.units (arg_ok g (chkE_ok a g h2).toE h2) (arg_ok g (chkE_ok b g h3).toE h3) (arg_ok g (chkE_ok c g h4).toE h4) hm)
          (t_chn g.units (arg_ok g (chkE_ok a g h2).toE h2) (arg_ok g (chkE_ok b g h3).toE h3) (arg_ok g (chkE_ok c g h4).toE h4) hm)
      · cases h
  | .land a b, X, cx, W, m, pe, g, h => by
    simp only [chkE] at h
    cases q : vBool pe with
    | none => simp only [q] at h; cases h
    | some r =>
      obtain ⟨o, es, p⟩ := r
      simp only [q] at h
      split at h
      · rename_i hq
        injection hq with hq
        injection hq with e1 hq
        injection hq with e2 e3
        subst e1 e2 e3
        simp only [Bool.and_eq_true, decide_eq_true_eq] at h
        obtain ⟨⟨rfl, h2⟩, h3⟩ := h
        rw [vBool_ok q]
        simp only [ev]
        split at h3
        · exact Snd.land (chkE_ok a g h2) (chkE_ok b g h3).and1
        · exact Snd.land (chkE_ok a g h2) (chkE_ok b g h3)
      · cases h
  | .lor a b, X, cx, W, m, pe, g, h => by
    simp only [chkE] at h
    cases q : vBool pe with
    | none => simp only [q] at h; cases h
    | some r =>
      obtain ⟨o, es, p⟩ := r
      simp only [q] at h
      split at h
      · rename_i hq
        injection hq with hq
        injection hq with e1 hq
        injection hq with e2 e3
        subst e1 e2 e3
        simp only [Bool.and_eq_true, decide_eq_true_eq] at h
        obtain ⟨⟨rfl, h2⟩, h3⟩ := h
        rw [vBool_ok q]
        simp only [ev]
        split at h3
        · exact Snd.lor (chkE_ok a g h2) (chkE_ok b g h3).or1
        · exact Snd.lor (chkE_ok a g h2) (chkE_ok b g h3)
      · cases h
  | .lnot a, X, cx, W, m, pe, g, h => by
    simp only [chkE] at h
    cases q : vUn pe with
    | none => simp only [q] at h; cases h
    | some r =>
      obtain ⟨o, ea, p⟩ := r
      simp only [q, Bool.and_eq_true, decide_eq_true_eq] at h
      obtain ⟨rfl, h2⟩ := h
      rw [vUn_ok q]
      simp only [ev]
      exact (chkE_ok a g h2).lnot
  | .ife c a b, X, cx, W, m, pe, g, h => by
    simp only [chkE] at h
    cases q : vIf pe with
    | none => simp only [q] at h; cases h
    | some r =>
      obtain ⟨ec, ea, eb, p⟩ := r
      simp only [q, Bool.and_eq_true, Bool.not_eq_true'] at h
      obtain ⟨⟨⟨rfl, h1⟩, h2⟩, h3⟩ := h
      rw [vIf_ok q]
      simp only [ev]
      exact c_ife (chkE_ok c g h1).toT (chkE_ok a g h2).toE (chkE_ok b g h3).toE
  | .idx a i, X, cx, W, m, pe, g, h => by
    simp only [chkE] at h
    cases q : vSub pe with
    | none => simp only [q] at h; cases h
    | some r =>
      obtain ⟨ea, ei, p⟩ := r
      simp only [q, Bool.and_eq_true] at h
      obtain ⟨⟨h1, h2⟩, h3⟩ := h
      rw [vSub_ok q]
      simp only [ev]
      exact snd_plain (c_idx (ix_ok h1) (arg_ok g (chkE_ok a g h2).toE h2) (arg_ok g (chkE_ok i g h3).toE h3)) (fun _ => rfl)
  | .slc a lo hi, X, cx, W, m, pe, g, h => by
    simp only [chkE] at h
    cases q : vSub pe with
    | none => simp only [q] at h; cases h
    | some r =>
      obtain ⟨ea, es, p⟩ := r
      simp only [q] at h
      cases q2 : vSlc es with
      | none => simp only [q2] at h; cases h
      | some r2 =>
        obtain ⟨pl, ph, ps, p2⟩ := r2
        simp only [q2, Bool.and_eq_true] at h
        obtain ⟨⟨⟨h1, h2⟩, h3⟩, h4⟩ := h
        cases ps with
        | some _ => cases h1
        | none =>
          rw [vSub_ok q, vSlc_ok q2]
          simp only [ev]
          exact snd_plain (c_slc (arg_ok g (chkE_ok a g h2).toE h2) (chkO_ok lo g h3) (chkO_ok hi g h4)) (fun _ => rfl)
  | .rev a, X, cx, W, m, pe, g, h => by
    simp only [chkE] at h
    cases q : vSub pe with
    | none => simp only [q] at h; cases h
    | some r =>
      obtain ⟨ea, es, p⟩ := r
      simp only [q] at h
      cases q2 : vSlc es with
      | none => simp only [q2] at h; cases h
      | some r2 =>
        obtain ⟨pl, ph, ps, p2⟩ := r2
        simp only [q2] at h
        cases pl with
        | some _ => cases h
        | none =>
          cases ph with
          | some _ => cases h
          | none =>
            cases ps with
            | none => cases h
            | some s =>
              simp only [Bool.and_eq_true] at h
              obtain ⟨h1, h2⟩ := h
              cases q3 : vUn s with
              | none => simp only [q3] at h1; cases h1
              | some r3 =>
                obtain ⟨o, c, p3⟩ := r3
                simp only [q3, Bool.and_eq_true, decide_eq_true_eq] at h1
                obtain ⟨rfl, h3⟩ := h1
                cases q4 : vCon c with
                | none => simp only [q4] at h3; cases h3
                | some r4 =>
                  obtain ⟨k, j, p4⟩ := r4
                  simp only [q4, decide_eq_true_eq] at h3
                  subst h3
                  rw [vSub_ok q, vSlc_ok q2, vUn_ok q3, vCon_ok q4]
                  simp only [ev]
                  exact snd_plain (c_rev (arg_ok g (chkE_ok a g h2).toE h2)) (fun _ => rfl)
  | .call f es, X, cx, W, m, pe, g, h => by
    simp only [chkE] at h
    cases q : vCallN pe with
    | none => simp only [q] at h; cases h
    | some r =>
      obtain ⟨x, q1, pes, ks, p⟩ := r
      simp only [q] at h
      split at h
      · rename_i hq
        injection hq with hq
        injection hq with e1 hq
        injection hq with e2 hq
        injection hq with e3 hq
        injection hq with e4 e5
        subst e1 e2 e3 e4 e5
        simp only [Bool.and_eq_true, decide_eq_true_eq] at h
        obtain ⟨⟨⟨⟨h1, h2⟩, h3⟩, h4⟩, h5⟩ := h
        rw [vCallN_ok q]
        obtain ⟨k, fa, fd, ps, hr, F, hm, hk, hb, _⟩ := g.fns _ _ h1
        rw [List.all_cons] at h4
        obtain ⟨s1, s2⟩ := and_split h4
        simp only [ev]
        exact snd_plain (c_call F hr (gl_of g h2) hm hk hb g.tk ((chkEs_ok es g h5).2.2 f 0) (dbg_of h3).1 (star_cons s1) (back_any s2)) (fun _ => rfl)
      · cases h
  | .callk f ord es ks, X, cx, W, m, pe, g, h => by
    simp only [chkE] at h
    cases q : vCallN pe with
    | none => simp only [q] at h; cases h
    | some r =>
      obtain ⟨x, q1, pes, kws, p⟩ := r
      simp only [q, Bool.and_eq_true, decide_eq_true_eq] at h
      obtain ⟨⟨⟨⟨⟨⟨⟨h1, h2⟩, h3⟩, h4⟩, h5⟩, h6⟩, h7⟩, h8⟩ := h
      rw [vCallN_ok q]
      obtain ⟨k, fa, fd, ps, hr, F, hm, hk, hb, hkb⟩ := g.fns _ _ h1
      have hkb := hkb _ _ _ h8
      have PK1 : PK X kws (tF X.K XR W (evFs C ks)) := chkKs_ok ks g h7
      have n2 : ∀ m ds m', evFs C ks m = .ok ds m' → ds.length = ((kws.map (·.arg)).filterMap id).length := fun m ds m' hh => by
        rw [evFs_len hh, kw_len h6]
        have := chkEs_len ks h7
        rw [List.length_map] at this
        exact this
      simp only [ev]
      cases pes with
      | nil =>
        have : es = .nil := by
          cases es with
          | nil => rfl
          | cons e es => simp [chkEs] at h5
        subst this
        simp only [evFs]
        refine snd_plain (c_callk0 F hr (gl_of g h2) hm hk hkb g.tk PK1 n2 (dbg_of h3).1 (kw_isSome h6) kw_names ?_) (fun _ => rfl)
        rw [kw_none h6]
        rfl
      | cons e1 pes =>
        rw [List.all_cons] at h4
        obtain ⟨s1, s2⟩ := and_split h4
        refine snd_plain (c_callk F hr (gl_of g h2) hm hk hkb g.tk (chkEs_ok es g h5).1 PK1 (fun m ds m' hh => by rw [evFs_len hh, chkEs_len es h5]) n2 (dbg_of h3).1 (kw_isSome h6) kw_names (star_cons s1) ?_) (fun _ => rfl)
        rw [kw_none h6, back_any (by rw [List.all_cons, s1, s2]; rfl)]
        rfl
  | .bi b es, X, cx, W, m, pe, g, h => by
    simp only [chkE] at h
    cases q : vCallN pe with
    | none => simp only [q] at h; cases h
    | some r =>
      obtain ⟨x, q1, pes, ks, p⟩ := r
      simp only [q] at h
      split at h
      · rename_i hq
        injection hq with hq
        injection hq with e1 hq
        injection hq with e2 hq
        injection hq with e3 hq
        injection hq with e4 e5
        subst e1 e2 e3 e4 e5
        simp only [Bool.and_eq_true] at h
        obtain ⟨⟨h1, h2⟩, h3⟩ := h
        rw [vCallN_ok q]
        simp only [ev]
        exact snd_plain (c_bi (bi_call g h1 h2) g.calm (chkEs_ok es g h3).2.1) (fun _ => rfl)
      · cases h
  | .rlist t (.cons a .nil), X, cx, W, m, pe, g, h => by
    simp only [chkE] at h
    split at h
    · rename_i x q1 er p hq
      split at h
      · rename_i r q2 ea p2 hq2
        simp only [Bool.and_eq_true, decide_eq_true_eq] at h
        obtain ⟨⟨⟨⟨⟨hx, h2⟩, rfl⟩, h4⟩, h5⟩, h6⟩ := h
        obtain ⟨hg, hm⟩ := blt_of g h2
        obtain ⟨hg2, hm2⟩ := blt_of g h4
        rw [vCallN_ok hq, vCallN_ok hq2]
        simp only [ev, evFs]
        exact snd_plain (c_rg1 hx g.calm hg hm hg2 hm2 (chkE_ok a g h6).toE (star_cons h5) (star_cons rfl)) (fun _ => rfl)
      · cases h
    · cases h
  | .rlist t .nil, X, cx, W, m, pe, g, h => by
    simp [chkE] at h
  | .rlist t (.cons a (.cons b es)), X, cx, W, m, pe, g, h => by
    simp [chkE] at h
  | .isi a ts, X, cx, W, m, pe, g, h => by
    simp only [chkE] at h
    split at h
    · rename_i fx q1 ea et p hq
      simp only [Bool.and_eq_true, decide_eq_true_eq] at h
      obtain ⟨⟨⟨⟨⟨rfl, h2⟩, h3⟩, h4⟩, h5⟩, h6⟩ := h
      obtain ⟨hg, hm⟩ := blt_of g h2
      rw [vCallN_ok hq]
      simp only [ev]
      cases q : vTup et with
      | some r =>
        obtain ⟨es, k, p2⟩ := r
        simp only [q, Bool.and_eq_true, decide_eq_true_eq, Bool.not_eq_true'] at h6
        obtain ⟨Ts, k1, k2⟩ := tysC_ok g h6.2
        have hne : ts ≠ [] := fun z => by rw [z] at h6; cases h6.1.2
        have hl : Ts.length ≤ 1000 := by
          have := congrArg List.length k1
          rw [List.length_map, List.length_map] at this
          omega
        have ht := vTup_ok q
        subst ht
        exact snd_plain (c_isiT hg hm k1 k2 hl hne (arg_ok g (chkE_ok a g h5).toE h5) (star_cons h3) (back_any (by rw [List.all_cons, h4]; rfl)) (star_cons h4)) (fun _ => rfl)
      | none =>
        simp only [q] at h6
        split at h6
        · rename_i c
          simp only [Bool.and_eq_true, decide_eq_true_eq] at h6
          obtain ⟨hc, h6⟩ := h6
          cases q3 : vNm et with
          | none => simp only [q3] at h6; cases h6
          | some r =>
            obtain ⟨x, p3⟩ := r
            simp only [q3, Bool.and_eq_true, decide_eq_true_eq] at h6
            obtain ⟨⟨rfl, hgl⟩, hdb⟩ := h6
            have ht := vNm_ok q3
            subst ht
            obtain ⟨_, fI, fd, e1, _⟩ := g.exf (List.ne_nil_of_mem hc)
            obtain ⟨Ca, hCa, hmC⟩ := g.cls c hc
            exact snd_plain (c_isx (t := .cls c) (cV := .ref Ca) (cv := .ref Ca) e1 hg hm (pe_glob (gl_of g hgl) hmC rfl (dbg_of hdb).1) (fun u r => r) C.sub
              (fun c' C' b h' hb => by
                obtain ⟨_, hb⟩ := hb
                have hb : some (C.sub c' c) = some b := hb
                rw [g.sub] at hb
                rw [(excB_two e1 h' hCa).1]
                exact hb) (fun d hd => by cases d <;> first | rfl | (exact absurd rfl (hd _ _))) (arg_ok g (chkE_ok a g h5).toE h5) (star_cons h3) (back_any rfl) (star_cons rfl)) (fun _ => rfl)
        · simp only [Bool.and_eq_true, Bool.not_eq_true'] at h6
          obtain ⟨hc, h6⟩ := h6
          have hne : sg.cls ≠ [] := fun z => by rw [z] at hc; cases hc
          cases q3 : vNm et with
          | none => simp only [q3] at h6; cases h6
          | some r =>
            obtain ⟨x, p3⟩ := r
            simp only [q3, Bool.and_eq_true, decide_eq_true_eq] at h6
            obtain ⟨rfl, hgl⟩ := h6
            obtain ⟨hg2, hm2⟩ := blt_of g hgl
            have ht := vNm_ok q3
            subst ht
            obtain ⟨_, fI, fd, e1, _⟩ := g.exf hne
            exact snd_plain (c_isx (t := .valueError) (cV := .ty "ValueError") (cv := .type "ValueError") e1 hg hm (c_typ hg2 hm2 PyProof.Rows.Boot.«ValueError» (by decide) (by decide)) (fun u r => r) C.sub
              (fun c' C' b h' hb => by
                obtain ⟨_, hb⟩ := hb
                have hb : some true = some b := hb
                rw [(excB_one e1 h').ve]
                exact hb) (fun d hd => by cases d <;> first | rfl | (exact absurd rfl (hd _ _))) (arg_ok g (chkE_ok a g h5).toE h5) (star_cons h3) (back_any rfl) (star_cons rfl)) (fun _ => rfl)
        · rename_i t _ _
          simp only [tysC, Bool.and_true] at h6
          cases q3 : vNm et with
          | none => simp only [q3] at h6; cases h6
          | some r =>
            obtain ⟨x, p3⟩ := r
            simp only [q3, Bool.and_eq_true, decide_eq_true_eq] at h6
            obtain ⟨⟨hx, hb⟩, _⟩ := h6
            obtain ⟨hg2, hm2⟩ := blt_of g hb
            have ht := vNm_ok q3
            subst ht
            exact snd_plain (c_isi1 hg hm hx hg2 hm2 (arg_ok g (chkE_ok a g h5).toE h5) (star_cons h3) (back_any rfl) (star_cons rfl)) (fun _ => rfl)
        · cases h6
    · cases h
  | .me mm a es, X, cx, W, m, pe, g, h => by
    simp only [chkE] at h
    split at h
    · rename_i o nm ap e1 pes cp hq
      simp only [Bool.and_eq_true, decide_eq_true_eq] at h
      obtain ⟨⟨⟨⟨⟨⟨h1, h2⟩, h3⟩, h4⟩, h5⟩, h6⟩, h7⟩ := h
      cases mm with
      | count =>
        simp only [decide_eq_true_eq] at h1
        subst h1
        rw [vMeth_ok hq]
        simp only [ev]
        have hf := few_ok (X := X) (cpos := cp) h4 h5
        rw [List.all_cons] at h4
        obtain ⟨s1, s2⟩ := and_split h4
        exact snd_plain (c_count (chkE_ok a g h6).toE (chkEs_ok es g h7).1 (base_ok h2) hf h3 (star_cons s1) (back_any s2)) (fun _ => rfl)
      | index =>
        simp only [decide_eq_true_eq] at h1
        subst h1
        rw [vMeth_ok hq]
        simp only [ev]
        have hf := few_ok (X := X) (cpos := cp) h4 h5
        rw [List.all_cons] at h4
        obtain ⟨s1, s2⟩ := and_split h4
        exact snd_plain (c_index (chkE_ok a g h6).toE (chkEs_ok es g h7).1 (base_ok h2) hf h3 (star_cons s1) (back_any s2)) (fun _ => rfl)
    · cases h
  | .mu mm i es, X, cx, W, m, pe, g, h => by
    simp only [chkE] at h
    split at h
    · rename_i o nm ap pes cp hq
      simp only [Bool.and_eq_true, decide_eq_true_eq] at h
      obtain ⟨⟨⟨⟨⟨rfl, h2⟩, h3⟩, h4⟩, h5⟩, h6⟩ := h
      cases q : vNm o with
      | none => simp only [q] at h2; cases h2
      | some r =>
        obtain ⟨x, p2⟩ := r
        simp only [q] at h2
        obtain ⟨n1, n2, n3, n4⟩ := nm_of g h2
        have ho := vNm_ok q
        subst ho
        rw [vMeth_ok hq]
        cases pes with
        | nil =>
          have : es = .nil := by
            cases es with
            | nil => rfl
            | cons e es => simp [chkEs] at h6
          subst this
          simp only [ev, evFs]
          exact snd_plain (c_mu0 n1 n2 n3 n4 (mu_call0 h3 rfl)) (fun _ => rfl)
        | cons e1 pes =>
          simp only [ev]
          exact snd_plain (c_mu (T := "") n1 n2 n3 n4 (mu_call h4 h5 h3 rfl) (chkEs_ok es g h6).1) (fun _ => rfl)
    · cases h
  | .comp vs t it cs elt, X, cx, W, m, pe, g, h => by
    simp only [chkE] at h
    split at h
    · rename_i pelt cg scope p hq
      obtain ⟨tg, iter, ifs, asy⟩ := cg
      simp only [Bool.and_eq_true, decide_eq_true_eq] at h
      obtain ⟨⟨⟨⟨⟨⟨⟨h1, h2⟩, h3⟩, h4⟩, h5⟩, h6⟩, h7⟩, h8⟩ := h
      have h1 : asy = 0 := h1
      subst h1
      rw [vLc_ok hq]
      simp only [ev]
      have hb : BlkOk X.N X.env.scope scope (vs.map fun v => ((sg.N[v]?).getD "", v)) := by
        rw [g.hN, g.sc]
        exact blkOk_by h2
      have key := c_comp (X := X) (XR := XR) (W := W) (pos := p) (el := ev C elt) (cd := evB C cs) (t := t) (elt := pelt) (ifs := ifs) g.calm g.nd (chkI_ok it g h5) hb
        (fun j hj => by
          rw [own_names]
          exact of_decide_eq_true (List.all_eq_true.mp h3 j hj))
        (fun s H Cc cl fp => chkT_ok g.blk t h4) (fun s H Cc cl fp => chkB_ok cs g.blk h7) (fun s H Cc cl fp => (chkE_ok elt g.blk h8).toE) (set_ok h6)
      rw [own_names] at key
      exact snd_plain key (fun _ => rfl)
    · cases h
  | .valOf a, X, cx, W, m, pe, g, h => by
    simp only [chkE] at h
    split at h
    · rename_i o nm p hq
      simp only [Bool.and_eq_true, decide_eq_true_eq, Bool.not_eq_true'] at h
      obtain ⟨⟨⟨rfl, h2⟩, h3⟩, h4⟩ := h
      have hne : sg.cls ≠ [] := fun z => by rw [z] at h2; cases h2
      obtain ⟨_, fI, fd, e1, _⟩ := g.exf hne
      rw [vAttr_ok hq]
      simp only [ev]
      exact snd_plain (c_val e1 (chkE_ok a g h4).toE (base_ok h3)) (fun _ => rfl)
    · cases h
  | .as κ o a, X, cx, W, m, pe, g, h => by
    simp only [chkE] at h
    simp only [ev]
    exact snd_as (chkE_ok a g h)
  | .sset a, X, cx, W, m, pe, g, h => by
    simp only [chkE] at h
    split at h
    · rename_i f q1 es p hq
      simp only [Bool.and_eq_true, decide_eq_true_eq] at h
      obtain ⟨⟨rfl, h2⟩, h3⟩ := h
      split at h3
      · rename_i f2 q2 ea p2 hq2
        simp only [Bool.and_eq_true, decide_eq_true_eq] at h3
        obtain ⟨⟨⟨rfl, h4⟩, h5⟩, h6⟩ := h3
        obtain ⟨hg, hm⟩ := blt_of g h2
        obtain ⟨hg2, hm2⟩ := blt_of g h4
        rw [vCallN_ok hq]
        have hes := vCallN_ok hq2
        subst hes
        simp only [ev]
        exact snd_plain (c_sset g.calm hg hm hg2 hm2 (arg_ok g (chkE_ok a g h6).toE h6) (star_cons h5) rfl rfl rfl) (fun _ => rfl)
      · cases h3
    · cases h
  | .srtl a, X, cx, W, m, pe, g, h => by
    simp only [chkE] at h
    split at h
    · rename_i f q1 ea kw p hq
      simp only [Bool.and_eq_true, decide_eq_true_eq] at h
      obtain ⟨⟨⟨⟨⟨rfl, h2⟩, h3⟩, h4⟩, h5⟩, h6⟩ := h
      obtain ⟨kn, kv, kp⟩ := kw
      have h3 : kn = some (Str.ofString "key") := h3
      subst h3
      split at h4
      · rename_i l p2 hl
        have hv : kv = .Name l p2 := vNm_ok hl
        subst hv
        simp only [Bool.and_eq_true, decide_eq_true_eq] at h4
        obtain ⟨rfl, h7⟩ := h4
        obtain ⟨hg, hm⟩ := blt_of g h2
        obtain ⟨hg2, hm2⟩ := blt_of g h7
        rw [vCallN_ok hq]
        simp only [ev]
        exact snd_plain (c_srtl g.units hg hm hg2 hm2 (arg_ok g (chkE_ok a g h6).toE h6) (star_cons h5) (by rw [star_cons h5]; rfl) (by rw [star_cons h5]; rfl)) (fun _ => rfl)
      · cases h4
    · cases h
  | .bad, X, cx, W, m, pe, g, h => by
    simp only [ev]
    refine snd_both ⟨fun pins s σ H Q I hw => ?_⟩ ⟨fun pins s σ H Q I hw => ?_⟩
    · obtain ⟨O, ms, rel, G⟩ := hw
      exact (G : False).elim
    · obtain ⟨O, ms, rel, G⟩ := hw
      exact (G : False).elim
theorem chkEs_ok : ∀ (es : Es) {X : Cx} {cx : Ctx} {W : WX} {pes : List Exp}, Good X XR C sg cx W → chkEs sg cx es pes = true → PA X pes (tF X.K XR W (evFs C es)) ∧ PA X pes (tAL X.K XR W (evAs C es)) ∧ ∀ f k, PA X pes (tAL X.K XR W (evCs C f k es))
  | .nil, X, cx, W, pes, g, h => by
    simp only [chkEs] at h
    cases pes with
    | nil =>
      refine ⟨?_, ?_, fun f k => ?_⟩
      · simp only [evFs]; exact f_nil
      · simp only [evAs]; exact al_nil
      · simp only [evCs]; exact al_nil
    | cons _ _ => cases h
  | .cons e es, X, cx, W, pes, g, h => by
    cases pes with
    | nil => simp [chkEs] at h
    | cons p ps =>
      simp only [chkEs, Bool.and_eq_true] at h
      obtain ⟨⟨h1, h2⟩, h3⟩ := h
      have he := (chkE_ok e g h2).toE
      obtain ⟨k1, k2, k3⟩ := chkEs_ok es g h3
      refine ⟨?_, ?_, fun f k => ?_⟩
      · simp only [evFs]; exact f_cons he k1 (star_cons h1)
      · simp only [evAs]; exact al_cons (arg_ok g he h2) k2 (star_cons h1)
      · simp only [evCs]
        refine al_cons ?_ (k3 f (k + 1)) (star_cons h1)
        by_cases hio : C.io f k = true
        · rw [if_pos hio]; exact arg_ok g he h2
        · rw [if_neg hio]; exact c_argm he
theorem chkKs_ok : ∀ (es : Es) {X : Cx} {cx : Ctx} {W : WX} {kws : List Keyword}, Good X XR C sg cx W → chkEs sg cx es (kws.map (·.value)) = true → PK X kws (tF X.K XR W (evFs C es))
  | .nil, X, cx, W, kws, g, h => by
    cases kws with
    | nil => simp only [evFs]; exact pk_fnil
    | cons _ _ => simp [chkEs] at h
  | .cons e es, X, cx, W, kws, g, h => by
    cases kws with
    | nil => simp [chkEs] at h
    | cons k ks =>
      obtain ⟨nm, v, p⟩ := k
      simp only [List.map_cons, chkEs, Bool.and_eq_true] at h
      obtain ⟨⟨h1, h2⟩, h3⟩ := h
      simp only [evFs]
      exact pk_fcons (chkE_ok e g h2).toE (chkKs_ok es g h3)
theorem chkEs_len : ∀ (es : Es) {cx : Ctx} {pes : List Exp}, chkEs sg cx es pes = true → lenEs es = pes.length
  | .nil, cx, pes, h => by
    cases pes with
    | nil => rfl
    | cons _ _ => simp [chkEs] at h
  | .cons e es, cx, pes, h => by
    cases pes with
    | nil => simp [chkEs] at h
    | cons p ps =>
      simp only [chkEs, Bool.and_eq_true] at h
      show lenEs es + 1 = ps.length + 1
      rw [chkEs_len es h.2]
theorem chkB_ok : ∀ (es : Es) {X : Cx} {cx : Ctx} {W : WX} {pes : List Exp}, Good X XR C sg cx W → chkB sg cx es pes = true → PTs X pes (tT X.K XR W (evB C es))
  | .nil, X, cx, W, pes, g, h => by
    simp only [chkB] at h
    cases pes with
    | nil =>
      simp only [evB]
      refine ⟨fun pins s σ H Q I hw => pts_nil.run pins s σ H Q I ?_⟩
      obtain ⟨O, ms, rel, G⟩ := hw
      exact (G : ZT X.K O ms σ H Q true ms) O H (.refl rel)
    | cons _ _ => cases h
  | .cons e es, X, cx, W, pes, g, h => by
    simp only [chkB] at h
    split at h
    · simp only [evB]
      have hp := pts_one (chkE_ok e g h).toT
      refine ⟨fun pins s σ H Q I hw => hp.run pins s σ H Q I ?_⟩
      obtain ⟨O, ms, rel, G⟩ := hw
      refine ⟨O, ms, rel, ?_⟩
      have ee : (do
          let p ← ev C e
          let b ← asB p.1
          if b then (M.ret true : M Bool) else pure false) = tst (ev C e) := by
        show (ev C e >>= fun p => asB p.1 >>= fun b => if b = true then M.ret true else pure false) = (ev C e >>= fun p => asB p.1)
        congr 1
        funext p
        funext m
        show M.bnd (asB p.1) _ m = _
        unfold M.bnd
        cases asB p.1 m with
        | ok b m' => cases b <;> rfl
        | err c x m' => rfl
        | bad => rfl
      rw [ee] at G
      exact G
    · cases h
theorem chkO_ok : ∀ (o : Eo) {X : Cx} {cx : Ctx} {W : WX} {po : Option Exp}, Good X XR C sg cx W → chkO sg cx o po = true → PO X po (tO X.K XR W (evO C o))
  | .none, X, cx, W, po, g, h => by
    simp only [chkO] at h
    cases po with
    | none => simp only [evO]; exact o_none
    | some _ => cases h
  | .some e, X, cx, W, po, g, h => by
    cases po with
    | none => simp [chkO] at h
    | some p =>
      simp only [chkO] at h
      simp only [evO]
      exact o_some (chkE_ok e g h).toE
theorem chkI_ok : ∀ (it : I) {X : Cx} {cx : Ctx} {W : WX} {tg pe : Exp}, Good X XR C sg cx W → chkI sg cx tg it pe = true → PI X tg pe (tI X.K XR W (evI C it))
  | .ex e, X, cx, W, tg, pe, g, h => by
    simp only [chkI] at h
    simp only [evI]
    exact i_ex (chkE_ok e g h).toE
  | .lend i, X, cx, W, tg, pe, g, h => by
    simp only [chkI] at h
    cases h
  | .range es, X, cx, W, tg, pe, g, h => by
    simp only [chkI] at h
    split at h
    · rename_i r q1 pes p hq
      simp only [Bool.and_eq_true, decide_eq_true_eq, Bool.or_eq_true, beq_iff_eq] at h
      obtain ⟨⟨⟨⟨rfl, h2⟩, h3⟩, h4⟩, h5⟩ := h
      obtain ⟨hg, hm⟩ := blt_of g h2
      rw [vCallN_ok hq]
      simp only [evI]
      have hlen := chkEs_len es h5
      match pes, h3, h4, h5, hlen with
      | [a], h3, _, h5, hlen =>
        refine i_range1 hg hm (chkEs_ok es g h5).1 (star_cons ?_) (fun m ds m' hh => by rw [evFs_len hh, hlen]; rfl)
        simpa using h3
      | [a, b], h3, _, h5, hlen =>
        have s1 : noStar a = true ∧ noStar b = true := by simpa using h3
        exact i_range2 hg hm (chkEs_ok es g h5).1 (by rw [star_cons s1.1, star_cons s1.2]; rfl) (star_cons s1.2) (fun m ds m' hh => by rw [evFs_len hh, hlen]; rfl)
      | [a, b, c], h3, _, h5, hlen =>
        have s1 : noStar a = true ∧ noStar b = true ∧ noStar c = true := by simpa using h3
        exact i_range3 hg hm (chkEs_ok es g h5).1 (star_cons s1.1) (back_any (by simpa using s1.2)) (fun m ds m' hh => by rw [evFs_len hh, hlen]; rfl)
      | [], _, h4, _, _ => simp at h4
      | _ :: _ :: _ :: _ :: _, _, h4, _, _ => simp at h4
    · cases h
  | .enum e, X, cx, W, tg, pe, g, h => by
    simp only [chkI] at h
    split at h
    · rename_i r q1 p1 p hq
      simp only [Bool.and_eq_true, decide_eq_true_eq] at h
      obtain ⟨⟨⟨⟨rfl, h2⟩, h3⟩, h4⟩, h5⟩ := h
      obtain ⟨hg, hm⟩ := blt_of g h2
      rw [vCallN_ok hq]
      simp only [evI]
      cases tg <;> first | (cases h4; done) | skip
      exact i_enum hg hm (star_cons h3) (chkE_ok e g h5).toE
    · cases h
  | .zip a b, X, cx, W, tg, pe, g, h => by
    simp only [chkI] at h
    split at h
    · rename_i r q1 p1 p2 p hq
      simp only [Bool.and_eq_true, decide_eq_true_eq] at h
      obtain ⟨⟨⟨⟨⟨⟨rfl, h2⟩, h3⟩, h4⟩, h5⟩, h6⟩, h7⟩ := h
      obtain ⟨hg, hm⟩ := blt_of g h2
      rw [vCallN_ok hq]
      simp only [evI]
      cases tg <;> first | (cases h5; done) | skip
      exact i_zip hg hm (star_cons h3) (star_cons h4) (chkE_ok a g h6).toE (chkE_ok b g h7).toE
    · cases h
end
end
end Mi

set_option Elab.async false
set_option linter.all false
set_option maxRecDepth 100000
set_option autoImplicit false
set_option maxHeartbeats 4000000
namespace Mi
open PySem PySem.Spec PyProof.Rows L2
/-! ### the check of statements -/
def noComp : Exp → Bool
  | .ListComp _ _ _ _ => false
  | .SetComp _ _ _ _ => false
  | .DictComp _ _ _ _ _ => false
  | _ => true
theorem swap_nc {v : Exp} {tg : Option Exp} {l : Nat} {env : Env} (h : noComp v = true) : swapsWith v tg l env = pure false := by
  cases v <;> first | rfl | (cases h; done)
theorem swap_tup {v : Exp} {ts : List Exp} {k : Nat} {p : Pos} {l : Nat} {env : Env} : swapsWithSole [.Tuple ts k p] v l env = pure false := by
  cases v <;> rfl
theorem swap_sub {v a b : Exp} {p : Pos} {l : Nat} {env : Env} : swapsWithSole [.Subscript a b p] v l env = pure false := by
  cases v <;> rfl
theorem store_sub {v a b : Exp} {p : Pos} {env : Env} : swappedStores [.Subscript a b p] v env = pure none := by
  cases v <;> rfl
def isStar : Exp → Bool
  | .Starred _ _ => true
  | _ => false
def swN (sc : Scope) (ts : List Exp) : List Str := ts.filterMap fun
  | .Name id pos => if sc.names.lookup id == some .local && pos.line == ((ts.head?.map (·.pos.line)).getD 0) then some id else none
  | _ => none
def swS (sc : Scope) (ts vs : List Exp) : Option (Option (List Str)) :=
  if (!(ts.length == 2 || ts.length == 3) || vs.length != ts.length) = true then some none
  else if vs.any isStar = true then some none
  else if ((swN sc ts).length != ts.length || (swN sc ts).eraseDups.length != (swN sc ts).length) = true then some none
  else if vs.all (foldedForSure 8) = true then some none
  else if vs.all (constantsAlone 8) = true then none
  else some (some (swN sc ts))
theorem swS_ok {env : Env} {ts vs : List Exp} {k k2 : Nat} {p p2 : Pos} {r : Option (List Str)} (hk : env.scope.kind = .function) (h : swS env.scope ts vs = some r) : swappedStores [.Tuple ts k p] (.Tuple vs k2 p2) env = pure r := by
  have hb : env.blockKind = .function := by unfold Env.blockKind; rw [hk]; rfl
  have hbk : (env.blockKind != .function) = false := by rw [hb]; rfl
  have e : swappedStores [.Tuple ts k p] (.Tuple vs k2 p2) env = (if (!(ts.length == 2 || ts.length == 3) || vs.length != ts.length || env.blockKind != .function) = true then pure none else if (vs.any isStar) = true then pure none else
      if ((swN env.scope ts).length != ts.length || (swN env.scope ts).eraseDups.length != (swN env.scope ts).length) = true then pure none else if (vs.all (foldedForSure 8)) = true then pure none else if (vs.all (constantsAlone 8)) = true then (do let _ ← (unsupported "assign.tuple-of-constant-expressions:order-of-the-stores" : Sem PUnit); return some (swN env.scope ts)) else return some (swN env.scope ts)) := rfl
  rw [e, hbk, Bool.or_false]
  unfold swS at h
  by_cases c1 : (!(ts.length == 2 || ts.length == 3) || vs.length != ts.length) = true
  · rw [if_pos c1] at h ⊢; cases h; rfl
  rw [if_neg c1] at h ⊢
  by_cases c2 : vs.any isStar = true
  · rw [if_pos c2] at h ⊢; cases h; rfl
  rw [if_neg c2] at h ⊢
  by_cases c3 : ((swN env.scope ts).length != ts.length || (swN env.scope ts).eraseDups.length != (swN env.scope ts).length) = true
  · rw [if_pos c3] at h ⊢; cases h; rfl
  rw [if_neg c3] at h ⊢
  by_cases c4 : vs.all (foldedForSure 8) = true
  · rw [if_pos c4] at h ⊢; cases h; rfl
  rw [if_neg c4] at h ⊢
  by_cases c5 : vs.all (constantsAlone 8) = true
  · rw [if_pos c5] at h; cases h
  rw [if_neg c5] at h ⊢
  cases h; rfl
theorem store_nt {v : Exp} {ts : List Exp} {k : Nat} {p : Pos} {env : Env} (h : isTup v = false) : swappedStores [.Tuple ts k p] v env = pure none := by
  cases v <;> first | rfl | (cases h; done)
end Mi

set_option Elab.async false
set_option linter.all false
set_option maxRecDepth 100000
set_option autoImplicit false
set_option maxHeartbeats 8000000
namespace Mi
open PySem PySem.Spec PyProof.Rows L2
/-- what a function's body adds -/
structure GoodS (X : Cx) (XR : XRep) (C : Calls) (sg : Sig) (cx : Ctx) (W : WX) : Prop extends Good X XR C sg cx W where
  kind : X.env.scope.kind = .function
  pass : PassesOwn (model X.prog X.w) X.A X.env X.xe
  whl : ∀ c b, ∃ n, C.whl c b = whN c b n
  stk : X.stack = X.env :: X.outer
  frm : X.env.frame = some X.env.locals
def noCompE (v : Exp) : Option (Scope × Pos) := match vLc v with
  | some (_, _, s, p) => some (s, p)
  | none => none
def wAsg : PySem.Stmt → Option (List Exp × Exp × Pos)
  | .Assign ts v p => some (ts, v, p)
  | _ => none
theorem wAsg_ok {s : PySem.Stmt} {ts : List Exp} {v : Exp} {p : Pos} (h : wAsg s = some (ts, v, p)) : s = .Assign ts v p := by
  cases s <;> first | (cases h; rfl) | (cases h; done)
def wAug : PySem.Stmt → Option (Exp × Operator × Exp × Pos)
  | .AugAssign t o v p => some (t, o, v, p)
  | _ => none
theorem wAug_ok {s : PySem.Stmt} {t v : Exp} {o : Operator} {p : Pos} (h : wAug s = some (t, o, v, p)) : s = .AugAssign t o v p := by
  cases s <;> first | (cases h; rfl) | (cases h; done)
def wExpr : PySem.Stmt → Option (Exp × Pos)
  | .Expr v p => some (v, p)
  | _ => none
theorem wExpr_ok {s : PySem.Stmt} {v : Exp} {p : Pos} (h : wExpr s = some (v, p)) : s = .Expr v p := by
  cases s <;> first | (cases h; rfl) | (cases h; done)
def wRet : PySem.Stmt → Option (Option Exp × Pos)
  | .Return v p => some (v, p)
  | _ => none
theorem wRet_ok {s : PySem.Stmt} {v : Option Exp} {p : Pos} (h : wRet s = some (v, p)) : s = .Return v p := by
  cases s <;> first | (cases h; rfl) | (cases h; done)
def wIf : PySem.Stmt → Option (Exp × List PySem.Stmt × List PySem.Stmt × Pos)
  | .If t a b p => some (t, a, b, p)
  | _ => none
theorem wIf_ok {s : PySem.Stmt} {t : Exp} {a b : List PySem.Stmt} {p : Pos} (h : wIf s = some (t, a, b, p)) : s = .If t a b p := by
  cases s <;> first | (cases h; rfl) | (cases h; done)
def wWhile : PySem.Stmt → Option (Exp × List PySem.Stmt × List PySem.Stmt × Pos)
  | .While t a b p => some (t, a, b, p)
  | _ => none
theorem wWhile_ok {s : PySem.Stmt} {t : Exp} {a b : List PySem.Stmt} {p : Pos} (h : wWhile s = some (t, a, b, p)) : s = .While t a b p := by
  cases s <;> first | (cases h; rfl) | (cases h; done)
def wFor : PySem.Stmt → Option (Exp × Exp × List PySem.Stmt × List PySem.Stmt × Pos)
  | .For t i a b p => some (t, i, a, b, p)
  | _ => none
theorem wFor_ok {s : PySem.Stmt} {t i : Exp} {a b : List PySem.Stmt} {p : Pos} (h : wFor s = some (t, i, a, b, p)) : s = .For t i a b p := by
  cases s <;> first | (cases h; rfl) | (cases h; done)
def wPass : PySem.Stmt → Option (Nat × Pos)
  | .Pass p => some (0, p)
  | .Break p => some (1, p)
  | .Continue p => some (2, p)
  | _ => none
theorem wPass_ok {s : PySem.Stmt} {p : Pos} (h : wPass s = some (0, p)) : s = .Pass p := by
  cases s <;> first | (cases h; rfl) | (cases h; done)
theorem wBreak_ok {s : PySem.Stmt} {p : Pos} (h : wPass s = some (1, p)) : s = .Break p := by
  cases s <;> first | (cases h; rfl) | (cases h; done)
theorem wCont_ok {s : PySem.Stmt} {p : Pos} (h : wPass s = some (2, p)) : s = .Continue p := by
  cases s <;> first | (cases h; rfl) | (cases h; done)
def wRaise : PySem.Stmt → Option (Exp × Pos)
  | .Raise (some e) none p => some (e, p)
  | _ => none
theorem wRaise_ok {s : PySem.Stmt} {e : Exp} {p : Pos} (h : wRaise s = some (e, p)) : s = .Raise (some e) none p := by
  cases s with
  | Raise a b q =>
    cases a with
    | none => cases h
    | some a =>
      cases b with
      | none => cases h; rfl
      | some _ => cases h
  | _ => cases h
/-- try: body / except x as n: m = n2 -/
def wTry : PySem.Stmt → Option (List PySem.Stmt × (Str × Pos) × Str × (Str × Pos) × (Str × Pos) × Pos × Pos × Pos)
  | .Try body [.ExceptHandler (some (.Name x p1)) (some n) [.Assign [.Name m p2] (.Name n2 p3) p4] p5] [] [] p6 => some (body, (x, p1), n, (m, p2), (n2, p3), p4, p5, p6)
  | _ => none
theorem wTry_ok {s : PySem.Stmt} {body : List PySem.Stmt} {x n m n2 : Str} {p1 p2 p3 p4 p5 p6 : Pos} (h : wTry s = some (body, (x, p1), n, (m, p2), (n2, p3), p4, p5, p6)) : s = .Try body [.ExceptHandler (some (.Name x p1)) (some n) [.Assign [.Name m p2] (.Name n2 p3) p4] p5] [] [] p6 := by
  unfold wTry at h
  split at h
  · cases h; rfl
  · cases h
def namesC (sg : Sig) (cx : Ctx) : List Nat → List Exp → Bool
  | [], [] => true
  | i :: is, e :: es => noStar e && (match vNm e with
    | some (x, _) => locC sg cx i x
    | none => false) && namesC sg cx is es
  | _, _ => false
def isHint : S → Bool
  | .hint _ _ _ => true
  | _ => false
mutual
def chkS (sg : Sig) (cx : Ctx) : S → PySem.Stmt → Bool
  | .asg t e, p => match wAsg p with
    | some ([tg], v, pos) => (match t with
      | .nm i => match vNm tg with
        | some (x, tp) => locC sg cx i x && chkE sg cx false e v && (noComp v || (match e, vLc v with
          | .comp _ _ _ _ _, some (_, _, s, p) => (match cx.sc.names.lookup x with
            | some .local => tp.line == p.line && !(s.names.any fun (n, k) => n == x && (k == .local || k == .cell))
            | _ => false)
          | _, _ => false))
        | none => false
      | .tp ts => match vTup tg with
        | some (es, _, _) => chkT sg cx (.tp ts) tg && chkE sg cx false e v && (match vTup v with
          | some (vs, _, _) => decide (swS cx.sc es vs = some none)
          | none => true)
        | none => false)
    | _ => false
  | .par is es, p => match wAsg p with
    | some ([tg], v, pos) => (match vTup tg, vTup v with
      | some (ts, _, _), some (vs, _, _) => (match is, ts with
        | [i, j], [tx, ty] => (match vNm tx, vNm ty with
          | some (x, _), some (y, _) => decide (i ≠ j) && decide (sg.N[i]? = some x) && decide (sg.N[j]? = some y) && decide (cx.sc.names.lookup x = some .local) && decide (cx.sc.names.lookup y = some .local) && decide (swS cx.sc ts vs = some (some [x, y])) && decide (vs.length = 2) && chkEs sg cx es vs
          | _, _ => false)
        | [i, j, l], [tx, ty, tz] => (match vNm tx, vNm ty, vNm tz with
          | some (x, _), some (y, _), some (z, _) => decide (i ≠ j) && decide (i ≠ l) && decide (j ≠ l) && decide (sg.N[i]? = some x) && decide (sg.N[j]? = some y) && decide (sg.N[l]? = some z) && decide (cx.sc.names.lookup x = some .local) && decide (cx.sc.names.lookup y = some .local) && decide (cx.sc.names.lookup z = some .local) &&
            decide (swS cx.sc ts vs = some (some [x, y, z])) && decide (vs.length = 3) && chkEs sg cx es vs
          | _, _, _ => false)
        | is, ts => decide (4 ≤ is.length) && decide (is.length ≤ 100) && decide (ts.length = is.length) && ts.all noStar && namesC sg cx is ts && decide (swS cx.sc ts vs = some none) && chkEs sg cx es vs)
      | _, _ => false)
    | _ => false
  | .aug i o e, p => match wAug p with
    | some (tg, po, v, _) => (match vNm tg with
      | some (x, _) => locC sg cx i x && decide (ipOf o = some po) && chkE sg cx false e v
      | none => false)
    | none => false
  | .seti i ix e, p => match wAsg p with
    | some ([tg], v, pos) => (match vSub tg with
      | some (o, ei, _) => (match vNm o with
        | some (x, _) => nmC sg cx i x && noSlice ei && chkE sg cx false e v && chkE sg cx false ix ei
        | none => false)
      | none => false)
    | _ => false
  | .augi i ix o e, p => match wAug p with
    | some (tg, po, v, _) => (match vSub tg with
      | some (ob, ei, _) => (match vNm ob with
        | some (x, _) => nmC sg cx i x && noSlice ei && decide (ipOf o = some po) && chkE sg cx false e v && chkE sg cx false ix ei
        | none => false)
      | none => false)
    | none => false
  | .expr e, p => match wExpr p with
    | some (v, _) => noComp v && chkE sg cx false e v
    | none => false
  | .ret e, p => match wRet p with
    | some (some v, _) => chkE sg cx false e v
    | _ => false
  | .retN, p => match wRet p with
    | some (none, _) => true
    | _ => false
  | .ifs c a b, p => match wIf p with
    | some (t, pa, pb, _) => chkE sg cx true c t && chkSs sg cx a pa && chkSs sg cx b pb
    | none => false
  | .whl c b, p => match wWhile p with
    | some (t, pb, el, _) => el.isEmpty && chkE sg cx true c t && chkSs sg cx b pb
    | none => false
  | .frr t it b, p => match wFor p with
    | some (tg, iter, pb, el, _) => el.isEmpty && chkT sg cx t tg && chkI sg cx tg it iter && noSet iter && chkSs sg cx b pb
    | none => false
  | .raise c e, p => match wRaise p with
    | some (v, _) => (match vCallN v with
      | some (x, _, [pe], [], _) => decide (c ∈ sg.cls) && decide (x = excNm c) && glC cx x && notDbg x && noStar pe && chkE sg cx false e pe
      | some (x, _, [], [kw], _) => decide (c ∈ sg.cls) && decide (x = excNm c) && glC cx x && notDbg x && decide (kw.arg = some ("value" : Str)) && chkE sg cx false e kw.value
      | _ => false)
    | none => false
  | .tryAs b c i j, p => match wTry p with
    | some (body, (x, _), n, (m, _), (n2, _), _, _, _) => decide (c ∈ sg.cls) && decide (x = excNm c) && glC cx x && notDbg x && decide (n2 = n) && decide (i ≠ j) && decide (sg.N[i]? = some n) && decide (sg.N[j]? = some m) && decide (cx.sc.names.lookup n = some .local) && decide (cx.sc.names.lookup m = some .local) && notDbg n && chkSs sg cx b body
    | none => false
  | .tryN _ _ _, _ => false
  | .pss, p => match wPass p with
    | some (0, _) => true
    | _ => false
  | .brk, p => match wPass p with
    | some (1, _) => true
    | _ => false
  | .cnt, p => match wPass p with
    | some (2, _) => true
    | _ => false
  | .bad, _ => true
  | .hint _ _ _, _ => false
  | .whlp c b, p => match wWhile p with
    | some (t, pb, el, _) => el.isEmpty && chkE sg cx true c t && chkSs sg cx b pb
    | none => false
def chkSs (sg : Sig) (cx : Ctx) : Ss → List PySem.Stmt → Bool
  | .nil, ps => ps.isEmpty
  | .cons s ss, ps => (isHint s && chkSs sg cx ss ps) || (match ps with
    | p :: ps => chkS sg cx s p && chkSs sg cx ss ps
    | [] => false)
end
section
variable {X : Cx} {XR : XRep} {C : Calls} {sg : Sig} {cx : Ctx} {W : WX}
theorem mvV_run {i : Nat} {ms : MS} : mvV i ms = match ms[i]? with
  | some (some (d, .frz)) => .ok (d, false) ms
  | some (some (d, .own)) => .ok (d, true) (ms.set i none)
  | some (some (d, .bor)) => .ok (d, false) (ms.set i (some (d, .frz)))
  | _ => .bad := rfl
/-- a slot's own list is handed on -/
theorem post_mv {K : PySem.W.Frag} {O : Addr → Prop} {ms : MS} {σ : St} {H : Hp} {i : Nat} {d : D} {a : Addr} (rel : Rel K O ms σ H) (h : ms[i]? = some (some (d, .own))) (ha : σ[i]? = some (some (.ref a))) (q : RepO K O H a d) :
    PostE K O ms σ H (ms.set i none) O H ∧ RepR K H (Own ms σ) O H (Own (ms.set i none) σ) (.ref a) d true := by
  have get : ∀ {j : Nat} {e : D} {g : Fl}, (ms.set i none)[j]? = some (some (e, g)) → j ≠ i ∧ ms[j]? = some (some (e, g)) := fun {j e g} hj => by
    rcases set_get hj with ⟨rfl, e1, _⟩ | ⟨ne, hj⟩
    · cases e1
    · exact ⟨ne, hj⟩
  refine ⟨⟨⟨by rw [List.length_set]; exact rel.len, fun j e g hj => rel.slot j e g (get hj).2, fun j k e e' g g' b hj hk => rel.apart j k e e' g g' b (get hj).2 (get hk).2, rel.lists⟩, .refl, fun x hx => ?_, fun j e hj => ⟨e, (get hj).2⟩⟩, ⟨a, rfl, q, fun z => ?_, .inr ⟨i, d, .own, by decide, h, ha⟩⟩⟩
  · obtain ⟨j, e, g, hg, hj, sj⟩ := hx
    exact .inl ⟨j, e, g, hg, (get hj).2, sj⟩
  · obtain ⟨j, e, g, hg, hj, sj⟩ := z
    obtain ⟨ne, hj⟩ := get hj
    exact ne (rel.apart j i e d g .own a hj h hg (by decide) sj ha)
theorem c_mv {K : PySem.W.Frag} {x : Str} {i : Nat} {pos : Pos} (hN : X.N[i]? = some x) (hv : Vis X.env.scope x) (hd : (x == ("__debug__" : Str)) = false) (hcd : (x == ("__classdict__" : Str)) = false) : PE X (.Name x pos) (tM K XR W (mvV i)) := by
  refine (pe_var hN hv hd hcd).weak ?_
  rintro σ H Q ⟨O, ms, rel, G⟩
  rw [mvV_run] at G
  rcases slot_cases ms[i]? with ⟨d, h⟩ | ⟨d, f, hf, h⟩ | h | h
  · rw [h] at G
    obtain ⟨v, e, r⟩ := rel.frz h
    exact ⟨v, e, G v O H (.refl rel) r⟩
  · rw [h] at G
    obtain ⟨a, e, q, _⟩ := rel.own h hf
    cases f with
    | frz => exact absurd rfl hf
    | own =>
      obtain ⟨P, R⟩ := post_mv rel h e q
      exact ⟨.ref a, e, (G : ZM K O ms σ H Q (d, true) _) _ O H P R⟩
    | bor => exact ⟨.ref a, e, (G : ZM K O ms σ H Q (d, false) _) _ _ H (post_frz rel h (by decide) e q) q.frozen⟩
  · rw [h] at G; exact G.elim
  · rw [h] at G; exact G.elim
theorem mv_ok (g : Good X XR C sg cx W) {e : E} {pe : Exp} (h : PE X pe (tM X.K XR W (ev C e))) (hc : chkE sg cx false e pe = true) : PE X pe (tM X.K XR W (evMv C e)) := by
  cases e with
  | var i =>
    simp only [chkE] at hc
    cases q : vNm pe with
    | none => simp only [q] at hc; cases hc
    | some t =>
      obtain ⟨x, p⟩ := t
      simp only [q] at hc
      rw [vNm_ok q]
      obtain ⟨h1, h2, h3, h4⟩ := nm_of g hc
      exact c_mv h1 h2 h3 h4
  | _ => exact h
theorem rs_ok (g : Good X XR C sg cx W) : ∀ (es : Es) {pes : List Exp}, chkEs sg cx es pes = true → PA X pes (tRs X.K XR W (evRs C es))
  | .nil, pes, h => by
    simp only [chkEs] at h
    cases pes with
    | nil => exact rs_nil
    | cons _ _ => cases h
  | .cons e es, pes, h => by
    cases pes with
    | nil => simp [chkEs] at h
    | cons p ps =>
      simp only [chkEs, Bool.and_eq_true] at h
      obtain ⟨⟨h1, h2⟩, h3⟩ := h
      exact rs_cons (chkE_ok e g h2).toE (rs_ok g es h3) (star_cons h1)
theorem s_setLc {i : Nat} {y : Str} {py pos spos : Pos} {elt tg iter : Exp} {ifs : List Exp} {scope : Scope} {own : List (Str × Nat)} {t : T} {fi : M (List D)} {cd : M Bool} {el : M (D × Bool)} (hc : X.calm = true) (hN : X.N.Nodup) (hy : X.N[i]? = some y) (hyl : X.env.scope.names.lookup y = some .local)
    (hsw : swapsWith (.ListComp elt [⟨tg, iter, ifs, 0⟩] scope pos) (some (.Name y py)) spos.line X.env = pure true) (hi : PI X tg iter (tI X.K XR W fi)) (ok : BlkOk X.N X.env.scope scope own)
    (hv : ∀ j ∈ slotsT t, j ∈ own.map (·.2))
    (hg : ∀ (s : Shared) (H : Hp) (C : Addr) (cl : List (Str × Addr)) (fp : List Addr), PG (X.blk s H scope (compEnvC scope cl C X.env) fp) tg (tG X.K (slotsT t) (setT t))) (ht : ∀ (s : Shared) (H : Hp) (C : Addr) (cl : List (Str × Addr)) (fp : List Addr), PTs (X.blk s H scope (compEnvC scope cl C X.env) fp) ifs (tT X.K XR noW cd))
    (he : ∀ (s : Shared) (H : Hp) (C : Addr) (cl : List (Str × Addr)) (fp : List Addr), PE (X.blk s H scope (compEnvC scope cl C X.env) fp) elt (tM X.K XR noW el)) (hs : ∀ x, foldedSetIterable iter X.env x = pure x) :
    PS X (.Assign [.Name y py] (.ListComp elt [⟨tg, iter, ifs, 0⟩] scope pos) spos) (tS X.K XR W (do
    let p ← (do
      let xs ← fi
      compM (own.map (·.2)) xs (setT t) cd el)
    stV i p.1 (if p.2 then .own else .frz)
    pure .nx)) := by
  refine (ps_setLc hc hN hy hyl hsw hi ok hg ht he hs).weak ?_
  rintro D σ H ⟨O, ms, rel, G⟩
  refine comp_weak hv σ H _ (tM_inS rel (.refl rel) G (fun d b ms1 v O1 H1 P1 _ R1 G1 => ?_))
  obtain ⟨hb, hl, G2⟩ := stV_in (i := i) G1
  exact (G2 : ZS X.K O ms σ H D .nx _) O1 _ H1 (post_store rel P1 hb R1)
/-- several names at once, over a tuple -/
def gNames : List Nat → TGs
  | [] => gNil
  | i :: is => gCons (gName i) (gNames is)
theorem names_ok (g : Good X XR C sg cx W) : ∀ (is : List Nat) {ts : List Exp}, namesC sg cx is ts = true → PGs X ts (gNames is)
  | [], [], h => pgs_nil
  | [], _ :: _, h => by simp [namesC] at h
  | _ :: _, [], h => by simp [namesC] at h
  | i :: is, e :: es, h => by
    simp only [namesC, Bool.and_eq_true] at h
    obtain ⟨⟨h1, h2⟩, h3⟩ := h
    cases q : vNm e with
    | none => simp only [q] at h2; cases h2
    | some r =>
      obtain ⟨x, p⟩ := r
      simp only [q] at h2
      obtain ⟨n1, n2, n3⟩ := loc_of g h2
      rw [vNm_ok q] at h1 ⊢
      exact pgs_cons (pg_name g.nd n1 n2) (names_ok g is h3) (by rw [asg_cons h1]; rfl)
theorem gNames_run {H : Hp} {Q : L2.St → Hp → Prop} : ∀ {is : List Nat} {vs : List V} {σ : L2.St}, vs.length = is.length → Q (setAll σ is vs) H → gNames is vs σ H Q
  | [], [], _, _, q => ⟨rfl, q⟩
  | i :: is, v :: vs, σ, h, q => ⟨v, vs, rfl, gNames_run (is := is) (vs := vs) (σ := σ.set i (some v)) (Nat.succ.inj h) q⟩
  | [], _ :: _, _, h, _ => by cases h
  | _ :: _, [], _, h, _ => by cases h
theorem RepRs.more {K : PySem.W.Frag} {H0 H H' : Hp} {B0 O B : Addr → Prop} (k : ∀ a o, H a = some o → H' a = some o) : ∀ {vs : List V} {ps : List (D × Bool)}, RepRs K H0 B0 O H B vs ps → RepRs K H0 B0 O H' B vs ps
  | [], [], r => r
  | [], _ :: _, r => r.elim
  | _ :: _, [], r => r.elim
  | v :: vs, (d, b) :: ps, r => by
    have kp : Keeps O H O H' := fun a o n h => ⟨n, k a o h⟩
    refine ⟨?_, r.2.1, RepRs.more k r.2.2⟩
    have r1 := r.1
    unfold RepR at r1 ⊢
    cases b with
    | false => exact Rep.keep kp r1
    | true =>
      obtain ⟨a, e, ⟨ho, us, ds, e2, h, q⟩, nb, og⟩ := r1
      exact ⟨a, e, ⟨ho, us, ds, e2, k _ _ h, q.keep kp⟩, nb, og⟩
theorem s_parN {is : List Nat} {ts es : List Exp} {f : M (List (D × Bool))} {k k2 : Nat} {pt pt2 pos : Pos} (hc : X.calm = true) (hl : is.length ≤ 100) (hg : PGs X ts (gNames is)) (ha : PA X es (tRs X.K XR W f))
    (hn : (assignEach ts X.env).length = is.length) (hst : (assignEach ts X.env).findIdx? (·.1) = none)
    (hw : swappedStores [.Tuple ts k pt] (.Tuple es k2 pt2) X.env = pure none) :
    PS X (.Assign [.Tuple ts k pt] (.Tuple es k2 pt2) pos) (tS X.K XR W (do
    let ps ← f
    stVs is ps
    pure .nx)) := by
  refine (ps_asg (pe_tupX ha) (pg_tup hc hg hn hst) swap_tup hw rfl).weak ?_
  rintro D σ H ⟨O, ms, rel, G⟩
  refine ⟨O, ms, rel, End.imp G.bind (fun ps m1 G1 vs O1 H1 P1 R1 => ?_) (fun c x m h cls dx O' H' p q => h cls dx O' σ H' p.s q)⟩
  obtain ⟨_, _, hlen, _⟩ := stVs_in rel P1.s R1 G1
  refine ⟨by rw [hlen, sizeLine_eq]; omega, fun p o hp ho => ?_⟩
  have kk : ∀ a u, H1 a = some u → upd H1 p (.frz o (.tup vs)) a = some u := fun a u h => by
    rw [upd_ne (fun z => by rw [z, hp] at h; cases h)]
    exact h
  have P1' := post_yld rel P1.s kk
  obtain ⟨ms', P2, hlen2, G2⟩ := stVs_in rel P1' (R1.more kk) G1
  refine ⟨p, vs, rfl, .inl (.inr ⟨o, upd_same⟩), hlen, gNames_run (σ := σ) hlen ?_⟩
  exact (G2 : ZS X.K O ms σ H D .nx ms') O1 _ _ P2
end
end Mi

set_option Elab.async false
set_option linter.all false
set_option maxRecDepth 100000
set_option autoImplicit false
set_option maxHeartbeats 16000000
namespace Mi
open PySem PySem.Spec PyProof.Rows L2
section
variable {X : Cx} {XR : XRep} {C : Calls} {sg : Sig} {cx : Ctx} {W : WX}
theorem swS_of (g : GoodS X XR C sg cx W) {ts vs : List Exp} {k k2 : Nat} {p p2 : Pos} {r : Option (List Str)} (h : swS cx.sc ts vs = some r) : swappedStores [.Tuple ts k p] (.Tuple vs k2 p2) X.env = pure r := by
  rw [← g.sc] at h
  exact swS_ok g.kind h
theorem setLc_ok (g : GoodS X XR C sg cx W) {i : Nat} {x : Str} {tp p pos : Pos} {vs : List Nat} {t : T} {it : I} {cs : Es} {elt : E} {v pelt : Exp} {gs : List Comprehension} {s : Scope} (hv : vLc v = some (pelt, gs, s, p))
    (hx : X.N[i]? = some x) (hxl : cx.sc.names.lookup x = some .local) (h : chkE sg cx false (.comp vs t it cs elt) v = true) (hl : (tp.line == p.line) = true) (ha : (s.names.any fun (n, k) => n == x && (k == .local || k == .cell)) = false) :
    PS X (.Assign [.Name x tp] v pos) (tS X.K XR W (do
    let p ← ev C (.comp vs t it cs elt)
    stV i p.1 (if p.2 then .own else .frz)
    pure .nx)) := by
  simp only [chkE] at h
  split at h
  · rename_i pelt' cg scope p' hq
    rw [hv] at hq
    injection hq with hq
    injection hq with e1 hq
    injection hq with e2 hq
    injection hq with e3 e4
    subst e1 e2 e3 e4
    obtain ⟨tg, iter, ifs, asy⟩ := cg
    simp only [Bool.and_eq_true, decide_eq_true_eq] at h
    obtain ⟨⟨⟨⟨⟨⟨⟨h1, h2⟩, h3⟩, h4⟩, h5⟩, h6⟩, h7⟩, h8⟩ := h
    have h1 : asy = 0 := h1
    subst h1
    rw [vLc_ok hv]
    simp only [ev]
    have hb : BlkOk X.N X.env.scope s (vs.map fun v => ((sg.N[v]?).getD "", v)) := by
      rw [g.hN, g.sc]
      exact blkOk_by h2
    have hxl' : X.env.scope.names.lookup x = some .local := by rw [g.sc]; exact hxl
    have g0 := g.toGood
    have key := s_setLc (X := X) (XR := XR) (W := W) (pos := p) (spos := pos) (py := tp) (el := ev C elt) (cd := evB C cs) (t := t) (elt := pelt) (ifs := ifs) g.calm g.nd hx hxl' (sw_true g.kind hxl' hl ha) (chkI_ok it g0 h5) hb
      (fun j hj => by
        rw [own_names]
        exact of_decide_eq_true (List.all_eq_true.mp h3 j hj))
      (fun s H Cc cl fp => chkT_ok g0.blk t h4) (fun s H Cc cl fp => chkB_ok cs g0.blk h7) (fun s H Cc cl fp => (chkE_ok elt g0.blk h8).toE) (set_ok h6)
    rw [own_names] at key
    exact key
  · cases h
/-- a slot is forgotten -/
theorem post_drop {K : PySem.W.Frag} {O : Addr → Prop} {ms : MS} {σ : St} {H : Hp} {i : Nat} (rel : Rel K O ms σ H) : PostE K O ms σ H (ms.set i none) O H := by
  have get : ∀ {j : Nat} {e : D} {g : Fl}, (ms.set i none)[j]? = some (some (e, g)) → ms[j]? = some (some (e, g)) := fun {j e g} hj => by
    rcases set_get hj with ⟨rfl, e1, _⟩ | ⟨ne, hj⟩
    · cases e1
    · exact hj
  exact ⟨⟨by rw [List.length_set]; exact rel.len, fun j e g hj => rel.slot j e g (get hj), fun j k e e' g g' b hj hk => rel.apart j k e e' g g' b (get hj) (get hk), rel.lists⟩, .refl, fun x hx => by
    obtain ⟨j, e, g, hg, hj, sj⟩ := hx
    exact .inl ⟨j, e, g, hg, get hj, sj⟩, fun j e hj => ⟨e, get hj⟩⟩
theorem post_drops {K : PySem.W.Frag} {σ : St} {H : Hp} {O : Addr → Prop} : ∀ (ds : List Nat) {ms : MS}, Rel K O ms σ H → PostE K O ms σ H (dropM ds ms) O H
  | [], _, rel => .refl rel
  | i :: ds, _, rel => (post_drop rel).trans rel (post_drops ds (post_drop rel).rel)
theorem post_frzs {K : PySem.W.Frag} {σ : St} {H : Hp} : ∀ (fs : List Nat) {O : Addr → Prop} {ms : MS}, Rel K O ms σ H → ∃ O', PostE K O ms σ H (frzM fs ms) O' H
  | [], O, _, rel => ⟨O, .refl rel⟩
  | i :: fs, O, ms, rel => by
    have step : ∃ O1, PostE K O ms σ H (match ms[i]? with
        | some (some (d, _)) => ms.set i (some (d, .frz))
        | _ => ms) O1 H := by
      rcases slot_cases ms[i]? with ⟨d, h⟩ | ⟨d, f, hf, h⟩ | h | h
      · rw [h]
        refine ⟨O, ?_⟩
        show PostE K O ms σ H (ms.set i (some (d, .frz))) O H
        have e : ms.set i (some (d, .frz)) = ms := by
          apply List.ext_getElem?
          intro j
          rw [List.getElem?_set]
          by_cases q : i = j
          · subst q
            rw [if_pos rfl]
            have hl : i < ms.length := by
              rcases Nat.lt_or_ge i ms.length with l | l
              · exact l
              · rw [List.getElem?_eq_none l] at h; cases h
            rw [if_pos hl, h]
          · rw [if_neg q]
        rw [e]
        exact .refl rel
      · obtain ⟨a, e, q, _⟩ := rel.own h hf
        rw [h]
        exact ⟨_, post_frz rel h hf e q⟩
      · rw [h]; exact ⟨O, .refl rel⟩
      · rw [h]; exact ⟨O, .refl rel⟩
    obtain ⟨O1, P1⟩ := step
    obtain ⟨O2, P2⟩ := post_frzs fs P1.rel
    exact ⟨O2, P1.trans rel P2⟩
theorem s_hint {ps : List PySem.Stmt} {ds fs : List Nat} {ks : List (Nat × Kd)} {g : M Fw} (h : PSs X ps (tS X.K XR W g)) : PSs X ps (tS X.K XR W (do
    let f ← hintM ds fs ks
    match f with
    | .nx => g
    | f => pure f)) := by
  refine h.weak ?_
  rintro D σ H ⟨O, ms, rel, G⟩
  rw [bind_run] at G
  unfold hintM at G
  split at G
  · rename_i a m' e
    split at e
    · cases e
      have P1 := post_drops (K := X.K) (σ := σ) (H := H) (O := O) ds rel
      obtain ⟨O2, P2⟩ := post_frzs fs P1.rel
      exact tS_out rel (P1.trans rel P2).s G
    · cases e
  · rename_i e
    split at e <;> cases e
  · exact G.elim
mutual
theorem chkS_ok : ∀ (s : S) {X : Cx} {W : WX} {p : PySem.Stmt}, GoodS X XR C sg cx W → chkS sg cx s p = true → PS X p (tS X.K XR W (exec C s))
  | .asg t e, X, W, p, g, h => by
    simp only [chkS] at h
    split at h
    · rename_i tg v pos heq
      rw [wAsg_ok heq]
      cases t with
      | nm i =>
        try simp only at h
        cases q : vNm tg with
        | none => simp only [q] at h; cases h
        | some r =>
          obtain ⟨x, tp⟩ := r
          simp only [q, Bool.and_eq_true, Bool.or_eq_true] at h
          obtain ⟨⟨h1, h2⟩, h3⟩ := h
          obtain ⟨n1, n2, n3⟩ := loc_of g.toGood h1
          rw [vNm_ok q]
          simp only [exec]
          rcases h3 with h3 | h3
          · exact s_set g.nd n1 n2 (chkE_ok e g.toGood h2).toE (swap_nc h3) n3
          · cases e with
            | comp vs t it cs elt =>
              cases q2 : vLc v with
              | none => simp [q2] at h3
              | some r2 =>
                obtain ⟨pelt, gs, s, p2⟩ := r2
                simp only [q2] at h3
                split at h3
                · rename_i hl
                  simp only [Bool.and_eq_true, Bool.not_eq_true'] at h3
                  exact setLc_ok g q2 n1 hl h2 h3.1 h3.2
                · cases h3
            | _ => simp at h3
      | tp ts =>
        try simp only at h
        cases q : vTup tg with
        | none => simp only [q] at h; cases h
        | some r =>
          obtain ⟨es, k, tp⟩ := r
          simp only [q, Bool.and_eq_true] at h
          obtain ⟨⟨h1, h2⟩, h3⟩ := h
          have ht := vTup_ok q
          subst ht
          simp only [exec]
          refine s_setT (chkE_ok e g.toGood h2).toE (chkT_ok g.toGood (.tp ts) h1) swap_tup ?_ rfl
          cases q2 : vTup v with
          | none =>
            refine store_nt ?_
            cases v <;> first | rfl | (cases q2; done)
          | some r2 =>
            obtain ⟨vs, k2, p2⟩ := r2
            simp only [q2, decide_eq_true_eq] at h3
            rw [vTup_ok q2]
            exact swS_of g h3
    · cases h
  | .par is es, X, W, p, g, h => by
    simp only [chkS] at h
    split at h
    · rename_i tg v pos heq
      rw [wAsg_ok heq]
      split at h
      · rename_i ts k tp vs k2 vp q1 q2
        have ht := vTup_ok q1
        have hv := vTup_ok q2
        subst ht hv
        split at h
        · rename_i i j tx ty
          split at h
          · rename_i x px y py q3 q4
            have hx := vNm_ok q3
            have hy := vNm_ok q4
            subst hx hy
            simp only [Bool.and_eq_true, decide_eq_true_eq] at h
            obtain ⟨⟨⟨⟨⟨⟨⟨h1, h2⟩, h3⟩, h4⟩, h5⟩, h6⟩, h7⟩, h8⟩ := h
            match vs, h7, h6, h8 with
            | [a, b], _, h6, h8 =>
              simp only [exec]
              exact s_par2 g.calm g.nd (by rw [g.hN]; exact h2) (by rw [g.hN]; exact h3) h1 (by rw [g.sc]; exact h4) (by rw [g.sc]; exact h5) (rs_ok g.toGood es h8) (swS_of g h6) swap_tup
          · cases h
        · rename_i i j l tx ty tz
          split at h
          · rename_i x px y py z pz q3 q4 q5
            have hx := vNm_ok q3
            have hy := vNm_ok q4
            have hz := vNm_ok q5
            subst hx hy hz
            simp only [Bool.and_eq_true, decide_eq_true_eq] at h
            obtain ⟨⟨⟨⟨⟨⟨⟨⟨⟨⟨⟨h1, h2⟩, h3⟩, h4⟩, h5⟩, h6⟩, h7⟩, h8⟩, h9⟩, h10⟩, h11⟩, h12⟩ := h
            match vs, h11, h10, h12 with
            | [a, b, c], _, h10, h12 =>
              simp only [exec]
              exact s_par3 g.calm g.nd (by rw [g.hN]; exact h4) (by rw [g.hN]; exact h5) (by rw [g.hN]; exact h6) h1 h2 h3 (by rw [g.sc]; exact h7) (by rw [g.sc]; exact h8) (by rw [g.sc]; exact h9) (rs_ok g.toGood es h12) (swS_of g h10) swap_tup
          · cases h
        · simp only [Bool.and_eq_true, decide_eq_true_eq] at h
          obtain ⟨⟨⟨⟨⟨⟨h1, h2⟩, h3⟩, h4⟩, h5⟩, h6⟩, h7⟩ := h
          simp only [exec]
          obtain ⟨k1, k2⟩ := asg_len (env := X.env) h4
          exact s_parN g.calm h2 (names_ok g.toGood is h5) (rs_ok g.toGood es h7) (k1.trans h3) k2 (swS_of g h6)
      · cases h
    · cases h
  | .aug i o e, X, W, p, g, h => by
    simp only [chkS] at h
    split at h
    · rename_i tg po v pos heq
      rw [wAug_ok heq]
      split at h
      · rename_i x px q
        simp only [Bool.and_eq_true, decide_eq_true_eq] at h
        obtain ⟨⟨h1, h2⟩, h3⟩ := h
        obtain ⟨n1, n2, n3⟩ := loc_of g.toGood h1
        rw [vNm_ok q]
        simp only [exec]
        exact s_aug g.nd n1 n2 (chkE_ok e g.toGood h3).toE h2 n3
      · cases h
    · cases h
  | .seti i ix e, X, W, p, g, h => by
    simp only [chkS] at h
    split at h
    · rename_i tg v pos heq
      rw [wAsg_ok heq]
      split at h
      · rename_i o ei p2 q
        split at h
        · rename_i x px q2
          simp only [Bool.and_eq_true] at h
          obtain ⟨⟨⟨h1, h2⟩, h3⟩, h4⟩ := h
          obtain ⟨n1, n2, n3, n4⟩ := nm_of g.toGood h1
          have ho := vNm_ok q2
          subst ho
          rw [vSub_ok q]
          simp only [exec]
          refine s_seti n1 n2 n3 n4 (chkE_ok e g.toGood h3).toE (chkE_ok ix g.toGood h4).toE ?_ swap_sub store_sub rfl
          intro v
          cases ei <;> first | rfl | (cases h2; done)
        · cases h
      · cases h
    · cases h
  | .augi i ix o e, X, W, p, g, h => by
    simp only [chkS] at h
    split at h
    · rename_i tg po v pos heq
      rw [wAug_ok heq]
      split at h
      · rename_i ob ei p2 q
        split at h
        · rename_i x px q2
          simp only [Bool.and_eq_true, decide_eq_true_eq] at h
          obtain ⟨⟨⟨⟨h1, h2⟩, h3⟩, h4⟩, h5⟩ := h
          obtain ⟨n1, n2, n3, n4⟩ := nm_of g.toGood h1
          have ho := vNm_ok q2
          subst ho
          rw [vSub_ok q]
          simp only [exec]
          refine s_augi n1 n2 n3 n4 (chkE_ok e g.toGood h4).toE (chkE_ok ix g.toGood h5).toE h3 ?_
          intro ov iv new
          cases ei <;> first | rfl | (cases h2; done)
        · cases h
      · cases h
    · cases h
  | .expr e, X, W, p, g, h => by
    simp only [chkS] at h
    split at h
    · rename_i v pos heq
      rw [wExpr_ok heq]
      obtain ⟨h1, h2⟩ := and_split h
      simp only [exec]
      exact s_expr (chkE_ok e g.toGood h2).toE (swap_nc h1)
    · cases h
  | .ret e, X, W, p, g, h => by
    simp only [chkS] at h
    split at h
    · rename_i v pos heq
      rw [wRet_ok heq]
      simp only [exec]
      exact s_ret (mv_ok g.toGood (chkE_ok e g.toGood h).toE h)
    · cases h
  | .retN, X, W, p, g, h => by
    simp only [chkS] at h
    split at h
    · rename_i pos heq
      rw [wRet_ok heq]
      simp only [exec]
      exact s_retN
    · cases h
  | .ifs c a b, X, W, p, g, h => by
    simp only [chkS] at h
    split at h
    · rename_i t pa pb pos heq
      rw [wIf_ok heq]
      simp only [Bool.and_eq_true] at h
      obtain ⟨⟨h1, h2⟩, h3⟩ := h
      have key := s_if (X := X) (pos := pos) (chkE_ok c g.toGood h1).toT (chkSs_ok a g h2) (chkSs_ok b g h3)
      simp only [exec]
      simp only [tst, bind_assoc'] at key
      exact key
    · cases h
  | .whl c b, X, W, p, g, h => by
    simp only [chkS] at h
    split at h
    · rename_i t pb el pos heq
      rw [wWhile_ok heq]
      simp only [Bool.and_eq_true] at h
      obtain ⟨⟨h1, h2⟩, h3⟩ := h
      cases el with
      | cons _ _ => cases h1
      | nil =>
        simp only [exec]
        obtain ⟨n, hn⟩ := g.whl (do
          let p ← ev C c
          asB p.1) (execs C b)
        rw [hn]
        exact s_while n g.pass (chkE_ok c g.toGood h2).toT (chkSs_ok b g h3)
    · cases h
  | .frr t it b, X, W, p, g, h => by
    simp only [chkS] at h
    split at h
    · rename_i tg iter pb el pos heq
      rw [wFor_ok heq]
      simp only [Bool.and_eq_true] at h
      obtain ⟨⟨⟨⟨h1, h2⟩, h3⟩, h4⟩, h5⟩ := h
      cases el with
      | cons _ _ => cases h1
      | nil =>
        simp only [exec]
        exact s_for g.pass g.calm (chkI_ok it g.toGood h3) (chkT_ok g.toGood t h2) (chkSs_ok b g h5) (set_ok h4)
    · cases h
  | .raise c e, X, W, p, g, h => by
    simp only [chkS] at h
    split at h
    · rename_i v p2 hw
      split at h
      · rename_i x xp pe cp hv
        simp only [Bool.and_eq_true, decide_eq_true_eq] at h
        obtain ⟨⟨⟨⟨⟨hc, rfl⟩, hgl⟩, hdb⟩, hst⟩, he⟩ := h
        have g0 := g.toGood
        obtain ⟨hxr, fI, fd, e1, e2, e3, e4, _⟩ := g0.exf (List.ne_nil_of_mem hc)
        obtain ⟨Ca, hCa, hmC⟩ := g0.cls c hc
        rw [wRaise_ok hw, vCallN_ok hv]
        have key := s_raise (p2 := p2) (p := xp) (pos := cp) (g := evFs C (.cons e .nil)) e1 hxr g0.calm g0.tk hCa (gl_of g0 hgl) hmC (dbg_of hdb).1 e3 g0.room e4 e2 (chkEs_ok (.cons e .nil) g0 (by simp only [chkEs, Bool.and_eq_true]; exact ⟨⟨hst, he⟩, rfl⟩)).1 (fun m ds m' q => by
          have := evFs_len q
          exact this) (star_cons hst) rfl
        refine key.weak ?_
        rintro Ds σ H ⟨O, ms, rel, G⟩
        refine ⟨O, ms, rel, ?_⟩
        have eq : ((do let ds ← evFs C (.cons e .nil); fun m => R.err c (ds.getD 0 .non) m : M Fw) ms) = exec C (.raise c e) ms := by
          simp only [exec, evFs]
          rw [bind_run, bind_run, bind_run]
          cases ev C e ms <;> rfl
        rw [eq]
        exact G
      · rename_i x xp kw cp hv
        simp only [Bool.and_eq_true, decide_eq_true_eq] at h
        obtain ⟨⟨⟨⟨⟨hc, rfl⟩, hgl⟩, hdb⟩, hkn⟩, he⟩ := h
        obtain ⟨kn, kv, kp⟩ := kw
        have hkn : kn = some ("value" : Str) := hkn
        subst hkn
        have g0 := g.toGood
        obtain ⟨hxr, fI, fd, e1, e2, e3, _, e4⟩ := g0.exf (List.ne_nil_of_mem hc)
        obtain ⟨Ca, hCa, hmC⟩ := g0.cls c hc
        rw [wRaise_ok hw, vCallN_ok hv]
        have key := s_raiseK (p2 := p2) (p := xp) (pos := cp) (kpos := kp) (g := evFs C (.cons e .nil)) e1 hxr g0.calm g0.tk hCa (gl_of g0 hgl) hmC (dbg_of hdb).1 e3 g0.room e4 e2 (pk_fcons (chkE_ok e g0 he).toE pk_fnil) (fun m ds m' q => by
          have := evFs_len q
          exact this)
        refine key.weak ?_
        rintro Ds σ H ⟨O, ms, rel, G⟩
        refine ⟨O, ms, rel, ?_⟩
        have eq : ((do let ds ← evFs C (.cons e .nil); fun m => R.err c (ds.getD 0 .non) m : M Fw) ms) = exec C (.raise c e) ms := by
          simp only [exec, evFs]
          rw [bind_run, bind_run, bind_run]
          cases ev C e ms <;> rfl
        rw [eq]
        exact G
      · cases h
    · cases h
  | .tryAs b c i j, X, W, p, g, h => by
    simp only [chkS] at h
    split at h
    · rename_i body x p1 n m p2 n2 p3 p4 p5 p6 hw
      simp only [Bool.and_eq_true, decide_eq_true_eq] at h
      obtain ⟨⟨⟨⟨⟨⟨⟨⟨⟨⟨⟨hc, rfl⟩, hgl⟩, hdb⟩, rfl⟩, hij⟩, hi⟩, hj⟩, hln⟩, hlm⟩, hdn⟩, hb⟩ := h
      have g0 := g.toGood
      obtain ⟨hxr, fI, fd, e1, e2, e3, e4, _⟩ := g0.exf (List.ne_nil_of_mem hc)
      obtain ⟨Ca, hCa, hmC⟩ := g0.cls c hc
      rw [wTry_ok hw]
      simp only [exec]
      refine s_try e1 hxr (fun c' C' _ => g0.sub c' c) hCa g.stk g.frm g0.nd (by rw [g0.hN]; exact hi) (by rw [g0.hN]; exact hj) hij ?_ ?_ ⟨gl_of g0 hgl, (dbg_of hdb).1, .inl hmC⟩ g0.tk (dbg_of hdn).1 (dbg_of hdn).2 fun W' pn xe tk' ps' => ?_
      · show X.env.scope.names.lookup _ = _
        rw [g0.sc]
        exact hln
      · rw [g0.sc]
        exact hlm
      · have g' : GoodS (X.tr pn xe) XR C sg cx W' := {
          nd := g0.nd
          hN := g0.hN
          sc := g0.sc
          calm := g0.calm
          fnb := g0.fnb
          tk := tk'
          fns := g0.fns
          units := g0.units
          blt := g0.blt
          gcd := g0.gcd
          glob := g0.glob
          exf := g0.exf
          cls := g0.cls
          sub := g0.sub
          room := g0.room
          kind := g.kind
          pass := ps'
          whl := g.whl
          stk := g.stk
          frm := g.frm }
        exact chkSs_ok b g' hb
    · cases h
  | .tryN b c j, X, W, p, g, h => by
    simp only [chkS] at h
    cases h
  | .pss, X, W, p, g, h => by
    simp only [chkS] at h
    split at h
    · rename_i pos heq
      rw [wPass_ok heq]
      simp only [exec]
      exact s_pass
    · cases h
  | .brk, X, W, p, g, h => by
    simp only [chkS] at h
    split at h
    · rename_i pos heq
      rw [wBreak_ok heq]
      simp only [exec]
      exact s_break
    · cases h
  | .cnt, X, W, p, g, h => by
    simp only [chkS] at h
    split at h
    · rename_i pos heq
      rw [wCont_ok heq]
      simp only [exec]
      exact s_cont
    · cases h
  | .bad, X, W, p, g, h => by
    simp only [exec]
    exact s_never
  | .hint ds fs ks, X, W, p, g, h => by
    simp only [chkS] at h
    cases h
  | .whlp c b, X, W, p, g, h => by
    simp only [chkS] at h
    split at h
    · rename_i t pb el pos heq
      rw [wWhile_ok heq]
      simp only [Bool.and_eq_true] at h
      obtain ⟨⟨h1, h2⟩, h3⟩ := h
      cases el with
      | cons _ _ => cases h1
      | nil =>
        simp only [exec]
        obtain ⟨n, hn⟩ := g.whl (do
          let p ← ev C c
          asB p.1) (execs C b)
        rw [hn]
        exact s_while n g.pass (chkE_ok c g.toGood h2).toT (chkSs_ok b g h3)
    · cases h
theorem chkSs_ok : ∀ (ss : Ss) {X : Cx} {W : WX} {ps : List PySem.Stmt}, GoodS X XR C sg cx W → chkSs sg cx ss ps = true → PSs X ps (tS X.K XR W (execs C ss))
  | .nil, X, W, ps, g, h => by
    simp only [chkSs] at h
    cases ps with
    | nil => simp only [execs]; exact s_nil
    | cons _ _ => cases h
  | .cons s ss, X, W, ps, g, h => by
    simp only [chkSs, Bool.or_eq_true, Bool.and_eq_true] at h
    rcases h with h | h
    · cases s <;> try (exact absurd h.1 Bool.false_ne_true)
      rename_i ds fs ks
      simp only [execs]
      exact s_hint (chkSs_ok ss g h.2)
    · cases ps with
      | nil => cases h
      | cons p ps =>
        simp only [Bool.and_eq_true] at h
        have := s_cons (chkS_ok s g h.1) (chkSs_ok ss g h.2)
        simp only [execs]
        exact this
end
end
end Mi

set_option Elab.async false
set_option linter.all false
set_option maxRecDepth 100000
set_option autoImplicit false
set_option maxHeartbeats 4000000
namespace Mi
open PySem PySem.Spec PyProof.Rows L2
section
variable {K : PySem.W.Frag} {XR : XRep} {O O' : Addr → Prop} {H H' : Hp} {ms ms' : MS} {σ σ' : St}
theorem app_get {α : Type} {l : List (Option α)} {n i : Nat} {p : α} : (l ++ List.replicate n none)[i]? = some (some p) ↔ l[i]? = some (some p) := by
  by_cases hi : i < l.length
  · rw [List.getElem?_append_left hi]
  · rw [List.getElem?_append_right (by omega), List.getElem?_eq_none (show l.length ≤ i by omega), List.getElem?_replicate]
    split <;> simp
theorem rel_more {n : Nat} (rel : Rel K O ms σ H) : Rel K O (ms ++ List.replicate n none) (σ ++ List.replicate n none) H := by
  refine ⟨by rw [List.length_append, List.length_append, rel.len]; simp, fun i d f h => ?_, fun i j d e f g a hi hj hf hg si sj => ?_, rel.lists⟩
  · obtain ⟨v, h1, h2⟩ := rel.slot i d f (app_get.mp h)
    exact ⟨v, app_get.mpr h1, h2⟩
  · exact rel.apart i j d e f g a (app_get.mp hi) (app_get.mp hj) hf hg (app_get.mp si) (app_get.mp sj)
theorem own_more {n : Nat} {a : Addr} : Own (ms ++ List.replicate n none) (σ ++ List.replicate n none) a ↔ Own ms σ a := by
  constructor
  · rintro ⟨i, d, f, hf, h1, h2⟩
    exact ⟨i, d, f, hf, app_get.mp h1, app_get.mp h2⟩
  · rintro ⟨i, d, f, hf, h1, h2⟩
    exact ⟨i, d, f, hf, app_get.mpr h1, app_get.mpr h2⟩
/-- the lent lists at the end -/
theorem outs_ok (rel : Rel K O' ms' σ' H') : ∀ {args : List (D × Fl)} {vs : List V} {k : Nat}, vs.length = args.length → (∀ (j : Nat) (d : D), ms'[k + j]? = some (some (d, .bor)) → ∀ v, vs[j]? = some v → σ'[k + j]? = some (some v)) →
    OutsOk K O' H' args vs (outsOf ms' k args) ∧ ∀ a, OutOwn args vs (outsOf ms' k args) a → Own ms' σ' a
  | [], [], k, _, _ => ⟨.nil, fun a h => by cases h⟩
  | [], _ :: _, _, h, _ => by cases h
  | _ :: _, [], _, h, _ => by cases h
  | (d, f) :: args, v :: vs, k, hl, hb => by
    have hb' : ∀ (j : Nat) (d : D), ms'[k + 1 + j]? = some (some (d, .bor)) → ∀ v, vs[j]? = some v → σ'[k + 1 + j]? = some (some v) := fun j d h v hv => by
      have e : k + 1 + j = k + (j + 1) := by omega
      rw [e] at h ⊢
      exact hb (j + 1) d h v (by simpa using hv)
    obtain ⟨k1, k2⟩ := outs_ok rel (args := args) (vs := vs) (k := k + 1) (by simpa using hl) hb'
    by_cases hf : f = .bor
    · subst hf
      show OutsOk K O' H' ((d, .bor) :: args) (v :: vs) ((match ms'[k]? with
        | some (some (d, .bor)) => some d
        | _ => none) :: outsOf ms' (k + 1) args) ∧ ∀ a, OutOwn ((d, .bor) :: args) (v :: vs) ((match ms'[k]? with
        | some (some (d, .bor)) => some d
        | _ => none) :: outsOf ms' (k + 1) args) a → Own ms' σ' a
      have cs : (∃ d', ms'[k]? = some (some (d', .bor))) ∨ (match ms'[k]? with
        | some (some (d, .bor)) => some d
        | _ => none) = none := by
        cases h : ms'[k]? with
        | none => exact .inr rfl
        | some o =>
          cases o with
          | none => exact .inr rfl
          | some p =>
            obtain ⟨d', f'⟩ := p
            cases f' with
            | bor => exact .inl ⟨d', rfl⟩
            | frz => exact .inr rfl
            | own => exact .inr rfl
      rcases cs with ⟨d', h⟩ | h
      · rw [h]
        have hs : σ'[k]? = some (some v) := hb 0 d' h v rfl
        obtain ⟨a, ha, q, ow⟩ := rel.own h (by decide)
        rw [hs] at ha
        cases ha
        refine ⟨.back q k1, fun a' h' => ?_⟩
        cases h' with
        | skip z => exact absurd rfl z
        | here => exact ow
        | next z => exact k2 a' z
      · rw [h]
        refine ⟨.gone k1, fun a' h' => ?_⟩
        cases h' with
        | skip z => exact absurd rfl z
        | next z => exact k2 a' z
    · have e : outsOf ms' k ((d, f) :: args) = outsOf ms' (k + 1) args := by
        cases f with
        | bor => exact absurd rfl hf
        | frz => rfl
        | own => rfl
      rw [e]
      refine ⟨.skip hf k1, fun a' h' => ?_⟩
      generalize outsOf ms' (k + 1) args = os at h' k2
      cases h' with
      | skip _ z => exact k2 a' z
      | here => exact absurd rfl hf
      | next _ => exact absurd rfl hf
/-- a def's body, by its run -/
theorem body_ok {C : Calls} {fn : Fn} {args : List (D × Fl)} {vs : List V} {Q : VK} {E : XK} (rel : Rel K O (argM args) (argS vs) H) (hl : args.length = fn.np) (hn : fn.ns - fn.np = fn.ns - vs.length)
    (h : match runFn C fn args with
      | .ok d own outs => ∀ v O' H', CallPost K O args vs H outs O' H' → RepR K H (Own (argM args) (argS vs)) O' H' (OutOwn args vs outs) v d own → Q v H'
      | .err c x => ∀ cls dx O' H', Ext O H (Own (argM args) (argS vs)) O' H' → (∀ a, O' a → ∃ ws, H' a = some (.lst ws)) → XR c x cls dx O' H' → E cls dx H'
      | .bad => False) :
    tS K XR (fun cls d _ H => E cls d H) (execs C fn.body) { nx := fun _ H' => Q .non H', rt := Q } (vs.map some ++ List.replicate (fn.ns - vs.length) none) H := by
  have hlen : vs.length = args.length := by
    have := rel.len
    rw [List.length_map, List.length_map] at this
    exact this.symm
  have R := rel_more (n := fn.ns - fn.np) rel
  have h : match (match execs C fn.body (args.map some ++ List.replicate (fn.ns - fn.np) none) with
      | .ok (.rt d o) m => CR.ok d o (outsOf m 0 args)
      | .ok .nx m => .ok .non false (outsOf m 0 args)
      | .err c v _ => .err c v
      | _ => .bad) with
      | .ok d own outs => ∀ v O' H', CallPost K O args vs H outs O' H' → RepR K H (Own (argM args) (argS vs)) O' H' (OutOwn args vs outs) v d own → Q v H'
      | .err c x => ∀ cls dx O' H', Ext O H (Own (argM args) (argS vs)) O' H' → (∀ a, O' a → ∃ ws, H' a = some (.lst ws)) → XR c x cls dx O' H' → E cls dx H'
      | .bad => False := by
    unfold runFn at h
    rw [if_pos hl] at h
    exact h
  rw [← hn]
  refine ⟨O, _, R, ?_⟩
  have ext' : ∀ {O' : Addr → Prop} {H' : Hp}, Ext O H (Own (argM args ++ List.replicate (fn.ns - fn.np) none) (argS vs ++ List.replicate (fn.ns - fn.np) none)) O' H' → Ext O H (Own (argM args) (argS vs)) O' H' := fun x => ⟨x.keep, fun a ho nb => x.held a ho fun z => nb (own_more.mp z), x.grow⟩
  have post : ∀ {m : MS} {O' : Addr → Prop} {σ' : St} {H' : Hp}, PostS K O (argM args ++ List.replicate (fn.ns - fn.np) none) (argS vs ++ List.replicate (fn.ns - fn.np) none) H m O' σ' H' → CallPost K O args vs H (outsOf m 0 args) O' H' ∧ ∀ a, OutOwn args vs (outsOf m 0 args) a → Own m σ' a := fun {m O' σ' H'} P => by
    obtain ⟨k1, k2⟩ := outs_ok (k := 0) P.rel hlen fun j d hj v hv => by
      rw [Nat.zero_add] at hj ⊢
      obtain ⟨_, e⟩ := P.bor j d hj
      rw [e]
      exact app_get.mpr (by rw [List.getElem?_map, hv]; rfl)
    exact ⟨⟨ext' P.ext, P.rel.lists, k1⟩, k2⟩
  unfold End
  cases hx : execs C fn.body (argM args ++ List.replicate (fn.ns - fn.np) none) with
  | bad =>
    rw [hx] at h
    exact h
  | err c x m =>
    rw [hx] at h
    intro cls dx O' σ' H' P xr
    exact h cls dx O' H' (ext' P.ext) P.rel.lists xr
  | ok fw m =>
    rw [hx] at h
    cases fw with
    | bk => exact h.elim
    | ct => exact h.elim
    | nx =>
      intro O' σ' H' P
      exact h .non O' H' (post P).1 .non
    | rt d o =>
      intro O' σ' H' P v r
      obtain ⟨p1, p2⟩ := post P
      refine h v O' H' p1 ?_
      unfold RepR at r ⊢
      cases o with
      | false => exact r
      | true =>
        obtain ⟨a, e, q, nb, og⟩ := r
        exact ⟨a, e, q, fun z => nb (p2 a z), og.imp id own_more.mp⟩
end
end Mi

set_option Elab.async false
set_option linter.all false
set_option maxRecDepth 100000
set_option autoImplicit false
set_option maxHeartbeats 4000000
namespace Mi
open PySem PySem.Spec PyProof.Rows L2
structure DefRow where
  x : Str
  st : PySem.Stmt
  N : List Str
  ps : List Str
  fn : Fn
  kw : List (Nat × List Str × List Nat)
/-- what all defs share -/
structure GSig where
  fns : List Str
  kws : List (Nat × Nat × List Str × List Nat)
  globs : List Str
  blts : List Str
  gcd : Bool
  cls : List Nat
def GSig.at (gs : GSig) (N : List Str) : Sig := ⟨N, gs.fns, gs.kws, gs.globs, gs.blts, gs.gcd, gs.cls⟩
def scopeC (N ps : List Str) (sc : Scope) : Bool := decide (sc.kind = .function) && !sc.isCoroutine && !sc.isGenerator && decide N.Nodup && decide (N.take ps.length = ps) && ps.all (fun x => decide (sc.names.lookup x = some .local) || decide (sc.names.lookup x = some .cell)) && sc.names.all (fun y => decide (y.2 ≠ .free))
theorem scopeC_ok {N ps : List Str} {sc : Scope} (h : scopeC N ps sc = true) : FnScope N ps sc := by
  unfold scopeC at h
  simp only [Bool.and_eq_true, decide_eq_true_eq, Bool.not_eq_true', List.all_eq_true, Bool.or_eq_true] at h
  obtain ⟨⟨⟨⟨⟨⟨h1, h2⟩, h3⟩, h4⟩, h5⟩, h6⟩, h7⟩ := h
  exact ⟨h1, h2, h3, h4, h5, h6, h7⟩
def rowC (gs : GSig) (r : DefRow) : Bool := scopeC r.N r.ps (defScope r.st) && decide (r.fn.np = r.ps.length) && decide (r.fn.ns = r.N.length) && chkSs (gs.at r.N) ⟨defScope r.st, none⟩ r.fn.body (defBody r.st)
def Facts (K : PySem.W.Frag) (mg : Str → Option Value) (r : DefRow) (fa : Addr) (fd : FuncData) : Prop :=
  L2.Fun K r.x r.x r.st fa fd ∧ mg r.x = some (.ref fa) ∧ Binds K fd r.ps [] ∧ ∀ np ks ord, (np, ks, ord) ∈ r.kw → KBinds K fd r.ps ks (gK np ks.length ord) (gK np ks.length ord)
/-- the keyword calls, by the def's number -/
def kwsOf : Nat → List DefRow → List (Nat × Nat × List Str × List Nat)
  | _, [] => []
  | f, r :: rs => r.kw.map (fun q => (f, q)) ++ kwsOf (f + 1) rs
theorem kwsOf_mem : ∀ {rows : List DefRow} {k f np : Nat} {ks : List Str} {ord : List Nat}, (f, np, ks, ord) ∈ kwsOf k rows → ∃ r, k ≤ f ∧ rows[f - k]? = some r ∧ (np, ks, ord) ∈ r.kw
  | [], k, f, np, ks, ord, h => by cases h
  | r :: rs, k, f, np, ks, ord, h => by
    have h : (f, np, ks, ord) ∈ r.kw.map (fun q => (k, q)) ++ kwsOf (k + 1) rs := h
    rcases List.mem_append.mp h with h | h
    · obtain ⟨q, hq, e⟩ := List.mem_map.mp h
      cases e
      exact ⟨r, Nat.le_refl _, by rw [Nat.sub_self]; rfl, hq⟩
    · obtain ⟨r', h1, h2, h3⟩ := kwsOf_mem h
      refine ⟨r', by omega, ?_, h3⟩
      rw [show f - k = (f - (k + 1)) + 1 by omega]
      simpa using h2
section
variable {P : Program} {w : World} {K : PySem.W.Frag} {mg : Str → Option Value} {base : Heap} {XR : XRep} {rows : List DefRow} {gs : GSig} {Pr : Prog} {Wh : Whl}
theorem all_fn (hW : ∀ c b, ∃ n, Wh c b = whN c b n) (hfn : Pr.fns = rows.map (·.fn)) (hnm : gs.fns = rows.map (·.x)) (hck : rows.all (rowC gs) = true)
    (hkw : gs.kws = kwsOf 0 rows) (hfacts : ∀ (f : Nat) row, rows[f]? = some row → ∃ fa fd, Facts K mg row fa fd) (hblt : ∀ x, x ∈ gs.blts → mg x = none) (hgcd : gs.gcd = true → mg "gcd" = some (.builtin "math.gcd"))
    (hglob : ∀ g x, gs.globs[g]? = some x → ∃ d v u, mg x = some u ∧ RelV v u ∧ (∀ O H, Rep K O H v d) ∧ Pr.glob g = some d)
    (hexf : gs.cls ≠ [] → XR = excXR K ∧ ∃ fI fd, excB K fI = true ∧ PySem.W.typeIn K (.ref fI) = some (.type "function") ∧ FnOk P w K mg base (L2.CX P w) 1 fI fd [("self" : Str), ("value" : Str)] (iniSp K) ∧ Binds K fd [("self" : Str), ("value" : Str)] [] ∧ (∀ (s : Shared) (a z : Value), K.In s.heap → BindsTo s fd ⟨[a], [(("value" : Str), z)]⟩ [(("self" : Str), a), (("value" : Str), z)]))
    (hcls : ∀ c, c ∈ gs.cls → ∃ Ca, clsAt K c Ca ∧ mg (excNm c) = some (.ref Ca)) (hsub : ∀ c' c, Pr.sub c' c = subT c' c) :
    ∀ (d f : Nat) row fa fd, rows[f]? = some row → Facts K mg row fa fd → FnOk P w K mg base (L2.CX P w) (d + 2) fa fd row.ps (spF K XR (callD Pr Wh d) f)
  | 0, f, row, fa, fd, hr, hf => by
    refine ⟨fun vs H Q E h => ?_, fun A outer s H args us vs Q E _ _ _ _ h => ?_⟩
    · obtain ⟨O, args, rel, h⟩ := h
      exact (h : False).elim
    · obtain ⟨O, args, rel, h⟩ := h
      exact (h : False).elim
  | d + 1, f, row, fa, fd, hr, hf => by
    have hc := List.all_eq_true.mp hck row (List.mem_of_getElem? hr)
    unfold rowC at hc
    simp only [Bool.and_eq_true, decide_eq_true_eq] at hc
    obtain ⟨⟨⟨c1, c2⟩, c3⟩, c4⟩ := hc
    have hfn' : Pr.fns[f]? = some row.fn := by rw [hfn, List.getElem?_map, hr]; rfl
    have hcall : ∀ args, callD Pr Wh (d + 1) f args = runFn ⟨callD Pr Wh d, Pr.glob, Pr.io, Pr.sub, Wh⟩ row.fn args := fun args => by
      show (match Pr.fns[f]? with
        | some fn => runFn ⟨callD Pr Wh d, Pr.glob, Pr.io, Pr.sub, Wh⟩ fn args
        | none => .bad) = _
      rw [hfn']
    have lens : ∀ {O : Addr → Prop} {args : List (D × Fl)} {vs : List V} {H : Hp}, Rel K O (argM args) (argS vs) H → vs.length = args.length := fun rel => by
      have := rel.len
      rw [List.length_map, List.length_map] at this
      exact this.symm
    have npl : ∀ {args : List (D × Fl)}, callD Pr Wh (d + 1) f args ≠ .bad → args.length = row.fn.np := fun {args} h => by
      refine Classical.byContradiction fun z => h ?_
      rw [hcall]
      unfold runFn
      rw [if_neg z]
    have nb : ∀ {args : List (D × Fl)} {vs : List V} {H : Hp} {O : Addr → Prop} {Q : VK} {E : XK}, (match callD Pr Wh (d + 1) f args with
      | .ok d own outs => ∀ v O' H', CallPost K O args vs H outs O' H' → RepR K H (Own (argM args) (argS vs)) O' H' (OutOwn args vs outs) v d own → Q v H'
      | .err c x => ∀ cls dx O' H', Ext O H (Own (argM args) (argS vs)) O' H' → (∀ a, O' a → ∃ ws, H' a = some (.lst ws)) → XR c x cls dx O' H' → E cls dx H'
      | .bad => False) → callD Pr Wh (d + 1) f args ≠ .bad := fun {args vs H O Q E} h z => by rw [z] at h; exact h
    refine hf.1.okX (scopeC_ok c1) (fun vs H Q E h => ?_) (fun cdv A outer s H vs Q E hroom h => ?_)
    · obtain ⟨O, args, rel, h⟩ := h
      rw [lens rel, npl (nb h), c2]
    · obtain ⟨O, args, rel, h⟩ := h
      have hl := npl (nb h)
      rw [hcall] at h
      refine ⟨tS K XR (fun cls d _ H => E cls d H) (execs ⟨callD Pr Wh d, Pr.glob, Pr.io, Pr.sub, Wh⟩ row.fn.body), ?_, ?_⟩
      · have hg : GoodS (cxOf (L2.CX P w) P w K mg base row.N row.x (defScope row.st) fa cdv A outer s H E) XR ⟨callD Pr Wh d, Pr.glob, Pr.io, Pr.sub, Wh⟩ (gs.at row.N) ⟨defScope row.st, none⟩ (fun cls d _ H => E cls d H) := {
          nd := (scopeC_ok c1).nd
          hN := rfl
          sc := rfl
          calm := rfl
          fnb := fun x => rfl
          tk := takes_of rfl rfl rfl rfl
          fns := fun f' x hx => by
            have hx : (rows.map (·.x))[f']? = some x := by rw [← hnm]; exact hx
            rw [List.getElem?_map] at hx
            obtain ⟨row', hr', e⟩ := map_some hx
            subst e
            obtain ⟨fa', fd', hf'⟩ := hfacts f' row' hr'
            exact ⟨d + 2, fa', fd', row'.ps, hroom, all_fn hW hfn hnm hck hkw hfacts hblt hgcd hglob hexf hcls hsub d f' row' fa' fd' hr' hf', hf'.2.1, hf'.1.kp, hf'.2.2.1, fun np ks ord hm => by
              have hm : (f', np, ks, ord) ∈ gs.kws := hm
              rw [hkw] at hm
              obtain ⟨r', _, h2, h3⟩ := kwsOf_mem hm
              rw [Nat.sub_zero, hr'] at h2
              cases h2
              exact hf'.2.2.2 np ks ord h3⟩
          units := hroom.units
          blt := hblt
          gcd := hgcd
          glob := hglob
          exf := hexf
          cls := hcls
          sub := hsub
          room := hroom.mono (Nat.le_add_left 2 d)
          stk := rfl
          frm := rfl
          kind := (scopeC_ok c1).kind
          pass := passes_of rfl
          whl := hW }
        exact chkSs_ok row.fn.body hg c4
      · have e : L2.start row.N vs = vs.map some ++ List.replicate (row.fn.ns - vs.length) none := by
          unfold L2.start
          rw [c3]
        rw [e]
        exact body_ok rel hl (by rw [lens rel, hl]) h
end
end Mi

set_option Elab.async false
set_option linter.all false
set_option maxRecDepth 100000
set_option autoImplicit false
set_option maxHeartbeats 4000000
namespace Mi
open PySem PySem.Spec PyProof.Rows L2
/-- a def as the top has written it -/
def DefIn (K : PySem.W.Frag) (r : DefRow) : Prop := ∃ (fa : Addr) (oc : Value) (od an : Option Addr) (sl : Array (Option Value)) (kV dc pm cd ct : Value),
  PySem.W.nsIn K mainGlobals r.x = some (some (.ref fa)) ∧ K.lookup fa = some ⟨oc, od, .func (PySem.W.fnOf r.x r.x (defArgs r.st) (defBody r.st) (defScope r.st) .none kV dc pm an cd ct), sl⟩ ∧ PySem.W.codeIn K cd r.x = true ∧ PySem.W.keepIn K (.ref fa) = true
theorem def_in {K : PySem.W.Frag} {r : DefRow} {fa : Addr} {oc : Value} {od an : Option Addr} {sl : Array (Option Value)} {kV dc pm cd ct : Value} (a : PySem.W.nsIn K mainGlobals r.x = some (some (.ref fa)))
    (l : K.lookup fa = some ⟨oc, od, .func (PySem.W.fnOf r.x r.x (defArgs r.st) (defBody r.st) (defScope r.st) .none kV dc pm an cd ct), sl⟩) (c : PySem.W.codeIn K cd r.x = true) (k : PySem.W.keepIn K (.ref fa) = true) : DefIn K r :=
  ⟨fa, oc, od, an, sl, kV, dc, pm, cd, ct, a, l, c, k⟩
/-- how its arguments bind -/
def BindOk (r : DefRow) : Prop := ∀ (kV doc pm : Value) (an : Option Addr) (cdv ct : Value) (us : List Value), us.length = r.ps.length → bindArgs (PySem.W.fnOf r.x r.x (defArgs r.st) (defBody r.st) (defScope r.st) .none kV doc pm an cdv ct) ⟨us, []⟩ = pure (r.ps.zip us)
def KwOk (r : DefRow) (q : Nat × List Str × List Nat) : Prop := ∀ (kV doc pm : Value) (an : Option Addr) (cdv ct : Value) (us ws : List Value), us.length = q.1 → ws.length = q.2.1.length →
  bindArgs (PySem.W.fnOf r.x r.x (defArgs r.st) (defBody r.st) (defScope r.st) .none kV doc pm an cdv ct) ⟨us, q.2.1.zip ws⟩ = pure (r.ps.zip ((pick (us ++ ws) q.2.2).getD []))
def KwsOk (r : DefRow) : List (Nat × List Str × List Nat) → Prop
  | [] => True
  | q :: qs => KwOk r q ∧ KwsOk r qs
theorem KwsOk.mem {r : DefRow} : ∀ {qs : List (Nat × List Str × List Nat)}, KwsOk r qs → ∀ q ∈ qs, KwOk r q
  | [], _, q, h => by cases h
  | p :: ps, h, q, hq => by
    rcases List.mem_cons.mp hq with e | e
    · rw [e]; exact h.1
    · exact KwsOk.mem h.2 q e
def TextOk (r : DefRow) : Prop := r.ps ≠ [] ∧ BindOk r ∧ KwsOk r r.kw
def AllT : List DefRow → Prop
  | [] => True
  | r :: rs => TextOk r ∧ AllT rs
def AllK (K : PySem.W.Frag) : List DefRow → Prop
  | [] => True
  | r :: rs => DefIn K r ∧ AllK K rs
theorem AllT.get : ∀ {rs : List DefRow}, AllT rs → ∀ {f : Nat} {r : DefRow}, rs[f]? = some r → TextOk r
  | [], _, f, r, h => by simp at h
  | _ :: _, h, 0, r, e => by
    have e := Option.some.inj e
    rw [← e]; exact h.1
  | _ :: _, h, f + 1, r, e => AllT.get h.2 (f := f) (by simpa using e)
theorem AllK.get {K : PySem.W.Frag} : ∀ {rs : List DefRow}, AllK K rs → ∀ {f : Nat} {r : DefRow}, rs[f]? = some r → DefIn K r
  | [], _, f, r, h => by simp at h
  | _ :: _, h, 0, r, e => by
    have e := Option.some.inj e
    rw [← e]; exact h.1
  | _ :: _, h, f + 1, r, e => AllK.get h.2 (f := f) (by simpa using e)
theorem facts_of {K : PySem.W.Frag} {h : Heap} {mg : Str → Option Value} (X : K.In h) (G : h.Ns mainGlobals mg) {rows : List DefRow} (T : AllT rows) (A : AllK K rows) : ∀ (f : Nat) (row : DefRow), rows[f]? = some row → ∃ fa fd, Facts K mg row fa fd := by
  intro f row hr
  obtain ⟨fa, oc, od, an, sl, kV, dc, pm, cd, ct, a, l, c, k⟩ := A.get hr
  obtain ⟨t1, t2, t3⟩ := T.get hr
  have F := fun_mk (st := row.st) l c k
  refine ⟨fa, _, F, PySem.W.mg_of X G a, F.binds fun kV doc pm an cdv ct us hl => t2 kV doc pm an cdv ct us hl, fun np ks ord hm => ?_⟩
  exact kbinds_of t1 fun us ws h1 h2 => t3.mem (np, ks, ord) hm kV dc pm an cd ct us ws h1 h2
/-- what the top names besides the defs -/
def BltIn (K : PySem.W.Frag) : List Str → Prop
  | [] => True
  | x :: xs => PySem.W.nsIn K mainGlobals x = some none ∧ BltIn K xs
theorem BltIn.mem {K : PySem.W.Frag} : ∀ {xs : List Str}, BltIn K xs → ∀ x ∈ xs, PySem.W.nsIn K mainGlobals x = some none
  | [], _, x, h => by cases h
  | y :: ys, h, x, hx => by
    rcases List.mem_cons.mp hx with e | e
    · rw [e]; exact h.1
    · exact BltIn.mem h.2 x e
/-- the global numbers -/
def GlbIn (K : PySem.W.Frag) : List (Str × Int) → Prop
  | [] => True
  | x :: xs => (∃ t, PySem.W.nsIn K mainGlobals x.1 = some (some (.int x.2 t))) ∧ GlbIn K xs
theorem glb_in {K : PySem.W.Frag} {x : PySem.Str} {u : Value} {n : Int} {t : Tok} (h : PySem.W.nsIn K mainGlobals x = some (some u)) (e : u = .int n t) : ∃ t, PySem.W.nsIn K mainGlobals x = some (some (.int n t)) := ⟨t, by rw [h, e]⟩
theorem GlbIn.get {K : PySem.W.Frag} : ∀ {xs : List (Str × Int)}, GlbIn K xs → ∀ {g : Nat} {x : Str × Int}, xs[g]? = some x → ∃ t, PySem.W.nsIn K mainGlobals x.1 = some (some (.int x.2 t))
  | [], _, g, x, h => by simp at h
  | _ :: _, h, 0, x, e => by
    have e := Option.some.inj e
    rw [← e]; exact h.1
  | _ :: _, h, g + 1, x, e => GlbIn.get h.2 (g := g) (by simpa using e)
/-- the first statement of a class -/
def clsIni : PySem.Stmt → PySem.Stmt
  | .ClassDef _ _ _ body _ _ _ _ _ _ _ => body.getD 0 (.Pass ⟨0, 0, 0, 0⟩)
  | s => s
/-- how __init__ of the errors binds -/
def IniBind (st : PySem.Stmt) : Prop := ∀ (kV doc pm : Value) (an : Option Addr) (cdv ct : Value) (us : List Value), us.length = [("self" : Str), ("value" : Str)].length → bindArgs (PySem.W.fnOf "__init__" "AlgebraError.__init__" (defArgs st) (defBody st) (defScope st) .none kV doc pm an cdv ct) ⟨us, []⟩ = pure ([("self" : Str), ("value" : Str)].zip us)
/-- .. by its name -/
def IniBindK (st : PySem.Stmt) : Prop := ∀ (kV doc pm : Value) (an : Option Addr) (cdv ct : Value) (a z : Value), bindArgs (PySem.W.fnOf "__init__" "AlgebraError.__init__" (defArgs st) (defBody st) (defScope st) .none kV doc pm an cdv ct) ⟨[a], [(("value" : Str), z)]⟩ = pure [(("self" : Str), a), (("value" : Str), z)]
def ClsAll (K : PySem.W.Frag) : List Nat → Prop
  | [] => True
  | c :: cs => (∃ C : Addr, PySem.W.nsIn K mainGlobals (excNm c) = some (some (.ref C))) ∧ ClsAll K cs
theorem ClsAll.put {K : PySem.W.Frag} {c : Nat} {cs : List Nat} {C : Addr} (h : PySem.W.nsIn K mainGlobals (excNm c) = some (some (.ref C))) (t : ClsAll K cs) : ClsAll K (c :: cs) := ⟨⟨C, h⟩, t⟩
theorem ClsAll.mem {K : PySem.W.Frag} : ∀ {cs : List Nat}, ClsAll K cs → ∀ c ∈ cs, ∃ C : Addr, PySem.W.nsIn K mainGlobals (excNm c) = some (some (.ref C))
  | _ :: _, h, c, hc => by
    rcases List.mem_cons.mp hc with e | e
    · rw [e]; exact h.1
    · exact ClsAll.mem h.2 c e
/-- what the top says of the errors; st: the text of the first one's __init__ -/
def ExcTop (K : PySem.W.Frag) (st : PySem.Stmt) (cls : List Nat) : Prop := cls = [] ∨ ((∀ c ∈ cls, c < 23) ∧ ClsAll K cls ∧ IniTxt st ∧ (IniBind st ∧ IniBindK st) ∧ PySem.W.nsIn K mainGlobals "ValueError" = some none ∧ PySem.W.findCls K (.type "ValueError") (.type "type") "__init__" = some (.val (.builtin "ValueError.__init__")) ∧
  ∃ (fI : Addr) (oc : Value) (od an : Option Addr) (sl : Array (Option Value)) (kV dc pm cd ct : Value), excB K fI = true ∧ PySem.W.typeIn K (.ref fI) = some (.type "function") ∧
    K.lookup fI = some ⟨oc, od, .func (PySem.W.fnOf "__init__" "AlgebraError.__init__" (defArgs st) (defBody st) (defScope st) .none kV dc pm an cd ct), sl⟩ ∧ PySem.W.codeIn K cd "AlgebraError.__init__" = true ∧ PySem.W.keepIn K (.ref fI) = true)
theorem exc_top {K : PySem.W.Frag} {st : PySem.Stmt} {cls : List Nat} {fI CA : Addr} {oc : Value} {od an : Option Addr} {sl : Array (Option Value)} {kV dc pm cd ct : Value} (h0 : ∀ c ∈ cls, c < 23) (h1 : ClsAll K cls) (h2 : IniTxt st) (h3 : IniBind st ∧ IniBindK st) (h4 : PySem.W.nsIn K mainGlobals "ValueError" = some none)
    (h5 : PySem.W.findCls K (.type "ValueError") (.type "type") "__init__" = some (.val (.builtin "ValueError.__init__")))
    (_ : PySem.W.nsIn K mainGlobals "AlgebraError" = some (some (.ref CA))) (_ : PySem.W.findIn K (.ref CA) "__init__" = some (some (.ref fI)))
    (l : K.lookup fI = some ⟨oc, od, .func (PySem.W.fnOf "__init__" "AlgebraError.__init__" (defArgs st) (defBody st) (defScope st) .none kV dc pm an cd ct), sl⟩) (t : PySem.W.typeIn K (.ref fI) = some (.type "function")) (cc : PySem.W.codeIn K cd "AlgebraError.__init__" = true) (k : PySem.W.keepIn K (.ref fI) = true) (hB : excB K fI = true) : ExcTop K st cls :=
  .inr ⟨h0, h1, h2, h3, h4, h5, fI, oc, od, an, sl, kV, dc, pm, cd, ct, hB, t, l, cc, k⟩
/-- the program of the rows -/
def progOf (rows : List DefRow) (globs : List (Str × Int)) (io : Nat → Nat → Bool) : Prog := ⟨rows.map (·.fn), fun g => (globs[g]?).map fun x => D.int x.2, io, subT⟩
def gsOf (rows : List DefRow) (globs : List (Str × Int)) (blts : List Str) (gcd : Bool) (cls : List Nat) : GSig := ⟨rows.map (·.x), kwsOf 0 rows, globs.map (·.1), blts, gcd, cls⟩
/-- the law's def keeps its promise -/
theorem law_ok {P : Program} {w : World} {K : PySem.W.Frag} {h : Heap} {mg : Str → Option Value} {rows : List DefRow} {globs : List (Str × Int)} {blts : List Str} {gcd : Bool} {cls : List Nat} {stI : PySem.Stmt} {io : Nat → Nat → Bool} {n d fl : Nat} {row : DefRow} {fa : Addr} (X : K.In h) (G : h.Ns mainGlobals mg)
    (T : AllT rows) (hck : rows.all (rowC (gsOf rows globs blts gcd cls)) = true) (A : AllK K rows) (B : BltIn K blts) (N : GlbIn K globs) (Gc : gcd = true → PySem.W.nsIn K mainGlobals "gcd" = some (some (.builtin "math.gcd"))) (Ec : ExcTop K stI cls) (hrow : rows[fl]? = some row) (hx : row.x = "law") (hp : row.ps = [("script" : Str)]) (hmg : mg "law" = some (.ref fa)) :
    ∃ fd : FuncData, (∀ (s : Shared) (u : Value), BindsTo s fd ⟨[u], []⟩ [(("script" : Str), u)]) ∧
      ∀ base : Heap, K.In base → base.Ns mainGlobals mg → FnOk P w K mg base (L2.CX P w) (d + 2) fa fd [("script" : Str)] (spF K (excXR K) (callD (progOf rows globs io) (fun c b => whN c b n) d) fl) := by
  have hf := facts_of X G T A
  obtain ⟨fa', fd, F⟩ := hf fl row hrow
  have e : fa' = fa := by
    have := F.2.1
    rw [hx, hmg] at this
    cases this; rfl
  subst e
  refine ⟨fd, fun s u => ?_, fun base _ _ => ?_⟩
  · obtain ⟨oc, od, kV, doc, pm, an, cdv, ct, osl, rfl, lk, hcd⟩ := F.1.ex
    have := (T.get hrow).2.1 kV doc pm an cdv ct [u] (by rw [hp]; rfl)
    rw [hp] at this
    exact .of_eq this
  · rw [← hp]
    refine all_fn (gs := gsOf rows globs blts gcd cls) (fun c b => ⟨n, rfl⟩) rfl rfl hck rfl hf (fun x hx => PySem.W.mg_none_of X G (B.mem x hx)) (fun hg => PySem.W.mg_of X G (Gc hg)) (fun g x hg => ?_) (fun hne => ?_) (fun c hc => ?_) (fun _ _ => rfl) d fl row fa' fd hrow F
    · have hg : (globs.map (·.1))[g]? = some x := hg
      rw [List.getElem?_map] at hg
      obtain ⟨y, h1, h2⟩ := map_some hg
      subst h2
      obtain ⟨t, ht⟩ := N.get h1
      refine ⟨.int y.2, .int y.2, .int y.2 t, PySem.W.mg_of X G ht, ⟨t, rfl⟩, fun _ _ => .int _, ?_⟩
      show (globs[g]?).map _ = _
      rw [h1]
      rfl
    · rcases Ec with z | ⟨_, _, h2, h3, h4, h5, fI, oc, od, an, sl, kV, dc, pm, cd, ct, hB, t, l, cc, k⟩
      · exact absurd z hne
      · have FI := fun_mk (st := stI) l cc k
        exact ⟨rfl, fI, _, hB, t, ini_fn FI h2 (PySem.W.mg_none_of X G h4) h5, FI.binds fun kV doc pm an cdv ct us hl => h3.1 kV doc pm an cdv ct us hl, fun s a z _ => .of_eq (h3.2 kV dc pm an cd ct a z)⟩
    · have hc : c ∈ cls := hc
      rcases Ec with z | ⟨h0, h1, _⟩
      · rw [z] at hc; cases hc
      · obtain ⟨Ca, e⟩ := h1.mem c hc
        exact ⟨Ca, ⟨h0 c hc, e⟩, PySem.W.mg_of X G e⟩
/-- its promise at the script -/
theorem law_sp {K : PySem.W.Frag} {C : Nat → List (D × Fl) → CR} {f : Nat} {H : Hp} {a : Addr} {ns : List Int} (ho : Only H) (hs : SqL K H a (ns.map V.int)) (h : ∃ own outs, C f [(.scr ns, .frz)] = .ok (.bl true) own outs) :
    spF K (excXR K) C f [.ref a] H (fun v _ => v = .bl true) fun _ _ _ => False := by
  obtain ⟨own, outs, h⟩ := h
  refine ⟨fun _ => False, [(.scr ns, .frz)], ⟨rfl, fun i d f hi => ?_, fun i j d e f g b hi hj hf => ?_, fun _ z => z.elim⟩, ?_⟩
  · cases i with
    | zero =>
      have e : (some (D.scr ns, Fl.frz) : Option (D × Fl)) = some (d, f) := Option.some.inj hi
      cases e
      refine ⟨.ref a, rfl, ?_⟩
      unfold RepS
      rw [if_pos rfl]
      rcases hs with (hs | ⟨o, hs⟩) | ⟨o, its, n, h1, h2, h3, h4, h5, h6⟩
      · rcases ho a with z | ⟨o, xs, z⟩
        · rw [hs] at z; cases z
        · rw [hs] at z; cases z
      · exact .scr (fun z => z) hs
      · exact .scrK h1 h2 h3 h4 h5 h6
    | succ i => cases hi
  · cases i with
    | zero =>
      have e : (some (D.scr ns, Fl.frz) : Option (D × Fl)) = some (d, f) := Option.some.inj hi
      cases e
      exact absurd rfl hf
    | succ i => cases hi
  · rw [h]
    intro v O' H' _ r
    exact RepR.bl' r
end Mi

set_option Elab.async false
set_option linter.all false
set_option maxRecDepth 100000
set_option autoImplicit false
set_option maxHeartbeats 1000000
namespace Mi
/-! ### runs of the evaluator, by simp -/
theorem bindR {α β : Type} (x : M α) (f : α → M β) (m : MS) : (x >>= f) m = match x m with
  | .ok a m' => f a m'
  | .err c v m' => .err c v m'
  | .bad => .bad := rfl
@[simp] theorem pureR {α : Type} (a : α) (m : MS) : (pure a : M α) m = .ok a m := rfl
@[simp] theorem retR {α : Type} (a : α) (m : MS) : (M.ret a : M α) m = .ok a m := rfl
@[simp] theorem liftS {α : Type} (a : α) (m : MS) : (liftO (some a) : M α) m = .ok a m := rfl
@[simp] theorem asBR (b : Bool) (m : MS) : asB (.bl b) m = .ok b m := rfl
@[simp] theorem argVR (i : Nat) (m : MS) : argV i m = match m[i]? with
  | some (some (d, .frz)) => .ok (.val d false) m
  | some (some (_, _)) => .ok (.lend i) m
  | _ => .bad := rfl
@[simp] theorem rdAV (d : D) (o : Bool) (m : MS) : rdA (.val d o) m = .ok d m := rfl
@[simp] theorem rdAL (i : Nat) (m : MS) : rdA (.lend i) m = match m[i]? with
    | some (some (d, _)) => .ok d m
    | _ => .bad := rfl
@[simp] theorem rdVR (i : Nat) (m : MS) : rdV i m = match m[i]? with
  | some (some (d, .frz)) => .ok (d, false) m
  | some (some (d, _)) => .ok (d, false) (m.set i (some (d, .frz)))
  | _ => .bad := rfl
@[simp] theorem mvVR (i : Nat) (m : MS) : mvV i m = match m[i]? with
  | some (some (d, .frz)) => .ok (d, false) m
  | some (some (d, .own)) => .ok (d, true) (m.set i none)
  | some (some (d, .bor)) => .ok (d, false) (m.set i (some (d, .frz)))
  | _ => .bad := rfl
@[simp] theorem stVR (i : Nat) (d : D) (f : Fl) (m : MS) : stV i d f m = match m[i]? with
  | some (some (_, .bor)) => .bad
  | some _ => .ok () (m.set i (some (d, f)))
  | none => .bad := rfl
@[simp] theorem hasVR (i : Nat) (m : MS) : hasV i m = match m[i]? with
  | some (some (.lst _, f)) => if f = .frz then .bad else .ok () m
  | _ => .bad := rfl
theorem updLR {α : Type} (i : Nat) (f : List D → Option (List D × α)) (m : MS) : updL i f m = match m[i]? with
  | some (some (.lst xs, fl)) => if fl = .frz then .bad else match f xs with
    | some (ys, a) => .ok a (m.set i (some (.lst ys, fl)))
    | none => .bad
  | _ => .bad := rfl
theorem callMR (C : Calls) (f : Nat) (as : List A) (m : MS) : callM C f as m = match inArgs m as with
  | none => .bad
  | some args => if lendOk as then match C.call f args with
      | .ok d own outs => match putBack (lends m as) outs (poison (lends m as) m) with
        | some m' => .ok (d, own) m'
        | none => .bad
      | .err c v => .err c v (poison (lends m as) m)
      | .bad => .bad
    else .bad := rfl
@[simp] theorem iteR {α : Type} (c : Prop) [Decidable c] (x y : M α) (m : MS) : (if c then x else y) m = if c then x m else y m := by
  by_cases h : c
  · rw [if_pos h, if_pos h]
  · rw [if_neg h, if_neg h]
/-- a comprehension whose parts leave the state as it is -/
theorem compL_pure {vs : List Nat} {tg : D → M Unit} {cd : M Bool} {el : M (D × Bool)} {m0 : MS} {m1 : D → MS} {p : D → Bool} {g : D → D} {o : D → Bool} : ∀ {xs acc : List D},
    (∀ x ∈ xs, tg x m0 = .ok () (m1 x) ∧ cd (m1 x) = .ok (p x) (m1 x) ∧ (p x = true → el (m1 x) = .ok (g x, o x) (m1 x)) ∧ wipeM (m1 x) vs = m0) →
    compL vs tg cd el xs acc m0 = .ok (acc ++ (xs.filter p).map g) m0
  | [], acc, h => by
    show R.ok acc m0 = _
    simp
  | x :: xs, acc, h => by
    obtain ⟨h1, h2, h3, h4⟩ := h x List.mem_cons_self
    have ih := fun acc => compL_pure (acc := acc) fun y hy => h y (List.mem_cons_of_mem _ hy)
    show (tg x >>= fun _ => cd >>= fun b => if b = true then el >>= fun p => fun m => compL vs tg cd el xs (acc ++ [p.1]) (wipeM m vs) else fun m => compL vs tg cd el xs acc (wipeM m vs)) m0 = _
    simp only [bindR, h1, h2]
    cases hp : p x with
    | true =>
      rw [if_pos rfl]
      simp only [bindR, h3 hp]
      rw [h4, ih, List.filter_cons_of_pos hp]
      simp
    | false =>
      rw [if_neg Bool.false_ne_true, h4, ih, List.filter_cons_of_neg (by rw [hp]; exact Bool.false_ne_true)]
theorem compM_pure {vs : List Nat} {tg : D → M Unit} {cd : M Bool} {el : M (D × Bool)} {m : MS} {m1 : D → MS} {p : D → Bool} {g : D → D} {o : D → Bool} {xs : List D} (hl : xs.length ≤ LINE)
    (h : ∀ x ∈ xs, tg x (wipeM m vs) = .ok () (m1 x) ∧ cd (m1 x) = .ok (p x) (m1 x) ∧ (p x = true → el (m1 x) = .ok (g x, o x) (m1 x)) ∧ wipeM (m1 x) vs = wipeM m vs) :
    compM vs xs tg cd el m = .ok (.lst ((xs.filter p).map g), true) (backM m vs (wipeM m vs)) := by
  unfold compM
  rw [if_pos hl, compL_pure h]
  simp
/-- .. without a test -/
theorem compM_map {vs : List Nat} {tg : D → M Unit} {el : M (D × Bool)} {m : MS} {m1 : D → MS} {g : D → D} {o : D → Bool} {xs : List D} (hl : xs.length ≤ LINE)
    (h : ∀ x ∈ xs, tg x (wipeM m vs) = .ok () (m1 x) ∧ el (m1 x) = .ok (g x, o x) (m1 x) ∧ wipeM (m1 x) vs = wipeM m vs) :
    compM vs xs tg (M.ret true) el m = .ok (.lst (xs.map g), true) (backM m vs (wipeM m vs)) := by
  rw [compM_pure (cd := M.ret true) (m1 := m1) (p := fun _ => true) (g := g) (o := o) hl fun x hx => ⟨(h x hx).1, rfl, fun _ => (h x hx).2.1, (h x hx).2.2⟩]
  rw [List.filter_eq_self.mpr fun _ _ => rfl]
/-- a loop by its turns: st, the state in plain data; step: one turn; none: the end -/
def runs {α : Type} (step : α → Option α) : Nat → α → Option α
  | 0, _ => none
  | n + 1, a => match step a with
    | none => some a
    | some b => runs step n b
theorem whN_sim {α : Type} {c : M Bool} {b : M Fw} {step : α → Option α} {enc : α → MS} (ok : α → Prop) (h0 : ∀ a, ok a → step a = none → c (enc a) = .ok false (enc a))
    (h1 : ∀ a a', ok a → step a = some a' → c (enc a) = .ok true (enc a) ∧ b (enc a) = .ok .nx (enc a') ∧ ok a') : ∀ {n : Nat} {a r : α}, ok a → runs step n a = some r → whN c b n (enc a) = .ok .nx (enc r)
  | 0, a, r, _, h => by cases h
  | n + 1, a, r, k, h => by
    show (c >>= fun x => if x = true then b >>= fun f => match f with
      | .bk => pure .nx
      | .rt d o => pure (.rt d o)
      | _ => whN c b n else pure .nx) (enc a) = _
    cases hs : step a with
    | none =>
      unfold runs at h
      rw [hs] at h
      cases h
      simp only [bindR, h0 a k hs]
      rfl
    | some a' =>
      unfold runs at h
      rw [hs] at h
      obtain ⟨h2, h3, h4⟩ := h1 a a' k hs
      simp only [bindR, h2, if_true, h3]
      exact whN_sim ok h0 h1 h4 h
theorem runs_more {α : Type} {step : α → Option α} : ∀ {n k : Nat} {a r : α}, runs step n a = some r → runs step (n + k) a = some r
  | 0, k, a, r, h => by cases h
  | n + 1, k, a, r, h => by
    rw [show n + 1 + k = (n + k) + 1 by omega]
    unfold runs at h ⊢
    cases hs : step a with
    | none => rw [hs] at h; exact h
    | some b =>
      rw [hs] at h
      exact runs_more h
/-- a for loop by its turns -/
theorem forL_sim {α : Type} {tg : D → M Unit} {b : M Fw} {step : α → D → α} {enc : α → MS} {mid : α → D → MS} (ok : α → Prop) : ∀ {xs : List D} {a : α}, ok a →
    (∀ a, ok a → ∀ x ∈ xs, tg x (enc a) = .ok () (mid a x) ∧ b (mid a x) = .ok .nx (enc (step a x)) ∧ ok (step a x)) → forL tg b xs (enc a) = .ok .nx (enc (xs.foldl step a))
  | [], a, _, _ => rfl
  | x :: xs, a, k, h => by
    obtain ⟨h1, h2, h3⟩ := h a k x List.mem_cons_self
    show (tg x >>= fun _ => b >>= fun f => match f with
      | .bk => pure .nx
      | .rt d o => pure (.rt d o)
      | _ => forL tg b xs) (enc a) = _
    simp only [bindR, h1, h2]
    exact forL_sim ok h3 fun a ka y hy => h a ka y (List.mem_cons_of_mem _ hy)
theorem callD_eq {Pr : Prog} {W : Whl} {d f : Nat} {args : List (D × Fl)} {fn : Fn} (h : Pr.fns[f]? = some fn) : callD Pr W (d + 1) f args = runFn ⟨callD Pr W d, Pr.glob, Pr.io, Pr.sub, W⟩ fn args := by
  show (match Pr.fns[f]? with
    | some fn => runFn ⟨callD Pr W d, Pr.glob, Pr.io, Pr.sub, W⟩ fn args
    | none => .bad) = _
  rw [h]

/-! ### lists of ints -/
theorem cmpOks_ints : ∀ ns : List Int, cmpOks (ns.map D.int) = true
  | [] => rfl
  | n :: ns => by
    show (true && cmpOks (ns.map D.int)) = true
    rw [Bool.true_and, cmpOks_ints]
theorem depDs_ints : ∀ ns : List Int, depDs (ns.map D.int) = 0
  | [] => rfl
  | n :: ns => by
    show max 0 (depDs (ns.map D.int)) = 0
    rw [depDs_ints]; rfl
theorem eqDs_ints : ∀ ns ms : List Int, eqDs (ns.map D.int) (ms.map D.int) = decide (ns = ms)
  | [], [] => rfl
  | [], _ :: _ => rfl
  | _ :: _, [] => rfl
  | n :: ns, m :: ms => by
    show ((n == m) && eqDs (ns.map D.int) (ms.map D.int)) = _
    rw [eqDs_ints]
    by_cases h : n = m
    · subst h; simp
    · simp [h]
theorem intsOf_ints : ∀ ns : List Int, intsOf (ns.map D.int) = some ns
  | [] => rfl
  | n :: ns => by
    show (intsOf (ns.map D.int)).map (n :: ·) = _
    rw [intsOf_ints]; rfl
theorem blsOf_bls {α : Type} (f : α → Bool) : ∀ xs : List α, blsOf (xs.map fun x => D.bl (f x)) = some (xs.map f)
  | [] => rfl
  | x :: xs => by
    show (blsOf (xs.map fun x => D.bl (f x))).map (f x :: ·) = _
    rw [blsOf_bls]; rfl
theorem flat_ints : ∀ ns : List Int, (ns.map D.int).all flatD = true := fun ns => by
  rw [List.all_map]
  exact List.all_eq_true.mpr fun _ _ => rfl
theorem any_ints (x : Int) (ns : List Int) : ((ns.map D.int).any fun y => eqD y (.int x)) = decide (x ∈ ns) := by
  rw [List.any_map]
  induction ns with
  | nil => rfl
  | cons n ns ih =>
    rw [List.any_cons, ih]
    show ((n == x) || _) = _
    by_cases h : n = x
    · subst h; simp
    · have h' : ¬ x = n := fun z => h z.symm
      simp [h, h']
theorem cm_lst (ns ms : List Int) : cm2 .eq (.lst (ns.map D.int)) (.lst (ms.map D.int)) = some (decide (ns = ms)) := by
  show (if (cmpOks (ns.map D.int) && cmpOks (ms.map D.int) && decide (depDs (ns.map D.int) + 1 ≤ 60) && decide (depDs (ms.map D.int) + 1 ≤ 60)) = true then some (eqDs (ns.map D.int) (ms.map D.int)) else none) = _
  rw [cmpOks_ints, cmpOks_ints, depDs_ints, depDs_ints, eqDs_ints]
  rfl
theorem cm_tup (ns ms : List Int) : cm2 .eq (.tup (ns.map D.int)) (.tup (ms.map D.int)) = some (decide (ns = ms)) := by
  show (if (cmpOks (ns.map D.int) && cmpOks (ms.map D.int) && decide (depDs (ns.map D.int) + 1 ≤ 60) && decide (depDs (ms.map D.int) + 1 ≤ 60)) = true then some (eqDs (ns.map D.int) (ms.map D.int)) else none) = _
  rw [cmpOks_ints, cmpOks_ints, depDs_ints, depDs_ints, eqDs_ints]
  rfl
theorem cm_tupN (ns ms : List Int) : cm2 .ne (.tup (ns.map D.int)) (.tup (ms.map D.int)) = some (!decide (ns = ms)) := by
  show (if (cmpOks (ns.map D.int) && cmpOks (ms.map D.int) && decide (depDs (ns.map D.int) + 1 ≤ 60) && decide (depDs (ms.map D.int) + 1 ≤ 60)) = true then some (!eqDs (ns.map D.int) (ms.map D.int)) else none) = _
  rw [cmpOks_ints, cmpOks_ints, depDs_ints, depDs_ints, eqDs_ints]
  rfl
theorem cm_lstN (ns ms : List Int) : cm2 .ne (.lst (ns.map D.int)) (.lst (ms.map D.int)) = some (!decide (ns = ms)) := by
  show (if (cmpOks (ns.map D.int) && cmpOks (ms.map D.int) && decide (depDs (ns.map D.int) + 1 ≤ 60) && decide (depDs (ms.map D.int) + 1 ≤ 60)) = true then some (!eqDs (ns.map D.int) (ms.map D.int)) else none) = _
  rw [cmpOks_ints, cmpOks_ints, depDs_ints, depDs_ints, eqDs_ints]
  rfl
/-- range(n), as ints -/
def rgI (n : Nat) : List Int := (List.range n).map fun (k : Nat) => (k : Int)
theorem rangeD_rgI (n : Nat) : rangeD 0 n = (rgI n).map D.int := by
  unfold rangeD rgI
  rw [List.map_map, Int.sub_zero, Int.toNat_natCast]
  apply List.map_congr_left
  intro k _
  show D.int (0 + (k : Int)) = D.int k
  rw [Int.zero_add]
theorem rangeL1 {n : Nat} (h : n ≤ LINE) : rangeL [.int n] = some ((rgI n).map D.int) := by
  unfold rangeL
  dsimp only
  rw [if_pos ⟨by omega, Int.ofNat_le.mpr h⟩, rangeD_rgI]
theorem rangeO1 {n : Nat} (h : (n : Int) ≤ 2 ^ 61) : rangeO [.int n] = some ((rgI n).map D.int) := by
  unfold rangeO
  dsimp only
  rw [if_pos ⟨by omega, by omega⟩, rangeD_rgI]
theorem atL_int {ns : List Int} {k : Nat} {x : Int} (h : ns[k]? = some x) : atL (ns.map D.int) (k : Int) = some (.int x) := by
  have hk : k < ns.length := (List.getElem?_eq_some_iff.mp h).1
  unfold atL ixN
  rw [List.length_map, if_pos (by omega), if_pos (by omega)]
  show (ns.map D.int)[((k : Int)).toNat]? = _
  rw [Int.toNat_natCast, List.getElem?_map, h]
  rfl
end Mi

set_option Elab.async false
set_option linter.all false
set_option maxRecDepth 100000
set_option autoImplicit false
set_option maxHeartbeats 1000000
namespace Mi
/-! ### operations, as simp has them -/
@[simp] theorem bi_len_tup (xs : List D) : bi1 .len [.tup xs] = some (.int xs.length, false) := rfl
@[simp] theorem bi_len_lst (xs : List D) : bi1 .len [.lst xs] = some (.int xs.length, false) := rfl
@[simp] theorem bi_len_scr (xs : List Int) : bi1 .len [.scr xs] = some (.int xs.length, false) := by
  show some (D.int ((xs.map D.int).length : Nat), false) = _
  rw [List.length_map]
@[simp] theorem bi_tuple_lst (xs : List D) : bi1 .tuple [.lst xs] = some (.tup xs, false) := rfl
@[simp] theorem bi_tuple_tup (xs : List D) : bi1 .tuple [.tup xs] = some (.tup xs, false) := rfl
@[simp] theorem bi_list_tup (xs : List D) : bi1 .list [.tup xs] = some (.lst xs, true) := rfl
@[simp] theorem bi_list_lst (xs : List D) : bi1 .list [.lst xs] = some (.lst xs, true) := rfl
@[simp] theorem bi_list_scr (xs : List Int) : bi1 .list [.scr xs] = some (.lst (xs.map D.int), true) := rfl
@[simp] theorem bi_sorted_tup (ns : List Int) : bi1 .sorted [.tup (ns.map D.int)] = some (.lst ((sortI ns).map D.int), true) := by
  show (intsOf (ns.map D.int)).map _ = _
  rw [intsOf_ints]; rfl
@[simp] theorem bi_sorted_lst (ns : List Int) : bi1 .sorted [.lst (ns.map D.int)] = some (.lst ((sortI ns).map D.int), true) := by
  show (intsOf (ns.map D.int)).map _ = _
  rw [intsOf_ints]; rfl
@[simp] theorem bi_int_int (i : Int) : bi1 .int [.int i] = some (.int i, false) := rfl
@[simp] theorem bi_int_bl (b : Bool) : bi1 .int [.bl b] = some (.int (if b then 1 else 0), false) := rfl
@[simp] theorem bi_min2 (i j : Int) : bi1 .min [.int i, .int j] = some (.int (if j < i then j else i), false) := rfl
@[simp] theorem bi_max2 (i j : Int) : bi1 .max [.int i, .int j] = some (.int (if j > i then j else i), false) := rfl
@[simp] theorem bi_min_lst (ns : List Int) : bi1 .min [.lst (ns.map D.int)] = (minI ns).map fun m => (.int m, false) := by
  show ((intsOf (ns.map D.int)).bind minI).map _ = _
  rw [intsOf_ints]; rfl
@[simp] theorem bi_abs (i : Int) : bi1 .abs [.int i] = some (.int (if i < 0 then -i else i), false) := rfl
@[simp] theorem bi_gcd (i j : Int) : bi1 .gcd [.int i, .int j] = some (.int (Int.gcd i j), false) := rfl
theorem bi_all {α : Type} (f : α → Bool) (xs : List α) : bi1 .all [.lst (xs.map fun x => D.bl (f x))] = some (.bl (xs.all f), false) := by
  show (blsOf (xs.map fun x => D.bl (f x))).map _ = _
  rw [blsOf_bls]
  show some (D.bl ((xs.map f).all id), false) = _
  rw [List.all_map]; rfl
@[simp] theorem cm_lt (i j : Int) : cm2 .lt (.int i) (.int j) = some (decide (i < j)) := rfl
@[simp] theorem cm_le (i j : Int) : cm2 .le (.int i) (.int j) = some (decide (i ≤ j)) := rfl
@[simp] theorem cm_gt (i j : Int) : cm2 .gt (.int i) (.int j) = some (decide (j < i)) := rfl
@[simp] theorem cm_ge (i j : Int) : cm2 .ge (.int i) (.int j) = some (decide (j ≤ i)) := rfl
@[simp] theorem cm_eqI (i j : Int) : cm2 .eq (.int i) (.int j) = some (decide (i = j)) := by
  show some (i == j) = _
  rw [Bool.beq_eq_decide_eq]
@[simp] theorem cm_neI (i j : Int) : cm2 .ne (.int i) (.int j) = some (!decide (i = j)) := by
  show some (!(i == j)) = _
  rw [Bool.beq_eq_decide_eq]
@[simp] theorem cm_eqB (i j : Bool) : cm2 .eq (.bl i) (.bl j) = some (decide (i = j)) := by
  cases i <;> cases j <;> rfl
@[simp] theorem cm_neB (i j : Bool) : cm2 .ne (.bl i) (.bl j) = some (!decide (i = j)) := by
  cases i <;> cases j <;> rfl
@[simp] theorem cm_isinL (x : Int) (ns : List Int) : cm2 .isin (.int x) (.lst (ns.map D.int)) = some (decide (x ∈ ns)) := by
  show (if (flatD (.int x) && (ns.map D.int).all flatD || inOk (.int x) (ns.map D.int)) = true then some ((ns.map D.int).any fun y => eqD y (.int x)) else none) = _
  rw [flat_ints, any_ints]
  rfl
@[simp] theorem op_addI (i j : Int) : op2 .add (.int i) (.int j) = some (.int (i + j), false) := rfl
@[simp] theorem op_subI (i j : Int) : op2 .sub (.int i) (.int j) = some (.int (i - j), false) := rfl
@[simp] theorem op_bandI (i j : Int) : op2 .band (.int i) (.int j) = some (.int (PySem.Builtin.bitAnd i j), false) := rfl
theorem op_mulI {i j : Int} (h : mulOk i j = true) : op2 .mul (.int i) (.int j) = some (.int (i * j), false) := by
  show (if mulOk i j = true then _ else _) = _
  rw [if_pos h]
theorem op_modI {i j : Int} (h : j ≠ 0) : op2 .mod (.int i) (.int j) = some (.int (i.fmod j), false) := by
  show (if j ≠ 0 then _ else _) = _
  rw [if_pos h]
theorem op_fdivI {i j : Int} (h : divOk j = true) : op2 .fdiv (.int i) (.int j) = some (.int (i.fdiv j), false) := by
  show (if divOk j = true then _ else _) = _
  rw [if_pos h]
@[simp] theorem ix_tupD (xs : List D) (i : Int) : ix2 (.tup xs) (.int i) = atL xs i := rfl
@[simp] theorem ix_lstD (xs : List D) (i : Int) : ix2 (.lst xs) (.int i) = atL xs i := rfl
@[simp] theorem oInt_int (i : Int) : oInt (.int i) = some i := rfl
@[simp] theorem seq_tup (xs : List D) : seqOf (.tup xs) = some xs := rfl
@[simp] theorem seq_lst (xs : List D) : seqOf (.lst xs) = some xs := rfl
theorem mu_app {xs : List D} {y : D} (h : xs.length < LINE) : mu1 .append xs [y] = some (xs ++ [y], .non) := by
  show (if xs.length < LINE then _ else _) = _
  rw [if_pos h]
end Mi

set_option Elab.async false
set_option linter.all false
set_option maxRecDepth 100000
set_option autoImplicit false
set_option maxHeartbeats 1000000
namespace Mi
/-! ### runs by partial functions: they say where they may not be asked -/
inductive Stp (α : Type) where
  | stuck | stop
  | go (a : α)
def runs3 {α : Type} (step : α → Stp α) : Nat → α → Option α
  | 0, _ => none
  | n + 1, a => match step a with
    | .stuck => none
    | .stop => some a
    | .go b => runs3 step n b
theorem runs3_more {α : Type} {step : α → Stp α} : ∀ {n k : Nat} {a r : α}, runs3 step n a = some r → runs3 step (n + k) a = some r
  | 0, k, a, r, h => by cases h
  | n + 1, k, a, r, h => by
    rw [show n + 1 + k = (n + k) + 1 by omega]
    unfold runs3 at h ⊢
    cases hs : step a with
    | stuck => rw [hs] at h; cases h
    | stop => rw [hs] at h; exact h
    | go b =>
      rw [hs] at h
      exact runs3_more h
theorem whN_sim3 {α : Type} {c : M Bool} {b : M Fw} {step : α → Stp α} {enc : α → MS} (h0 : ∀ a, step a = .stop → c (enc a) = .ok false (enc a))
    (h1 : ∀ a a', step a = .go a' → c (enc a) = .ok true (enc a) ∧ b (enc a) = .ok .nx (enc a')) : ∀ {n : Nat} {a r : α}, runs3 step n a = some r → whN c b n (enc a) = .ok .nx (enc r)
  | 0, a, r, h => by cases h
  | n + 1, a, r, h => by
    show (c >>= fun x => if x = true then b >>= fun f => match f with
      | .bk => pure .nx
      | .rt d o => pure (.rt d o)
      | _ => whN c b n else pure .nx) (enc a) = _
    unfold runs3 at h
    cases hs : step a with
    | stuck => rw [hs] at h; cases h
    | stop =>
      rw [hs] at h
      cases h
      simp only [bindR, h0 a hs]
      rfl
    | go a' =>
      rw [hs] at h
      obtain ⟨h2, h3⟩ := h1 a a' hs
      simp only [bindR, h2, if_true, h3]
      exact whN_sim3 h0 h1 h
/-- with less fuel than there is -/
theorem whN_simF {α : Type} {c : M Bool} {b : M Fw} {step : α → Stp α} {enc : α → MS} (h0 : ∀ a, step a = .stop → c (enc a) = .ok false (enc a))
    (h1 : ∀ a a', step a = .go a' → c (enc a) = .ok true (enc a) ∧ b (enc a) = .ok .nx (enc a')) {n k : Nat} (hk : k ≤ n) {a r : α} (h : runs3 step k a = some r) : whN c b n (enc a) = .ok .nx (enc r) := by
  have := runs3_more (k := n - k) h
  rw [show k + (n - k) = n by omega] at this
  exact whN_sim3 h0 h1 this
def foldO {α : Type} (step : α → D → Option α) : List D → α → Option α
  | [], a => some a
  | x :: xs, a => (step a x).bind (foldO step xs)
theorem forL_simO {α : Type} {tg : D → M Unit} {b : M Fw} {step : α → D → Option α} {enc : α → MS} {mid : α → D → MS} (h : ∀ a x a', step a x = some a' → tg x (enc a) = .ok () (mid a x) ∧ b (mid a x) = .ok .nx (enc a')) : ∀ {xs : List D} {a r : α},
    foldO step xs a = some r → forL tg b xs (enc a) = .ok .nx (enc r)
  | [], a, r, e => by cases e; rfl
  | x :: xs, a, r, e => by
    have e : (step a x).bind (foldO step xs) = some r := e
    cases hs : step a x with
    | none => rw [hs] at e; cases e
    | some a' =>
      rw [hs] at e
      obtain ⟨h1, h2⟩ := h a x a' hs
      show (tg x >>= fun _ => b >>= fun f => match f with
        | .bk => pure .nx
        | .rt d o => pure (.rt d o)
        | _ => forL tg b xs) (enc a) = _
      simp only [bindR, h1, h2]
      exact forL_simO h e
def mapO (g : D → Option D) : List D → Option (List D)
  | [] => some []
  | x :: xs => (g x).bind fun y => (mapO g xs).map (y :: ·)
theorem mapO_cons {g : D → Option D} {x : D} {xs ys : List D} (h : mapO g (x :: xs) = some ys) : ∃ y zs, g x = some y ∧ mapO g xs = some zs ∧ ys = y :: zs := by
  have h : ((g x).bind fun y => (mapO g xs).map (y :: ·)) = some ys := h
  cases h1 : g x with
  | none => rw [h1] at h; cases h
  | some y =>
    rw [h1] at h
    obtain ⟨zs, h2, h3⟩ := map_some (o := mapO g xs) h
    exact ⟨y, zs, rfl, h2, h3.symm⟩
theorem compL_opt {vs : List Nat} {tg : D → M Unit} {el : M (D × Bool)} {m0 : MS} {m1 : D → MS} {g : D → Option D} (h : ∀ x y, g x = some y → tg x m0 = .ok () (m1 x) ∧ (∃ o, el (m1 x) = .ok (y, o) (m1 x)) ∧ wipeM (m1 x) vs = m0) : ∀ {xs ys acc : List D}, mapO g xs = some ys →
    compL vs tg (M.ret true) el xs acc m0 = .ok (acc ++ ys) m0
  | [], ys, acc, e => by
    cases e
    show R.ok acc m0 = _
    simp
  | x :: xs, ys, acc, e => by
    obtain ⟨y, zs, e1, e2, rfl⟩ := mapO_cons e
    obtain ⟨h1, ⟨o, h2⟩, h3⟩ := h x y e1
    have ih := fun acc => compL_opt (acc := acc) h e2
    show (tg x >>= fun _ => (M.ret true : M Bool) >>= fun b => if b = true then el >>= fun p => fun m => compL vs tg (M.ret true) el xs (acc ++ [p.1]) (wipeM m vs) else fun m => compL vs tg (M.ret true) el xs acc (wipeM m vs)) m0 = _
    simp only [bindR, h1, retR, if_true, h2]
    rw [h3, ih]
    simp
theorem compM_opt {vs : List Nat} {tg : D → M Unit} {el : M (D × Bool)} {m : MS} {m1 : D → MS} {g : D → Option D} {xs ys : List D} (hl : xs.length ≤ LINE) (e : mapO g xs = some ys)
    (h : ∀ x y, g x = some y → tg x (wipeM m vs) = .ok () (m1 x) ∧ (∃ o, el (m1 x) = .ok (y, o) (m1 x)) ∧ wipeM (m1 x) vs = wipeM m vs) :
    compM vs xs tg (M.ret true) el m = .ok (.lst ys, true) (backM m vs (wipeM m vs)) := by
  unfold compM
  rw [if_pos hl, compL_opt h e]
  simp
/-- some are left out -/
def fmO (g : D → Option (Option D)) : List D → Option (List D)
  | [] => some []
  | x :: xs => match g x with
    | none => none
    | some none => fmO g xs
    | some (some y) => (fmO g xs).map (y :: ·)
theorem compL_optF {vs : List Nat} {tg : D → M Unit} {cd : M Bool} {el : M (D × Bool)} {m0 : MS} {m1 : D → MS} {g : D → Option (Option D)}
    (h : ∀ x y, g x = some y → tg x m0 = .ok () (m1 x) ∧ cd (m1 x) = .ok y.isSome (m1 x) ∧ (∀ z, y = some z → ∃ o, el (m1 x) = .ok (z, o) (m1 x)) ∧ wipeM (m1 x) vs = m0) : ∀ {xs ys acc : List D}, fmO g xs = some ys →
    compL vs tg cd el xs acc m0 = .ok (acc ++ ys) m0
  | [], ys, acc, e => by
    cases e
    show R.ok acc m0 = _
    simp
  | x :: xs, ys, acc, e => by
    have step : compL vs tg cd el (x :: xs) acc m0 = (tg x >>= fun _ => cd >>= fun b => if b = true then el >>= fun p => fun m => compL vs tg cd el xs (acc ++ [p.1]) (wipeM m vs) else fun m => compL vs tg cd el xs acc (wipeM m vs)) m0 := rfl
    rw [step]
    unfold fmO at e
    cases hg : g x with
    | none => rw [hg] at e; cases e
    | some y =>
      rw [hg] at e
      obtain ⟨h1, h2, h3, h4⟩ := h x y hg
      cases y with
      | none =>
        have e : fmO g xs = some ys := e
        simp only [bindR, h1, h2, Option.isSome_none, Bool.false_eq_true, if_false]
        rw [h4]
        exact compL_optF h e
      | some z =>
        obtain ⟨zs, e1, e2⟩ := map_some (o := fmO g xs) e
        obtain ⟨o, h5⟩ := h3 z rfl
        simp only [bindR, h1, h2, Option.isSome_some, if_true, h5]
        rw [h4, compL_optF h e1, ← e2]
        simp
theorem compM_optF {vs : List Nat} {tg : D → M Unit} {cd : M Bool} {el : M (D × Bool)} {m : MS} {m1 : D → MS} {g : D → Option (Option D)} {xs ys : List D} (hl : xs.length ≤ LINE) (e : fmO g xs = some ys)
    (h : ∀ x y, g x = some y → tg x (wipeM m vs) = .ok () (m1 x) ∧ cd (m1 x) = .ok y.isSome (m1 x) ∧ (∀ z, y = some z → ∃ o, el (m1 x) = .ok (z, o) (m1 x)) ∧ wipeM (m1 x) vs = wipeM m vs) :
    compM vs xs tg cd el m = .ok (.lst ys, true) (backM m vs (wipeM m vs)) := by
  unfold compM
  rw [if_pos hl, compL_optF h e]
  simp
/-! statements one behind another -/
theorem run_cons {C : Calls} {s : S} {ss : Ss} {m m' : MS} (h : exec C s m = .ok .nx m') : execs C (.cons s ss) m = execs C ss m' := by
  simp only [execs, bindR, h]
theorem run_end {C : Calls} {s : S} {ss : Ss} {m m' : MS} {d : D} {o : Bool} (h : exec C s m = .ok (.rt d o) m') : execs C (.cons s ss) m = .ok (.rt d o) m' := by
  simp only [execs, bindR, h]
  rfl
theorem run_nil {C : Calls} {m : MS} : execs C .nil m = .ok .nx m := by
  simp only [execs]
  rfl
theorem run_fn {C : Calls} {fn : Fn} {args : List (D × Fl)} {d : D} {o : Bool} {m : MS} (hl : args.length = fn.np) (h : execs C fn.body (args.map some ++ List.replicate (fn.ns - fn.np) none) = .ok (.rt d o) m) : runFn C fn args = .ok d o (outsOf m 0 args) := by
  unfold runFn
  rw [if_pos hl, h]
theorem run_fnN {C : Calls} {fn : Fn} {args : List (D × Fl)} {m : MS} (hl : args.length = fn.np) (h : execs C fn.body (args.map some ++ List.replicate (fn.ns - fn.np) none) = .ok .nx m) : runFn C fn args = .ok .non false (outsOf m 0 args) := by
  unfold runFn
  rw [if_pos hl, h]
/-! expressions, by their parts -/
def isVar : E → Bool
  | .var _ => true
  | _ => false
theorem argOf_val {C : Calls} {e : E} {m m' : MS} {d : D} {o : Bool} (hv : isVar e = false) (h : ev C e m = .ok (d, o) m') : argOf e (ev C e) m = .ok (.val d o) m' := by
  have : argOf e (ev C e) = (do
      let p ← ev C e
      pure (.val p.1 p.2)) := by
    cases e <;> first | rfl | (cases hv; done)
  rw [this, bind_ok h]
  rfl
theorem ev_cmp {C : Calls} {o : Cm} {a b : E} {m m1 m2 : MS} {xa xb : A} {da db : D} {r : Bool} (ha : argOf a (ev C a) m = .ok xa m1) (hb : argOf b (ev C b) m1 = .ok xb m2) (hda : rdA xa m2 = .ok da m2) (hdb : rdA xb m2 = .ok db m2) (hr : cm2 o da db = some r) :
    ev C (.cmp o a b) m = .ok (.bl r, false) m2 := by
  simp only [ev]
  rw [bind_ok ha, bind_ok hb, bind_ok hda, bind_ok hdb, hr]
  rfl
theorem ev_land {C : Calls} {a b : E} {m m1 : MS} {o : Bool} (ha : ev C a m = .ok (.bl true, o) m1) : ev C (.land a b) m = ev C b m1 := by
  simp only [ev]
  rw [bind_ok ha]
  rfl
theorem ev_land_f {C : Calls} {a b : E} {m m1 : MS} {o : Bool} (ha : ev C a m = .ok (.bl false, o) m1) : ev C (.land a b) m = .ok (.bl false, false) m1 := by
  simp only [ev]
  rw [bind_ok ha]
  rfl
theorem ev_comp {C : Calls} {vs : List Nat} {t : T} {it : I} {cs : Es} {elt : E} {m m1 : MS} {xs : List D} {r : R (D × Bool)} (hi : evI C it m = .ok xs m1) (hc : compM vs xs (setT t) (evB C cs) (ev C elt) m1 = r) : ev C (.comp vs t it cs elt) m = r := by
  simp only [ev]
  rw [bind_ok hi]
  exact hc
theorem exec_if_t {C : Calls} {c : E} {a b : Ss} {m m1 : MS} {o : Bool} (h : ev C c m = .ok (.bl true, o) m1) : exec C (.ifs c a b) m = execs C a m1 := by
  simp only [exec]
  rw [bind_ok h]
  rfl
theorem exec_if_f {C : Calls} {c : E} {a b : Ss} {m m1 : MS} {o : Bool} (h : ev C c m = .ok (.bl false, o) m1) : exec C (.ifs c a b) m = execs C b m1 := by
  simp only [exec]
  rw [bind_ok h]
  rfl
theorem exec_ret {C : Calls} {e : E} {m m1 : MS} {d : D} {o : Bool} (h : evMv C e m = .ok (d, o) m1) : exec C (.ret e) m = .ok (.rt d o) m1 := by
  simp only [exec]
  rw [bind_ok h]
  rfl
@[simp] theorem isN_int (i : Int) : cm2 .isN (.int i) .non = some false := rfl
@[simp] theorem isN_bl (i : Bool) : cm2 .isN (.bl i) .non = some false := rfl
@[simp] theorem isN_tup (i : List D) : cm2 .isN (.tup i) .non = some false := rfl
@[simp] theorem isN_lst (i : List D) : cm2 .isN (.lst i) .non = some false := rfl
@[simp] theorem isN_non : cm2 .isN .non .non = some true := rfl
/-! structural equality of data -/
mutual
def eqS : D → D → Bool
  | .non, .non => true
  | .bl a, .bl b => a == b
  | .int i, .int j => decide (i = j)
  | .str a, .str b => decide (a = b)
  | .tup xs, .tup ys => eqSs xs ys
  | .lst xs, .lst ys => eqSs xs ys
  | _, _ => false
def eqSs : List D → List D → Bool
  | [], [] => true
  | x :: xs, y :: ys => eqS x y && eqSs xs ys
  | _, _ => false
end
end Mi

set_option Elab.async false
set_option linter.all false
set_option maxRecDepth 100000
set_option autoImplicit false
set_option maxHeartbeats 4000000
namespace K00
open Mi
def topS (i : Nat) : PySem.Stmt := PySem.Challenge.pw_wholetowers_k00_errors.main.body.getD i (.Pass ⟨0, 0, 0, 0⟩)
def b0 : Ss := .cons (.ifs (.land (.cmp .eq (.idx (.var 0) (.int 0)) (.int 0)) (.cmp .lt (.idx (.var 0) (.int 2)) (.bi .len (.cons (.var 0) .nil)))) (.cons (.asg (.nm 2) (.idx (.var 0) (.idx (.var 0) (.int 2)))) (.cons (.augi 0 (.int 2) .add (.int 1)) (.cons (.ifs (.cmp .ge (.var 2) (.op .pow (.int 10) (.int 18))) (.cons (.seti 0 (.int 0) (.op .sub (.var 2) (.op .pow (.int 10) (.int 18)))) .nil) (.cons (.asg (.nm 4) (.op .mod (.bi .int (.cons (.var 2) .nil)) (.int 2147483647))) (.cons (.asg (.nm 4) (.op .mod (.bi .int (.cons (.op .add (.op .add (.op .mul (.var 4) (.var 4)) (.op .mul (.int 69621) (.var 4))) (.op .mul (.int 977) (.idx (.var 0) (.int 2)))) .nil)) (.int 2147483629))) (.cons (.seti 0 (.int 1) (.op .mod (.bi .int (.cons (.op .add (.idx (.var 0) (.int 1)) (.var 4)) .nil)) (.int 2147483629))) .nil)))) .nil))) .nil) (.cons (.ifs (.cmp .gt (.idx (.var 0) (.int 0)) (.int 0)) (.cons (.asg (.nm 3) (.op .mod (.bi .int (.cons (.idx (.var 0) (.int 0)) .nil)) (.var 1))) (.cons (.seti 0 (.int 0) (.op .fdiv (.idx (.var 0) (.int 0)) (.var 1))) (.cons (.ret (.var 3)) .nil))) .nil) (.cons (.seti 0 (.int 1) (.op .mod (.bi .int (.cons (.op .add (.op .add (.op .mul (.idx (.var 0) (.int 1)) (.int 48271)) (.op .mul (.int 40692) (.idx (.var 0) (.int 2)))) (.int 11)) .nil)) (.int 2147483647))) (.cons (.seti 0 (.int 1) (.op .mod (.bi .int (.cons (.op .add (.op .mul (.idx (.var 0) (.int 1)) (.idx (.var 0) (.int 1))) (.int 7)) .nil)) (.int 2147483629))) (.cons (.ret (.op .mod (.bi .int (.cons (.op .fdiv (.idx (.var 0) (.int 1)) (.int 8)) .nil)) (.var 1))) .nil))))
/-- _law_take -/
def r0 : DefRow := ⟨"_law_take", topS 25, [("pot" : PySem.Str), ("many" : PySem.Str), ("cell" : PySem.Str), ("drawn_now" : PySem.Str), ("mixed" : PySem.Str)], [("pot" : PySem.Str), ("many" : PySem.Str)], ⟨2, 5, b0⟩, []⟩
def b1 : Ss := .cons (.ifs (.cmp .isN (.var 1) .non) (.cons (.ret (.cmp .isN (.var 0) .non)) .nil) .nil) (.cons (.ifs (.isi (.var 1) [.bool, .str]) (.cons (.ret (.land (.cmp .eq (.isi (.var 0) [.bool]) (.isi (.var 1) [.bool])) (.land (.isi (.var 0) [.bool, .str]) (.cmp .eq (.var 0) (.var 1))))) .nil) .nil) (.cons (.ifs (.isi (.var 1) [.int]) (.cons (.ret (.land (.isi (.var 0) [.int]) (.land (.lnot (.isi (.var 0) [.bool])) (.cmp .eq (.var 0) (.var 1))))) .nil) .nil) (.cons (.ifs (.lor (.cmp .ne (.isi (.var 1) [.list]) (.isi (.var 0) [.list])) (.cmp .ne (.isi (.var 1) [.tuple]) (.isi (.var 0) [.tuple]))) (.cons (.ret (.bl false)) .nil) .nil) (.cons (.ret (.land (.cmp .eq (.bi .len (.cons (.var 0) .nil)) (.bi .len (.cons (.var 1) .nil))) (.bi .all (.cons (.comp [2] (.nm 2) (.range (.cons (.bi .len (.cons (.var 1) .nil)) .nil)) .nil (.call 1 (.cons (.idx (.var 0) (.var 2)) (.cons (.idx (.var 1) (.var 2)) .nil)))) .nil)))) .nil))))
/-- _law_same -/
def r1 : DefRow := ⟨"_law_same", topS 26, [("got" : PySem.Str), ("due" : PySem.Str), ("k" : PySem.Str)], [("got" : PySem.Str), ("due" : PySem.Str)], ⟨2, 3, b1⟩, []⟩
def b2 : Ss := .cons (.ifs (.cmp .eq (.var 0) (.int 0)) (.cons (.ifs (.var 2) (.cons (.raise 1 (.var 1)) .nil) .nil) (.cons (.raise 1 (.var 1)) .nil)) .nil) (.cons (.ifs (.cmp .eq (.var 0) (.int 1)) (.cons (.ifs (.var 2) (.cons (.raise 2 (.var 1)) .nil) .nil) (.cons (.raise 2 (.var 1)) .nil)) .nil) (.cons (.ifs (.cmp .eq (.var 0) (.int 2)) (.cons (.ifs (.var 2) (.cons (.raise 3 (.var 1)) .nil) .nil) (.cons (.raise 3 (.var 1)) .nil)) .nil) (.cons (.ifs (.cmp .eq (.var 0) (.int 3)) (.cons (.ifs (.var 2) (.cons (.raise 4 (.var 1)) .nil) .nil) (.cons (.raise 4 (.var 1)) .nil)) .nil) (.cons (.ifs (.cmp .eq (.var 0) (.int 4)) (.cons (.ifs (.var 2) (.cons (.raise 5 (.var 1)) .nil) .nil) (.cons (.raise 5 (.var 1)) .nil)) .nil) (.cons (.ifs (.cmp .eq (.var 0) (.int 5)) (.cons (.ifs (.var 2) (.cons (.raise 6 (.var 1)) .nil) .nil) (.cons (.raise 6 (.var 1)) .nil)) .nil) (.cons (.ifs (.cmp .eq (.var 0) (.int 6)) (.cons (.ifs (.var 2) (.cons (.raise 7 (.var 1)) .nil) .nil) (.cons (.raise 7 (.var 1)) .nil)) .nil) (.cons (.ifs (.var 2) (.cons (.raise 8 (.var 1)) .nil) .nil) (.cons (.raise 8 (.var 1)) .nil))))))))
/-- _law_raised -/
def r2 : DefRow := ⟨"_law_raised", topS 27, [("which" : PySem.Str), ("given" : PySem.Str), ("named" : PySem.Str)], [("which" : PySem.Str), ("given" : PySem.Str), ("named" : PySem.Str)], ⟨3, 3, b2⟩, []⟩
def b3 : Ss := .cons (.ifs (.cmp .eq (.var 0) (.int 8)) (.cons (.ifs (.var 2) (.cons (.raise 9 (.var 1)) .nil) .nil) (.cons (.raise 9 (.var 1)) .nil)) .nil) (.cons (.ifs (.cmp .eq (.var 0) (.int 9)) (.cons (.ifs (.var 2) (.cons (.raise 10 (.var 1)) .nil) .nil) (.cons (.raise 10 (.var 1)) .nil)) .nil) (.cons (.ifs (.cmp .eq (.var 0) (.int 10)) (.cons (.ifs (.var 2) (.cons (.raise 11 (.var 1)) .nil) .nil) (.cons (.raise 11 (.var 1)) .nil)) .nil) (.cons (.ifs (.cmp .eq (.var 0) (.int 11)) (.cons (.ifs (.var 2) (.cons (.raise 12 (.var 1)) .nil) .nil) (.cons (.raise 12 (.var 1)) .nil)) .nil) (.cons (.ifs (.cmp .eq (.var 0) (.int 12)) (.cons (.ifs (.var 2) (.cons (.raise 13 (.var 1)) .nil) .nil) (.cons (.raise 13 (.var 1)) .nil)) .nil) (.cons (.ifs (.cmp .eq (.var 0) (.int 13)) (.cons (.ifs (.var 2) (.cons (.raise 14 (.var 1)) .nil) .nil) (.cons (.raise 14 (.var 1)) .nil)) .nil) (.cons (.ifs (.var 2) (.cons (.raise 15 (.var 1)) .nil) .nil) (.cons (.raise 15 (.var 1)) .nil)))))))
/-- _law_raised_next -/
def r3 : DefRow := ⟨"_law_raised_next", topS 28, [("which" : PySem.Str), ("given" : PySem.Str), ("named" : PySem.Str)], [("which" : PySem.Str), ("given" : PySem.Str), ("named" : PySem.Str)], ⟨3, 3, b3⟩, []⟩
def b4 : Ss := .cons (.ifs (.cmp .eq (.var 0) (.int 15)) (.cons (.ifs (.var 2) (.cons (.raise 16 (.var 1)) .nil) .nil) (.cons (.raise 16 (.var 1)) .nil)) .nil) (.cons (.ifs (.cmp .eq (.var 0) (.int 16)) (.cons (.ifs (.var 2) (.cons (.raise 17 (.var 1)) .nil) .nil) (.cons (.raise 17 (.var 1)) .nil)) .nil) (.cons (.ifs (.cmp .eq (.var 0) (.int 17)) (.cons (.ifs (.var 2) (.cons (.raise 18 (.var 1)) .nil) .nil) (.cons (.raise 18 (.var 1)) .nil)) .nil) (.cons (.ifs (.cmp .eq (.var 0) (.int 18)) (.cons (.ifs (.var 2) (.cons (.raise 19 (.var 1)) .nil) .nil) (.cons (.raise 19 (.var 1)) .nil)) .nil) (.cons (.ifs (.cmp .eq (.var 0) (.int 19)) (.cons (.ifs (.var 2) (.cons (.raise 20 (.var 1)) .nil) .nil) (.cons (.raise 20 (.var 1)) .nil)) .nil) (.cons (.ifs (.cmp .eq (.var 0) (.int 20)) (.cons (.ifs (.var 2) (.cons (.raise 21 (.var 1)) .nil) .nil) (.cons (.raise 21 (.var 1)) .nil)) .nil) (.cons (.ifs (.cmp .eq (.var 0) (.int 21)) (.cons (.ifs (.var 2) (.cons (.raise 22 (.var 1)) .nil) .nil) (.cons (.raise 22 (.var 1)) .nil)) .nil) (.cons (.ifs (.var 2) (.cons (.raise 0 (.var 1)) .nil) .nil) (.cons (.raise 0 (.var 1)) .nil))))))))
/-- _law_raised_last -/
def r4 : DefRow := ⟨"_law_raised_last", topS 29, [("which" : PySem.Str), ("given" : PySem.Str), ("named" : PySem.Str)], [("which" : PySem.Str), ("given" : PySem.Str), ("named" : PySem.Str)], ⟨3, 3, b4⟩, []⟩
def b5 : Ss := .cons (.asg (.nm 1) (.lst .nil)) (.cons (.asg (.nm 1) (.op .add (.var 1) (.lst (.cons (.isi (.var 0) [.cls 1]) (.cons (.isi (.var 0) [.cls 2]) .nil))))) (.cons (.asg (.nm 1) (.op .add (.var 1) (.lst (.cons (.isi (.var 0) [.cls 3]) (.cons (.isi (.var 0) [.cls 4]) .nil))))) (.cons (.asg (.nm 1) (.op .add (.var 1) (.lst (.cons (.isi (.var 0) [.cls 5]) (.cons (.isi (.var 0) [.cls 6]) .nil))))) (.cons (.asg (.nm 1) (.op .add (.var 1) (.lst (.cons (.isi (.var 0) [.cls 7]) (.cons (.isi (.var 0) [.cls 8]) .nil))))) (.cons (.asg (.nm 1) (.op .add (.var 1) (.lst (.cons (.isi (.var 0) [.cls 9]) (.cons (.isi (.var 0) [.cls 10]) .nil))))) (.cons (.asg (.nm 1) (.op .add (.var 1) (.lst (.cons (.isi (.var 0) [.cls 11]) (.cons (.isi (.var 0) [.cls 12]) .nil))))) (.cons (.asg (.nm 1) (.op .add (.var 1) (.lst (.cons (.isi (.var 0) [.cls 13]) (.cons (.isi (.var 0) [.cls 14]) .nil))))) (.cons (.asg (.nm 1) (.op .add (.var 1) (.lst (.cons (.isi (.var 0) [.cls 15]) (.cons (.isi (.var 0) [.cls 16]) .nil))))) (.cons (.asg (.nm 1) (.op .add (.var 1) (.lst (.cons (.isi (.var 0) [.cls 17]) (.cons (.isi (.var 0) [.cls 18]) .nil))))) (.cons (.asg (.nm 1) (.op .add (.var 1) (.lst (.cons (.isi (.var 0) [.cls 19]) (.cons (.isi (.var 0) [.cls 20]) .nil))))) (.cons (.asg (.nm 1) (.op .add (.var 1) (.lst (.cons (.isi (.var 0) [.cls 21]) (.cons (.isi (.var 0) [.cls 22]) .nil))))) (.cons (.ret (.var 1)) .nil))))))))))))
/-- _law_kinds -/
def r5 : DefRow := ⟨"_law_kinds", topS 30, [("e" : PySem.Str), ("found" : PySem.Str)], [("e" : PySem.Str)], ⟨1, 2, b5⟩, []⟩
def b6 : Ss := .cons (.asg (.nm 1) (.op .sub (.op .add (.op .mul (.call 0 (.cons (.var 0) (.cons (.op .pow (.int 10) (.int 9)) .nil))) (.op .pow (.int 10) (.int 20))) (.call 0 (.cons (.var 0) (.cons (.op .pow (.int 10) (.int 9)) .nil)))) (.op .pow (.int 10) (.int 28)))) (.cons (.asg (.nm 2) (.lst (.cons (.var 1) (.cons (.call 0 (.cons (.var 0) (.cons (.int 9) .nil))) (.cons (.str ("" : PySem.Str)) (.cons (.str ("a b" : PySem.Str)) (.cons .non (.cons (.bl true) (.cons (.bl false) (.cons (.tup .nil) (.cons (.tup (.cons (.var 1) (.cons (.int 1) .nil))) (.cons (.lst (.cons (.var 1) (.cons (.str ("x" : PySem.Str)) .nil))) (.cons (.tup (.cons (.str ("ab" : PySem.Str)) (.cons (.tup (.cons (.str ("to" : PySem.Str)) (.cons (.tup .nil) .nil))) .nil))) (.cons (.lst .nil) .nil)))))))))))))) (.cons (.ret (.idx (.op .add (.var 2) (.lst (.cons (.neg (.int 1)) (.cons (.int 0) (.cons (.tup (.cons (.int 2) (.cons (.tup (.cons (.int 0) (.cons (.int 1) (.cons (.int 1) (.cons (.int 1) .nil))))) .nil))) .nil))))) (.call 0 (.cons (.var 0) (.cons (.int 15) .nil))))) .nil))
/-- _law_given -/
def r6 : DefRow := ⟨"_law_given", topS 31, [("pot" : PySem.Str), ("far" : PySem.Str), ("some" : PySem.Str)], [("pot" : PySem.Str)], ⟨1, 3, b6⟩, []⟩
def b7 : Ss := .cons (.asg (.nm 3) .non) (.cons (.tryAs (.cons (.ifs (.cmp .lt (.var 0) (.int 8)) (.cons (.expr (.call 2 (.cons (.var 0) (.cons (.var 1) (.cons (.var 2) .nil))))) .nil) .nil) (.cons (.ifs (.cmp .lt (.var 0) (.int 15)) (.cons (.expr (.call 3 (.cons (.var 0) (.cons (.var 1) (.cons (.var 2) .nil))))) .nil) .nil) (.cons (.expr (.call 4 (.cons (.var 0) (.cons (.var 1) (.cons (.var 2) .nil))))) .nil))) 0 4 3) (.cons (.ret (.var 3)) .nil))
/-- _law_caught -/
def r7 : DefRow := ⟨"_law_caught", topS 32, [("which" : PySem.Str), ("given" : PySem.Str), ("named" : PySem.Str), ("caught" : PySem.Str), ("e" : PySem.Str)], [("which" : PySem.Str), ("given" : PySem.Str), ("named" : PySem.Str)], ⟨3, 5, b7⟩, []⟩
def b8 : Ss := .cons (.ifs (.lor (.cmp .isN (.var 0) .non) (.lnot (.isi (.var 0) [.valueError]))) (.cons (.ret (.bl false)) .nil) .nil) (.cons (.ret (.land (.call 1 (.cons (.call 5 (.cons (.var 0) .nil)) (.cons (.comp [3] (.nm 3) (.range (.cons (.int 22) .nil)) .nil (.cmp .eq (.var 3) (.var 1))) .nil))) (.call 1 (.cons (.valOf (.var 0)) (.cons (.var 2) .nil))))) .nil)
/-- _law_right -/
def r8 : DefRow := ⟨"_law_right", topS 33, [("caught" : PySem.Str), ("which" : PySem.Str), ("given" : PySem.Str), ("k" : PySem.Str)], [("caught" : PySem.Str), ("which" : PySem.Str), ("given" : PySem.Str)], ⟨3, 4, b8⟩, []⟩
def b9 : Ss := .cons (.asg (.nm 1) (.op .add (.lst (.cons (.int 0) (.cons (.int 7) (.cons (.int 3) .nil)))) (.bi .list (.cons (.var 0) .nil)))) (.cons (.frr (.nm 2) (.range (.cons (.bi .max (.cons (.int 1) (.cons (.bi .min (.cons (.int 12) (.cons (.bi .len (.cons (.var 0) .nil)) .nil))) .nil))) .nil)) (.cons (.frr (.nm 3) (.range (.cons (.int 23) .nil)) (.cons (.par [6, 7, 8] (.cons (.call 6 (.cons (.var 1) .nil)) (.cons (.call 6 (.cons (.var 1) .nil)) (.cons (.cmp .eq (.call 0 (.cons (.var 1) (.cons (.int 2) .nil))) (.int 0)) .nil)))) (.cons (.asg (.nm 4) (.call 7 (.cons (.var 3) (.cons (.var 6) (.cons (.var 8) .nil))))) (.cons (.asg (.nm 5) (.call 7 (.cons (.var 3) (.cons (.var 7) (.cons (.lnot (.var 8)) .nil))))) (.cons (.ifs (.lor (.lnot (.call 8 (.cons (.var 4) (.cons (.var 3) (.cons (.var 6) .nil))))) (.lnot (.call 8 (.cons (.var 5) (.cons (.var 3) (.cons (.var 7) .nil)))))) (.cons (.ret (.bl false)) .nil) .nil) .nil))))) .nil)) (.cons (.ret (.bl true)) .nil))
/-- law -/
def r9 : DefRow := ⟨"law", topS 34, [("script" : PySem.Str), ("pot" : PySem.Str), ("turn" : PySem.Str), ("which" : PySem.Str), ("first" : PySem.Str), ("second" : PySem.Str), ("given" : PySem.Str), ("other" : PySem.Str), ("named" : PySem.Str)], [("script" : PySem.Str)], ⟨1, 9, b9⟩, []⟩
def rows : List DefRow := [r0, r1, r2, r3, r4, r5, r6, r7, r8, r9]
def globs : List (PySem.Str × Int) := []
def blts : List PySem.Str := [("ValueError" : PySem.Str), ("all" : PySem.Str), ("bool" : PySem.Str), ("int" : PySem.Str), ("isinstance" : PySem.Str), ("len" : PySem.Str), ("list" : PySem.Str), ("max" : PySem.Str), ("min" : PySem.Str), ("range" : PySem.Str), ("str" : PySem.Str), ("tuple" : PySem.Str)]
def io : Nat → Nat → Bool := fun f k => (f == 0 && k == 0) || (f == 6 && k == 0)
theorem t0 : TextOk r0 := ⟨by decide, (fun _ _ _ _ _ _ us hl => match us, hl with | [_, _], _ => rfl), trivial⟩
theorem t1 : TextOk r1 := ⟨by decide, (fun _ _ _ _ _ _ us hl => match us, hl with | [_, _], _ => rfl), trivial⟩
theorem t2 : TextOk r2 := ⟨by decide, (fun _ _ _ _ _ _ us hl => match us, hl with | [_, _, _], _ => rfl), trivial⟩
theorem t3 : TextOk r3 := ⟨by decide, (fun _ _ _ _ _ _ us hl => match us, hl with | [_, _, _], _ => rfl), trivial⟩
theorem t4 : TextOk r4 := ⟨by decide, (fun _ _ _ _ _ _ us hl => match us, hl with | [_, _, _], _ => rfl), trivial⟩
theorem t5 : TextOk r5 := ⟨by decide, (fun _ _ _ _ _ _ us hl => match us, hl with | [_], _ => rfl), trivial⟩
theorem t6 : TextOk r6 := ⟨by decide, (fun _ _ _ _ _ _ us hl => match us, hl with | [_], _ => rfl), trivial⟩
theorem t7 : TextOk r7 := ⟨by decide, (fun _ _ _ _ _ _ us hl => match us, hl with | [_, _, _], _ => rfl), trivial⟩
theorem t8 : TextOk r8 := ⟨by decide, (fun _ _ _ _ _ _ us hl => match us, hl with | [_, _, _], _ => rfl), trivial⟩
theorem t9 : TextOk r9 := ⟨by decide, (fun _ _ _ _ _ _ us hl => match us, hl with | [_], _ => rfl), trivial⟩
theorem allT : AllT rows := ⟨t0, t1, t2, t3, t4, t5, t6, t7, t8, t9, trivial⟩
def cls : List Nat := [0, 1, 2, 3, 4, 5, 6, 7, 8, 9, 10, 11, 12, 13, 14, 15, 16, 17, 18, 19, 20, 21, 22]
def stI : PySem.Stmt := clsIni (topS 1)
theorem iniT : IniTxt stI := ⟨scopeC_ok (by decide +kernel), rfl, _, _, _, _, _, _, _, _, _, _, rfl, fun _ _ _ _ => ⟨_, rfl⟩⟩
theorem iniB : IniBind stI ∧ IniBindK stI := ⟨fun _ _ _ _ _ _ us hl => match us, hl with | [_, _], _ => rfl, fun _ _ _ _ _ _ _ _ => rfl⟩
theorem chk : rows.all (rowC (gsOf rows globs blts false cls)) = true := by decide +kernel
end K00

set_option Elab.async false
set_option linter.all false
set_option maxRecDepth 1000000
set_option autoImplicit false
set_option maxHeartbeats 4000000
namespace Lb
open Mi
/-! ### coefficients, plain -/
abbrev Wn (n : Nat) : Whl := fun c b => whN c b n
abbrev tI (l : List Int) : D := .tup (l.map D.int)
abbrev lI (l : List Int) : D := .lst (l.map D.int)
/-- without the zeros at the end -/
def trimP : List Int → List Int
  | [] => []
  | x :: r => match trimP r with
    | [] => if x = 0 then [] else [x]
    | y :: t => x :: y :: t
theorem trimP_snoc0 : ∀ xs : List Int, trimP (xs ++ [0]) = trimP xs
  | [] => rfl
  | x :: r => by
    show (match trimP (r ++ [0]) with
      | [] => if x = 0 then [] else [x]
      | y :: t => x :: y :: t) = _
    rw [trimP_snoc0 r]
    rfl
theorem trimP_snoc : ∀ (xs : List Int) {a : Int}, a ≠ 0 → trimP (xs ++ [a]) = xs ++ [a]
  | [], a, h => by
    show (if a = 0 then [] else [a]) = [a]
    rw [if_neg h]
  | x :: r, a, h => by
    show (match trimP (r ++ [a]) with
      | [] => if x = 0 then [] else [x]
      | y :: t => x :: y :: t) = _
    rw [trimP_snoc r h]
    cases r <;> rfl
/-- how many are left when m are looked at -/
def tlen (xs : List Int) : Nat → Nat
  | 0 => 0
  | n + 1 => if xs.getD n 0 = 0 then tlen xs n else n + 1
theorem tlen_le (xs : List Int) : ∀ n, tlen xs n ≤ n
  | 0 => Nat.le_refl 0
  | n + 1 => by
    unfold tlen
    split
    · have := tlen_le xs n; omega
    · omega
theorem tlen_app (xs ys : List Int) : ∀ n, n ≤ xs.length → tlen (xs ++ ys) n = tlen xs n
  | 0, _ => rfl
  | n + 1, h => by
    unfold tlen
    rw [tlen_app xs ys n (by omega), List.getD_eq_getElem?_getD, List.getD_eq_getElem?_getD, List.getElem?_append_left (by omega)]
theorem trim_take : ∀ (n : Nat) (xs : List Int), xs.length = n → xs.take (tlen xs n) = trimP xs
  | 0, xs, h => by
    rw [List.length_eq_zero_iff.mp h]; rfl
  | n + 1, xs, h => by
    obtain ⟨ys, a, rfl⟩ : ∃ ys a, xs = ys ++ [a] := ⟨xs.dropLast, xs.getLast (fun z => by rw [z] at h; cases h), (List.dropLast_concat_getLast _).symm⟩
    rw [List.length_append] at h
    have hl : ys.length = n := by simpa using h
    have hg : (ys ++ [a]).getD n 0 = a := by
      rw [List.getD_eq_getElem?_getD, List.getElem?_append_right (by omega)]
      simp [hl]
    unfold tlen
    rw [hg]
    split
    · rename_i h0
      subst h0
      rw [tlen_app ys [0] n (by omega), List.take_append_of_le_length (by have := tlen_le ys n; omega), trim_take n ys hl, trimP_snoc0]
    · rename_i h0
      rw [trimP_snoc ys h0, List.take_of_length_le (by simp [hl])]
theorem atL_at {xs : List Int} {k : Nat} (h : k < xs.length) : atL (xs.map D.int) (k : Int) = some (.int (xs.getD k 0)) :=
  atL_int (by rw [List.getD_eq_getElem?_getD, List.getElem?_eq_getElem h]; rfl)
theorem atL_pred {xs : List Int} {k : Nat} (h : k + 1 ≤ xs.length) : atL (xs.map D.int) (((k + 1 : Nat) : Int) - 1) = some (.int (xs.getD k 0)) := by
  rw [show (((k + 1 : Nat) : Int) - 1) = (k : Int) by omega]
  exact atL_at (by omega)
theorem cut_take {xs : List D} {k : Nat} (h : k ≤ xs.length) : cutD xs none (some (k : Int)) = xs.take k := by
  unfold cutD
  rw [HT.sIx_none, HT.sIx_nat, List.drop_zero, Nat.sub_zero, Nat.min_eq_left h]
def isSq (x : D) (xs : List Int) : Prop := x = tI xs ∨ x = lI xs
theorem len_sq {x : D} {xs : List Int} (h : isSq x xs) : bi1 .len [x] = some (.int xs.length, false) := by
  rcases h with rfl | rfl
  · show some (D.int ((xs.map D.int).length : Nat), false) = _
    rw [List.length_map]
  · show some (D.int ((xs.map D.int).length : Nat), false) = _
    rw [List.length_map]
theorem ix_sq {x : D} {xs : List Int} (h : isSq x xs) (i : Int) : ix2 x (.int i) = atL (xs.map D.int) i := by
  rcases h with rfl | rfl <;> rfl
end Lb
namespace Lb
open Mi
/-! ### trimmed, _law_cut: the walks -/
def bTrimmed : Ss := .cons (.asg (.nm 1) (.bi .len (.cons (.var 0) .nil))) (.cons (.whl (.land (.cmp .gt (.var 1) (.int 0)) (.cmp .eq (.idx (.var 0) (.op .sub (.var 1) (.int 1))) (.int 0))) (.cons (.aug 1 .sub (.int 1)) .nil)) (.cons (.ret (.bi .tuple (.cons (.slc (.var 0) .none (.some (.var 1))) .nil))) .nil))
def bCut : Ss := .cons (.asg (.nm 1) (.bi .len (.cons (.var 0) .nil))) (.cons (.whl (.land (.cmp .gt (.var 1) (.int 0)) (.cmp .eq (.idx (.var 0) (.op .sub (.var 1) (.int 1))) (.int 0))) (.cons (.asg (.nm 1) (.op .sub (.var 1) (.int 1))) .nil)) (.cons (.ret (.bi .tuple (.cons (.slc (.var 0) .none (.some (.var 1))) .nil))) .nil))
theorem whN_stop {c : M Bool} {b : M Fw} {n : Nat} {m m' : MS} (h : c m = .ok false m') : whN c b (n + 1) m = .ok .nx m' := by
  show (c >>= fun x => if x = true then b >>= fun f => match f with
      | .bk => pure .nx
      | .rt d o => pure (.rt d o)
      | _ => whN c b n else pure .nx) m = _
  rw [bind_ok h]
  rfl
theorem whN_go {c : M Bool} {b : M Fw} {n : Nat} {m m1 m2 : MS} (h : c m = .ok true m1) (h2 : b m1 = .ok .nx m2) : whN c b (n + 1) m = whN c b n m2 := by
  show (c >>= fun x => if x = true then b >>= fun f => match f with
      | .bk => pure .nx
      | .rt d o => pure (.rt d o)
      | _ => whN c b n else pure .nx) m = _
  rw [bind_ok h, if_pos rfl, bind_ok h2]
section
variable {C : Calls} {n : Nat}
theorem loopT {x : D} {xs : List Int} (hx : isSq x xs) {fl : Fl} (hf : fl = .frz ∨ fl = .own) {b : Ss} (hb : ∀ k : Nat, execs C b [some (x, fl), some (.int ((k + 1 : Nat) : Int), .frz)] = .ok .nx [some (x, fl), some (.int (k : Int), .frz)]) :
    ∀ (k n : Nat), k ≤ xs.length → k < n → whN (do
      let p ← ev C (.land (.cmp .gt (.var 1) (.int 0)) (.cmp .eq (.idx (.var 0) (.op .sub (.var 1) (.int 1))) (.int 0)))
      asB p.1) (execs C b) n [some (x, fl), some (.int (k : Nat), .frz)] = .ok .nx [some (x, fl), some (.int (tlen xs k : Nat), .frz)]
  | 0, n + 1, _, _ => whN_stop (by simp [ev, argOf, bindR, tlen])
  | k + 1, n + 1, h, hn => by
    have e := atL_pred h
    have g : (0 : Int) < ((k + 1 : Nat) : Int) := by omega
    unfold tlen
    by_cases h0 : xs.getD k 0 = 0
    · rw [if_pos h0]
      refine (whN_go ?_ (hb k)).trans (loopT hx hf hb k n (by omega) (by omega))
      rcases hf with rfl | rfl <;> simp [ev, argOf, bindR, ix_sq hx, g, e, h0, -Int.natCast_add, -List.getD_eq_getElem?_getD]
    · rw [if_neg h0]
      refine whN_stop ?_
      rcases hf with rfl | rfl <;> simp [ev, argOf, bindR, ix_sq hx, g, e, h0, -Int.natCast_add, -List.getD_eq_getElem?_getD]
  | 0, 0, _, h => by omega
  | k + 1, 0, _, h => by omega
theorem slice_sq {x : D} {xs : List Int} (hx : isSq x xs) {k : Nat} (h : k ≤ xs.length) : ∃ o, slD none (some (k : Int)) x = some ((match x with | .tup _ => D.tup | _ => D.lst) ((xs.take k).map D.int), o) := by
  rcases hx with rfl | rfl
  · refine ⟨false, ?_⟩
    show some (D.tup (cutD (xs.map D.int) none (some (k : Int))), false) = _
    rw [cut_take (by rw [List.length_map]; exact h), List.map_take]
  · refine ⟨true, ?_⟩
    show some (D.lst (cutD (xs.map D.int) none (some (k : Int))), true) = _
    rw [cut_take (by rw [List.length_map]; exact h), List.map_take]
theorem tailT {x : D} {xs : List Int} (hx : isSq x xs) {fl : Fl} (hf : fl = .frz ∨ fl = .own) : execs C (.cons (.ret (.bi .tuple (.cons (.slc (.var 0) .none (.some (.var 1))) .nil))) .nil) [some (x, fl), some (.int (tlen xs xs.length : Nat), .frz)] = .ok (.rt (tI (trimP xs)) false) [some (x, fl), some (.int (tlen xs xs.length : Nat), .frz)] := by
  have ht := trim_take xs.length xs rfl
  have hl := tlen_le xs xs.length
  obtain ⟨o, e⟩ := slice_sq hx hl
  rcases hf with rfl | rfl <;> (rcases hx with rfl | rfl <;> simp [execs, exec, evMv, ev, evO, evAs, rdAs, argOf, bindR, e, ht])
theorem trimmed (hW : C.whl = Wn n) {x : D} {xs : List Int} (hx : isSq x xs) {fl : Fl} (hf : fl = .frz ∨ fl = .own) (hn : xs.length < n) : runFn C ⟨1, 2, bTrimmed⟩ [(x, fl)] = .ok (tI (trimP xs)) false [] := by
  refine (run_fn rfl (m := [some (x, fl), some (.int (tlen xs xs.length : Nat), .frz)]) (d := tI (trimP xs)) (o := false) ?_).trans (by rcases hf with rfl | rfl <;> rfl)
  show execs C bTrimmed [some (x, fl), none] = _
  unfold bTrimmed
  rw [run_cons (m' := [some (x, fl), some (.int (xs.length : Nat), .frz)]) (by rcases hf with rfl | rfl <;> simp [exec, ev, evAs, rdAs, argOf, bindR, len_sq hx])]
  rw [run_cons (m' := [some (x, fl), some (.int (tlen xs xs.length : Nat), .frz)]) (by
    simp only [exec, hW]
    exact loopT hx hf (fun k => by
      rcases hf with rfl | rfl <;> (simp [execs, exec, ev, bindR, aug2]; try omega)) _ _ (Nat.le_refl _) hn)]
  exact tailT hx hf
theorem cut (hW : C.whl = Wn n) {x : D} {xs : List Int} (hx : isSq x xs) {fl : Fl} (hf : fl = .frz ∨ fl = .own) (hn : xs.length < n) : runFn C ⟨1, 2, bCut⟩ [(x, fl)] = .ok (tI (trimP xs)) false [] := by
  refine (run_fn rfl (m := [some (x, fl), some (.int (tlen xs xs.length : Nat), .frz)]) (d := tI (trimP xs)) (o := false) ?_).trans (by rcases hf with rfl | rfl <;> rfl)
  show execs C bCut [some (x, fl), none] = _
  unfold bCut
  rw [run_cons (m' := [some (x, fl), some (.int (xs.length : Nat), .frz)]) (by rcases hf with rfl | rfl <;> simp [exec, ev, evAs, rdAs, argOf, bindR, len_sq hx])]
  rw [run_cons (m' := [some (x, fl), some (.int (tlen xs xs.length : Nat), .frz)]) (by
    simp only [exec, hW]
    exact loopT hx hf (fun k => by
      rcases hf with rfl | rfl <;> (simp [execs, exec, ev, argOf, bindR]; try omega)) _ _ (Nat.le_refl _) hn)]
  exact tailT hx hf
end
end Lb

set_option Elab.async false
set_option linter.all false
set_option maxRecDepth 1000000
set_option autoImplicit false
set_option maxHeartbeats 4000000
namespace Lb
open Mi
/-! ### products, plain -/
/-- ys put upon xs, as far as xs goes -/
def addF : List Int → List Int → List Int
  | xs, [] => xs
  | [], _ :: _ => []
  | x :: xs, y :: ys => (x + y) :: addF xs ys
def addL : List Int → List Int → List Int
  | xs, [] => xs
  | [], y :: ys => y :: ys
  | x :: xs, y :: ys => (x + y) :: addL xs ys
abbrev zs (n : Nat) : List Int := List.replicate n 0
def mulQ : List Int → List Int → List Int
  | [], _ => []
  | a :: f, g => addL (g.map fun b => a * b) (0 :: mulQ f g)
def mulP (f g : List Int) : List Int := if f = [] ∨ g = [] then [] else mulQ f g
def timesP (f g : List Int) : List Int := trimP (mulQ f g)
@[simp] theorem addF_nil (xs : List Int) : addF xs [] = xs := by cases xs <;> rfl
@[simp] theorem addL_nil (xs : List Int) : addL xs [] = xs := by cases xs <;> rfl
@[simp] theorem addL_nil' (xs : List Int) : addL [] xs = xs := by cases xs <;> rfl
@[simp] theorem nil_addF (xs : List Int) : addF [] xs = [] := by cases xs <;> rfl
theorem addF_addL : ∀ (xs u v : List Int), addF xs (addL u v) = addF (addF xs u) v
  | xs, u, [] => by simp
  | xs, [], y :: v => by simp
  | [], x :: u, y :: v => rfl
  | a :: xs, x :: u, y :: v => by
    show (a + (x + y)) :: addF xs (addL u v) = ((a + x) + y) :: addF (addF xs u) v
    rw [addF_addL xs u v, Int.add_assoc]
theorem addF_len : ∀ (xs ys : List Int), (addF xs ys).length = xs.length
  | xs, [] => by simp
  | [], y :: ys => rfl
  | x :: xs, y :: ys => by
    show (addF xs ys).length + 1 = xs.length + 1
    rw [addF_len xs ys]
theorem addF_set : ∀ (xs : List Int) (j : Nat) (v : Int), xs.set j (xs.getD j 0 + v) = addF xs (zs j ++ [v])
  | [], j, v => by simp
  | x :: xs, 0, v => by
    show (x + v) :: xs = (x + v) :: addF xs []
    rw [addF_nil]
  | x :: xs, j + 1, v => by
    show x :: xs.set j (xs.getD j 0 + v) = (x + 0) :: addF xs (zs j ++ [v])
    rw [addF_set xs j v, Int.add_zero]
theorem addL_shift : ∀ (k : Nat) (u v : List Int), addL (zs k ++ u) (zs (k + 1) ++ v) = zs k ++ addL u (0 :: v)
  | 0, u, v => rfl
  | k + 1, u, v => by
    show (0 + 0) :: addL (zs k ++ u) (zs (k + 1) ++ v) = 0 :: (zs k ++ addL u (0 :: v))
    rw [addL_shift k u v]
    rfl
theorem addF_zero : ∀ (xs ys : List Int), (∀ y ∈ ys, y = 0) → addF xs ys = xs
  | xs, [], _ => by simp
  | [], y :: ys, _ => rfl
  | x :: xs, y :: ys, h => by
    show (x + y) :: addF xs ys = _
    rw [h y List.mem_cons_self, Int.add_zero, addF_zero xs ys fun z hz => h z (List.mem_cons_of_mem _ hz)]
theorem addF_zs : ∀ (n : Nat) (ys : List Int), ys.length ≤ n → addF (zs n) ys = ys ++ zs (n - ys.length)
  | n, [], _ => by simp
  | 0, y :: ys, h => by simp at h
  | n + 1, y :: ys, h => by
    show (0 + y) :: addF (zs n) ys = y :: (ys ++ zs (n + 1 - (ys.length + 1)))
    rw [addF_zs n ys (by simpa using h), Int.zero_add, Nat.add_sub_add_right]
theorem trim_zs : ∀ (n : Nat) (xs : List Int), trimP (xs ++ zs n) = trimP xs
  | 0, xs => by simp
  | n + 1, xs => by
    have e : xs ++ zs (n + 1) = (xs ++ [0]) ++ zs n := by
      rw [List.append_assoc]
      rfl
    rw [e, trim_zs n, trimP_snoc0]
theorem addL_len : ∀ (u v : List Int), (addL u v).length = max u.length v.length
  | u, [] => by simp
  | [], y :: v => by simp
  | x :: u, y :: v => by
    show (addL u v).length + 1 = max (u.length + 1) (v.length + 1)
    rw [addL_len u v]; omega
theorem mulQ_len : ∀ (f g : List Int), f ≠ [] → g ≠ [] → (mulQ f g).length = f.length + g.length - 1
  | [], g, h, _ => absurd rfl h
  | a :: f, g, _, hg => by
    have h0 : 0 < g.length := by cases g with
      | nil => exact absurd rfl hg
      | cons _ _ => simp
    show (addL (g.map fun b => a * b) (0 :: mulQ f g)).length = _
    rw [addL_len, List.length_map, List.length_cons, List.length_cons]
    by_cases hf : f = []
    · subst hf
      show max g.length (0 + 1) = _
      simp; omega
    · rw [mulQ_len f g hf hg]; omega
theorem mulQ_le (f g : List Int) : (mulQ f g).length ≤ f.length + g.length := by
  induction f with
  | nil => simp [mulQ]
  | cons a f ih =>
    show (addL (g.map fun b => a * b) (0 :: mulQ f g)).length ≤ _
    rw [addL_len, List.length_map, List.length_cons, List.length_cons]
    omega
/-! ### multiplied: the walk -/
theorem forL_nil {tg : D → M Unit} {b : M Fw} {m : MS} : forL tg b [] m = .ok .nx m := rfl
theorem forL_cons {tg : D → M Unit} {b : M Fw} {x : D} {xs : List D} {m m1 m2 : MS} (h1 : tg x m = .ok () m1) (h2 : b m1 = .ok .nx m2) : forL tg b (x :: xs) m = forL tg b xs m2 := by
  show (tg x >>= fun _ => b >>= fun f => match f with
      | .bk => pure .nx
      | .rt d o => pure (.rt d o)
      | _ => forL tg b xs) m = _
  simp only [bindR, h1, h2]
def fr (o : Option D) : Option (D × Fl) := o.map fun d => (d, .frz)
theorem fr_some (d : D) : some (d, Fl.frz) = fr (some d) := rfl
theorem ixN_ok {n : Nat} {v : Int} (h0 : 0 ≤ v) (h1 : v < n) : ixN n v = some v.toNat := by
  unfold ixN
  rw [if_pos h0, if_pos h1]
theorem ixN_nat {n k : Nat} (h : k < n) : ixN n (k : Int) = some k := by
  rw [ixN_ok (by omega) (by omega), Int.toNat_natCast]
theorem mul_zs {n : Int} {k : Nat} (e : n.toNat = k) (hk : k ≤ 1000000) (hn : -(2 ^ 63) ≤ n) : op2 .mul (.lst [.int 0]) (.int n) = some (lI (zs k), true) := by
  have h6 : k ≤ LINE := Nat.le_trans hk (by decide)
  unfold op2
  dsimp only
  rw [e, if_pos ⟨hn, h6, by simpa using h6⟩]
  congr 3
  clear e hk hn h6
  induction k with
  | zero => rfl
  | succ k ih =>
    rw [List.replicate_succ, List.flatten_cons, ih]
    rfl
def bInner (o : Op) (f a p w v : Nat) : Ss := .cons (.augi f (.op .add (.var a) (.var p)) o (.op .mul (.var w) (.var v))) .nil
def bMultiplied : Ss := .cons (.ifs (.lor (.cmp .eq (.var 0) (.tup .nil)) (.cmp .eq (.var 1) (.tup .nil))) (.cons (.ret (.tup .nil)) .nil) .nil) (.cons (.asg (.nm 2) (.op .mul (.lst (.cons (.int 0) .nil)) (.op .sub (.op .add (.bi .len (.cons (.var 0) .nil)) (.bi .len (.cons (.var 1) .nil))) (.int 1)))) (.cons (.frr (.tp (.cons (.nm 3) (.cons (.nm 4) .nil))) (.enum (.var 0)) (.cons (.ifs (.cmp .ne (.var 4) (.int 0)) (.cons (.frr (.tp (.cons (.nm 5) (.cons (.nm 6) .nil))) (.enum (.var 1)) (bInner .add 2 3 5 4 6)) .nil) .nil) .nil)) (.cons (.ret (.bi .tuple (.cons (.var 2) .nil))) .nil)))
section
variable {C : Calls} {n : Nat}
theorem mInner {f g : List Int} {k : Nat} {a : Int} : ∀ (ys : List Int) (p : Nat) (x : List Int) (q5 q6 : Option D), k + p + ys.length ≤ x.length → (∀ b ∈ ys, mulOk a b = true) → ∃ r5 r6,
    forL (setT (.tp (.cons (.nm 5) (.cons (.nm 6) .nil)))) (execs C (bInner .add 2 3 5 4 6)) (enumD p (ys.map D.int)) [some (tI f, .frz), some (tI g, .frz), some (lI x, .own), some (.int (k : Nat), .frz), some (.int a, .frz), fr q5, fr q6] =
      .ok .nx [some (tI f, .frz), some (tI g, .frz), some (lI (addF x (zs (k + p) ++ ys.map fun b => a * b)), .own), some (.int (k : Nat), .frz), some (.int a, .frz), fr r5, fr r6]
  | [], p, x, q5, q6, _, _ => ⟨q5, q6, by
    rw [addF_zero]
    · rfl
    · simp⟩
  | y :: ys, p, x, q5, q6, h, hm => by
    have hk : k + p < x.length := by simp at h; omega
    have e1 : atL (x.map D.int) ((k : Int) + (p : Int)) = some (.int (x.getD (k + p) 0)) := atL_at hk
    have e2 : ixN x.length ((k : Int) + (p : Int)) = some (k + p) := ixN_nat hk
    have e3 := op_mulI (hm y List.mem_cons_self)
    obtain ⟨r5, r6, ih⟩ := mInner (f := f) (g := g) (k := k) (a := a) ys (p + 1) (x.set (k + p) (x.getD (k + p) 0 + a * y)) (some (.int p)) (some (.int y)) (by rw [List.length_set]; simp at h; omega) fun b hb => hm b (List.mem_cons_of_mem _ hb)
    refine ⟨r5, r6, ?_⟩
    show forL _ _ (.tupn [.int (p : Nat), .int y] :: enumD (p + 1) (ys.map D.int)) _ = _
    rw [forL_cons (m1 := [some (tI f, .frz), some (tI g, .frz), some (lI x, .own), some (.int (k : Nat), .frz), some (.int a, .frz), some (.int (p : Nat), .frz), some (.int y, .frz)])
      (m2 := [some (tI f, .frz), some (tI g, .frz), some (lI (x.set (k + p) (x.getD (k + p) 0 + a * y)), .own), some (.int (k : Nat), .frz), some (.int a, .frz), fr (some (.int (p : Nat))), fr (some (.int y))])]
    · rw [ih, addF_set, ← addF_addL, show k + (p + 1) = (k + p) + 1 by omega, addL_shift]
      have e : addL [a * y] (0 :: ys.map fun b => a * b) = (y :: ys).map fun b => a * b := by
        show (a * y + 0) :: addL [] _ = _
        rw [addL_nil', Int.add_zero]
        rfl
      rw [e]
    · cases q5 <;> cases q6 <;> simp [fr, setT, setTs, bindR, -List.map_map]
    · unfold bInner
      simp [execs, exec, ev, argOf, bindR, updLR, e1, e2, e3, aug2, fr, List.map_set, -List.map_map, -List.getD_eq_getElem?_getD]
theorem mOuter {f g : List Int} : ∀ (xs : List Int) (k : Nat) (x : List Int) (q3 q4 q5 q6 : Option D), k + xs.length + g.length ≤ x.length + 1 → (∀ a ∈ xs, ∀ b ∈ g, mulOk a b = true) → ∃ r3 r4 r5 r6,
    forL (setT (.tp (.cons (.nm 3) (.cons (.nm 4) .nil)))) (execs C (.cons (.ifs (.cmp .ne (.var 4) (.int 0)) (.cons (.frr (.tp (.cons (.nm 5) (.cons (.nm 6) .nil))) (.enum (.var 1)) (bInner .add 2 3 5 4 6)) .nil) .nil) .nil)) (enumD k (xs.map D.int)) [some (tI f, .frz), some (tI g, .frz), some (lI x, .own), fr q3, fr q4, fr q5, fr q6] =
      .ok .nx [some (tI f, .frz), some (tI g, .frz), some (lI (addF x (zs k ++ mulQ xs g)), .own), fr r3, fr r4, fr r5, fr r6]
  | [], k, x, q3, q4, q5, q6, _, _ => ⟨q3, q4, q5, q6, by
    rw [addF_zero]
    · rfl
    · simp [mulQ]⟩
  | a :: xs, k, x, q3, q4, q5, q6, h, hm => by
    have h' : k + (xs.length + 1) + g.length ≤ x.length + 1 := by simpa using h
    have st : ∃ s5 s6, execs C (.cons (.ifs (.cmp .ne (.var 4) (.int 0)) (.cons (.frr (.tp (.cons (.nm 5) (.cons (.nm 6) .nil))) (.enum (.var 1)) (bInner .add 2 3 5 4 6)) .nil) .nil) .nil) [some (tI f, .frz), some (tI g, .frz), some (lI x, .own), some (.int (k : Nat), .frz), some (.int a, .frz), fr q5, fr q6] =
        .ok .nx [some (tI f, .frz), some (tI g, .frz), some (lI (addF x (zs k ++ g.map fun b => a * b)), .own), fr (some (.int (k : Nat))), fr (some (.int a)), fr s5, fr s6] := by
      by_cases h0 : a = 0
      · refine ⟨q5, q6, ?_⟩
        rw [run_cons (exec_if_f (o := false) (m1 := [some (tI f, .frz), some (tI g, .frz), some (lI x, .own), some (.int (k : Nat), .frz), some (.int a, .frz), fr q5, fr q6]) (by simp [ev, argOf, bindR, h0]) |>.trans run_nil), run_nil]
        rw [addF_zero]
        · rfl
        · subst h0
          intro y hy
          rcases List.mem_append.mp hy with hy | hy
          · exact (List.mem_replicate.mp hy).2
          · obtain ⟨b, _, rfl⟩ := List.mem_map.mp hy
            exact Int.zero_mul b
      · obtain ⟨s5, s6, e⟩ := mInner (C := C) (f := f) (g := g) (k := k) (a := a) g 0 x q5 q6 (by omega) (hm a List.mem_cons_self)
        refine ⟨s5, s6, ?_⟩
        rw [run_cons (exec_if_t (o := false) (m1 := [some (tI f, .frz), some (tI g, .frz), some (lI x, .own), some (.int (k : Nat), .frz), some (.int a, .frz), fr q5, fr q6]) (by simp [ev, argOf, bindR, h0]) |>.trans (run_cons (by
          simp only [exec]
          rw [bind_ok (m' := [some (tI f, .frz), some (tI g, .frz), some (lI x, .own), some (.int (k : Nat), .frz), some (.int a, .frz), fr q5, fr q6]) (a := enumD 0 (g.map D.int)) (by simp [evI, ev, bindR])]
          exact e) |>.trans run_nil)), run_nil]
        rfl
    obtain ⟨s5, s6, st⟩ := st
    obtain ⟨r3, r4, r5, r6, ih⟩ := mOuter (f := f) (g := g) xs (k + 1) (addF x (zs k ++ g.map fun b => a * b)) (some (.int (k : Nat))) (some (.int a)) s5 s6 (by rw [addF_len]; omega) fun c hc => hm c (List.mem_cons_of_mem _ hc)
    refine ⟨r3, r4, r5, r6, ?_⟩
    show forL _ _ (.tupn [.int (k : Nat), .int a] :: enumD (k + 1) (xs.map D.int)) _ = _
    rw [forL_cons (by cases q3 <;> cases q4 <;> simp [fr, setT, setTs, bindR, -List.map_map] <;> rfl) st]
    rw [ih, ← addF_addL, addL_shift]
    rfl
theorem multiplied {f g : List Int} (hl : f.length + g.length ≤ 1000000) (hm : ∀ a ∈ f, ∀ b ∈ g, mulOk a b = true) : runFn C ⟨2, 7, bMultiplied⟩ [(tI f, .frz), (tI g, .frz)] = .ok (tI (mulP f g)) false [] := by
  by_cases h0 : f = [] ∨ g = []
  · have e : mulP f g = [] := by unfold mulP; rw [if_pos h0]
    rw [e]
    refine (run_fn rfl (m := [some (tI f, .frz), some (tI g, .frz), none, none, none, none, none]) (d := tI []) (o := false) ?_).trans rfl
    show execs C bMultiplied [some (tI f, .frz), some (tI g, .frz), none, none, none, none, none] = _
    unfold bMultiplied
    refine run_end ?_
    have c1 : cm2 .eq (tI f) (.tup []) = some (decide (f = [])) := cm_tup f []
    have c2 : cm2 .eq (tI g) (.tup []) = some (decide (g = [])) := cm_tup g []
    by_cases hf : f = []
    · simp [exec, execs, evMv, ev, evFs, argOf, bindR, c1, hf]
      subst hf; rfl
    · have hg : g = [] := h0.resolve_left hf
      have c3 : cm2 .eq (tI []) (.tup []) = some true := rfl
      simp [exec, execs, evMv, ev, evFs, argOf, bindR, c1, c2, c3, hf, hg]
  · have hf : f ≠ [] := fun z => h0 (.inl z)
    have hg : g ≠ [] := fun z => h0 (.inr z)
    have lf : 0 < f.length := List.length_pos_iff.mpr hf
    have lg : 0 < g.length := List.length_pos_iff.mpr hg
    have e : mulP f g = mulQ f g := by unfold mulP; rw [if_neg h0]
    have ln := mulQ_len f g hf hg
    obtain ⟨r3, r4, r5, r6, ih⟩ := mOuter (C := C) (f := f) (g := g) f 0 (zs (f.length + g.length - 1)) none none none none (by simp; omega) hm
    rw [e]
    refine (run_fn rfl (m := [some (tI f, .frz), some (tI g, .frz), some (lI (mulQ f g), .own), fr r3, fr r4, fr r5, fr r6]) (d := tI (mulQ f g)) (o := false) ?_).trans rfl
    show execs C bMultiplied [some (tI f, .frz), some (tI g, .frz), none, none, none, none, none] = _
    unfold bMultiplied
    have c1 : cm2 .eq (tI f) (.tup []) = some (decide (f = [])) := cm_tup f []
    have c2 : cm2 .eq (tI g) (.tup []) = some (decide (g = [])) := cm_tup g []
    have c1 : cm2 .eq (tI f) (.tup []) = some false := by rw [c1, decide_eq_false hf]
    have c2 : cm2 .eq (tI g) (.tup []) = some false := by rw [c2, decide_eq_false hg]
    have m0 : op2 .mul (.lst [.int 0]) (.int ((f.length : Int) + (g.length : Int) - 1)) = some (lI (zs (f.length + g.length - 1)), true) := mul_zs (by omega) (by omega) (by omega)
    rw [run_cons (m' := [some (tI f, .frz), some (tI g, .frz), none, none, none, none, none]) (by simp [exec, execs, ev, evFs, argOf, bindR, c1, c2])]
    rw [run_cons (m' := [some (tI f, .frz), some (tI g, .frz), some (lI (zs (f.length + g.length - 1)), .own), none, none, none, none]) (by
      simp only [exec, ev, argOf]
      simp [evAs, evFs, ev, argOf, rdAs, bindR, m0, -List.map_replicate])]
    rw [run_cons (m' := [some (tI f, .frz), some (tI g, .frz), some (lI (mulQ f g), .own), fr r3, fr r4, fr r5, fr r6]) (by
      simp only [exec]
      rw [bind_ok (m' := [some (tI f, .frz), some (tI g, .frz), some (lI (zs (f.length + g.length - 1)), .own), none, none, none, none]) (a := enumD 0 (f.map D.int)) (by simp [evI, ev, bindR])]
      refine ih.trans ?_
      rw [show zs 0 ++ mulQ f g = mulQ f g from rfl, addF_zs _ _ (by omega), show f.length + g.length - 1 - (mulQ f g).length = 0 by omega]
      simp)]
    refine run_end ?_
    simp [exec, evMv, ev, evAs, rdAs, argOf, bindR]
/-! ### _law_times -/
def bTimes (c : Nat) : Ss := .cons (.asg (.nm 2) (.op .mul (.lst (.cons (.int 0) .nil)) (.op .add (.bi .len (.cons (.var 0) .nil)) (.bi .len (.cons (.var 1) .nil))))) (.cons (.frr (.nm 3) (.range (.cons (.bi .len (.cons (.var 0) .nil)) .nil)) (.cons (.frr (.nm 4) (.range (.cons (.bi .len (.cons (.var 1) .nil)) .nil)) (.cons (.seti 2 (.op .add (.var 3) (.var 4)) (.op .add (.idx (.var 2) (.op .add (.var 3) (.var 4))) (.op .mul (.idx (.var 0) (.var 3)) (.idx (.var 1) (.var 4))))) .nil)) .nil)) (.cons (.ret (.call c (.cons (.var 2) .nil))) .nil))
def rgF (p m : Nat) : List D := (List.range' p m).map fun (k : Nat) => D.int (k : Int)
theorem rgF_succ (p m : Nat) : rgF p (m + 1) = .int (p : Nat) :: rgF (p + 1) m := rfl
theorem rg_rgF (n : Nat) : (rgI n).map D.int = rgF 0 n := by
  unfold rgI rgF
  rw [List.map_map, List.range_eq_range']
  rfl
theorem tInner {f g : List Int} {k : Nat} {a : Int} (ha : f[k]? = some a) (hm : ∀ b ∈ g, mulOk a b = true) : ∀ (m p : Nat) (x : List Int) (q4 : Option D), p + m = g.length → k + g.length ≤ x.length → ∃ r4,
    forL (setT (.nm 4)) (execs C (.cons (.seti 2 (.op .add (.var 3) (.var 4)) (.op .add (.idx (.var 2) (.op .add (.var 3) (.var 4))) (.op .mul (.idx (.var 0) (.var 3)) (.idx (.var 1) (.var 4))))) .nil)) (rgF p m) [some (tI f, .frz), some (tI g, .frz), some (lI x, .own), some (.int (k : Nat), .frz), fr q4] =
      .ok .nx [some (tI f, .frz), some (tI g, .frz), some (lI (addF x (zs (k + p) ++ (g.drop p).map fun b => a * b)), .own), some (.int (k : Nat), .frz), fr r4]
  | 0, p, x, q4, h, _ => ⟨q4, by
    rw [addF_zero]
    · rfl
    · rw [List.drop_of_length_le (by omega)]; simp⟩
  | m + 1, p, x, q4, h, hx => by
    have hp : p < g.length := by omega
    have hk : k + p < x.length := by omega
    obtain ⟨b, hb⟩ : ∃ b, g[p]? = some b := ⟨g[p], List.getElem?_eq_getElem hp⟩
    have e0 : atL (f.map D.int) (k : Int) = some (.int a) := atL_int ha
    have e1 : atL (x.map D.int) ((k : Int) + (p : Int)) = some (.int (x.getD (k + p) 0)) := atL_at hk
    have e2 : ixN x.length ((k : Int) + (p : Int)) = some (k + p) := ixN_nat hk
    have e4 : atL (g.map D.int) (p : Int) = some (.int b) := atL_int hb
    have e3 := op_mulI (hm b (List.mem_of_getElem? hb))
    obtain ⟨r4, ih⟩ := tInner ha hm m (p + 1) (x.set (k + p) (x.getD (k + p) 0 + a * b)) (some (.int p)) (by omega) (by rw [List.length_set]; exact hx)
    refine ⟨r4, ?_⟩
    rw [rgF_succ]
    rw [forL_cons (m1 := [some (tI f, .frz), some (tI g, .frz), some (lI x, .own), some (.int (k : Nat), .frz), some (.int (p : Nat), .frz)])
      (m2 := [some (tI f, .frz), some (tI g, .frz), some (lI (x.set (k + p) (x.getD (k + p) 0 + a * b)), .own), some (.int (k : Nat), .frz), fr (some (.int (p : Nat)))])]
    · rw [ih, addF_set, ← addF_addL, show k + (p + 1) = (k + p) + 1 by omega, addL_shift]
      have hd : g.drop p = b :: g.drop (p + 1) := by
        rw [List.drop_eq_getElem_cons hp]
        rw [List.getElem?_eq_getElem hp] at hb
        rw [Option.some.inj hb]
      have e : addL [a * b] (0 :: (g.drop (p + 1)).map fun b => a * b) = (g.drop p).map fun b => a * b := by
        rw [hd]
        show (a * b + 0) :: addL [] _ = _
        rw [addL_nil', Int.add_zero]
        rfl
      rw [e]
    · cases q4 <;> simp [fr, setT, bindR, -List.map_map]
    · simp [execs, exec, ev, argOf, bindR, updLR, e0, e1, e2, e3, e4, fr, List.map_set, -List.map_map, -List.getD_eq_getElem?_getD]
theorem tOuter {f g : List Int} (hg : g.length ≤ 1000000) (hm : ∀ a ∈ f, ∀ b ∈ g, mulOk a b = true) : ∀ (m k : Nat) (x : List Int) (q3 q4 : Option D), k + m = f.length → f.length + g.length ≤ x.length → ∃ r3 r4,
    forL (setT (.nm 3)) (execs C (.cons (.frr (.nm 4) (.range (.cons (.bi .len (.cons (.var 1) .nil)) .nil)) (.cons (.seti 2 (.op .add (.var 3) (.var 4)) (.op .add (.idx (.var 2) (.op .add (.var 3) (.var 4))) (.op .mul (.idx (.var 0) (.var 3)) (.idx (.var 1) (.var 4))))) .nil)) .nil)) (rgF k m) [some (tI f, .frz), some (tI g, .frz), some (lI x, .own), fr q3, fr q4] =
      .ok .nx [some (tI f, .frz), some (tI g, .frz), some (lI (addF x (zs k ++ mulQ (f.drop k) g)), .own), fr r3, fr r4]
  | 0, k, x, q3, q4, h, _ => ⟨q3, q4, by
    rw [addF_zero]
    · rfl
    · rw [List.drop_of_length_le (by omega)]; simp [mulQ]⟩
  | m + 1, k, x, q3, q4, h, hx => by
    have hk : k < f.length := by omega
    obtain ⟨a, ha⟩ : ∃ a, f[k]? = some a := ⟨f[k], List.getElem?_eq_getElem hk⟩
    obtain ⟨s4, e⟩ := tInner (C := C) (f := f) (g := g) ha (hm a (List.mem_of_getElem? ha)) g.length 0 x q4 (by omega) (by omega)
    obtain ⟨r3, r4, ih⟩ := tOuter hg hm m (k + 1) (addF x (zs k ++ g.map fun b => a * b)) (some (.int (k : Nat))) s4 (by omega) (by rw [addF_len]; exact hx)
    refine ⟨r3, r4, ?_⟩
    rw [rgF_succ]
    have hr : rangeO [.int (g.length : Nat)] = some (rgF 0 g.length) := by rw [rangeO1 (by omega), rg_rgF]
    rw [forL_cons (m1 := [some (tI f, .frz), some (tI g, .frz), some (lI x, .own), some (.int (k : Nat), .frz), fr q4]) (m2 := [some (tI f, .frz), some (tI g, .frz), some (lI (addF x (zs k ++ g.map fun b => a * b)), .own), fr (some (.int (k : Nat))), fr s4])]
    · rw [ih, ← addF_addL, addL_shift]
      have hd : f.drop k = a :: f.drop (k + 1) := by
        rw [List.drop_eq_getElem_cons hk]
        rw [List.getElem?_eq_getElem hk] at ha
        rw [Option.some.inj ha]
      rw [hd]
      rfl
    · cases q3 <;> simp [fr, setT, bindR, -List.map_map]
    · refine (run_cons ?_).trans run_nil
      simp only [exec]
      rw [bind_ok (m' := [some (tI f, .frz), some (tI g, .frz), some (lI x, .own), some (.int (k : Nat), .frz), fr q4]) (a := rgF 0 g.length) (by simp [evI, evFs, evAs, rdAs, ev, argOf, bindR, hr])]
      exact e
theorem times {c : Nat} (hio : C.io c 0 = false) {f g : List Int} (hl : f.length + g.length ≤ 1000000) (hm : ∀ a ∈ f, ∀ b ∈ g, mulOk a b = true)
    (hc : ∀ xs : List Int, xs.length = f.length + g.length → C.call c [(lI xs, .frz)] = .ok (tI (trimP xs)) false []) : runFn C ⟨2, 5, bTimes c⟩ [(tI f, .frz), (tI g, .frz)] = .ok (tI (timesP f g)) false [] := by
  have ln := mulQ_le f g
  obtain ⟨r3, r4, ih⟩ := tOuter (C := C) (f := f) (g := g) (by omega) hm f.length 0 (zs (f.length + g.length)) none none (by omega) (by simp)
  rw [show zs 0 ++ mulQ (f.drop 0) g = mulQ f g by simp [zs], addF_zs _ _ ln] at ih
  refine (run_fn rfl (m := [some (tI f, .frz), some (tI g, .frz), some (lI (mulQ f g ++ zs (f.length + g.length - (mulQ f g).length)), .frz), fr r3, fr r4]) (d := tI (timesP f g)) (o := false) ?_).trans rfl
  show execs C (bTimes c) [some (tI f, .frz), some (tI g, .frz), none, none, none] = _
  unfold bTimes
  have m0 : op2 .mul (.lst [.int 0]) (.int ((f.length : Int) + (g.length : Int))) = some (lI (zs (f.length + g.length)), true) := mul_zs (by omega) (by omega) (by omega)
  have hr : rangeO [.int (f.length : Nat)] = some (rgF 0 f.length) := by rw [rangeO1 (by omega), rg_rgF]
  rw [run_cons (m' := [some (tI f, .frz), some (tI g, .frz), some (lI (zs (f.length + g.length)), .own), none, none]) (by
    simp only [exec, ev, argOf]
    simp [evAs, evFs, ev, argOf, rdAs, bindR, m0, -List.map_replicate])]
  rw [run_cons (by
    simp only [exec]
    rw [bind_ok (m' := [some (tI f, .frz), some (tI g, .frz), some (lI (zs (f.length + g.length)), .own), none, none]) (a := rgF 0 f.length) (by simp [evI, evFs, evAs, rdAs, ev, argOf, bindR, hr, -List.map_replicate])]
    exact ih)]
  refine run_end ?_
  have hc2 := hc (mulQ f g ++ zs (f.length + g.length - (mulQ f g).length)) (by simp; omega)
  rw [trim_zs] at hc2
  simp [exec, evMv, ev, evCs, argOf, bindR, hio, callMR, inArgs, lends, lendOk, poison, putBack, hc2, timesP, -List.map_append, -List.map_replicate]
end
end Lb

set_option Elab.async false
set_option linter.all false
set_option maxRecDepth 1000000
set_option autoImplicit false
set_option maxHeartbeats 4000000
namespace Lb
open Mi
/-! ### greatest divisors, plain -/
def lastI (xs : List Int) : Int := xs.getLastD 0
def contP (xs : List Int) : Int := xs.foldl (fun a b => (Int.gcd a b : Int)) 0
def primP (xs : List Int) : Option (List Int) := match xs with
  | [] => some []
  | x :: r => if divOk (if 0 < lastI (x :: r) then contP (x :: r) else -contP (x :: r)) = true then some ((x :: r).map fun a => a.fdiv (if 0 < lastI (x :: r) then contP (x :: r) else -contP (x :: r))) else none
def restS (f g : List Int) : Option (List Int) :=
  if divOk (Int.gcd (lastI f) (lastI g) : Int) = true then
    if (f.all fun a => mulOk ((lastI g).fdiv (Int.gcd (lastI f) (lastI g) : Int)) a) && (g.all fun a => mulOk ((lastI f).fdiv (Int.gcd (lastI f) (lastI g) : Int)) a) then
      some (trimP (addF (f.map fun a => (lastI g).fdiv (Int.gcd (lastI f) (lastI g) : Int) * a) (zs (f.length - g.length) ++ g.map fun a => -((lastI f).fdiv (Int.gcd (lastI f) (lastI g) : Int) * a))))
    else none
  else none
def restP : Nat → List Int → List Int → Option (List Int)
  | 0, _, _ => none
  | n + 1, f, g => if g.length ≤ f.length then (restS f g).bind fun r => restP n r g else some f
def gcdL (rn : Nat) : Nat → List Int → List Int → Option (List Int)
  | 0, _, _ => none
  | n + 1, f, g => if g = [] then some f else (restP rn f g).bind fun r => (primP r).bind fun r2 => gcdL rn n g r2
def gcdP (rn n : Nat) (f g : List Int) : Option (List Int) := (primP f).bind fun a => (primP g).bind fun b => gcdL rn n a b
/-! ### slots -/
def isBor : Option (D × Fl) → Bool
  | some (_, .bor) => true
  | _ => false
@[simp] theorem isBor_fr (q : Option D) : isBor (fr q) = false := by cases q <;> rfl
@[simp] theorem isBor_none : isBor none = false := rfl
@[simp] theorem isBor_frz (d : D) : isBor (some (d, .frz)) = false := rfl
@[simp] theorem isBor_own (d : D) : isBor (some (d, .own)) = false := rfl
@[simp] theorem fr_s (d : D) : fr (some d) = some (d, .frz) := rfl
theorem stVE (i : Nat) (d : D) (f : Fl) (m : MS) : stV i d f m = match m[i]? with
    | none => R.bad
    | some o => if isBor o = true then R.bad else R.ok () (m.set i (some (d, f))) := by
  show (match m[i]? with
    | some (some (_, .bor)) => R.bad
    | some _ => R.ok () (m.set i (some (d, f)))
    | none => R.bad) = _
  cases h : m[i]? with
  | none => rfl
  | some o =>
    cases o with
    | none => rfl
    | some p =>
      obtain ⟨d', f'⟩ := p
      cases f' <;> rfl
theorem atL_last {xs : List Int} (h : xs ≠ []) : atL (xs.map D.int) (-1) = some (.int (lastI xs)) := by
  have hl : 0 < xs.length := List.length_pos_iff.mpr h
  unfold atL ixN
  rw [List.length_map, if_neg (by omega), if_pos (by omega)]
  show (xs.map D.int)[(-1 + (xs.length : Int)).toNat]? = _
  rw [show (-1 + (xs.length : Int)).toNat = xs.length - 1 by omega, List.getElem?_map, ← List.getLast?_eq_getElem?]
  unfold lastI
  rw [List.getLastD_eq_getLast?]
  cases e : xs.getLast? with
  | none => rw [List.getLast?_eq_none_iff] at e; exact absurd e h
  | some a => rfl
def bContent : Ss := .cons (.asg (.nm 1) (.int 0)) (.cons (.frr (.nm 2) (.ex (.var 0)) (.cons (.asg (.nm 1) (.bi .gcd (.cons (.var 1) (.cons (.var 2) .nil)))) .nil)) (.cons (.ret (.var 1)) .nil))
section
variable {C : Calls} {n : Nat}
theorem contL {f : List Int} : ∀ (xs : List Int) (a : Int) (q2 : Option D), ∃ r2, forL (setT (.nm 2)) (execs C (.cons (.asg (.nm 1) (.bi .gcd (.cons (.var 1) (.cons (.var 2) .nil)))) .nil)) (xs.map D.int) [some (tI f, .frz), some (.int a, .frz), fr q2] =
    .ok .nx [some (tI f, .frz), some (.int (xs.foldl (fun a b => (Int.gcd a b : Int)) a), .frz), fr r2]
  | [], a, q2 => ⟨q2, rfl⟩
  | x :: xs, a, q2 => by
    obtain ⟨r2, ih⟩ := contL (f := f) xs (Int.gcd a x : Int) (some (.int x))
    refine ⟨r2, ?_⟩
    show forL _ _ (.int x :: xs.map D.int) _ = _
    rw [forL_cons (m1 := [some (tI f, .frz), some (.int a, .frz), some (.int x, .frz)]) (m2 := [some (tI f, .frz), some (.int (Int.gcd a x : Int), .frz), fr (some (.int x))])]
    · exact ih
    · simp [setT, bindR, stVE, -stVR]
    · simp [execs, exec, ev, evAs, rdAs, argOf, bindR]
theorem content {f : List Int} : runFn C ⟨1, 3, bContent⟩ [(tI f, .frz)] = .ok (.int (contP f)) false [] := by
  obtain ⟨r2, e⟩ := contL (C := C) (f := f) f 0 none
  refine (run_fn rfl (m := [some (tI f, .frz), some (.int (contP f), .frz), fr r2]) (d := .int (contP f)) (o := false) ?_).trans rfl
  show execs C bContent [some (tI f, .frz), none, none] = _
  unfold bContent
  rw [run_cons (m' := [some (tI f, .frz), some (.int 0, .frz), none]) (by simp [exec, ev, bindR])]
  rw [run_cons (by
    simp only [exec]
    rw [bind_ok (m' := [some (tI f, .frz), some (.int 0, .frz), none]) (a := f.map D.int) (by simp [evI, ev, bindR])]
    exact e)]
  refine run_end ?_
  simp [exec, evMv, bindR, contP]
def bPrimitive (c : Nat) : Ss := .cons (.ifs (.cmp .eq (.var 0) (.tup .nil)) (.cons (.ret (.tup .nil)) .nil) .nil) (.cons (.asg (.nm 1) (.ife (.cmp .gt (.idx (.var 0) (.neg (.int 1))) (.int 0)) (.call c (.cons (.var 0) .nil)) (.neg (.call c (.cons (.var 0) .nil))))) (.cons (.ret (.bi .tuple (.cons (.comp [2] (.nm 2) (.ex (.var 0)) .nil (.op .fdiv (.var 2) (.var 1))) .nil))) .nil))
theorem primitive {c : Nat} (hio : C.io c 0 = false) {f r : List Int} (hl : f.length ≤ 1000000) (h : primP f = some r) (hc : C.call c [(tI f, .frz)] = .ok (.int (contP f)) false []) : runFn C ⟨1, 3, bPrimitive c⟩ [(tI f, .frz)] = .ok (tI r) false [] := by
  have c1 : cm2 .eq (tI f) (.tup []) = some (decide (f = [])) := cm_tup f []
  cases f with
  | nil =>
    cases h
    refine (run_fn rfl (m := [some (tI [], .frz), none, none]) (d := tI []) (o := false) ?_).trans rfl
    show execs C (bPrimitive c) [some (tI [], .frz), none, none] = _
    unfold bPrimitive
    refine run_end ?_
    have c3 : cm2 .eq (tI []) (.tup []) = some true := rfl
    simp [exec, execs, evMv, ev, evFs, argOf, bindR, c3]
  | cons x f =>
    have h : (if divOk (if 0 < lastI (x :: f) then contP (x :: f) else -contP (x :: f)) = true then some ((x :: f).map fun a => a.fdiv (if 0 < lastI (x :: f) then contP (x :: f) else -contP (x :: f))) else none) = some r := h
    generalize hby : (if 0 < lastI (x :: f) then contP (x :: f) else -contP (x :: f)) = by_ at h
    split at h
    · rename_i hd
      have e2 : (x :: f).map (fun a => a.fdiv by_) = r := Option.some.inj h
      subst e2
      have hne : x :: f ≠ [] := fun z => by cases z
      generalize hg : x :: f = g at *
      have c1 : cm2 .eq (tI g) (.tup []) = some false := by rw [c1, decide_eq_false hne]
      have e1 := atL_last hne
      refine (run_fn rfl (m := [some (tI g, .frz), some (.int by_, .frz), none]) (d := tI (g.map fun a => a.fdiv by_)) (o := false) ?_).trans rfl
      show execs C (bPrimitive c) [some (tI g, .frz), none, none] = _
      unfold bPrimitive
      rw [run_cons (m' := [some (tI g, .frz), none, none]) (by simp [exec, execs, ev, evFs, argOf, bindR, c1])]
      rw [run_cons (m' := [some (tI g, .frz), some (.int by_, .frz), none]) (by
        by_cases h0 : 0 < lastI g
        · rw [if_pos h0] at hby
          subst hby
          simp [exec, ev, evCs, argOf, bindR, e1, h0, hio, callMR, inArgs, lends, lendOk, poison, putBack, hc]
        · rw [if_neg h0] at hby
          subst hby
          simp [exec, ev, evCs, argOf, bindR, e1, h0, hio, callMR, inArgs, lends, lendOk, poison, putBack, hc])]
      refine run_end ?_
      have kc : ev C (.comp [2] (.nm 2) (.ex (.var 0)) .nil (.op .fdiv (.var 2) (.var 1))) [some (tI g, .frz), some (.int by_, .frz), none] = .ok (lI (g.map fun a => a.fdiv by_), true) [some (tI g, .frz), some (.int by_, .frz), none] := by
        refine ev_comp (m1 := [some (tI g, .frz), some (.int by_, .frz), none]) (xs := g.map D.int) (by simp [evI, ev, bindR]) ?_
        simp only [evB]
        rw [compM_map (m1 := fun x => [some (tI g, .frz), some (.int by_, .frz), some (x, .frz)]) (g := fun x => match x with
          | .int i => .int (i.fdiv by_)
          | x => x) (o := fun _ => false) (by rw [List.length_map]; exact Nat.le_trans hl (by decide)) fun x hx => ⟨rfl, by
            obtain ⟨i, hi, rfl⟩ := List.mem_map.mp hx
            simp [ev, argOf, bindR, op_fdivI hd], rfl⟩]
        rw [List.map_map]
        show R.ok (D.lst (g.map _), true) _ = R.ok (D.lst ((g.map _).map D.int), true) _
        rw [List.map_map]
        rfl
      simp only [exec, evMv]
      rw [bind_ok (m' := [some (tI g, .frz), some (.int by_, .frz), none]) (a := (tI (g.map fun a => a.fdiv by_), false))]
      · rfl
      · simp only [ev, evAs]
        have ka := argOf_val (e := .comp [2] (.nm 2) (.ex (.var 0)) .nil (.op .fdiv (.var 2) (.var 1))) rfl kc
        simp only [ev] at ka
        rw [bind_ok (by rw [bind_ok ka]; rfl)]
        simp [rdAs, bindR, -List.map_map]
    · cases h
end
end Lb

set_option Elab.async false
set_option linter.all false
set_option maxRecDepth 1000000
set_option autoImplicit false
set_option maxHeartbeats 4000000
namespace Lb
open Mi
def bRestB (c : Nat) : Ss := .cons (.asg (.nm 3) (.bi .gcd (.cons (.idx (.var 2) (.neg (.int 1))) (.cons (.idx (.var 1) (.neg (.int 1))) .nil)))) (.cons (.asg (.tp (.cons (.nm 5) (.cons (.nm 6) (.cons (.nm 7) .nil)))) (.tup (.cons (.op .fdiv (.idx (.var 1) (.neg (.int 1))) (.var 3)) (.cons (.op .fdiv (.idx (.var 2) (.neg (.int 1))) (.var 3)) (.cons (.op .sub (.bi .len (.cons (.var 2) .nil)) (.bi .len (.cons (.var 1) .nil))) .nil))))) (.cons (.asg (.nm 4) (.comp [9] (.nm 9) (.ex (.var 2)) .nil (.op .mul (.var 5) (.var 9)))) (.cons (.frr (.tp (.cons (.nm 8) (.cons (.nm 9) .nil))) (.enum (.var 1)) (bInner .sub 4 7 8 6 9)) (.cons (.asg (.nm 2) (.call c (.cons (.var 4) .nil))) .nil))))
def bRest (c : Nat) : Ss := .cons (.asg (.nm 2) (.var 0)) (.cons (.whl (.cmp .ge (.bi .len (.cons (.var 2) .nil)) (.bi .len (.cons (.var 1) .nil))) (bRestB c)) (.cons (.ret (.var 2)) .nil))
section
variable {C : Calls} {n : Nat}
theorem rInner {o g : List Int} {l b3 b5 : D} {t : Int} {k : Nat} : ∀ (ys : List Int) (p : Nat) (x : List Int) (q8 q9 : Option D), k + p + ys.length ≤ x.length → (∀ b ∈ ys, mulOk t b = true) → ∃ r8 r9,
    forL (setT (.tp (.cons (.nm 8) (.cons (.nm 9) .nil)))) (execs C (bInner .sub 4 7 8 6 9)) (enumD p (ys.map D.int)) [some (tI o, .frz), some (tI g, .frz), some (l, .frz), some (b3, .frz), some (lI x, .own), some (b5, .frz), some (.int t, .frz), some (.int (k : Nat), .frz), fr q8, fr q9] =
      .ok .nx [some (tI o, .frz), some (tI g, .frz), some (l, .frz), some (b3, .frz), some (lI (addF x (zs (k + p) ++ ys.map fun b => -(t * b))), .own), some (b5, .frz), some (.int t, .frz), some (.int (k : Nat), .frz), fr r8, fr r9]
  | [], p, x, q8, q9, _, _ => ⟨q8, q9, by
    rw [addF_zero]
    · rfl
    · simp⟩
  | y :: ys, p, x, q8, q9, h, hm => by
    have hk : k + p < x.length := by simp at h; omega
    have e1 : atL (x.map D.int) ((k : Int) + (p : Int)) = some (.int (x.getD (k + p) 0)) := atL_at hk
    have e2 : ixN x.length ((k : Int) + (p : Int)) = some (k + p) := ixN_nat hk
    have e3 := op_mulI (hm y List.mem_cons_self)
    obtain ⟨r8, r9, ih⟩ := rInner (o := o) (g := g) (l := l) (b3 := b3) (b5 := b5) (t := t) (k := k) ys (p + 1) (x.set (k + p) (x.getD (k + p) 0 + -(t * y))) (some (.int p)) (some (.int y)) (by rw [List.length_set]; simp at h; omega) fun b hb => hm b (List.mem_cons_of_mem _ hb)
    refine ⟨r8, r9, ?_⟩
    show forL _ _ (.tupn [.int (p : Nat), .int y] :: enumD (p + 1) (ys.map D.int)) _ = _
    rw [forL_cons (m1 := [some (tI o, .frz), some (tI g, .frz), some (l, .frz), some (b3, .frz), some (lI x, .own), some (b5, .frz), some (.int t, .frz), some (.int (k : Nat), .frz), some (.int (p : Nat), .frz), some (.int y, .frz)])
      (m2 := [some (tI o, .frz), some (tI g, .frz), some (l, .frz), some (b3, .frz), some (lI (x.set (k + p) (x.getD (k + p) 0 + -(t * y))), .own), some (b5, .frz), some (.int t, .frz), some (.int (k : Nat), .frz), fr (some (.int (p : Nat))), fr (some (.int y))])]
    · rw [ih, addF_set, ← addF_addL, show k + (p + 1) = (k + p) + 1 by omega, addL_shift]
      have e : addL [-(t * y)] (0 :: ys.map fun b => -(t * b)) = (y :: ys).map fun b => -(t * b) := by
        show (-(t * y) + 0) :: addL [] _ = _
        rw [addL_nil', Int.add_zero]
        rfl
      rw [e]
    · simp [setT, setTs, bindR, stVE, -stVR, -List.map_map]
    · unfold bInner
      simp [execs, exec, ev, argOf, bindR, updLR, e1, e2, e3, aug2, List.map_set, Int.sub_eq_add_neg, -List.map_map, -List.getD_eq_getElem?_getD]
theorem restB {c : Nat} (hio : C.io c 0 = false) {o f g r : List Int} {q3 q4 q5 q6 q7 q8 q9 : Option D} (hg0 : g ≠ []) (hle : g.length ≤ f.length) (hL : f.length ≤ 1000000) (h : restS f g = some r)
    (hc : ∀ xs : List Int, xs.length = f.length → C.call c [(lI xs, .frz)] = .ok (tI (trimP xs)) false []) : ∃ r3 r4 r5 r6 r7 r8 r9,
    execs C (bRestB c) [some (tI o, .frz), some (tI g, .frz), some (tI f, .frz), fr q3, fr q4, fr q5, fr q6, fr q7, fr q8, fr q9] =
      .ok .nx [some (tI o, .frz), some (tI g, .frz), some (tI r, .frz), fr r3, fr r4, fr r5, fr r6, fr r7, fr r8, fr r9] := by
  have lg : 0 < g.length := List.length_pos_iff.mpr hg0
  have hf0 : f ≠ [] := fun z => by rw [z, List.length_nil] at hle; omega
  unfold restS at h
  split at h
  · rename_i hd
    split at h
    · rename_i hm
      have e := Option.some.inj h
      clear h
      generalize hby : (Int.gcd (lastI f) (lastI g) : Int) = by_ at *
      generalize hkp : (lastI g).fdiv by_ = kp at *
      generalize htk : (lastI f).fdiv by_ = tk at *
      rw [Bool.and_eq_true] at hm
      have hm1 := List.all_eq_true.mp hm.1
      have hm2 := List.all_eq_true.mp hm.2
      have ef := atL_last hf0
      have eg := atL_last hg0
      have d1 := op_fdivI (i := lastI g) hd
      have d2 := op_fdivI (i := lastI f) hd
      rw [hkp] at d1
      rw [htk] at d2
      have ea : ((f.length : Int) - (g.length : Int)) = ((f.length - g.length : Nat) : Int) := by omega
      obtain ⟨r8, r9, ih⟩ := rInner (C := C) (o := o) (g := g) (l := tI f) (b3 := .int by_) (b5 := .int kp) (t := tk) (k := f.length - g.length) g 0 (f.map fun a => kp * a) q8 q9 (by rw [List.length_map]; omega) hm2
      rw [Nat.add_zero] at ih
      refine ⟨some (.int by_), some (lI (addF (f.map fun a => kp * a) (zs (f.length - g.length) ++ g.map fun a => -(tk * a)))), some (.int kp), some (.int tk), some (.int (f.length - g.length : Nat)), r8, r9, ?_⟩
      unfold bRestB
      rw [run_cons (m' := [some (tI o, .frz), some (tI g, .frz), some (tI f, .frz), some (.int by_, .frz), fr q4, fr q5, fr q6, fr q7, fr q8, fr q9]) (by
        simp [exec, ev, evAs, rdAs, argOf, bindR, ef, eg, hby, stVE, -stVR])]
      rw [run_cons (m' := [some (tI o, .frz), some (tI g, .frz), some (tI f, .frz), some (.int by_, .frz), fr q4, some (.int kp, .frz), some (.int tk, .frz), some (.int (f.length - g.length : Nat), .frz), fr q8, fr q9]) (by
        simp [exec, ev, evAs, evFs, rdAs, argOf, bindR, ef, eg, d1, d2, setT, setTs, ea, stVE, -stVR])]
      have kc : ev C (.comp [9] (.nm 9) (.ex (.var 2)) .nil (.op .mul (.var 5) (.var 9))) [some (tI o, .frz), some (tI g, .frz), some (tI f, .frz), some (.int by_, .frz), fr q4, some (.int kp, .frz), some (.int tk, .frz), some (.int (f.length - g.length : Nat), .frz), fr q8, fr q9] =
          .ok (lI (f.map fun a => kp * a), true) [some (tI o, .frz), some (tI g, .frz), some (tI f, .frz), some (.int by_, .frz), fr q4, some (.int kp, .frz), some (.int tk, .frz), some (.int (f.length - g.length : Nat), .frz), fr q8, fr q9] := by
        refine ev_comp (m1 := [some (tI o, .frz), some (tI g, .frz), some (tI f, .frz), some (.int by_, .frz), fr q4, some (.int kp, .frz), some (.int tk, .frz), some (.int (f.length - g.length : Nat), .frz), fr q8, fr q9]) (xs := f.map D.int) (by simp [evI, ev, bindR]) ?_
        simp only [evB]
        rw [compM_map (m1 := fun x => [some (tI o, .frz), some (tI g, .frz), some (tI f, .frz), some (.int by_, .frz), fr q4, some (.int kp, .frz), some (.int tk, .frz), some (.int (f.length - g.length : Nat), .frz), fr q8, some (x, .frz)]) (g := fun x => match x with
          | .int i => .int (kp * i)
          | x => x) (o := fun _ => false) (by rw [List.length_map]; exact Nat.le_trans hL (by decide)) fun x hx => ⟨rfl, by
            obtain ⟨i, hi, rfl⟩ := List.mem_map.mp hx
            simp [ev, argOf, bindR, op_mulI (hm1 i hi)], rfl⟩]
        rw [List.map_map]
        show R.ok (D.lst (f.map _), true) _ = R.ok (D.lst ((f.map _).map D.int), true) _
        rw [List.map_map]
        rfl
      rw [run_cons (m' := [some (tI o, .frz), some (tI g, .frz), some (tI f, .frz), some (.int by_, .frz), some (lI (f.map fun a => kp * a), .own), some (.int kp, .frz), some (.int tk, .frz), some (.int (f.length - g.length : Nat), .frz), fr q8, fr q9]) (by
        simp only [exec]
        rw [bind_ok kc]
        simp [bindR, stVE, -stVR, -List.map_map])]
      rw [run_cons (by
        simp only [exec]
        rw [bind_ok (m' := [some (tI o, .frz), some (tI g, .frz), some (tI f, .frz), some (.int by_, .frz), some (lI (f.map fun a => kp * a), .own), some (.int kp, .frz), some (.int tk, .frz), some (.int (f.length - g.length : Nat), .frz), fr q8, fr q9]) (a := enumD 0 (g.map D.int)) (by simp [evI, ev, bindR])]
        exact ih)]
      have hc2 := hc (addF (f.map fun a => kp * a) (zs (f.length - g.length) ++ g.map fun a => -(tk * a))) (by rw [addF_len, List.length_map])
      rw [e] at hc2
      rw [run_cons (m' := [some (tI o, .frz), some (tI g, .frz), some (tI r, .frz), some (.int by_, .frz), some (lI (addF (f.map fun a => kp * a) (zs (f.length - g.length) ++ g.map fun a => -(tk * a))), .frz), some (.int kp, .frz), some (.int tk, .frz), some (.int (f.length - g.length : Nat), .frz), fr r8, fr r9]) (by
        simp [exec, ev, evCs, argOf, bindR, hio, callMR, inArgs, lends, lendOk, poison, putBack, hc2, stVE, -stVR])]
      rw [run_nil]
      rfl
    · cases h
  · cases h
theorem trim_len (xs : List Int) : (trimP xs).length ≤ xs.length := by
  rw [← trim_take xs.length xs rfl, List.length_take]
  omega
theorem restS_len {f g r : List Int} (h : restS f g = some r) : r.length ≤ f.length := by
  unfold restS at h
  split at h
  · split at h
    · rw [← Option.some.inj h]
      have := trim_len (addF (f.map fun a => (lastI g).fdiv (Int.gcd (lastI f) (lastI g) : Int) * a) (zs (f.length - g.length) ++ g.map fun a => -((lastI f).fdiv (Int.gcd (lastI f) (lastI g) : Int) * a)))
      rw [addF_len, List.length_map] at this
      exact this
    · cases h
  · cases h
theorem restL {c : Nat} (hio : C.io c 0 = false) {o g r : List Int} (hg0 : g ≠ []) {L : Nat} (hL : L ≤ 1000000) (hc : ∀ xs : List Int, xs.length ≤ L → C.call c [(lI xs, .frz)] = .ok (tI (trimP xs)) false []) :
    ∀ (k n : Nat) (f : List Int) (q3 q4 q5 q6 q7 q8 q9 : Option D), f.length ≤ L → k ≤ n → restP k f g = some r → ∃ r3 r4 r5 r6 r7 r8 r9,
    whN (do
      let p ← ev C (.cmp .ge (.bi .len (.cons (.var 2) .nil)) (.bi .len (.cons (.var 1) .nil)))
      asB p.1) (execs C (bRestB c)) n [some (tI o, .frz), some (tI g, .frz), some (tI f, .frz), fr q3, fr q4, fr q5, fr q6, fr q7, fr q8, fr q9] =
      .ok .nx [some (tI o, .frz), some (tI g, .frz), some (tI r, .frz), fr r3, fr r4, fr r5, fr r6, fr r7, fr r8, fr r9]
  | 0, n, f, q3, q4, q5, q6, q7, q8, q9, _, _, h => by cases h
  | k + 1, 0, f, q3, q4, q5, q6, q7, q8, q9, _, hk, h => by omega
  | k + 1, n + 1, f, q3, q4, q5, q6, q7, q8, q9, hf, hk, h => by
    unfold restP at h
    split at h
    · rename_i hle
      cases hs : restS f g with
      | none => rw [hs] at h; cases h
      | some r1 =>
        rw [hs] at h
        have h : restP k r1 g = some r := h
        obtain ⟨s3, s4, s5, s6, s7, s8, s9, e⟩ := restB (C := C) (o := o) (q3 := q3) (q4 := q4) (q5 := q5) (q6 := q6) (q7 := q7) (q8 := q8) (q9 := q9) hio hg0 hle (by omega) hs fun xs hx => hc xs (by omega)
        obtain ⟨r3, r4, r5, r6, r7, r8, r9, e2⟩ := restL (o := o) hio hg0 hL hc k n r1 s3 s4 s5 s6 s7 s8 s9 (by have := restS_len hs; omega) (by omega) h
        refine ⟨r3, r4, r5, r6, r7, r8, r9, (whN_go ?_ e).trans e2⟩
        simp [ev, evAs, rdAs, argOf, bindR, hle]
    · rename_i hle
      cases h
      refine ⟨q3, q4, q5, q6, q7, q8, q9, whN_stop ?_⟩
      simp [ev, evAs, rdAs, argOf, bindR, hle]
theorem rest_of {c : Nat} (hW : C.whl = Wn n) (hio : C.io c 0 = false) {f g r : List Int} (hg0 : g ≠ []) (hL : f.length ≤ 1000000) (hc : ∀ xs : List Int, xs.length ≤ f.length → C.call c [(lI xs, .frz)] = .ok (tI (trimP xs)) false []) {k : Nat} (hk : k ≤ n)
    (h : restP k f g = some r) : runFn C ⟨2, 10, bRest c⟩ [(tI f, .frz), (tI g, .frz)] = .ok (tI r) false [] := by
  obtain ⟨r3, r4, r5, r6, r7, r8, r9, e⟩ := restL (C := C) (o := f) hio hg0 hL hc k n f none none none none none none none (Nat.le_refl _) hk h
  refine (run_fn rfl (m := [some (tI f, .frz), some (tI g, .frz), some (tI r, .frz), fr r3, fr r4, fr r5, fr r6, fr r7, fr r8, fr r9]) (d := tI r) (o := false) ?_).trans rfl
  show execs C (bRest c) [some (tI f, .frz), some (tI g, .frz), none, none, none, none, none, none, none, none] = _
  unfold bRest
  rw [run_cons (m' := [some (tI f, .frz), some (tI g, .frz), some (tI f, .frz), fr none, fr none, fr none, fr none, fr none, fr none, fr none]) (by simp [exec, ev, bindR, fr])]
  rw [run_cons (by
    simp only [exec, hW]
    exact e)]
  refine run_end ?_
  simp [exec, evMv, bindR]
end
end Lb

set_option Elab.async false
set_option linter.all false
set_option maxRecDepth 1000000
set_option autoImplicit false
set_option maxHeartbeats 4000000
namespace Lb
open Mi
theorem primP_len {f r : List Int} (h : primP f = some r) : r.length = f.length := by
  cases f with
  | nil => cases h; rfl
  | cons x f =>
    have h : (if divOk (if 0 < lastI (x :: f) then contP (x :: f) else -contP (x :: f)) = true then some ((x :: f).map fun a => a.fdiv (if 0 < lastI (x :: f) then contP (x :: f) else -contP (x :: f))) else none) = some r := h
    generalize (if 0 < lastI (x :: f) then contP (x :: f) else -contP (x :: f)) = y at h
    split at h
    · rw [← Option.some.inj h, List.length_map]
    · cases h
theorem restP_len : ∀ {k : Nat} {f g r : List Int}, restP k f g = some r → r.length ≤ f.length
  | 0, f, g, r, h => by cases h
  | k + 1, f, g, r, h => by
    unfold restP at h
    split at h
    · cases hs : restS f g with
      | none => rw [hs] at h; cases h
      | some r1 =>
        rw [hs] at h
        have h : restP k r1 g = some r := h
        exact Nat.le_trans (restP_len h) (restS_len hs)
    · cases h
      exact Nat.le_refl _
def bGcdB (cp cr : Nat) : Ss := .cons (.par [2, 3] (.cons (.var 3) (.cons (.call cp (.cons (.call cr (.cons (.var 2) (.cons (.var 3) .nil))) .nil)) .nil))) .nil
def bGcd (cp cr : Nat) : Ss := .cons (.par [2, 3] (.cons (.call cp (.cons (.var 0) .nil)) (.cons (.call cp (.cons (.var 1) .nil)) .nil))) (.cons (.whl (.cmp .ne (.var 3) (.tup .nil)) (bGcdB cp cr)) (.cons (.ret (.var 2)) .nil))
section
variable {C : Calls} {n : Nat}
theorem gcdLoop {cp cr rn L : Nat} (hp0 : C.io cp 0 = false) (hr0 : C.io cr 0 = false) (hr1 : C.io cr 1 = false) {o p : List Int}
    (hp : ∀ f r : List Int, f.length ≤ L → primP f = some r → C.call cp [(tI f, .frz)] = .ok (tI r) false [])
    (hr : ∀ f g r : List Int, f.length ≤ L → g.length ≤ L → g ≠ [] → restP rn f g = some r → C.call cr [(tI f, .frz), (tI g, .frz)] = .ok (tI r) false []) :
    ∀ (k n : Nat) (f g r : List Int), f.length ≤ L → g.length ≤ L → k ≤ n → gcdL rn k f g = some r → ∃ g' : List Int,
    whN (do
      let p ← ev C (.cmp .ne (.var 3) (.tup .nil))
      asB p.1) (execs C (bGcdB cp cr)) n [some (tI o, .frz), some (tI p, .frz), some (tI f, .frz), some (tI g, .frz)] = .ok .nx [some (tI o, .frz), some (tI p, .frz), some (tI r, .frz), some (tI g', .frz)]
  | 0, n, f, g, r, _, _, _, h => by cases h
  | k + 1, 0, f, g, r, _, _, hk, h => by omega
  | k + 1, n + 1, f, g, r, hf, hg, hk, h => by
    unfold gcdL at h
    have c1 : cm2 .ne (tI g) (.tup []) = some (!decide (g = [])) := cm_tupN g []
    split at h
    · rename_i h0
      cases h
      subst h0
      have c1 : cm2 .ne (tI []) (.tup []) = some false := rfl
      refine ⟨[], whN_stop ?_⟩
      simp [ev, evFs, argOf, bindR, c1]
    · rename_i h0
      cases h1 : restP rn f g with
      | none => rw [h1] at h; cases h
      | some r1 =>
        rw [h1] at h
        have h : (primP r1).bind (fun r2 => gcdL rn k g r2) = some r := h
        cases h2 : primP r1 with
        | none => rw [h2] at h; cases h
        | some r2 =>
          rw [h2] at h
          have h : gcdL rn k g r2 = some r := h
          have l1 := restP_len h1
          have l2 := primP_len h2
          obtain ⟨g', e⟩ := gcdLoop (o := o) (p := p) hp0 hr0 hr1 hp hr k n g r2 r hg (by omega) (by omega) h
          refine ⟨g', (whN_go (m1 := [some (tI o, .frz), some (tI p, .frz), some (tI f, .frz), some (tI g, .frz)]) ?_ ?_).trans e⟩
          · rw [decide_eq_false h0] at c1
            simp [ev, evFs, argOf, bindR, c1]
          · unfold bGcdB
            have k1 := hr f g r1 hf hg h0 h1
            have k2 := hp r1 r2 (by omega) h2
            simp [execs, exec, evRs, stVs, ev, evCs, argOf, bindR, hp0, hr0, hr1, callMR, inArgs, lends, lendOk, poison, putBack, k1, k2]
theorem greatest {cp cr rn L : Nat} (hW : C.whl = Wn n) (hp0 : C.io cp 0 = false) (hr0 : C.io cr 0 = false) (hr1 : C.io cr 1 = false)
    (hp : ∀ f r : List Int, f.length ≤ L → primP f = some r → C.call cp [(tI f, .frz)] = .ok (tI r) false [])
    (hr : ∀ f g r : List Int, f.length ≤ L → g.length ≤ L → g ≠ [] → restP rn f g = some r → C.call cr [(tI f, .frz), (tI g, .frz)] = .ok (tI r) false []) {k : Nat} {f g r : List Int} (hf : f.length ≤ L) (hg : g.length ≤ L) (hk : k ≤ n) (h : gcdP rn k f g = some r) :
    runFn C ⟨2, 4, bGcd cp cr⟩ [(tI f, .frz), (tI g, .frz)] = .ok (tI r) false [] := by
  unfold gcdP at h
  cases h1 : primP f with
  | none => rw [h1] at h; cases h
  | some a =>
    rw [h1] at h
    have h : (primP g).bind (fun b => gcdL rn k a b) = some r := h
    cases h2 : primP g with
    | none => rw [h2] at h; cases h
    | some b =>
      rw [h2] at h
      have h : gcdL rn k a b = some r := h
      have l1 := primP_len h1
      have l2 := primP_len h2
      have k1 := hp f a hf h1
      have k2 := hp g b hg h2
      obtain ⟨g', e⟩ := gcdLoop (C := C) (o := f) (p := g) hp0 hr0 hr1 hp hr k n a b r (by omega) (by omega) hk h
      refine (run_fn rfl (m := [some (tI f, .frz), some (tI g, .frz), some (tI r, .frz), some (tI g', .frz)]) (d := tI r) (o := false) ?_).trans rfl
      show execs C (bGcd cp cr) [some (tI f, .frz), some (tI g, .frz), none, none] = _
      unfold bGcd
      rw [run_cons (m' := [some (tI f, .frz), some (tI g, .frz), some (tI a, .frz), some (tI b, .frz)]) (by
        simp [exec, evRs, stVs, ev, evCs, argOf, bindR, hp0, callMR, inArgs, lends, lendOk, poison, putBack, k1, k2])]
      rw [run_cons (by
        simp only [exec, hW]
        exact e)]
      refine run_end ?_
      simp [exec, evMv, bindR]
/-! ### derived -/
def derF : Nat → List Int → List Int
  | _, [] => []
  | k, a :: r => ((k : Int) * a) :: derF (k + 1) r
def derP : List Int → List Int
  | [] => []
  | _ :: r => derF 1 r
def bDerived : Ss := .cons (.ret (.bi .tuple (.cons (.slc (.comp [1, 2] (.tp (.cons (.nm 1) (.cons (.nm 2) .nil))) (.enum (.var 0)) .nil (.op .mul (.var 1) (.var 2))) (.some (.int 1)) .none) .nil))) .nil
def gD : D → D
  | .tupn [.int k, .int v] => .int (k * v)
  | x => x
theorem derF_map : ∀ (xs : List Int) (k : Nat), (enumD k (xs.map D.int)).map gD = (derF k xs).map D.int
  | [], _ => rfl
  | x :: xs, k => by
    show D.int ((k : Int) * x) :: (enumD (k + 1) (xs.map D.int)).map gD = _
    rw [derF_map xs (k + 1)]
    rfl
theorem enum_mem : ∀ {xs : List Int} {k : Nat} {y : D}, y ∈ enumD k (xs.map D.int) → ∃ (j : Nat) (v : Int), y = .tupn [.int (j : Nat), .int v] ∧ j < k + xs.length
  | [], _, _, h => by cases h
  | x :: xs, k, y, h => by
    have h : y ∈ D.tupn [.int (k : Nat), .int x] :: enumD (k + 1) (xs.map D.int) := h
    rcases List.mem_cons.mp h with rfl | h
    · exact ⟨k, x, rfl, by simp⟩
    · obtain ⟨j, v, e, hj⟩ := enum_mem h
      exact ⟨j, v, e, by rw [List.length_cons]; omega⟩
theorem enum_len : ∀ (xs : List D) (k : Nat), (enumD k xs).length = xs.length
  | [], _ => rfl
  | x :: xs, k => congrArg (· + 1) (enum_len xs (k + 1))
theorem derF_len : ∀ (xs : List Int) (k : Nat), (derF k xs).length = xs.length
  | [], _ => rfl
  | x :: xs, k => congrArg (· + 1) (derF_len xs (k + 1))
theorem derived {f : List Int} (hl : f.length ≤ 1000000) : runFn C ⟨1, 3, bDerived⟩ [(tI f, .frz)] = .ok (tI (derP f)) false [] := by
  have hL : f.length ≤ LINE := Nat.le_trans hl (by decide)
  refine (run_fn rfl (m := [some (tI f, .frz), none, none]) (d := tI (derP f)) (o := false) ?_).trans rfl
  show execs C bDerived [some (tI f, .frz), none, none] = _
  unfold bDerived
  refine run_end ?_
  have kc : ev C (.comp [1, 2] (.tp (.cons (.nm 1) (.cons (.nm 2) .nil))) (.enum (.var 0)) .nil (.op .mul (.var 1) (.var 2))) [some (tI f, .frz), none, none] = .ok (lI (derF 0 f), true) [some (tI f, .frz), none, none] := by
    refine ev_comp (m1 := [some (tI f, .frz), none, none]) (xs := enumD 0 (f.map D.int)) (by simp [evI, ev, bindR]) ?_
    simp only [evB]
    rw [compM_map (m1 := fun x => match x with
      | .tupn [k, v] => [some (tI f, .frz), some (k, .frz), some (v, .frz)]
      | _ => []) (g := gD) (o := fun _ => false) (by rw [enum_len, List.length_map]; exact hL) fun x hx => by
        obtain ⟨j, v, rfl, hj⟩ := enum_mem hx
        have hm : mulOk (j : Int) v = true := by
          unfold mulOk
          rw [decide_eq_true (show (j : Int).natAbs ≤ 18446744073709551615 by omega)]
          rfl
        refine ⟨?_, ?_, rfl⟩
        · simp [wipeM, setT, setTs, bindR]
        · simp [ev, argOf, bindR, op_mulI hm, gD]]
    rw [derF_map]
    rfl
  have ks : slD (some 1) none (lI (derF 0 f)) = some (lI (derP f), true) := by
    show some (D.lst (cutD ((derF 0 f).map D.int) (some ((1 : Nat) : Int)) none), true) = _
    unfold cutD
    rw [HT.sIx_none, HT.sIx_nat, List.length_map, derF_len]
    cases f with
    | nil => rfl
    | cons a r =>
      show some (D.lst ((((D.int _) :: (derF 1 r).map D.int).drop (min 1 (r.length + 1))).take _), true) = _
      rw [show min 1 (r.length + 1) = 1 by omega]
      show some (D.lst (((derF 1 r).map D.int).take (r.length + 1 - 1)), true) = _
      rw [List.take_of_length_le (by rw [List.length_map, derF_len]; omega)]
      rfl
  have ka := argOf_val (e := .comp [1, 2] (.tp (.cons (.nm 1) (.cons (.nm 2) .nil))) (.enum (.var 0)) .nil (.op .mul (.var 1) (.var 2))) rfl kc
  have kb : ev C (.slc (.comp [1, 2] (.tp (.cons (.nm 1) (.cons (.nm 2) .nil))) (.enum (.var 0)) .nil (.op .mul (.var 1) (.var 2))) (.some (.int 1)) .none) [some (tI f, .frz), none, none] = .ok (lI (derP f), true) [some (tI f, .frz), none, none] := by
    simp only [ev] at ka ⊢
    rw [bind_ok ka]
    simp [evO, ev, bindR, ks]
  simp only [exec, evMv]
  rw [bind_ok (m' := [some (tI f, .frz), none, none]) (a := (tI (derP f), false))]
  · rfl
  · have kd := argOf_val (e := .slc (.comp [1, 2] (.tp (.cons (.nm 1) (.cons (.nm 2) .nil))) (.enum (.var 0)) .nil (.op .mul (.var 1) (.var 2))) (.some (.int 1)) .none) rfl kb
    simp only [ev, evAs] at kd ⊢
    rw [bind_ok (by rw [bind_ok kd]; rfl)]
    simp [rdAs, bindR]
end
end Lb

set_option Elab.async false
set_option linter.all false
set_option maxRecDepth 1000000
set_option autoImplicit false
set_option maxHeartbeats 4000000
namespace Lb
open Mi
def exactL (g : List Int) : Nat → List Int → List Int → Option (Option (List Int × List Int))
  | 0, l, fd => some (some (l, fd))
  | k + 1, l, fd =>
    if dmOk (lastI g) = true then
      if (l.getD (k + g.length - 1) 0).fmod (lastI g) = 0 then
        if (g.all fun b => mulOk ((l.getD (k + g.length - 1) 0).fdiv (lastI g)) b) = true then
          exactL g k (addF l (zs k ++ g.map fun b => -((l.getD (k + g.length - 1) 0).fdiv (lastI g) * b))) (fd.set k ((l.getD (k + g.length - 1) 0).fdiv (lastI g)))
        else none
      else some none
    else none
def exactP (f g : List Int) : Option (Option (List Int)) :=
  if g = [] then none else (exactL g (f.length + 1 - g.length) f (zs (f.length + 1 - g.length))).map fun r => r.bind fun p => if (p.1.any (· != 0)) = true then none else some (trimP p.2)
def downF : Nat → List D
  | 0 => []
  | k + 1 => .int (k : Nat) :: downF k
theorem range_down {N : Nat} {a : Int} (e : a + 1 = (N : Int) ∨ (a + 1 ≤ 0 ∧ N = 0)) (hN : N ≤ 1000000) (ha : -1000000 ≤ a) : rangeO [.int a, .int (-1), .int (-1)] = some (downF N) := by
  have h : rangeO [.int a, .int (-1), .int (-1)] = some ((List.range (a - (-1)).toNat).map fun (k : Nat) => D.int (a - k)) := by
    unfold rangeO
    dsimp only
    rw [if_pos ⟨rfl, by omega, by omega, by omega, by omega⟩]
  rw [h, show (a - (-1)).toNat = N by omega]
  clear h
  congr 1
  rcases e with e | ⟨_, rfl⟩
  · have ea : a = (N : Int) - 1 := by omega
    subst ea
    clear e ha hN
    induction N with
    | zero => rfl
    | succ k ih =>
      rw [List.range_succ_eq_map, List.map_cons, List.map_map]
      show _ = D.int (k : Nat) :: downF k
      rw [← ih]
      congr 1
      · congr 1; omega
      · apply List.map_congr_left
        intro j _
        show D.int _ = D.int _
        congr 1
        omega
  · rfl
theorem any_ok (xs : List Int) : bi1 .any [lI xs] = some (.bl (xs.any (· != 0)), false) := by
  cases xs with
  | nil => rfl
  | cons x r =>
    show (match blsOf (D.int x :: r.map D.int) with
      | some bs => some (D.bl (bs.any id), false)
      | none => (intsOf ((x :: r).map D.int)).map fun (ns : List Int) => (D.bl (ns.any (· != 0)), false)) = _
    rw [intsOf_ints]
    rfl
theorem dm_ok {i j : Int} (h : dmOk j = true) : bi1 .divmod [.int i, .int j] = some (.tupn [.int (i.fdiv j), .int (i.fmod j)], false) := by
  show (if dmOk j = true then _ else _) = _
  rw [if_pos h]
def bExB : Ss := .cons (.asg (.tp (.cons (.nm 5) (.cons (.nm 6) .nil))) (.bi .divmod (.cons (.idx (.var 3) (.op .sub (.op .add (.var 2) (.bi .len (.cons (.var 1) .nil))) (.int 1))) (.cons (.idx (.var 1) (.neg (.int 1))) .nil)))) (.cons (.ifs (.cmp .ne (.var 6) (.int 0)) (.cons (.ret .non) .nil) .nil) (.cons (.seti 4 (.var 2) (.var 5)) (.cons (.frr (.tp (.cons (.nm 7) (.cons (.nm 8) .nil))) (.enum (.var 1)) (bInner .sub 3 2 7 5 8)) .nil)))
def bExact (ct : Nat) : Ss := .cons (.par [3, 4] (.cons (.bi .list (.cons (.var 0) .nil)) (.cons (.op .mul (.lst (.cons (.int 0) .nil)) (.bi .max (.cons (.int 0) (.cons (.op .add (.op .sub (.bi .len (.cons (.var 0) .nil)) (.bi .len (.cons (.var 1) .nil))) (.int 1)) .nil)))) .nil))) (.cons (.frr (.nm 2) (.range (.cons (.op .sub (.bi .len (.cons (.var 0) .nil)) (.bi .len (.cons (.var 1) .nil))) (.cons (.neg (.int 1)) (.cons (.neg (.int 1)) .nil)))) bExB) (.cons (.ret (.ife (.lnot (.bi .any (.cons (.var 3) .nil))) (.call ct (.cons (.var 4) .nil)) .non)) .nil))
section
variable {C : Calls} {n : Nat}
theorem xInner {o g : List Int} {b4 b6 : D} {t : Int} {k : Nat} : ∀ (ys : List Int) (p : Nat) (x : List Int) (q7 q8 : Option D), k + p + ys.length ≤ x.length → (∀ b ∈ ys, mulOk t b = true) → ∃ r7 r8,
    forL (setT (.tp (.cons (.nm 7) (.cons (.nm 8) .nil)))) (execs C (bInner .sub 3 2 7 5 8)) (enumD p (ys.map D.int)) [some (tI o, .frz), some (tI g, .frz), some (.int (k : Nat), .frz), some (lI x, .own), some (b4, .own), some (.int t, .frz), some (b6, .frz), fr q7, fr q8] =
      .ok .nx [some (tI o, .frz), some (tI g, .frz), some (.int (k : Nat), .frz), some (lI (addF x (zs (k + p) ++ ys.map fun b => -(t * b))), .own), some (b4, .own), some (.int t, .frz), some (b6, .frz), fr r7, fr r8]
  | [], p, x, q7, q8, _, _ => ⟨q7, q8, by
    rw [addF_zero]
    · rfl
    · simp⟩
  | y :: ys, p, x, q7, q8, h, hm => by
    have hk : k + p < x.length := by simp at h; omega
    have e1 : atL (x.map D.int) ((k : Int) + (p : Int)) = some (.int (x.getD (k + p) 0)) := atL_at hk
    have e2 : ixN x.length ((k : Int) + (p : Int)) = some (k + p) := ixN_nat hk
    have e3 := op_mulI (hm y List.mem_cons_self)
    obtain ⟨r7, r8, ih⟩ := xInner (o := o) (g := g) (b4 := b4) (b6 := b6) (t := t) (k := k) ys (p + 1) (x.set (k + p) (x.getD (k + p) 0 + -(t * y))) (some (.int p)) (some (.int y)) (by rw [List.length_set]; simp at h; omega) fun b hb => hm b (List.mem_cons_of_mem _ hb)
    refine ⟨r7, r8, ?_⟩
    show forL _ _ (.tupn [.int (p : Nat), .int y] :: enumD (p + 1) (ys.map D.int)) _ = _
    rw [forL_cons (m1 := [some (tI o, .frz), some (tI g, .frz), some (.int (k : Nat), .frz), some (lI x, .own), some (b4, .own), some (.int t, .frz), some (b6, .frz), some (.int (p : Nat), .frz), some (.int y, .frz)])
      (m2 := [some (tI o, .frz), some (tI g, .frz), some (.int (k : Nat), .frz), some (lI (x.set (k + p) (x.getD (k + p) 0 + -(t * y))), .own), some (b4, .own), some (.int t, .frz), some (b6, .frz), fr (some (.int (p : Nat))), fr (some (.int y))])]
    · rw [ih, addF_set, ← addF_addL, show k + (p + 1) = (k + p) + 1 by omega, addL_shift]
      have e : addL [-(t * y)] (0 :: ys.map fun b => -(t * b)) = (y :: ys).map fun b => -(t * b) := by
        show (-(t * y) + 0) :: addL [] _ = _
        rw [addL_nil', Int.add_zero]
        rfl
      rw [e]
    · simp [setT, setTs, bindR, stVE, -stVR, -List.map_map]
    · unfold bInner
      simp [execs, exec, ev, argOf, bindR, updLR, e1, e2, e3, aug2, List.map_set, Int.sub_eq_add_neg, -List.map_map, -List.getD_eq_getElem?_getD]
theorem forL_ret {tg : D → M Unit} {b : M Fw} {x : D} {xs : List D} {m m1 m2 : MS} {d : D} {o : Bool} (h1 : tg x m = .ok () m1) (h2 : b m1 = .ok (.rt d o) m2) : forL tg b (x :: xs) m = .ok (.rt d o) m2 := by
  show (tg x >>= fun _ => b >>= fun f => match f with
      | .bk => pure .nx
      | .rt d o => pure (.rt d o)
      | _ => forL tg b xs) m = _
  simp only [bindR, h1, h2]
  rfl
/-- the end of the loop: nothing to be told, or left and found -/
def XEnd (o g : List Int) (r : Option (List Int × List Int)) (h : R Fw) : Prop := match r with
  | none => ∃ m, h = .ok (.rt .non false) m
  | some (l, fd) => ∃ r2 r5 r6 r7 r8, h = .ok .nx [some (tI o, .frz), some (tI g, .frz), fr r2, some (lI l, .own), some (lI fd, .own), fr r5, fr r6, fr r7, fr r8]
theorem exLoop {o g : List Int} (hg : g ≠ []) (hgl : g.length ≤ 1000000) : ∀ (k : Nat) (l fd : List Int) (r : Option (List Int × List Int)) (q2 q5 q6 q7 q8 : Option D), k = 0 ∨ k + g.length ≤ l.length + 1 → k ≤ fd.length → exactL g k l fd = some r →
    XEnd o g r (forL (setT (.nm 2)) (execs C bExB) (downF k) [some (tI o, .frz), some (tI g, .frz), fr q2, some (lI l, .own), some (lI fd, .own), fr q5, fr q6, fr q7, fr q8])
  | 0, l, fd, r, q2, q5, q6, q7, q8, _, _, h => by
    cases h
    exact ⟨q2, q5, q6, q7, q8, rfl⟩
  | k + 1, l, fd, r, q2, q5, q6, q7, q8, hl, hf, h => by
    have lg : 0 < g.length := List.length_pos_iff.mpr hg
    unfold exactL at h
    split at h
    · rename_i hd
      have hk : k + g.length - 1 < l.length := by omega
      have e1 : atL (l.map D.int) ((k : Int) + (g.length : Int) - 1) = some (.int (l.getD (k + g.length - 1) 0)) := by
        rw [show ((k : Int) + (g.length : Int) - 1) = ((k + g.length - 1 : Nat) : Int) by omega]
        exact atL_at hk
      have eg := atL_last hg
      have ed := dm_ok (i := l.getD (k + g.length - 1) 0) hd
      generalize hv : l.getD (k + g.length - 1) 0 = v at *
      have s1 : exec C (.asg (.tp (.cons (.nm 5) (.cons (.nm 6) .nil))) (.bi .divmod (.cons (.idx (.var 3) (.op .sub (.op .add (.var 2) (.bi .len (.cons (.var 1) .nil))) (.int 1))) (.cons (.idx (.var 1) (.neg (.int 1))) .nil)))) [some (tI o, .frz), some (tI g, .frz), some (.int (k : Nat), .frz), some (lI l, .own), some (lI fd, .own), fr q5, fr q6, fr q7, fr q8] =
          .ok .nx [some (tI o, .frz), some (tI g, .frz), some (.int (k : Nat), .frz), some (lI l, .own), some (lI fd, .own), some (.int (v.fdiv (lastI g)), .frz), some (.int (v.fmod (lastI g)), .frz), fr q7, fr q8] := by
        simp [exec, ev, evAs, rdAs, argOf, bindR, e1, eg, ed, setT, setTs, stVE, -stVR, -List.map_map, -List.getD_eq_getElem?_getD]
      have tg : setT (.nm 2) (.int (k : Nat)) [some (tI o, .frz), some (tI g, .frz), fr q2, some (lI l, .own), some (lI fd, .own), fr q5, fr q6, fr q7, fr q8] = .ok () [some (tI o, .frz), some (tI g, .frz), some (.int (k : Nat), .frz), some (lI l, .own), some (lI fd, .own), fr q5, fr q6, fr q7, fr q8] := by
        simp [setT, bindR, stVE, -stVR, -List.map_map]
      split at h
      · rename_i h0
        split at h
        · rename_i hm
          have hm := List.all_eq_true.mp hm
          obtain ⟨r7, r8, e3⟩ := xInner (C := C) (o := o) (g := g) (b4 := lI (fd.set k (v.fdiv (lastI g)))) (b6 := .int (v.fmod (lastI g))) (t := v.fdiv (lastI g)) (k := k) g 0 l q7 q8 (by omega) hm
          rw [Nat.add_zero] at e3
          have ih := exLoop (o := o) hg hgl k _ _ r (some (.int (k : Nat))) (some (.int (v.fdiv (lastI g)))) (some (.int (v.fmod (lastI g)))) r7 r8 (by rw [addF_len]; omega) (by rw [List.length_set]; omega) h
          show XEnd o g r (forL _ _ (.int (k : Nat) :: downF k) _)
          rw [forL_cons tg (m2 := [some (tI o, .frz), some (tI g, .frz), fr (some (.int (k : Nat))), some (lI (addF l (zs k ++ g.map fun b => -(v.fdiv (lastI g) * b))), .own), some (lI (fd.set k (v.fdiv (lastI g))), .own), fr (some (.int (v.fdiv (lastI g)))), fr (some (.int (v.fmod (lastI g)))), fr r7, fr r8])]
          · exact ih
          · unfold bExB
            have e2 : ixN fd.length (k : Int) = some k := ixN_nat (by omega)
            rw [run_cons s1]
            rw [run_cons (m' := [some (tI o, .frz), some (tI g, .frz), some (.int (k : Nat), .frz), some (lI l, .own), some (lI fd, .own), some (.int (v.fdiv (lastI g)), .frz), some (.int (v.fmod (lastI g)), .frz), fr q7, fr q8]) (by
              simp [exec, execs, ev, argOf, bindR, h0])]
            rw [run_cons (m' := [some (tI o, .frz), some (tI g, .frz), some (.int (k : Nat), .frz), some (lI l, .own), some (lI (fd.set k (v.fdiv (lastI g))), .own), some (.int (v.fdiv (lastI g)), .frz), some (.int (v.fmod (lastI g)), .frz), fr q7, fr q8]) (by
              simp [exec, ev, argOf, bindR, updLR, e2, List.map_set, -List.map_map])]
            rw [run_cons (by
              simp only [exec]
              rw [bind_ok (m' := [some (tI o, .frz), some (tI g, .frz), some (.int (k : Nat), .frz), some (lI l, .own), some (lI (fd.set k (v.fdiv (lastI g))), .own), some (.int (v.fdiv (lastI g)), .frz), some (.int (v.fmod (lastI g)), .frz), fr q7, fr q8]) (a := enumD 0 (g.map D.int)) (by simp [evI, ev, bindR])]
              exact e3), run_nil]
            rfl
        · cases h
      · rename_i h0
        cases h
        show ∃ m, forL _ _ (.int (k : Nat) :: downF k) _ = _
        refine ⟨_, forL_ret tg (m2 := [some (tI o, .frz), some (tI g, .frz), some (.int (k : Nat), .frz), some (lI l, .own), some (lI fd, .own), some (.int (v.fdiv (lastI g)), .frz), some (.int (v.fmod (lastI g)), .frz), fr q7, fr q8]) ?_⟩
        unfold bExB
        rw [run_cons s1]
        refine run_end ?_
        simp [exec, execs, evMv, ev, argOf, bindR, h0]
    · cases h
def oD : Option (List Int) → D
  | none => .non
  | some l => tI l
theorem exact_ok {ct : Nat} (hio : C.io ct 0 = false) {f g : List Int} {r : Option (List Int)} (hf : f.length ≤ 500000) (hgl : g.length ≤ 500000) (h : exactP f g = some r)
    (hc : ∀ xs : List Int, xs.length ≤ f.length + 1 → C.call ct [(lI xs, .frz)] = .ok (tI (trimP xs)) false []) : runFn C ⟨2, 9, bExact ct⟩ [(tI f, .frz), (tI g, .frz)] = .ok (oD r) false [] := by
  unfold exactP at h
  split at h
  · cases h
  · rename_i hg
    have lg : 0 < g.length := List.length_pos_iff.mpr hg
    obtain ⟨r1, h1, h2⟩ := map_some h
    generalize hN : f.length + 1 - g.length = N at *
    have hr : rangeO [.int ((f.length : Int) - (g.length : Int)), .int (-1), .int (-1)] = some (downF N) := range_down (by omega) (by omega) (by omega)
    have s1 : exec C (.par [3, 4] (.cons (.bi .list (.cons (.var 0) .nil)) (.cons (.op .mul (.lst (.cons (.int 0) .nil)) (.bi .max (.cons (.int 0) (.cons (.op .add (.op .sub (.bi .len (.cons (.var 0) .nil)) (.bi .len (.cons (.var 1) .nil))) (.int 1)) .nil)))) .nil))) [some (tI f, .frz), some (tI g, .frz), none, none, none, none, none, none, none] =
        .ok .nx [some (tI f, .frz), some (tI g, .frz), none, some (lI f, .own), some (lI (zs N), .own), none, none, none, none] := by
      have m0 : op2 .mul (.lst [.int 0]) (.int (if (f.length : Int) - (g.length : Int) + 1 > 0 then (f.length : Int) - (g.length : Int) + 1 else 0)) = some (lI (zs N), true) := mul_zs (by split <;> omega) (by omega) (by split <;> omega)
      simp only [exec, evRs, ev, argOf]
      simp [evAs, evFs, ev, argOf, rdAs, bindR, m0, stVs, -List.map_replicate]
    have main := exLoop (C := C) (o := f) hg (by omega) N f (zs N) r1 none none none none none (by omega) (by simp) h1
    have s2 : evI C (.range (.cons (.op .sub (.bi .len (.cons (.var 0) .nil)) (.bi .len (.cons (.var 1) .nil))) (.cons (.neg (.int 1)) (.cons (.neg (.int 1)) .nil)))) [some (tI f, .frz), some (tI g, .frz), none, some (lI f, .own), some (lI (zs N), .own), none, none, none, none] =
        .ok (downF N) [some (tI f, .frz), some (tI g, .frz), none, some (lI f, .own), some (lI (zs N), .own), none, none, none, none] := by
      simp [evI, evFs, evAs, rdAs, ev, argOf, bindR, hr, -List.map_replicate]
    cases r1 with
    | none =>
      cases h2
      obtain ⟨m, e⟩ := main
      refine (run_fn rfl (m := m) (d := .non) (o := false) ?_).trans rfl
      show execs C (bExact ct) [some (tI f, .frz), some (tI g, .frz), none, none, none, none, none, none, none] = _
      unfold bExact
      rw [run_cons s1]
      refine run_end ?_
      simp only [exec]
      rw [bind_ok s2]
      exact e
    | some p =>
      obtain ⟨l, fd⟩ := p
      obtain ⟨r2, r5, r6, r7, r8, e⟩ := main
      have h2 : (if (l.any (· != 0)) = true then none else some (trimP fd)) = r := h2
      have hfd : fd.length ≤ f.length + 1 := by
        have key : ∀ (k : Nat) (l fd : List Int) (p : List Int × List Int), exactL g k l fd = some (some p) → p.2.length = fd.length := by
          intro k
          induction k with
          | zero => intro l fd p h; cases h; rfl
          | succ k ih =>
            intro l fd p h
            unfold exactL at h
            split at h
            · split at h
              · split at h
                · rw [ih _ _ _ h, List.length_set]
                · cases h
              · cases h
            · cases h
        have := key N f (zs N) (l, fd) h1
        simp at this
        omega
      have hc2 := hc fd hfd
      have run : execs C (bExact ct) [some (tI f, .frz), some (tI g, .frz), none, none, none, none, none, none, none] = .ok (.rt (oD r) false) [some (tI f, .frz), some (tI g, .frz), fr r2, some (lI l, .own), some (lI fd, if (l.any (· != 0)) = true then .own else .frz), fr r5, fr r6, fr r7, fr r8] := by
        unfold bExact
        rw [run_cons s1]
        rw [run_cons (by
          simp only [exec]
          rw [bind_ok s2]
          exact e)]
        refine run_end ?_
        have ka := any_ok l
        cases hany : l.any (· != 0) with
        | true =>
          rw [hany] at h2 ka
          subst h2
          simp [exec, evMv, ev, evAs, rdAs, argOf, bindR, ka, oD]
        | false =>
          rw [hany] at h2 ka
          subst h2
          simp [exec, evMv, ev, evAs, evCs, rdAs, argOf, bindR, ka, oD, hio, callMR, inArgs, lends, lendOk, poison, putBack, hc2]
      exact (run_fn rfl run).trans rfl
end
end Lb

set_option Elab.async false
set_option linter.all false
set_option maxRecDepth 1000000
set_option autoImplicit false
set_option maxHeartbeats 4000000
namespace Lb
open Mi
/-! ### the pot -/
def potL (ns : List Int) (a b c e : Int) : List D := .int a :: .int b :: .int c :: .int e :: ns.map D.int
section
variable {ns : List Int} {a b c e : Int}
theorem pot_len : (potL ns a b c e).length = 4 + ns.length := by unfold potL; simp; omega
theorem pot_bi : bi1 .len [.lst (potL ns a b c e)] = some (.int (4 + ns.length : Nat), false) := by
  show some (D.int ((potL ns a b c e).length : Nat), false) = _
  rw [pot_len]
theorem pot_ix (k : Nat) (h : k < 4) : ixN (potL ns a b c e).length (k : Int) = some k := ixN_nat (by rw [pot_len]; omega)
theorem pot_i0 : ixN (potL ns a b c e).length 0 = some 0 := pot_ix 0 (by omega)
theorem pot_i1 : ixN (potL ns a b c e).length 1 = some 1 := pot_ix 1 (by omega)
theorem pot_i2 : ixN (potL ns a b c e).length 2 = some 2 := pot_ix 2 (by omega)
theorem pot_i3 : ixN (potL ns a b c e).length 3 = some 3 := pot_ix 3 (by omega)
theorem pot_a0 : atL (potL ns a b c e) 0 = some (.int a) := by unfold atL; rw [pot_i0]; rfl
theorem pot_a1 : atL (potL ns a b c e) 1 = some (.int b) := by unfold atL; rw [pot_i1]; rfl
theorem pot_a2 : atL (potL ns a b c e) 2 = some (.int c) := by unfold atL; rw [pot_i2]; rfl
theorem pot_a3 : atL (potL ns a b c e) 3 = some (.int e) := by unfold atL; rw [pot_i3]; rfl
theorem pot_s0 (x : Int) : (potL ns a b c e).set 0 (.int x) = potL ns x b c e := rfl
theorem pot_s1 (x : Int) : (potL ns a b c e).set 1 (.int x) = potL ns a x c e := rfl
theorem pot_s2 (x : Int) : (potL ns a b c e).set 2 (.int x) = potL ns a b x e := rfl
theorem pot_s3 (x : Int) : (potL ns a b c e).set 3 (.int x) = potL ns a b c x := rfl
theorem pot_ae (h4 : 4 ≤ e) (h : e < 4 + (ns.length : Int)) : ∃ x, atL (potL ns a b c e) e = some (.int x) := by
  obtain ⟨k, rfl⟩ : ∃ k : Nat, e = ((k + 4 : Nat) : Int) := ⟨(e - 4).toNat, by omega⟩
  have hk : k < ns.length := by omega
  refine ⟨ns[k], ?_⟩
  unfold atL
  rw [ixN_nat (by rw [pot_len]; omega)]
  show (potL ns a b c ((k + 4 : Nat) : Int))[k + 4]? = _
  unfold potL
  simp [List.getElem?_eq_getElem hk]
end
structure PI (ns : List Int) (B : Nat) (a b c e : Int) : Prop where
  a0 : 0 ≤ a
  b0 : 0 ≤ b
  b1 : b < 2305843009213693951
  c0 : 0 ≤ c
  c1 : c ≤ B
  e0 : 4 ≤ e
  e1 : e ≤ 4 + (ns.length : Int)
theorem mul_small {i j : Int} (h : j.natAbs ≤ 18446744073709551615) : op2 .mul (.int i) (.int j) = some (.int (i * j), false) := op_mulI (by unfold mulOk; rw [decide_eq_true h]; simp)
theorem mul_smallL {i j : Int} (h : i.natAbs ≤ 18446744073709551615) : op2 .mul (.int i) (.int j) = some (.int (i * j), false) := op_mulI (by unfold mulOk; rw [decide_eq_true h]; simp)
theorem fmod_rg (i : Int) {j : Int} (h : 0 < j) : 0 ≤ i.fmod j ∧ i.fmod j < j := ⟨Int.fmod_nonneg_of_pos i h, Int.fmod_lt_of_pos i h⟩
theorem pow_ok {i : Int} {k : Nat} (hk : k ≤ 1000000) (h : i.natAbs ≤ 18446744073709551615) : op2 .pow (.int i) (.int (k : Nat)) = some (.int (i ^ k), false) := by
  show (if powOk i (k : Int) = true then some (D.int (i ^ (k : Int).toNat), false) else none) = _
  rw [Int.toNat_natCast, if_pos]
  unfold powOk
  rw [decide_eq_true (show (0 : Int) ≤ (k : Int) by omega), decide_eq_true (show (k : Int) ≤ 1000000 by omega), decide_eq_true h]
  rfl
theorem pow18 : op2 .pow (.int 10) (.int 18) = some (.int 1000000000000000000, false) := by
  have h := pow_ok (i := 10) (k := 18) (by decide) (by decide)
  rw [show ((10 : Int) ^ 18) = 1000000000000000000 by decide +kernel] at h
  exact h
def tkS1 : S := .ifs (.land (.cmp .eq (.idx (.var 0) (.int 0)) (.int 0)) (.cmp .lt (.idx (.var 0) (.int 3)) (.bi .len (.cons (.var 0) .nil)))) (.cons (.asg (.nm 3) (.idx (.var 0) (.idx (.var 0) (.int 3)))) (.cons (.augi 0 (.int 3) .add (.int 1)) (.cons (.ifs (.cmp .ge (.var 3) (.op .pow (.int 10) (.int 18))) (.cons (.seti 0 (.int 0) (.op .sub (.var 3) (.op .pow (.int 10) (.int 18)))) .nil) (.cons (.seti 0 (.int 1) (.op .mod (.bi .int (.cons (.op .add (.op .mul (.op .add (.idx (.var 0) (.int 1)) (.var 3)) (.int 1299721)) (.op .mul (.int 101) (.idx (.var 0) (.int 3)))) .nil)) (.int 2305843009213693951))) .nil)) .nil))) .nil
def bTake : Ss := .cons tkS1 (.cons (.ifs (.cmp .gt (.idx (.var 0) (.int 0)) (.int 0)) (.cons (.asg (.nm 4) (.op .mod (.bi .int (.cons (.idx (.var 0) (.int 0)) .nil)) (.var 1))) (.cons (.seti 0 (.int 0) (.op .fdiv (.idx (.var 0) (.int 0)) (.var 1))) (.cons (.ret (.var 4)) .nil))) .nil) (.cons (.augi 0 (.int 2) .add (.int 1)) (.cons (.asg (.nm 2) (.op .mod (.bi .int (.cons (.op .pow (.op .add (.idx (.var 0) (.int 1)) (.op .mul (.int 7368791) (.idx (.var 0) (.int 2)))) (.int 3)) .nil)) (.int 2305843009213693951))) (.cons (.asg (.nm 2) (.op .mod (.bi .int (.cons (.op .pow (.op .add (.var 2) (.op .mul (.int 179) (.idx (.var 0) (.int 2)))) (.int 2)) .nil)) (.int 1000000000000000003))) (.cons (.ret (.op .mod (.bi .int (.cons (.op .fdiv (.var 2) (.int 256)) .nil)) (.var 1))) .nil)))))
section
variable {C : Calls} {n : Nat}
theorem tk1 {ns : List Int} {B : Nat} {a b c e many : Int} (h : PI ns B a b c e) : ∃ a' b' e' s3, PI ns B a' b' c e' ∧
    exec C tkS1 [some (.lst (potL ns a b c e), .bor), some (.int many, .frz), none, none, none] = .ok .nx [some (.lst (potL ns a' b' c e'), .bor), some (.int many, .frz), none, fr s3, none] := by
  have l1 : ∀ i : Int, op2 .mul (.int i) (.int 1299721) = some (.int (i * 1299721), false) := fun i => mul_small (by decide)
  have l2 : ∀ i : Int, op2 .mul (.int 101) (.int i) = some (.int (101 * i), false) := fun i => mul_smallL (by decide)
  have l3 : ∀ i : Int, op2 .mod (.int i) (.int 2305843009213693951) = some (.int (i.fmod 2305843009213693951), false) := fun i => op_modI (by decide)
  unfold tkS1
  by_cases ha : a = 0
  · by_cases he : e < 4 + (ns.length : Int)
    · obtain ⟨cell, hg⟩ := pot_ae (ns := ns) (a := a) (b := b) (c := c) h.e0 he
      by_cases hc : (1000000000000000000 : Int) ≤ cell
      · refine ⟨cell - 1000000000000000000, b, e + 1, some (.int cell), ⟨by omega, h.b0, h.b1, h.c0, h.c1, by have := h.e0; omega, by omega⟩, ?_⟩
        subst ha
        have he' : e < ((potL ns 0 b c e).length : Int) := by rw [pot_len]; omega
        simp [exec, execs, ev, evAs, rdAs, argOf, bindR, updLR, aug2, pot_bi, pot_i0, pot_i1, pot_i3, pot_a0, pot_a1, pot_a3, pot_s0, pot_s1, pot_s3, hg, hc, pow18, he']
      · have hq := fmod_rg ((b + cell) * 1299721 + 101 * (e + 1)) (j := 2305843009213693951) (by decide)
        refine ⟨0, ((b + cell) * 1299721 + 101 * (e + 1)).fmod 2305843009213693951, e + 1, some (.int cell), ⟨by omega, hq.1, hq.2, h.c0, h.c1, by have := h.e0; omega, by omega⟩, ?_⟩
        subst ha
        have he' : e < ((potL ns 0 b c e).length : Int) := by rw [pot_len]; omega
        simp [exec, execs, ev, evAs, rdAs, argOf, bindR, updLR, aug2, pot_bi, pot_i0, pot_i1, pot_i3, pot_a0, pot_a1, pot_a3, pot_s0, pot_s1, pot_s3, hg, hc, pow18, he', l1, l2, l3]
    · refine ⟨a, b, e, none, h, ?_⟩
      subst ha
      have he' : ¬ e < ((potL ns 0 b c e).length : Int) := by rw [pot_len]; omega
      simp [exec, execs, ev, evAs, rdAs, argOf, bindR, pot_bi, pot_a0, pot_a3, he', fr]
  · refine ⟨a, b, e, none, h, ?_⟩
    simp [exec, execs, ev, evAs, rdAs, argOf, bindR, pot_a0, ha, fr]
theorem take_big {ns : List Int} {B : Nat} {a b c e many : Int} (h : PI ns B a b c e) (hB : B ≤ 1000000000) (h1 : 1 ≤ many) (hdo : divOk many = true) : ∃ r a' b' c' e', runFn C ⟨2, 5, bTake⟩ [(.lst (potL ns a b c e), .bor), (.int many, .frz)] = .ok (.int r) false [some (.lst (potL ns a' b' c' e'))] ∧
    PI ns (B + 1) a' b' c' e' ∧ 0 ≤ r ∧ r < many := by
  obtain ⟨a1, b1, e1, s3, i1, k1⟩ := tk1 (C := C) (many := many) h
  have hm0 : many ≠ 0 := by omega
  have hmod : ∀ i : Int, op2 .mod (.int i) (.int many) = some (.int (i.fmod many), false) := fun i => op_modI hm0
  have hdiv : ∀ i : Int, op2 .fdiv (.int i) (.int many) = some (.int (i.fdiv many), false) := fun i => op_fdivI hdo
  by_cases hb : 0 < a1
  · have hr := fmod_rg a1 (j := many) (by omega)
    refine ⟨a1.fmod many, a1.fdiv many, b1, c, e1, ?_, ⟨Int.fdiv_nonneg i1.a0 (by omega), i1.b0, i1.b1, i1.c0, by have := i1.c1; omega, i1.e0, i1.e1⟩, hr.1, hr.2⟩
    refine (run_fn (m := [some (.lst (potL ns (a1.fdiv many) b1 c e1), .bor), some (.int many, .frz), none, fr s3, some (.int (a1.fmod many), .frz)]) rfl ?_).trans rfl
    show execs C bTake [some (.lst (potL ns a b c e), .bor), some (.int many, .frz), none, none, none] = _
    unfold bTake
    rw [run_cons k1]
    refine run_end ?_
    simp [exec, execs, evMv, ev, evAs, rdAs, argOf, bindR, updLR, pot_a0, pot_i0, pot_s0, hb, hmod, hdiv]
  · have hb0 : a1 = 0 := by have := i1.a0; omega
    subst hb0
    have c0 := i1.c0
    have c1 := i1.c1
    have b0 := i1.b0
    have b2 := i1.b1
    have m1 : op2 .mul (.int 7368791) (.int (c + 1)) = some (.int (7368791 * (c + 1)), false) := mul_smallL (by decide)
    have m2 : op2 .mul (.int 179) (.int (c + 1)) = some (.int (179 * (c + 1)), false) := mul_smallL (by decide)
    have p3 : op2 .pow (.int (b1 + 7368791 * (c + 1))) (.int 3) = some (.int ((b1 + 7368791 * (c + 1)) ^ 3), false) := pow_ok (k := 3) (by decide) (by omega)
    have l3 : ∀ i : Int, op2 .mod (.int i) (.int 2305843009213693951) = some (.int (i.fmod 2305843009213693951), false) := fun i => op_modI (by decide)
    have l4 : ∀ i : Int, op2 .mod (.int i) (.int 1000000000000000003) = some (.int (i.fmod 1000000000000000003), false) := fun i => op_modI (by decide)
    have l5 : ∀ i : Int, op2 .fdiv (.int i) (.int 256) = some (.int (i.fdiv 256), false) := fun i => op_fdivI (by decide)
    have q1 := fmod_rg ((b1 + 7368791 * (c + 1)) ^ 3) (j := 2305843009213693951) (by decide)
    generalize hx : ((b1 + 7368791 * (c + 1)) ^ 3).fmod 2305843009213693951 = x at q1
    have p2 : op2 .pow (.int (x + 179 * (c + 1))) (.int 2) = some (.int ((x + 179 * (c + 1)) ^ 2), false) := pow_ok (k := 2) (by decide) (by omega)
    generalize hy : ((x + 179 * (c + 1)) ^ 2).fmod 1000000000000000003 = y
    have hr := fmod_rg (y.fdiv 256) (j := many) (by omega)
    refine ⟨(y.fdiv 256).fmod many, 0, b1, c + 1, e1, ?_, ⟨by omega, i1.b0, i1.b1, by omega, by omega, i1.e0, i1.e1⟩, hr.1, hr.2⟩
    refine (run_fn (m := [some (.lst (potL ns 0 b1 (c + 1) e1), .bor), some (.int many, .frz), some (.int y, .frz), fr s3, none]) rfl ?_).trans rfl
    show execs C bTake [some (.lst (potL ns a b c e), .bor), some (.int many, .frz), none, none, none] = _
    unfold bTake
    rw [run_cons k1]
    rw [run_cons (m' := [some (.lst (potL ns 0 b1 c e1), .bor), some (.int many, .frz), none, fr s3, none]) (by
      simp [exec, execs, ev, argOf, bindR, pot_a0])]
    rw [run_cons (m' := [some (.lst (potL ns 0 b1 (c + 1) e1), .bor), some (.int many, .frz), none, fr s3, none]) (by
      simp [exec, ev, bindR, updLR, aug2, pot_a2, pot_i2, pot_s2])]
    rw [run_cons (m' := [some (.lst (potL ns 0 b1 (c + 1) e1), .bor), some (.int many, .frz), some (.int x, .frz), fr s3, none]) (by
      simp [exec, ev, evAs, rdAs, argOf, bindR, pot_a1, pot_a2, m1, p3, l3, hx])]
    rw [run_cons (m' := [some (.lst (potL ns 0 b1 (c + 1) e1), .bor), some (.int many, .frz), some (.int y, .frz), fr s3, none]) (by
      simp [exec, ev, evAs, rdAs, argOf, bindR, pot_a2, m2, p2, l4, hy])]
    refine run_end ?_
    simp [exec, evMv, ev, evAs, rdAs, argOf, bindR, l5, hmod]
theorem take_ok {ns : List Int} {B : Nat} {a b c e many : Int} (h : PI ns B a b c e) (hB : B ≤ 1000000000) (h1 : 1 ≤ many) (h2 : many ≤ 1000000000) : ∃ r a' b' c' e', runFn C ⟨2, 5, bTake⟩ [(.lst (potL ns a b c e), .bor), (.int many, .frz)] = .ok (.int r) false [some (.lst (potL ns a' b' c' e'))] ∧
    PI ns (B + 1) a' b' c' e' ∧ 0 ≤ r ∧ r < many := take_big h hB h1 (by
    unfold divOk
    rw [decide_eq_true (show many ≠ 0 by omega), decide_eq_true (show many.natAbs < 1073741824 by omega)]
    rfl)
end
end Lb

set_option Elab.async false
set_option linter.all false
set_option maxRecDepth 1000000
set_option autoImplicit false
set_option maxHeartbeats 4000000
namespace Lb
open Mi
/-! ### polynomials -/
def polyP (f : List Int) : Bool := decide (f = []) || !decide (lastI f = 0)
theorem lastI_cons {x : Int} {r : List Int} (h : r ≠ []) : lastI (x :: r) = lastI r := by
  cases r with
  | nil => exact absurd rfl h
  | cons y t => rfl
theorem lastI_snoc (xs : List Int) (a : Int) : lastI (xs ++ [a]) = a := by
  unfold lastI
  simp
theorem snoc_of {f : List Int} (h : f ≠ []) : ∃ ys, f = ys ++ [lastI f] := by
  refine ⟨f.dropLast, ?_⟩
  have e := List.dropLast_concat_getLast h
  have : lastI f = f.getLast h := by
    unfold lastI
    rw [List.getLastD_eq_getLast?, List.getLast?_eq_some_getLast h]
    rfl
  rw [this]
  exact e.symm
theorem trim_poly {f : List Int} (h : polyP f = true) : trimP f = f := by
  by_cases h0 : f = []
  · subst h0; rfl
  · obtain ⟨ys, e⟩ := snoc_of h0
    have hl : lastI f ≠ 0 := by
      intro z
      unfold polyP at h
      rw [decide_eq_false h0, z] at h
      cases h
    rw [e, trimP_snoc ys hl]
theorem addL_last : ∀ {u v : List Int}, u.length < v.length → lastI (addL u v) = lastI v
  | u, [], h => by simp at h
  | [], y :: v, _ => rfl
  | x :: u, y :: v, h => by
    have h' : u.length < v.length := by simpa using h
    have hv : v ≠ [] := fun z => by rw [z] at h'; simp at h'
    have hn : addL u v ≠ [] := fun z => by
      have := addL_len u v
      rw [z, List.length_nil] at this
      omega
    show lastI ((x + y) :: addL u v) = _
    rw [lastI_cons hn, lastI_cons hv, addL_last h']
theorem addL_zero : ∀ {u : List Int}, u ≠ [] → addL u [0] = u
  | [], h => absurd rfl h
  | x :: u, _ => by
    show (x + 0) :: addL u [] = _
    rw [Int.add_zero, addL_nil]
theorem lastI_map {g : List Int} (h : g ≠ []) (a : Int) : lastI (g.map fun b => a * b) = a * lastI g := by
  obtain ⟨ys, e⟩ := snoc_of h
  rw [e, List.map_append, lastI_snoc]
  show lastI (_ ++ [a * _]) = _
  rw [lastI_snoc]
theorem mulQ_last : ∀ {f g : List Int}, f ≠ [] → g ≠ [] → lastI (mulQ f g) = lastI f * lastI g
  | [], g, h, _ => absurd rfl h
  | a :: f, g, _, hg => by
    have lg : 0 < g.length := List.length_pos_iff.mpr hg
    show lastI (addL (g.map fun b => a * b) (0 :: mulQ f g)) = _
    by_cases hf : f = []
    · subst hf
      show lastI (addL (g.map fun b => a * b) [0]) = _
      rw [addL_zero (by intro z; exact hg (List.map_eq_nil_iff.mp z)), lastI_map hg]
      rfl
    · have hl := mulQ_len f g hf hg
      have lf : 0 < f.length := List.length_pos_iff.mpr hf
      have hq : mulQ f g ≠ [] := fun z => by rw [z, List.length_nil] at hl; omega
      rw [addL_last (by rw [List.length_map, List.length_cons]; omega), lastI_cons hq, lastI_cons hf, mulQ_last hf hg]
theorem poly_mul {f g : List Int} (hf : polyP f = true) (hg : polyP g = true) : polyP (mulP f g) = true := by
  unfold mulP
  split
  · rfl
  · rename_i h
    have h1 : f ≠ [] := fun z => h (.inl z)
    have h2 : g ≠ [] := fun z => h (.inr z)
    unfold polyP at hf hg ⊢
    rw [decide_eq_false h1] at hf
    rw [decide_eq_false h2] at hg
    rw [mulQ_last h1 h2]
    simp only [Bool.false_or, Bool.not_eq_true', decide_eq_false_iff_not] at hf hg
    simp only [Bool.or_eq_true, Bool.not_eq_true', decide_eq_false_iff_not]
    exact .inr fun z => (Int.mul_eq_zero.mp z).elim hf hg
theorem mulQ_nil : ∀ f : List Int, ∃ n, mulQ f [] = zs n
  | [] => ⟨0, rfl⟩
  | a :: f => by
    obtain ⟨n, e⟩ := mulQ_nil f
    refine ⟨n + 1, ?_⟩
    show addL [] (0 :: mulQ f []) = _
    rw [addL_nil', e]
    rfl
theorem times_mul {f g : List Int} (hf : polyP f = true) (hg : polyP g = true) : timesP f g = mulP f g := by
  unfold timesP
  by_cases h : f = [] ∨ g = []
  · have e : mulP f g = [] := by unfold mulP; rw [if_pos h]
    rw [e]
    rcases h with rfl | rfl
    · rfl
    · obtain ⟨n, e⟩ := mulQ_nil f
      rw [e]
      exact trim_zs n []
  · have e : mulP f g = mulQ f g := by unfold mulP; rw [if_neg h]
    rw [← e]
    exact trim_poly (poly_mul hf hg)
/-! ### what is compared -/
mutual
def gd : D → Bool
  | .non => true
  | .int _ => true
  | .bl _ => true
  | .tup xs => decide (xs.length ≤ 1000) && gds xs
  | .lst xs => decide (xs.length ≤ 1000) && gds xs
  | _ => false
def gds : List D → Bool
  | [] => true
  | x :: xs => gd x && gds xs
end
def itemsD : D → List D
  | .tup xs => xs
  | .lst xs => xs
  | _ => []
theorem gds_mem : ∀ {xs : List D}, gds xs = true → ∀ x ∈ xs, gd x = true
  | [], _, x, h => by cases h
  | y :: ys, h, x, hx => by
    have h : (gd y && gds ys) = true := h
    rw [Bool.and_eq_true] at h
    rcases List.mem_cons.mp hx with e | e
    · rw [e]; exact h.1
    · exact gds_mem h.2 x e
theorem depDs_mem : ∀ {xs : List D} {n : Nat}, depDs xs ≤ n → ∀ x ∈ xs, depD x ≤ n
  | [], _, _, x, h => by cases h
  | y :: ys, n, h, x, hx => by
    have h : max (depD y) (depDs ys) ≤ n := h
    rcases List.mem_cons.mp hx with e | e
    · rw [e]; omega
    · exact depDs_mem (by omega) x e
theorem atL_mem {xs : List D} {k : Int} (h0 : 0 ≤ k) (h1 : k < xs.length) : ∃ x, x ∈ xs ∧ atL xs k = some x := by
  have hk : k.toNat < xs.length := by omega
  refine ⟨xs[k.toNat], List.getElem_mem hk, ?_⟩
  unfold atL
  rw [ixN_ok h0 h1]
  exact List.getElem?_eq_getElem hk
theorem mem_rg {n : Nat} {x : Int} : x ∈ rgI n ↔ 0 ≤ x ∧ x < n := by
  unfold rgI
  rw [List.mem_map]
  constructor
  · rintro ⟨k, hk, rfl⟩
    rw [List.mem_range] at hk
    omega
  · rintro ⟨h0, h1⟩
    exact ⟨x.toNat, by rw [List.mem_range]; omega, by omega⟩
theorem rg_len (n : Nat) : (rgI n).length = n := by unfold rgI; rw [List.length_map, List.length_range]
theorem all_true (n : Nat) : bi1 .all [.lst ((rgI n).map fun _ => .bl true)] = some (.bl true, false) := by
  rw [bi_all (fun _ => true)]
  simp
def sameC (c : Nat) : E := .comp [2] (.nm 2) (.range (.cons (.bi .len (.cons (.var 1) .nil)) .nil)) .nil (.call c (.cons (.idx (.var 0) (.var 2)) (.cons (.idx (.var 1) (.var 2)) .nil)))
def bSame (c : Nat) : Ss := .cons (.ifs (.cmp .isN (.var 1) .non) (.cons (.ret (.cmp .isN (.var 0) .non)) .nil) .nil) (.cons (.ifs (.isi (.var 1) [.bool, .str]) (.cons (.ret (.land (.cmp .eq (.isi (.var 0) [.bool]) (.isi (.var 1) [.bool])) (.land (.isi (.var 0) [.bool, .str]) (.cmp .eq (.var 0) (.var 1))))) .nil) .nil) (.cons (.ifs (.isi (.var 1) [.int]) (.cons (.ret (.land (.isi (.var 0) [.int]) (.land (.lnot (.isi (.var 0) [.bool])) (.cmp .eq (.var 0) (.var 1))))) .nil) .nil) (.cons (.ifs (.lor (.cmp .ne (.isi (.var 1) [.list]) (.isi (.var 0) [.list])) (.cmp .ne (.isi (.var 1) [.tuple]) (.isi (.var 0) [.tuple]))) (.cons (.ret (.bl false)) .nil) .nil) (.cons (.ret (.land (.cmp .eq (.bi .len (.cons (.var 0) .nil)) (.bi .len (.cons (.var 1) .nil))) (.bi .all (.cons (sameC c) .nil)))) .nil))))
section
variable {C : Calls} {n : Nat}
theorem same_comp {c : Nat} {x : D} {xs : List D} {f0 f1 : Fl} (h0 : f0 = .frz ∨ f0 = .own) (h1 : f1 = .frz ∨ f1 = .own) (hx : x = .tup xs ∨ x = .lst xs) (hl : xs.length ≤ 1000) (hc : ∀ y ∈ xs, C.call c [(y, .frz), (y, .frz)] = .ok (.bl true) false []) (hio : ∀ k, C.io c k = false) :
    ev C (sameC c) [some (x, f0), some (x, f1), none] = .ok (.lst ((rgI xs.length).map fun _ => .bl true), true) [some (x, f0), some (x, f1), none] := by
  have hr : rangeO [.int (xs.length : Nat)] = some ((rgI xs.length).map D.int) := rangeO1 (by omega)
  unfold sameC
  refine ev_comp (xs := (rgI xs.length).map D.int) (m1 := [some (x, f0), some (x, f1), none]) ?_ ?_
  · rcases hx with rfl | rfl <;> rcases h0 with rfl | rfl <;> rcases h1 with rfl | rfl <;> simp [evI, ev, evFs, evAs, rdAs, argOf, bindR, hr]
  · simp only [evB]
    rw [compM_map (m1 := fun y => [some (x, f0), some (x, f1), some (y, .frz)]) (g := fun _ => .bl true) (o := fun _ => false) (by
      rw [List.length_map, rg_len]; exact Nat.le_trans hl (by decide)) fun y hy => ⟨rfl, by
        obtain ⟨k, hk, rfl⟩ := List.mem_map.mp hy
        obtain ⟨k0, k1⟩ := mem_rg.mp hk
        obtain ⟨z, hz, e⟩ := atL_mem k0 k1
        rcases hx with rfl | rfl <;> rcases h0 with rfl | rfl <;> rcases h1 with rfl | rfl <;> simp [ev, evCs, argOf, bindR, e, hio, callMR, inArgs, lends, lendOk, poison, putBack, hc z hz], rfl⟩]
    rw [List.map_map]
    rfl
theorem same_step {c : Nat} {x : D} {f0 f1 : Fl} (h0 : f0 = .frz ∨ f0 = .own) (h1 : f1 = .frz ∨ f1 = .own) (hg : gd x = true) (hio : ∀ k, C.io c k = false) (hc : ∀ y ∈ itemsD x, C.call c [(y, .frz), (y, .frz)] = .ok (.bl true) false []) :
    runFn C ⟨2, 3, bSame c⟩ [(x, f0), (x, f1)] = .ok (.bl true) false [] := by
  have out : outsOf [some (x, f0), some (x, f1), none] 0 [(x, f0), (x, f1)] = [] := by
    rcases h0 with rfl | rfl <;> rcases h1 with rfl | rfl <;> rfl
  have key : execs C (bSame c) [some (x, f0), some (x, f1), none] = .ok (.rt (.bl true) false) [some (x, f0), some (x, f1), none] := by
    have sq : ∀ xs, (x = .tup xs ∨ x = .lst xs) → xs.length ≤ 1000 → (∀ y ∈ xs, C.call c [(y, .frz), (y, .frz)] = .ok (.bl true) false []) → execs C (bSame c) [some (x, f0), some (x, f1), none] = .ok (.rt (.bl true) false) [some (x, f0), some (x, f1), none] := fun xs hx hl hc => by
      have key := same_comp h0 h1 hx hl hc hio
      unfold bSame
      have k1 : ev C (.bi .all (.cons (sameC c) .nil)) [some (x, f0), some (x, f1), none] = .ok (.bl true, false) [some (x, f0), some (x, f1), none] := by
        have ka := argOf_val (rfl : isVar (sameC c) = false) key
        unfold sameC at ka ⊢
        simp only [ev, evAs] at ka ⊢
        rw [bindR, bindR, ka]
        simp [rdAs, bindR, all_true]
      have k0 : ev C (.cmp .eq (.bi .len (.cons (.var 0) .nil)) (.bi .len (.cons (.var 1) .nil))) [some (x, f0), some (x, f1), none] = .ok (.bl true, false) [some (x, f0), some (x, f1), none] := by
        rcases hx with rfl | rfl <;> rcases h0 with rfl | rfl <;> rcases h1 with rfl | rfl <;> simp [ev, evAs, rdAs, argOf, bindR]
      have k2 := (ev_land (b := .bi .all (.cons (sameC c) .nil)) k0).trans k1
      have d1 : ev C (.cmp .isN (.var 1) .non) [some (x, f0), some (x, f1), none] = .ok (.bl false, false) [some (x, f0), some (x, f1), none] := by
        rcases hx with rfl | rfl <;> rcases h0 with rfl | rfl <;> rcases h1 with rfl | rfl <;> simp [ev, argOf, bindR]
      have d2 : ev C (.isi (.var 1) [.bool, .str]) [some (x, f0), some (x, f1), none] = .ok (.bl false, false) [some (x, f0), some (x, f1), none] := by
        rcases hx with rfl | rfl <;> rcases h0 with rfl | rfl <;> rcases h1 with rfl | rfl <;> simp [ev, argOf, bindR, isAny, isT]
      have d3 : ev C (.isi (.var 1) [.int]) [some (x, f0), some (x, f1), none] = .ok (.bl false, false) [some (x, f0), some (x, f1), none] := by
        rcases hx with rfl | rfl <;> rcases h0 with rfl | rfl <;> rcases h1 with rfl | rfl <;> simp [ev, argOf, bindR, isAny, isT]
      have d4 : ev C (.lor (.cmp .ne (.isi (.var 1) [.list]) (.isi (.var 0) [.list])) (.cmp .ne (.isi (.var 1) [.tuple]) (.isi (.var 0) [.tuple]))) [some (x, f0), some (x, f1), none] = .ok (.bl false, false) [some (x, f0), some (x, f1), none] := by
        rcases hx with rfl | rfl <;> rcases h0 with rfl | rfl <;> rcases h1 with rfl | rfl <;> simp [ev, argOf, bindR, isAny, isT]
      rw [run_cons ((exec_if_f d1).trans run_nil), run_cons ((exec_if_f d2).trans run_nil), run_cons ((exec_if_f d3).trans run_nil), run_cons ((exec_if_f d4).trans run_nil)]
      exact run_end (exec_ret k2)
    cases x <;> first | (cases hg; done) | skip
    · unfold bSame
      rcases h0 with rfl | rfl <;> rcases h1 with rfl | rfl <;> simp [execs, exec, evMv, ev, argOf, bindR]
    · unfold bSame
      rcases h0 with rfl | rfl <;> rcases h1 with rfl | rfl <;> simp [execs, exec, evMv, ev, argOf, bindR, isAny, isT]
    · unfold bSame
      rcases h0 with rfl | rfl <;> rcases h1 with rfl | rfl <;> simp [execs, exec, evMv, ev, argOf, bindR, isAny, isT]
    · rename_i xs
      have hg : (decide (xs.length ≤ 1000) && gds xs) = true := hg
      rw [Bool.and_eq_true, decide_eq_true_eq] at hg
      exact sq xs (.inl rfl) hg.1 hc
    · rename_i xs
      have hg : (decide (xs.length ≤ 1000) && gds xs) = true := hg
      rw [Bool.and_eq_true, decide_eq_true_eq] at hg
      exact sq xs (.inr rfl) hg.1 hc
  exact (run_fn rfl key).trans (by rw [out])
end
end Lb

set_option Elab.async false
set_option linter.all false
set_option maxRecDepth 1000000
set_option autoImplicit false
set_option maxHeartbeats 4000000
namespace Lb
open Mi
def isI : D → Bool
  | .int _ => true
  | _ => false
def noX : D → Bool
  | .exc _ _ => false
  | _ => true
def bIsInt : Ss := .cons (.ret (.land (.isi (.var 0) [.int]) (.lnot (.isi (.var 0) [.bool])))) .nil
def bIsPoly (ci : Nat) : Ss := .cons (.ifs (.lor (.lnot (.isi (.var 0) [.tuple])) (.lnot (.bi .all (.cons (.comp [1] (.nm 1) (.ex (.var 0)) .nil (.call ci (.cons (.var 1) .nil))) .nil)))) (.cons (.ret (.bl false)) .nil) .nil) (.cons (.ret (.lor (.cmp .eq (.var 0) (.tup .nil)) (.cmp .ne (.idx (.var 0) (.neg (.int 1))) (.int 0)))) .nil)
def bCheck (cp : Nat) : Ss := .cons (.ifs (.lor (.lnot (.call cp (.cons (.var 0) .nil))) (.cmp .le (.bi .len (.cons (.var 0) .nil)) (.var 1))) (.cons .bad .nil) .nil) .nil
def bCheck2 (cc : Nat) : Ss := .cons (.frr (.nm 3) (.ex (.tup (.cons (.var 0) (.cons (.var 1) .nil)))) (.cons (.expr (.call cc (.cons (.var 3) (.cons (.var 2) .nil)))) .nil)) .nil
def bProduct (c2 cm : Nat) : Ss := .cons (.expr (.call c2 (.cons (.var 0) (.cons (.var 1) (.cons (.neg (.int 1)) .nil))))) (.cons (.ret (.call cm (.cons (.var 0) (.cons (.var 1) .nil)))) .nil)
section
variable {C : Calls} {n : Nat}
theorem is_int {x : D} (h : noX x = true) : runFn C ⟨1, 1, bIsInt⟩ [(x, .frz)] = .ok (.bl (isI x)) false [] := by
  cases x <;> first | (cases h; done) | simp [runFn, bIsInt, execs, exec, evMv, ev, argOf, bindR, isAny, isT, outsOf, isI]
theorem is_poly {ci : Nat} (hio : C.io ci 0 = false) (hi : ∀ i : Int, C.call ci [(.int i, .frz)] = .ok (.bl true) false []) {f : List Int} (hl : f.length ≤ 1000000) : runFn C ⟨1, 2, bIsPoly ci⟩ [(tI f, .frz)] = .ok (.bl (polyP f)) false [] := by
  refine (run_fn rfl (m := [some (tI f, .frz), none]) (d := .bl (polyP f)) (o := false) ?_).trans rfl
  show execs C (bIsPoly ci) [some (tI f, .frz), none] = _
  unfold bIsPoly
  have kc : ev C (.comp [1] (.nm 1) (.ex (.var 0)) .nil (.call ci (.cons (.var 1) .nil))) [some (tI f, .frz), none] = .ok (.lst (f.map fun _ => .bl true), true) [some (tI f, .frz), none] := by
    refine ev_comp (m1 := [some (tI f, .frz), none]) (xs := f.map D.int) (by simp [evI, ev, bindR]) ?_
    simp only [evB]
    rw [compM_map (m1 := fun x => [some (tI f, .frz), some (x, .frz)]) (g := fun _ => .bl true) (o := fun _ => false) (by rw [List.length_map]; exact Nat.le_trans hl (by decide)) fun x hx => ⟨rfl, by
        obtain ⟨i, _, rfl⟩ := List.mem_map.mp hx
        simp [ev, evCs, argOf, bindR, hio, callMR, inArgs, lends, lendOk, poison, putBack, hi], rfl⟩]
    rw [List.map_map]
    rfl
  have ka : ev C (.bi .all (.cons (.comp [1] (.nm 1) (.ex (.var 0)) .nil (.call ci (.cons (.var 1) .nil))) .nil)) [some (tI f, .frz), none] = .ok (.bl true, false) [some (tI f, .frz), none] := by
    have kb := argOf_val (rfl : isVar (.comp [1] (.nm 1) (.ex (.var 0)) .nil (.call ci (.cons (.var 1) .nil))) = false) kc
    have e : bi1 .all [.lst (f.map fun _ => .bl true)] = some (.bl true, false) := by
      rw [bi_all (fun _ => true)]
      simp
    simp only [ev, evAs] at kb ⊢
    rw [bindR, bindR, kb]
    simp [rdAs, bindR, e]
  have k1 : ev C (.lor (.lnot (.isi (.var 0) [.tuple])) (.lnot (.bi .all (.cons (.comp [1] (.nm 1) (.ex (.var 0)) .nil (.call ci (.cons (.var 1) .nil))) .nil)))) [some (tI f, .frz), none] = .ok (.bl false, false) [some (tI f, .frz), none] := by
    have h1 : ev C (.lnot (.isi (.var 0) [.tuple])) [some (tI f, .frz), none] = .ok (.bl false, false) [some (tI f, .frz), none] := by
      simp [ev, argOf, bindR, isAny, isT]
    have h2 : ev C (.lnot (.bi .all (.cons (.comp [1] (.nm 1) (.ex (.var 0)) .nil (.call ci (.cons (.var 1) .nil))) .nil))) [some (tI f, .frz), none] = .ok (.bl false, false) [some (tI f, .frz), none] := by
      simp only [ev] at ka ⊢
      rw [bind_ok ka]
      rfl
    simp only [ev] at h1 h2 ⊢
    rw [bind_ok h1]
    exact h2
  rw [run_cons ((exec_if_f k1).trans run_nil)]
  refine run_end ?_
  have c1 : cm2 .eq (tI f) (.tup []) = some (decide (f = [])) := cm_tup f []
  unfold polyP
  by_cases h0 : f = []
  · subst h0
    have c1 : cm2 .eq (tI []) (.tup []) = some true := rfl
    simp [exec, evMv, ev, evFs, argOf, bindR, c1]
  · have e := atL_last h0
    rw [decide_eq_false h0] at c1
    simp [exec, evMv, ev, evFs, argOf, bindR, c1, e, h0]
theorem check {cp : Nat} (hio : C.io cp 0 = false) {f : List Int} {l : Int} (hp : C.call cp [(tI f, .frz)] = .ok (.bl true) false []) (hl : l < f.length) : runFn C ⟨2, 2, bCheck cp⟩ [(tI f, .frz), (.int l, .frz)] = .ok .non false [] := by
  refine (run_fnN rfl (m := [some (tI f, .frz), some (.int l, .frz)]) ?_).trans rfl
  show execs C (bCheck cp) [some (tI f, .frz), some (.int l, .frz)] = _
  unfold bCheck
  have hl' : ¬ (f.length : Int) ≤ l := by omega
  refine (run_cons ?_).trans run_nil
  simp [exec, execs, ev, evCs, evAs, rdAs, argOf, bindR, hio, callMR, inArgs, lends, lendOk, poison, putBack, hp, hl']
theorem check_two {cc : Nat} (h0 : C.io cc 0 = false) (h1 : C.io cc 1 = false) {f g : List Int} {l : Int} (hf : C.call cc [(tI f, .frz), (.int l, .frz)] = .ok .non false []) (hg : C.call cc [(tI g, .frz), (.int l, .frz)] = .ok .non false []) :
    runFn C ⟨3, 4, bCheck2 cc⟩ [(tI f, .frz), (tI g, .frz), (.int l, .frz)] = .ok .non false [] := by
  refine (run_fnN rfl (m := [some (tI f, .frz), some (tI g, .frz), some (.int l, .frz), some (tI g, .frz)]) ?_).trans rfl
  show execs C (bCheck2 cc) [some (tI f, .frz), some (tI g, .frz), some (.int l, .frz), none] = _
  unfold bCheck2
  refine (run_cons ?_).trans run_nil
  simp only [exec]
  rw [bind_ok (m' := [some (tI f, .frz), some (tI g, .frz), some (.int l, .frz), none]) (a := [tI f, tI g]) (by simp [evI, ev, evFs, bindR])]
  rw [forL_cons (m1 := [some (tI f, .frz), some (tI g, .frz), some (.int l, .frz), some (tI f, .frz)]) (m2 := [some (tI f, .frz), some (tI g, .frz), some (.int l, .frz), some (tI f, .frz)]) (by simp [setT])
    (by simp [execs, exec, ev, evCs, argOf, bindR, h0, h1, callMR, inArgs, lends, lendOk, poison, putBack, hf])]
  rw [forL_cons (m1 := [some (tI f, .frz), some (tI g, .frz), some (.int l, .frz), some (tI g, .frz)]) (m2 := [some (tI f, .frz), some (tI g, .frz), some (.int l, .frz), some (tI g, .frz)]) (by simp [setT])
    (by simp [execs, exec, ev, evCs, argOf, bindR, h0, h1, callMR, inArgs, lends, lendOk, poison, putBack, hg])]
  rfl
theorem product_ok {c2 cm : Nat} (h0 : ∀ k, C.io c2 k = false) (h1 : ∀ k, C.io cm k = false) {f g r : List Int} (hc : C.call c2 [(tI f, .frz), (tI g, .frz), (.int (-1), .frz)] = .ok .non false []) (hm : C.call cm [(tI f, .frz), (tI g, .frz)] = .ok (tI r) false []) :
    runFn C ⟨2, 2, bProduct c2 cm⟩ [(tI f, .frz), (tI g, .frz)] = .ok (tI r) false [] := by
  refine (run_fn rfl (m := [some (tI f, .frz), some (tI g, .frz)]) (d := tI r) (o := false) ?_).trans rfl
  show execs C (bProduct c2 cm) [some (tI f, .frz), some (tI g, .frz)] = _
  unfold bProduct
  rw [run_cons (m' := [some (tI f, .frz), some (tI g, .frz)]) (by
    simp [exec, ev, evCs, argOf, bindR, h0, callMR, inArgs, lends, lendOk, poison, putBack, hc])]
  refine run_end ?_
  simp [exec, evMv, ev, evCs, argOf, bindR, h1, callMR, inArgs, lends, lendOk, poison, putBack, hm]
/-! ### _law_chain -/
def bChain (cpr ct cs : Nat) : Ss := .cons (.asg (.tp (.cons (.nm 2) (.cons (.nm 3) .nil))) (.tup (.cons (.tup (.cons (.int 1) .nil)) (.cons (.tup (.cons (.int 1) .nil)) .nil)))) (.cons (.frr (.nm 1) (.ex (.var 0)) (.cons (.par [2, 3] (.cons (.call cpr (.cons (.var 2) (.cons (.var 1) .nil))) (.cons (.call ct (.cons (.var 3) (.cons (.var 1) .nil))) .nil))) (.cons (.ifs (.lnot (.call cs (.cons (.var 2) (.cons (.var 3) .nil)))) (.cons (.ret .non) .nil) .nil) .nil))) (.cons (.ret (.var 2)) .nil))
theorem chain_loop {cpr ct cs : Nat} (h0 : ∀ k, C.io cpr k = false) (h1 : ∀ k, C.io ct k = false) (h2 : ∀ k, C.io cs k = false) {x : D} {L : Nat} {P : List Int → Prop}
    (hp : ∀ f g : List Int, polyP f = true → P g → f.length + g.length ≤ L → C.call cpr [(tI f, .frz), (tI g, .frz)] = .ok (tI (mulP f g)) false [])
    (ht : ∀ f g : List Int, polyP f = true → P g → f.length + g.length ≤ L → C.call ct [(tI f, .frz), (tI g, .frz)] = .ok (tI (mulP f g)) false [])
    (hs : ∀ f : List Int, f.length ≤ L → C.call cs [(tI f, .frz), (tI f, .frz)] = .ok (.bl true) false []) (hP : ∀ g, P g → polyP g = true) :
    ∀ (ps : List (List Int)) (f : List Int) (q1 : Option D), polyP f = true → (∀ g ∈ ps, P g) → f.length + (ps.map List.length).sum ≤ L → ∃ r1,
    forL (setT (.nm 1)) (execs C (.cons (.par [2, 3] (.cons (.call cpr (.cons (.var 2) (.cons (.var 1) .nil))) (.cons (.call ct (.cons (.var 3) (.cons (.var 1) .nil))) .nil))) (.cons (.ifs (.lnot (.call cs (.cons (.var 2) (.cons (.var 3) .nil)))) (.cons (.ret .non) .nil) .nil) .nil))) (ps.map tI) [some (x, .frz), fr q1, some (tI f, .frz), some (tI f, .frz)] =
      .ok .nx [some (x, .frz), fr r1, some (tI (ps.foldl mulP f), .frz), some (tI (ps.foldl mulP f), .frz)]
  | [], f, q1, _, _, _ => ⟨q1, rfl⟩
  | g :: ps, f, q1, hf, hm, hl => by
    have hg := hm g List.mem_cons_self
    have hl' : f.length + (g.length + (ps.map List.length).sum) ≤ L := by simpa using hl
    have hlm : (mulP f g).length ≤ f.length + g.length := by
      unfold mulP
      split
      · simp
      · exact mulQ_le f g
    have e1 := hp f g hf hg (by omega)
    have e2 := ht f g hf hg (by omega)
    have e3 := hs (mulP f g) (by omega)
    obtain ⟨r1, ih⟩ := chain_loop (x := x) h0 h1 h2 hp ht hs hP ps (mulP f g) (some (tI g)) (poly_mul hf (hP g hg)) (fun y hy => hm y (List.mem_cons_of_mem _ hy)) (by omega)
    refine ⟨r1, ?_⟩
    show forL _ _ (tI g :: ps.map tI) _ = _
    rw [forL_cons (m1 := [some (x, .frz), some (tI g, .frz), some (tI f, .frz), some (tI f, .frz)]) (m2 := [some (x, .frz), fr (some (tI g)), some (tI (mulP f g), .frz), some (tI (mulP f g), .frz)])]
    · exact ih
    · simp [setT, stVE, -stVR]
    · simp [execs, exec, evRs, stVs, ev, evCs, argOf, bindR, h0, h1, h2, callMR, inArgs, lends, lendOk, poison, putBack, e1, e2, e3]
theorem chain {cpr ct cs : Nat} (h0 : ∀ k, C.io cpr k = false) (h1 : ∀ k, C.io ct k = false) (h2 : ∀ k, C.io cs k = false) {L : Nat} {P : List Int → Prop}
    (hp : ∀ f g : List Int, polyP f = true → P g → f.length + g.length ≤ L → C.call cpr [(tI f, .frz), (tI g, .frz)] = .ok (tI (mulP f g)) false [])
    (ht : ∀ f g : List Int, polyP f = true → P g → f.length + g.length ≤ L → C.call ct [(tI f, .frz), (tI g, .frz)] = .ok (tI (mulP f g)) false [])
    (hs : ∀ f : List Int, f.length ≤ L → C.call cs [(tI f, .frz), (tI f, .frz)] = .ok (.bl true) false []) (hP : ∀ g, P g → polyP g = true)
    {ps : List (List Int)} {fl : Fl} (hfl : fl = .frz ∨ fl = .own) (hm : ∀ g ∈ ps, P g) (hl : 1 + (ps.map List.length).sum ≤ L) : runFn C ⟨1, 4, bChain cpr ct cs⟩ [(.lst (ps.map tI), fl)] = .ok (tI (ps.foldl mulP [1])) false [] := by
  obtain ⟨r1, e⟩ := chain_loop (C := C) (x := .lst (ps.map tI)) h0 h1 h2 hp ht hs hP ps [1] none rfl hm hl
  refine (run_fn rfl (m := [some (.lst (ps.map tI), .frz), fr r1, some (tI (ps.foldl mulP [1]), .frz), some (tI (ps.foldl mulP [1]), .frz)]) (d := tI (ps.foldl mulP [1])) (o := false) ?_).trans (by rcases hfl with rfl | rfl <;> rfl)
  show execs C (bChain cpr ct cs) [some (.lst (ps.map tI), fl), none, none, none] = _
  unfold bChain
  rw [run_cons (m' := [some (.lst (ps.map tI), fl), none, some (tI [1], .frz), some (tI [1], .frz)]) (by
    rcases hfl with rfl | rfl <;> simp [exec, ev, evFs, setT, setTs, bindR])]
  rw [run_cons (by
    simp only [exec]
    rw [bind_ok (m' := [some (.lst (ps.map tI), .frz), none, some (tI [1], .frz), some (tI [1], .frz)]) (a := ps.map tI) (by rcases hfl with rfl | rfl <;> simp [evI, ev, bindR])]
    exact e)]
  refine run_end ?_
  simp [exec, evMv, bindR]
end
end Lb

set_option Elab.async false
set_option linter.all false
set_option maxRecDepth 1000000
set_option autoImplicit false
set_option maxHeartbeats 4000000
namespace Lb
open Mi
/-! ### square_parts -/
def sqL (rn gn : Nat) : Nat → List Int → List Int → Int → List (List Int × Int) → Option (List (List Int × Int))
  | 0, _, _, _, _ => none
  | n + 1, p, l, e, fd => if 1 < p.length then
      match gcdP rn gn p l with
      | none => none
      | some a => match exactP p a with
        | some (some o) => match exactP l a with
          | some (some l') => if fd.length < 1000 ∧ a.length ≤ p.length ∧ l'.length ≤ l.length then sqL rn gn n a l' (e + 1) (if 1 < o.length then fd ++ [(o, e)] else fd) else none
          | _ => none
        | _ => none
    else some fd
def sqP (rn gn n L : Nat) (f : List Int) : Option (List (List Int × Int)) := match primP f with
  | none => none
  | some w => match gcdP rn gn w (derP w) with
    | none => none
    | some l => match exactP w l with
      | some (some p) => if w.length ≤ L ∧ l.length ≤ L ∧ p.length ≤ L then sqL rn gn n p l 1 [] else none
      | _ => none
def pD (p : List Int × Int) : D := .tup [tI p.1, .int p.2]
def bSqB (cg ce : Nat) : Ss := .cons (.asg (.nm 6) (.call cg (.cons (.var 3) (.cons (.var 2) .nil)))) (.cons (.asg (.nm 7) (.call ce (.cons (.var 3) (.cons (.var 6) .nil)))) (.cons (.ifs (.cmp .gt (.bi .len (.cons (.var 7) .nil)) (.int 1)) (.cons (.expr (.mu .append 5 (.cons (.tup (.cons (.var 7) (.cons (.var 4) .nil))) .nil))) .nil) .nil) (.cons (.par [3, 2, 4] (.cons (.var 6) (.cons (.call ce (.cons (.var 2) (.cons (.var 6) .nil))) (.cons (.op .add (.var 4) (.int 1)) .nil)))) .nil)))
def bSq (cp cg cd ce : Nat) : Ss := .cons (.asg (.nm 1) (.call cp (.cons (.var 0) .nil))) (.cons (.asg (.nm 2) (.call cg (.cons (.var 1) (.cons (.call cd (.cons (.var 1) .nil)) .nil)))) (.cons (.par [3, 4, 5] (.cons (.call ce (.cons (.var 1) (.cons (.var 2) .nil))) (.cons (.int 1) (.cons (.lst .nil) .nil)))) (.cons (.whl (.cmp .gt (.bi .len (.cons (.var 3) .nil)) (.int 1)) (bSqB cg ce)) (.cons (.ret (.var 5)) .nil))))
section
variable {C : Calls} {n : Nat}
theorem sqLoop {cg ce rn gn L : Nat} (hg0 : ∀ k, C.io cg k = false) (he0 : ∀ k, C.io ce k = false) {x w : D}
    (hg : ∀ f g r : List Int, f.length ≤ L → g.length ≤ L → gcdP rn gn f g = some r → C.call cg [(tI f, .frz), (tI g, .frz)] = .ok (tI r) false [])
    (he : ∀ (f g : List Int) (r : List Int), f.length ≤ L → g.length ≤ L → exactP f g = some (some r) → C.call ce [(tI f, .frz), (tI g, .frz)] = .ok (tI r) false []) :
    ∀ (k n : Nat) (p l : List Int) (e : Int) (fd r : List (List Int × Int)) (q6 q7 : Option D), p.length ≤ L → l.length ≤ L → k ≤ n → sqL rn gn k p l e fd = some r → ∃ m3 m2 m4 r6 r7,
    whN (do
      let p ← ev C (.cmp .gt (.bi .len (.cons (.var 3) .nil)) (.int 1))
      asB p.1) (execs C (bSqB cg ce)) n [some (x, .frz), some (w, .frz), some (tI l, .frz), some (tI p, .frz), some (.int e, .frz), some (.lst (fd.map pD), .own), fr q6, fr q7] =
      .ok .nx [some (x, .frz), some (w, .frz), some (m2, .frz), some (m3, .frz), some (m4, .frz), some (.lst (r.map pD), .own), fr r6, fr r7]
  | 0, n, p, l, e, fd, r, q6, q7, _, _, _, h => by cases h
  | k + 1, 0, p, l, e, fd, r, q6, q7, _, _, hk, h => by omega
  | k + 1, n + 1, p, l, e, fd, r, q6, q7, hp, hl, hk, h => by
    unfold sqL at h
    split at h
    · rename_i h1
      split at h
      · cases h
      · rename_i a ha
        split at h
        · rename_i o ho
          split at h
          · rename_i l' hl'
            split at h
            · rename_i hc
              obtain ⟨c1, c2, c3⟩ := hc
              have k1 := hg p l a hp hl ha
              have k2 := he p a o hp (by omega) ho
              have k3 := he l a l' hl (by omega) hl'
              obtain ⟨m3, m2, m4, r6, r7, ih⟩ := sqLoop (x := x) (w := w) hg0 he0 hg he k n a l' (e + 1) _ r (some (tI a)) (some (tI o)) (by omega) (by omega) (by omega) h
              refine ⟨m3, m2, m4, r6, r7, (whN_go (m1 := [some (x, .frz), some (w, .frz), some (tI l, .frz), some (tI p, .frz), some (.int e, .frz), some (.lst (fd.map pD), .own), fr q6, fr q7]) ?_ ?_).trans ih⟩
              · have h1' : (1 : Int) < (p.length : Int) := by omega
                simp [ev, evAs, rdAs, argOf, bindR, h1']
              · unfold bSqB
                rw [run_cons (m' := [some (x, .frz), some (w, .frz), some (tI l, .frz), some (tI p, .frz), some (.int e, .frz), some (.lst (fd.map pD), .own), some (tI a, .frz), fr q7]) (by
                  simp [exec, ev, evCs, argOf, bindR, hg0, callMR, inArgs, lends, lendOk, poison, putBack, k1, stVE, -stVR])]
                rw [run_cons (m' := [some (x, .frz), some (w, .frz), some (tI l, .frz), some (tI p, .frz), some (.int e, .frz), some (.lst (fd.map pD), .own), some (tI a, .frz), some (tI o, .frz)]) (by
                  simp [exec, ev, evCs, argOf, bindR, he0, callMR, inArgs, lends, lendOk, poison, putBack, k2, stVE, -stVR])]
                by_cases h2 : 1 < o.length
                · have h2' : (1 : Int) < (o.length : Int) := by omega
                  have ap : mu1 .append (fd.map pD) [.tup [tI o, .int e]] = some (fd.map pD ++ [.tup [tI o, .int e]], .non) := mu_app (by rw [List.length_map]; exact Nat.lt_of_lt_of_le c1 (by decide))
                  rw [run_cons (m' := [some (x, .frz), some (w, .frz), some (tI l, .frz), some (tI p, .frz), some (.int e, .frz), some (.lst ((fd ++ [(o, e)]).map pD), .own), some (tI a, .frz), some (tI o, .frz)]) (by
                    rw [List.map_append]
                    simp [exec, execs, ev, evAs, evFs, rdAs, argOf, bindR, updLR, h2', ap, pD, -List.map_append])]
                  rw [if_pos h2]
                  refine (run_cons ?_).trans run_nil
                  simp [exec, evRs, stVs, ev, evCs, argOf, bindR, he0, callMR, inArgs, lends, lendOk, poison, putBack, k3, -List.map_append]
                · have h2' : ¬ (1 : Int) < (o.length : Int) := by omega
                  rw [run_cons (m' := [some (x, .frz), some (w, .frz), some (tI l, .frz), some (tI p, .frz), some (.int e, .frz), some (.lst (fd.map pD), .own), some (tI a, .frz), some (tI o, .frz)]) (by
                    simp [exec, execs, ev, evAs, evFs, rdAs, argOf, bindR, h2'])]
                  rw [if_neg h2]
                  refine (run_cons ?_).trans run_nil
                  simp [exec, evRs, stVs, ev, evCs, argOf, bindR, he0, callMR, inArgs, lends, lendOk, poison, putBack, k3]
            · cases h
          · cases h
        · cases h
    · rename_i h1
      cases h
      refine ⟨tI p, tI l, .int e, q6, q7, whN_stop ?_⟩
      have h1' : ¬ (1 : Int) < (p.length : Int) := by omega
      simp [ev, evAs, rdAs, argOf, bindR, h1']
theorem square_parts {cp cg cd ce rn gn sn L : Nat} (hW : C.whl = Wn n) (hp0 : ∀ k, C.io cp k = false) (hg0 : ∀ k, C.io cg k = false) (hd0 : ∀ k, C.io cd k = false) (he0 : ∀ k, C.io ce k = false)
    (hp : ∀ f r : List Int, f.length ≤ L → primP f = some r → C.call cp [(tI f, .frz)] = .ok (tI r) false [])
    (hd : ∀ f : List Int, f.length ≤ L → C.call cd [(tI f, .frz)] = .ok (tI (derP f)) false [])
    (hg : ∀ f g r : List Int, f.length ≤ L → g.length ≤ L → gcdP rn gn f g = some r → C.call cg [(tI f, .frz), (tI g, .frz)] = .ok (tI r) false [])
    (he : ∀ (f g : List Int) (r : List Int), f.length ≤ L → g.length ≤ L → exactP f g = some (some r) → C.call ce [(tI f, .frz), (tI g, .frz)] = .ok (tI r) false [])
    {f : List Int} {r : List (List Int × Int)} (hf : f.length ≤ L) (hn : sn ≤ n) (h : sqP rn gn sn L f = some r) : runFn C ⟨1, 8, bSq cp cg cd ce⟩ [(tI f, .frz)] = .ok (.lst (r.map pD)) true [] := by
  unfold sqP at h
  split at h
  · cases h
  · rename_i w hw
    split at h
    · cases h
    · rename_i l hl
      split at h
      · rename_i p hx
        split at h
        · rename_i hc
          obtain ⟨c1, c2, c3⟩ := hc
          have hdl : (derP w).length ≤ L := by
            cases w with
            | nil => simp [derP]
            | cons a t =>
              show (derF 1 t).length ≤ L
              rw [derF_len]
              simp at c1
              omega
          have k1 := hp f w hf hw
          have k2 := hd w c1
          have k3 := hg w (derP w) l c1 hdl hl
          have k4 := he w l p c1 c2 hx
          obtain ⟨m3, m2, m4, r6, r7, e⟩ := sqLoop (C := C) (x := tI f) (w := tI w) hg0 he0 hg he sn n p l 1 [] r none none c3 c2 hn h
          refine (run_fn rfl (m := [some (tI f, .frz), some (tI w, .frz), some (m2, .frz), some (m3, .frz), some (m4, .frz), none, fr r6, fr r7]) (d := .lst (r.map pD)) (o := true) ?_).trans rfl
          show execs C (bSq cp cg cd ce) [some (tI f, .frz), none, none, none, none, none, none, none] = _
          unfold bSq
          rw [run_cons (m' := [some (tI f, .frz), some (tI w, .frz), none, none, none, none, none, none]) (by
            simp [exec, ev, evCs, argOf, bindR, hp0, callMR, inArgs, lends, lendOk, poison, putBack, k1])]
          rw [run_cons (m' := [some (tI f, .frz), some (tI w, .frz), some (tI l, .frz), none, none, none, none, none]) (by
            simp [exec, ev, evCs, argOf, bindR, hg0, hd0, callMR, inArgs, lends, lendOk, poison, putBack, k2, k3])]
          rw [run_cons (m' := [some (tI f, .frz), some (tI w, .frz), some (tI l, .frz), some (tI p, .frz), some (.int 1, .frz), some (.lst (([] : List (List Int × Int)).map pD), .own), none, none]) (by
            simp [exec, evRs, stVs, ev, evFs, evCs, argOf, bindR, he0, callMR, inArgs, lends, lendOk, poison, putBack, k4])]
          rw [run_cons (by
            simp only [exec, hW]
            exact e)]
          refine run_end ?_
          simp [exec, evMv, bindR]
        · cases h
      · cases h
def bSqf (cc cs : Nat) : Ss := .cons (.expr (.call cc (.cons (.var 0) (.cons (.int 0) .nil)))) (.cons (.ret (.bi .tuple (.cons (.call cs (.cons (.var 0) .nil)) .nil))) .nil)
theorem squarefree {cc cs : Nat} (h0 : ∀ k, C.io cc k = false) (h1 : ∀ k, C.io cs k = false) {f : List Int} {ds : List D} (hc : C.call cc [(tI f, .frz), (.int 0, .frz)] = .ok .non false []) (hs : C.call cs [(tI f, .frz)] = .ok (.lst ds) true []) :
    runFn C ⟨1, 1, bSqf cc cs⟩ [(tI f, .frz)] = .ok (.tup ds) false [] := by
  refine (run_fn rfl (m := [some (tI f, .frz)]) (d := .tup ds) (o := false) ?_).trans rfl
  show execs C (bSqf cc cs) [some (tI f, .frz)] = _
  unfold bSqf
  rw [run_cons (m' := [some (tI f, .frz)]) (by
    simp [exec, ev, evCs, argOf, bindR, h0, callMR, inArgs, lends, lendOk, poison, putBack, hc])]
  refine run_end ?_
  simp [exec, evMv, ev, evAs, evCs, rdAs, argOf, bindR, h1, callMR, inArgs, lends, lendOk, poison, putBack, hs]
end
end Lb

set_option Elab.async false
set_option linter.all false
set_option maxRecDepth 1000000
set_option autoImplicit false
set_option maxHeartbeats 4000000
namespace Lb
/-! ### products in any order -/
def cf (f : List Int) (k : Nat) : Int := f.getD k 0
def shF (h : Nat → Int) : Nat → Int
  | 0 => 0
  | k + 1 => h k
def cv : List Int → (Nat → Int) → Nat → Int
  | [], _, _ => 0
  | a :: f, h, k => a * h k + shF (cv f h) k
theorem cf_nil (k : Nat) : cf [] k = 0 := by unfold cf; simp
theorem cf_cons (a : Int) (f : List Int) : ∀ k, cf (a :: f) k = (if k = 0 then a else 0) + shF (cf f) k
  | 0 => by simp [cf, shF]
  | k + 1 => by simp [cf, shF]
theorem cf_addL : ∀ (u v : List Int) (k : Nat), cf (addL u v) k = cf u k + cf v k
  | u, [], k => by simp [cf_nil]
  | [], y :: v, k => by simp [cf_nil]
  | x :: u, y :: v, 0 => by simp [cf, addL]
  | x :: u, y :: v, k + 1 => by
    have := cf_addL u v k
    simpa [cf, addL] using this
theorem cf_map (a : Int) : ∀ (g : List Int) (k : Nat), cf (g.map fun b => a * b) k = a * cf g k
  | [], k => by simp [cf]
  | b :: g, 0 => by simp [cf]
  | b :: g, k + 1 => by
    have := cf_map a g k
    simpa [cf] using this
theorem shF_add (g h : Nat → Int) : ∀ k, shF (fun j => g j + h j) k = shF g k + shF h k
  | 0 => by simp [shF]
  | k + 1 => rfl
theorem shF_mul (a : Int) (h : Nat → Int) : ∀ k, shF (fun j => a * h j) k = a * shF h k
  | 0 => by simp [shF]
  | k + 1 => rfl
theorem shF_congr {g h : Nat → Int} (e : ∀ k, g k = h k) : ∀ k, shF g k = shF h k
  | 0 => rfl
  | k + 1 => e k
theorem cv_congr {g h : Nat → Int} (e : ∀ k, g k = h k) : ∀ (f : List Int) (k : Nat), cv f g k = cv f h k
  | [], _ => rfl
  | a :: f, k => by
    show a * g k + shF (cv f g) k = a * h k + shF (cv f h) k
    rw [e k, shF_congr (cv_congr e f) k]
theorem cf_mulQ : ∀ (f g : List Int) (k : Nat), cf (mulQ f g) k = cv f (cf g) k
  | [], g, k => by simp [mulQ, cv, cf]
  | a :: f, g, k => by
    show cf (addL (g.map fun b => a * b) (0 :: mulQ f g)) k = a * cf g k + shF (cv f (cf g)) k
    rw [cf_addL, cf_map, cf_cons]
    have e : (if k = 0 then (0 : Int) else 0) = 0 := by split <;> rfl
    rw [e, Int.zero_add, shF_congr (cf_mulQ f g) k]
theorem cv_add (g h : Nat → Int) : ∀ (f : List Int) (k : Nat), cv f (fun j => g j + h j) k = cv f g k + cv f h k
  | [], _ => rfl
  | a :: f, k => by
    show a * (g k + h k) + shF (cv f fun j => g j + h j) k = (a * g k + shF (cv f g) k) + (a * h k + shF (cv f h) k)
    rw [shF_congr (cv_add g h f) k, shF_add, Int.mul_add]
    omega
theorem cv_mul (c : Int) (h : Nat → Int) : ∀ (f : List Int) (k : Nat), cv f (fun j => c * h j) k = c * cv f h k
  | [], _ => by simp [cv]
  | a :: f, k => by
    show a * (c * h k) + shF (cv f fun j => c * h j) k = c * (a * h k + shF (cv f h) k)
    rw [shF_congr (cv_mul c h f) k, shF_mul, Int.mul_add, Int.mul_left_comm]
theorem cv_sh (h : Nat → Int) : ∀ (f : List Int) (k : Nat), cv f (shF h) k = shF (cv f h) k
  | [], 0 => rfl
  | [], k + 1 => rfl
  | a :: f, 0 => by
    show a * shF h 0 + shF (cv f (shF h)) 0 = shF (cv (a :: f) h) 0
    simp [shF]
  | a :: f, k + 1 => by
    show a * h k + cv f (shF h) k = a * h k + shF (cv f h) k
    rw [cv_sh h f k]
def dl (k : Nat) : Int := if k = 0 then 1 else 0
theorem cv_dl : ∀ (f : List Int) (k : Nat), cv f dl k = cf f k
  | [], k => by simp [cv, cf]
  | a :: f, k => by
    show a * dl k + shF (cv f dl) k = _
    rw [cf_cons, shF_congr (cv_dl f) k]
    unfold dl
    split <;> simp
theorem cv_zero : ∀ (f : List Int) (k : Nat), cv f (fun _ => 0) k = 0
  | [], _ => rfl
  | a :: f, k => by
    show a * 0 + shF (cv f fun _ => 0) k = 0
    rw [shF_congr (cv_zero f) k]
    cases k <;> simp [shF]
theorem cv_comm : ∀ (b g : List Int) (k : Nat), cv b (cf g) k = cv g (cf b) k
  | [], g, k => by
    have e : cv g (cf []) k = cv g (fun _ => 0) k := cv_congr (fun j => cf_nil j) g k
    rw [e, cv_zero]
    rfl
  | x :: b, g, k => by
    have e : cv g (cf (x :: b)) k = cv g (fun j => x * dl j + shF (cf b) j) k := cv_congr (fun j => by
      rw [cf_cons]
      congr 1
      unfold dl
      split <;> simp) g k
    rw [e, cv_add (fun j => x * dl j) (shF (cf b)), cv_mul, cv_dl, cv_sh]
    show x * cf g k + shF (cv b (cf g)) k = _
    rw [shF_congr (cv_comm b g) k]
theorem cv_addL (h : Nat → Int) : ∀ (u v : List Int) (k : Nat), cv (addL u v) h k = cv u h k + cv v h k
  | u, [], k => by simp [cv]
  | [], y :: v, k => by simp [cv]
  | x :: u, y :: v, k => by
    show (x + y) * h k + shF (cv (addL u v) h) k = (x * h k + shF (cv u h) k) + (y * h k + shF (cv v h) k)
    rw [shF_congr (cv_addL h u v) k, shF_add, Int.add_mul]
    omega
theorem cv_map (a : Int) (h : Nat → Int) : ∀ (g : List Int) (k : Nat), cv (g.map fun b => a * b) h k = a * cv g h k
  | [], _ => by simp [cv]
  | b :: g, k => by
    show (a * b) * h k + shF (cv (g.map fun b => a * b) h) k = a * (b * h k + shF (cv g h) k)
    rw [shF_congr (cv_map a h g) k, shF_mul, Int.mul_add, Int.mul_assoc]
theorem cv_mulQ (b : List Int) (h : Nat → Int) : ∀ (a : List Int) (k : Nat), cv (mulQ a b) h k = cv a (cv b h) k
  | [], _ => rfl
  | x :: a, k => by
    show cv (addL (b.map fun y => x * y) (0 :: mulQ a b)) h k = x * cv b h k + shF (cv a (cv b h)) k
    rw [cv_addL, cv_map]
    show x * cv b h k + (0 * h k + shF (cv (mulQ a b) h) k) = _
    rw [shF_congr (cv_mulQ b h a) k, Int.zero_mul, Int.zero_add]
theorem ext_cf : ∀ {u v : List Int}, u.length = v.length → (∀ k, cf u k = cf v k) → u = v
  | [], [], _, _ => rfl
  | [], _ :: _, h, _ => by simp at h
  | _ :: _, [], h, _ => by simp at h
  | x :: u, y :: v, h, e => by
    have e0 : x = y := by simpa [cf] using e 0
    rw [e0, ext_cf (u := u) (v := v) (by simpa using h) fun k => by simpa [cf] using e (k + 1)]
theorem mulP_rc (a b c : List Int) : mulP (mulP a b) c = mulP (mulP a c) b := by
  by_cases ha : a = []
  · subst ha; simp [mulP]
  by_cases hb : b = []
  · subst hb; simp [mulP]
  by_cases hc : c = []
  · subst hc; simp [mulP]
  have la : 0 < a.length := List.length_pos_iff.mpr ha
  have lb : 0 < b.length := List.length_pos_iff.mpr hb
  have lc : 0 < c.length := List.length_pos_iff.mpr hc
  have l1 := mulQ_len a b ha hb
  have l2 := mulQ_len a c ha hc
  have n1 : mulQ a b ≠ [] := fun z => by rw [z, List.length_nil] at l1; omega
  have n2 : mulQ a c ≠ [] := fun z => by rw [z, List.length_nil] at l2; omega
  have e1 : mulP a b = mulQ a b := by unfold mulP; rw [if_neg (by simp [ha, hb])]
  have e2 : mulP a c = mulQ a c := by unfold mulP; rw [if_neg (by simp [ha, hc])]
  have e3 : mulP (mulQ a b) c = mulQ (mulQ a b) c := by unfold mulP; rw [if_neg (by simp [n1, hc])]
  have e4 : mulP (mulQ a c) b = mulQ (mulQ a c) b := by unfold mulP; rw [if_neg (by simp [n2, hb])]
  rw [e1, e2, e3, e4]
  refine ext_cf (by rw [mulQ_len _ _ n1 hc, mulQ_len _ _ n2 hb, l1, l2]; omega) fun k => ?_
  rw [cf_mulQ, cf_mulQ, cv_mulQ, cv_mulQ]
  exact cv_congr (cv_comm b c) a k
/-! ### what a factor ahead does -/
theorem contP_map (a : Int) (f : List Int) : contP (f.map fun b => a * b) = a.natAbs * contP f := by
  unfold contP
  have go : ∀ (f : List Int) (c : Nat), (f.map fun b => a * b).foldl (fun a b => (Int.gcd a b : Int)) ((a.natAbs * c : Nat) : Int) = a.natAbs * f.foldl (fun a b => (Int.gcd a b : Int)) (c : Int) := by
    intro f
    induction f with
    | nil => intro c; simp
    | cons x f ih =>
      intro c
      show (f.map fun b => a * b).foldl _ (Int.gcd ((a.natAbs * c : Nat) : Int) (a * x) : Int) = _
      have e : Int.gcd ((a.natAbs * c : Nat) : Int) (a * x) = a.natAbs * Int.gcd c x := by
        rw [Int.gcd_eq_natAbs_gcd_natAbs, Int.gcd_eq_natAbs_gcd_natAbs, Int.natAbs_mul, Int.natAbs_natCast, Int.natAbs_natCast, Nat.gcd_mul_left]
      rw [e]
      exact ih (Int.gcd c x)
  have := go f 0
  simpa using this
theorem primP_map {a : Int} {f : List Int} (ha : a ≠ 0) (hs : a.natAbs < 1073741824) (hf : f ≠ []) (hc : contP f = 1) (hl : 0 < lastI f) : primP (f.map fun b => a * b) = some f := by
  have e1 := contP_map a f
  have e2 := lastI_map hf a
  cases hm : f.map (fun b => a * b) with
  | nil => exact absurd (List.map_eq_nil_iff.mp hm) hf
  | cons x r =>
    rw [hm] at e1 e2
    have hby : (if 0 < lastI (x :: r) then contP (x :: r) else -contP (x :: r)) = a := by
      rw [e1, e2, hc, Int.mul_one]
      by_cases h0 : 0 < a
      · rw [if_pos (Int.mul_pos h0 hl)]; omega
      · have : a * lastI f < 0 := Int.mul_neg_of_neg_of_pos (by omega) hl
        rw [if_neg (by omega)]; omega
    show (if Mi.divOk (if 0 < lastI (x :: r) then contP (x :: r) else -contP (x :: r)) = true then some ((x :: r).map fun b => b.fdiv (if 0 < lastI (x :: r) then contP (x :: r) else -contP (x :: r))) else none) = _
    rw [hby, ← hm]
    have hd : Mi.divOk a = true := by
      unfold Mi.divOk
      rw [decide_eq_true ha, decide_eq_true hs]
      rfl
    rw [if_pos hd, List.map_map]
    congr 1
    refine (List.map_congr_left fun b _ => ?_).trans (List.map_id f)
    show (a * b).fdiv a = b
    rw [Int.mul_comm]
    exact Int.mul_fdiv_cancel b ha
theorem mulP_map (a : Int) (f g : List Int) : mulP (f.map fun b => a * b) g = (mulP f g).map fun b => a * b := by
  unfold mulP
  by_cases h : f = [] ∨ g = []
  · rw [if_pos h, if_pos (h.imp (fun z => by rw [z]; rfl) id)]
    rfl
  · have hf : f ≠ [] := fun z => h (.inl z)
    have hg : g ≠ [] := fun z => h (.inr z)
    have hm : f.map (fun b => a * b) ≠ [] := fun z => hf (List.map_eq_nil_iff.mp z)
    rw [if_neg h, if_neg (by simp [hm, hg])]
    refine ext_cf (by rw [mulQ_len _ _ hm hg, List.length_map, List.length_map, mulQ_len _ _ hf hg]) fun k => ?_
    rw [cf_mulQ, cv_map, cf_map, cf_mulQ]
theorem foldl_map (a : Int) : ∀ (ps : List (List Int)) (f : List Int), ps.foldl mulP (f.map fun b => a * b) = (ps.foldl mulP f).map fun b => a * b
  | [], _ => rfl
  | p :: ps, f => by
    show ps.foldl mulP (mulP (f.map fun b => a * b) p) = _
    rw [mulP_map]
    exact foldl_map a ps (mulP f p)
end Lb

set_option Elab.async false
set_option linter.all false
set_option maxRecDepth 1000000
set_option autoImplicit false
set_option maxHeartbeats 4000000
namespace Lb
open Mi
/-! ### sizes -/
theorem log2_le {n k : Nat} (h : n < 2 ^ k) : n.log2 ≤ k := by
  by_cases h0 : n = 0
  · subst h0; exact Nat.zero_le _
  · exact Nat.le_of_lt ((Nat.log2_lt h0).mpr h)
/-- a number of at most so many bits -/
def bits (u : Nat) (i : Int) : Prop := i.natAbs < 2 ^ u
theorem bits.mono {u v : Nat} {i : Int} (h : bits u i) (huv : u ≤ v) : bits v i := Nat.lt_of_lt_of_le h (Nat.pow_le_pow_right (by decide) huv)
theorem bits_zero (u : Nat) : bits u 0 := Nat.two_pow_pos u
theorem bits.mul {u v : Nat} {i j : Int} (hi : bits u i) (hj : bits v j) : bits (u + v) (i * j) := by
  unfold bits at *
  rw [Int.natAbs_mul, Nat.pow_add]
  exact Nat.mul_lt_mul'' hi hj
theorem bits.add {u : Nat} {i j : Int} (hi : bits u i) (hj : bits u j) : bits (u + 1) (i + j) := by
  unfold bits at *
  have := Int.natAbs_add_le i j
  rw [Nat.pow_succ]
  omega
theorem bits.sub {u : Nat} {i j : Int} (hi : bits u i) (hj : bits u j) : bits (u + 1) (i - j) := by
  unfold bits at *
  have := Int.natAbs_sub_le i j
  rw [Nat.pow_succ]
  omega
theorem bits.mulOk {u v : Nat} {i j : Int} (hi : bits u i) (hj : bits v j) (h : u + v < 1000000) : mulOk i j = true := by
  have a := log2_le hi
  have b := log2_le hj
  unfold Mi.mulOk
  rw [decide_eq_true (show i.natAbs.log2 + j.natAbs.log2 < 1000000 by omega)]
  simp
theorem bits.op {u v : Nat} {i j : Int} (hi : bits u i) (hj : bits v j) (h : u + v < 1000000) : op2 .mul (.int i) (.int j) = some (.int (i * j), false) := op_mulI (hi.mulOk hj h)
theorem bits.divOk {u : Nat} {j : Int} (h : bits u j) (h0 : j ≠ 0) (hu : u < 9000) : divOk j = true := by
  have a := log2_le h
  unfold Mi.divOk
  rw [decide_eq_true h0, decide_eq_true (show j.natAbs.log2 < 9000 by omega)]
  simp
/-- at most u bits, a factor more -/
def bnd (N : Nat) (i : Int) : Prop := i.natAbs ≤ N
/-! ### _law_gcd -/
def bLgcd : Ss := .cons (.par [0, 1] (.cons (.bi .abs (.cons (.var 0) .nil)) (.cons (.bi .abs (.cons (.var 1) .nil)) .nil))) (.cons (.whl (.cmp .ne (.var 1) (.int 0)) (.cons (.par [0, 1] (.cons (.var 1) (.cons (.op .mod (.bi .int (.cons (.var 0) .nil)) (.var 1)) .nil))) .nil)) (.cons (.ret (.var 0)) .nil))
theorem fmod_nat (a b : Nat) : (a : Int).fmod (b : Int) = ((a % b : Nat) : Int) := by
  rw [Int.fmod_eq_emod_of_nonneg _ (by omega)]
  rfl
theorem half_lt {b r k : Nat} (hb : b < 2 ^ (k + 1)) (h0 : 0 < r) (h : r < b) : b % r < 2 ^ k := by
  rw [Nat.pow_succ] at hb
  have h1 := Nat.mod_lt b h0
  by_cases h2 : 2 * r ≤ b
  · omega
  · rw [Nat.mod_eq_sub_mod (by omega), Nat.mod_eq_of_lt (by omega)]
    omega
section
variable {C : Calls} {n : Nat}
theorem eucl1 {a b n : Nat} (h : b ≠ 0) : whN (do
      let p ← ev C (.cmp .ne (.var 1) (.int 0))
      asB p.1) (execs C (.cons (.par [0, 1] (.cons (.var 1) (.cons (.op .mod (.bi .int (.cons (.var 0) .nil)) (.var 1)) .nil))) .nil)) (n + 1) [some (.int (a : Nat), .frz), some (.int (b : Nat), .frz)] = whN (do
      let p ← ev C (.cmp .ne (.var 1) (.int 0))
      asB p.1) (execs C (.cons (.par [0, 1] (.cons (.var 1) (.cons (.op .mod (.bi .int (.cons (.var 0) .nil)) (.var 1)) .nil))) .nil)) n [some (.int (b : Nat), .frz), some (.int ((a % b : Nat) : Int), .frz)] := by
  have hb : (b : Int) ≠ 0 := by omega
  have e : op2 .mod (.int (a : Nat)) (.int (b : Nat)) = some (.int ((a % b : Nat) : Int), false) := (op_modI hb).trans (by rw [fmod_nat])
  refine whN_go (m1 := [some (.int (a : Nat), .frz), some (.int (b : Nat), .frz)]) ?_ ?_
  · simp [ev, argOf, bindR, hb]
    exact h
  · simp [execs, exec, evRs, stVs, ev, evAs, rdAs, argOf, bindR, e, -Int.natCast_emod]
theorem eucl0 {a n : Nat} : whN (do
      let p ← ev C (.cmp .ne (.var 1) (.int 0))
      asB p.1) (execs C (.cons (.par [0, 1] (.cons (.var 1) (.cons (.op .mod (.bi .int (.cons (.var 0) .nil)) (.var 1)) .nil))) .nil)) (n + 1) [some (.int (a : Nat), .frz), some (.int ((0 : Nat) : Int), .frz)] = .ok .nx [some (.int (a : Nat), .frz), some (.int 0, .frz)] := by
  refine whN_stop ?_
  simp [ev, argOf, bindR]
theorem eucl : ∀ (k n a b : Nat), b < 2 ^ k → 2 * k + 1 ≤ n → whN (do
      let p ← ev C (.cmp .ne (.var 1) (.int 0))
      asB p.1) (execs C (.cons (.par [0, 1] (.cons (.var 1) (.cons (.op .mod (.bi .int (.cons (.var 0) .nil)) (.var 1)) .nil))) .nil)) n [some (.int (a : Nat), .frz), some (.int (b : Nat), .frz)] = .ok .nx [some (.int (Nat.gcd a b : Nat), .frz), some (.int 0, .frz)]
  | 0, n + 1, a, b, hb, hn => by
    have : b = 0 := by rw [Nat.pow_zero] at hb; omega
    subst this
    rw [Nat.gcd_zero_right]
    exact eucl0
  | k + 1, n + 2, a, b, hb, hn => by
    by_cases h0 : b = 0
    · subst h0
      rw [Nat.gcd_zero_right]
      exact eucl0
    · rw [eucl1 h0, Nat.gcd_comm, Nat.gcd_rec, Nat.gcd_comm]
      by_cases h1 : a % b = 0
      · rw [h1, Nat.gcd_zero_right]
        exact eucl0
      · rw [eucl1 h1, Nat.gcd_comm b, Nat.gcd_rec, Nat.gcd_comm]
        exact eucl k n _ _ (half_lt hb (by omega) (Nat.mod_lt _ (by omega))) (by omega)
theorem law_gcd (hW : C.whl = Wn n) {a b : Int} {u : Nat} (hb : bits u b) (hn : 2 * u + 1 ≤ n) : runFn C ⟨2, 2, bLgcd⟩ [(.int a, .frz), (.int b, .frz)] = .ok (.int (Int.gcd a b : Nat)) false [] := by
  refine (run_fn rfl (m := [some (.int (Int.gcd a b : Nat), .frz), some (.int 0, .frz)]) (d := .int (Int.gcd a b : Nat)) (o := false) ?_).trans rfl
  show execs C bLgcd [some (.int a, .frz), some (.int b, .frz)] = _
  unfold bLgcd
  have ab : ∀ i : Int, bi1 .abs [.int i] = some (.int (i.natAbs : Nat), false) := fun i => by
    show some (D.int (if i < 0 then -i else i), false) = _
    congr 3
    split <;> omega
  rw [run_cons (m' := [some (.int (a.natAbs : Nat), .frz), some (.int (b.natAbs : Nat), .frz)]) (by simp [exec, evRs, stVs, ev, evAs, rdAs, argOf, bindR, ab])]
  rw [run_cons (m' := [some (.int (Int.gcd a b : Nat), .frz), some (.int 0, .frz)]) (by
    simp only [exec, hW]
    exact eucl u n _ _ hb hn)]
  refine run_end ?_
  simp [exec, evMv, bindR]
/-! ### _law_low, lowest -/
def lowP (p q : Int) : List Int := [p.fdiv (Int.gcd p q : Nat), q.fdiv (Int.gcd p q : Nat)]
def bLlow (cg : Nat) : Ss := .cons (.asg (.nm 2) (.ife (.cmp .gt (.var 1) (.int 0)) (.call cg (.cons (.var 0) (.cons (.var 1) .nil))) (.neg (.call cg (.cons (.var 0) (.cons (.var 1) .nil)))))) (.cons (.ret (.tup (.cons (.op .fdiv (.var 0) (.var 2)) (.cons (.op .fdiv (.var 1) (.var 2)) .nil)))) .nil)
def bLowest : Ss := .cons (.asg (.nm 2) (.bi .gcd (.cons (.var 0) (.cons (.var 1) .nil)))) (.cons (.ifs (.cmp .lt (.var 1) (.int 0)) (.cons (.asg (.nm 2) (.neg (.var 2))) .nil) .nil) (.cons (.ret (.tup (.cons (.op .fdiv (.var 0) (.var 2)) (.cons (.op .fdiv (.var 1) (.var 2)) .nil)))) .nil))
theorem gcd_bits {p q : Int} {u : Nat} (hq : bits u q) (h0 : q ≠ 0) : bits u (Int.gcd p q : Nat) := by
  unfold bits at *
  have := Nat.le_of_dvd (by omega) (Int.gcd_dvd_natAbs_right p q)
  omega
theorem gcd_ne {p q : Int} (h0 : q ≠ 0) : ((Int.gcd p q : Nat) : Int) ≠ 0 := by
  have := Int.gcd_pos_of_ne_zero_right p h0
  omega
theorem law_low {cg : Nat} (h0 : C.io cg 0 = false) (h1 : C.io cg 1 = false) {p q : Int} {u : Nat} (hq : bits u q) (hu : u < 9000) (hp : 0 < q) (hc : C.call cg [(.int p, .frz), (.int q, .frz)] = .ok (.int (Int.gcd p q : Nat)) false []) :
    runFn C ⟨2, 3, bLlow cg⟩ [(.int p, .frz), (.int q, .frz)] = .ok (tI (lowP p q)) false [] := by
  refine (run_fn rfl (m := [some (.int p, .frz), some (.int q, .frz), some (.int (Int.gcd p q : Nat), .frz)]) (d := tI (lowP p q)) (o := false) ?_).trans rfl
  show execs C (bLlow cg) [some (.int p, .frz), some (.int q, .frz), none] = _
  have hd := (gcd_bits (p := p) hq (by omega)).divOk (gcd_ne (by omega)) hu
  unfold bLlow lowP
  generalize Int.gcd p q = g at *
  rw [run_cons (m' := [some (.int p, .frz), some (.int q, .frz), some (.int (g : Nat), .frz)]) (by
    simp [exec, ev, evCs, argOf, bindR, hp, h0, h1, callMR, inArgs, lends, lendOk, poison, putBack, hc])]
  refine run_end ?_
  simp [exec, evMv, ev, evFs, argOf, bindR, op_fdivI hd]
theorem lowest {p q : Int} {u : Nat} (hq : bits u q) (hu : u < 9000) (hp : 0 < q) : runFn C ⟨2, 3, bLowest⟩ [(.int p, .frz), (.int q, .frz)] = .ok (tI (lowP p q)) false [] := by
  refine (run_fn rfl (m := [some (.int p, .frz), some (.int q, .frz), some (.int (Int.gcd p q : Nat), .frz)]) (d := tI (lowP p q)) (o := false) ?_).trans rfl
  show execs C bLowest [some (.int p, .frz), some (.int q, .frz), none] = _
  have hd := (gcd_bits (p := p) hq (by omega)).divOk (gcd_ne (by omega)) hu
  have hn : ¬ q < 0 := by omega
  have e : bi1 .gcd [.int p, .int q] = some (.int (Int.gcd p q : Nat), false) := rfl
  unfold bLowest lowP
  generalize Int.gcd p q = g at *
  rw [run_cons (m' := [some (.int p, .frz), some (.int q, .frz), some (.int (g : Nat), .frz)]) (by
    simp [exec, ev, evAs, rdAs, argOf, bindR, e])]
  rw [run_cons (m' := [some (.int p, .frz), some (.int q, .frz), some (.int (g : Nat), .frz)]) (by
    simp [exec, execs, ev, argOf, bindR, hn])]
  refine run_end ?_
  simp [exec, evMv, ev, evFs, argOf, bindR, op_fdivI hd]
/-- what is in lowest terms -/
theorem lowP_one {p q : Int} (h0 : 0 < q) : 1 ≤ (lowP p q).getD 1 0 ∧ Int.gcd ((lowP p q).getD 0 0) ((lowP p q).getD 1 0) = 1 := by
  have hg := Int.gcd_pos_of_ne_zero_right p (show q ≠ 0 by omega)
  show 1 ≤ q.fdiv (Int.gcd p q : Nat) ∧ Int.gcd (p.fdiv (Int.gcd p q : Nat)) (q.fdiv (Int.gcd p q : Nat)) = 1
  rw [Int.fdiv_eq_ediv_of_nonneg _ (by omega), Int.fdiv_eq_ediv_of_nonneg _ (by omega)]
  refine ⟨?_, Int.gcd_ediv_gcd_ediv_gcd hg⟩
  have hd : ((Int.gcd p q : Nat) : Int) ∣ q := Int.gcd_dvd_right p q
  exact Int.le_ediv_of_mul_le (by omega) (by rw [Int.one_mul]; exact Int.le_of_dvd h0 hd)
end
end Lb

set_option Elab.async false
set_option linter.all false
set_option maxRecDepth 1000000
set_option autoImplicit false
set_option maxHeartbeats 4000000
namespace Lb
open Mi
/-! ### added -/
theorem addF_addL_le : ∀ (xs ys : List Int), ys.length ≤ xs.length → addF xs ys = addL xs ys
  | xs, [], _ => by simp
  | x :: xs, y :: ys, h => congrArg ((x + y) :: ·) (addF_addL_le xs ys (by simpa using h))
theorem addL_comm : ∀ (xs ys : List Int), addL xs ys = addL ys xs
  | xs, [] => by simp
  | [], y :: ys => rfl
  | x :: xs, y :: ys => by
    show (x + y) :: addL xs ys = (y + x) :: addL ys xs
    rw [addL_comm xs ys, Int.add_comm]
theorem sort2 (a b : D) : [a, b].mergeSort leLen = if lenN a ≤ lenN b then [a, b] else [b, a] := by
  by_cases h : lenN a ≤ lenN b
  · simp [List.mergeSort, List.merge, leLen, h]
  · simp [List.mergeSort, List.merge, leLen, h]
def bAdded (ct : Nat) : Ss := .cons (.asg (.tp (.cons (.nm 3) (.cons (.nm 4) .nil))) (.srtl (.lst (.cons (.var 0) (.cons (.var 1) .nil))))) (.cons (.asg (.nm 2) (.bi .list (.cons (.var 4) .nil))) (.cons (.frr (.tp (.cons (.nm 5) (.cons (.nm 6) .nil))) (.enum (.var 3)) (.cons (.augi 2 (.var 5) .add (.var 6)) .nil)) (.cons (.ret (.call ct (.cons (.var 2) .nil))) .nil)))
section
variable {C : Calls} {n : Nat}
theorem aInner {f g s l : D} : ∀ (ys : List Int) (p : Nat) (x : List Int) (q5 q6 : Option D), p + ys.length ≤ x.length → ∃ r5 r6,
    forL (setT (.tp (.cons (.nm 5) (.cons (.nm 6) .nil)))) (execs C (.cons (.augi 2 (.var 5) .add (.var 6)) .nil)) (enumD p (ys.map D.int)) [some (f, .frz), some (g, .frz), some (lI x, .own), some (s, .frz), some (l, .frz), fr q5, fr q6] =
      .ok .nx [some (f, .frz), some (g, .frz), some (lI (addF x (zs p ++ ys)), .own), some (s, .frz), some (l, .frz), fr r5, fr r6]
  | [], p, x, q5, q6, _ => ⟨q5, q6, by
    rw [addF_zero]
    · rfl
    · simp⟩
  | y :: ys, p, x, q5, q6, h => by
    have hk : p < x.length := by simp at h; omega
    have e1 : atL (x.map D.int) (p : Int) = some (.int (x.getD p 0)) := atL_at hk
    have e2 : ixN x.length (p : Int) = some p := ixN_nat hk
    obtain ⟨r5, r6, ih⟩ := aInner (f := f) (g := g) (s := s) (l := l) ys (p + 1) (x.set p (x.getD p 0 + y)) (some (.int p)) (some (.int y)) (by rw [List.length_set]; simp at h; omega)
    refine ⟨r5, r6, ?_⟩
    show forL _ _ (.tupn [.int (p : Nat), .int y] :: enumD (p + 1) (ys.map D.int)) _ = _
    rw [forL_cons (m1 := [some (f, .frz), some (g, .frz), some (lI x, .own), some (s, .frz), some (l, .frz), some (.int (p : Nat), .frz), some (.int y, .frz)])
      (m2 := [some (f, .frz), some (g, .frz), some (lI (x.set p (x.getD p 0 + y)), .own), some (s, .frz), some (l, .frz), fr (some (.int (p : Nat))), fr (some (.int y))])]
    · rw [ih, addF_set, ← addF_addL, addL_shift]
      have e : addL [y] (0 :: ys) = y :: ys := by
        show (y + 0) :: addL [] _ = _
        rw [addL_nil', Int.add_zero]
      rw [e]
    · cases q5 <;> cases q6 <;> simp [fr, setT, setTs, bindR, -List.map_map]
    · simp [execs, exec, ev, argOf, bindR, updLR, e1, e2, aug2, fr, List.map_set, -List.map_map, -List.getD_eq_getElem?_getD]
theorem added1 {ct : Nat} (h0 : C.io ct 0 = false) {f g s l : List Int} (hs : s.length ≤ l.length) (hsl : srtLen (.lst [tI f, tI g]) = some [tI s, tI l]) (hc : C.call ct [(lI (addL l s), .frz)] = .ok (tI (trimP (addL l s))) false []) :
    runFn C ⟨2, 7, bAdded ct⟩ [(tI f, .frz), (tI g, .frz)] = .ok (tI (trimP (addL l s))) false [] := by
  obtain ⟨r5, r6, e⟩ := aInner (C := C) (f := tI f) (g := tI g) (s := tI s) (l := tI l) s 0 l none none (by omega)
  rw [show zs 0 ++ s = s from rfl, addF_addL_le _ _ hs] at e
  refine (run_fn rfl (m := [some (tI f, .frz), some (tI g, .frz), some (lI (addL l s), .frz), some (tI s, .frz), some (tI l, .frz), fr r5, fr r6]) (d := tI (trimP (addL l s))) (o := false) ?_).trans rfl
  show execs C (bAdded ct) [some (tI f, .frz), some (tI g, .frz), none, none, none, none, none] = _
  unfold bAdded
  rw [run_cons (m' := [some (tI f, .frz), some (tI g, .frz), none, some (tI s, .frz), some (tI l, .frz), none, none]) (by
    simp [exec, ev, evFs, argOf, setT, setTs, bindR, hsl])]
  rw [run_cons (m' := [some (tI f, .frz), some (tI g, .frz), some (lI l, .own), some (tI s, .frz), some (tI l, .frz), none, none]) (by
    simp [exec, ev, evAs, rdAs, argOf, bindR])]
  rw [run_cons (by
    simp only [exec]
    rw [bind_ok (m' := [some (tI f, .frz), some (tI g, .frz), some (lI l, .own), some (tI s, .frz), some (tI l, .frz), none, none]) (a := enumD 0 (s.map D.int)) (by simp [evI, ev, bindR])]
    exact e)]
  refine run_end ?_
  simp [exec, evMv, ev, evCs, argOf, bindR, h0, callMR, inArgs, lends, lendOk, poison, putBack, hc]
theorem added {ct : Nat} (h0 : C.io ct 0 = false) {f g : List Int} (hc : C.call ct [(lI (addL f g), .frz)] = .ok (tI (trimP (addL f g))) false []) :
    runFn C ⟨2, 7, bAdded ct⟩ [(tI f, .frz), (tI g, .frz)] = .ok (tI (trimP (addL f g))) false [] := by
  have hsl : srtLen (.lst [tI f, tI g]) = some (if f.length ≤ g.length then [tI f, tI g] else [tI g, tI f]) := by
    show some ([tI f, tI g].mergeSort leLen) = _
    rw [sort2]
    show some (if (f.map D.int).length ≤ (g.map D.int).length then _ else _) = _
    rw [List.length_map, List.length_map]
  by_cases h : f.length ≤ g.length
  · rw [if_pos h] at hsl
    rw [addL_comm] at hc ⊢
    exact added1 h0 h hsl hc
  · rw [if_neg h] at hsl
    exact added1 h0 (by omega) hsl hc
/-! ### _law_plus -/
def bPlus (cc : Nat) : Ss := .cons (.asg (.nm 2) (.bi .max (.cons (.bi .len (.cons (.var 0) .nil)) (.cons (.bi .len (.cons (.var 1) .nil)) .nil)))) (.cons (.asg (.tp (.cons (.nm 3) (.cons (.nm 4) .nil))) (.tup (.cons (.op .add (.bi .list (.cons (.var 0) .nil)) (.op .mul (.lst (.cons (.int 0) .nil)) (.op .sub (.var 2) (.bi .len (.cons (.var 0) .nil))))) (.cons (.op .add (.bi .list (.cons (.var 1) .nil)) (.op .mul (.lst (.cons (.int 0) .nil)) (.op .sub (.var 2) (.bi .len (.cons (.var 1) .nil))))) .nil)))) (.cons (.ret (.call cc (.cons (.comp [5] (.nm 5) (.range (.cons (.var 2) .nil)) .nil (.op .add (.idx (.var 3) (.var 5)) (.idx (.var 4) (.var 5)))) .nil))) .nil))
def padL (f : List Int) (n : Nat) : List Int := f ++ zs (n - f.length)
theorem padL_len {f : List Int} {n : Nat} (h : f.length ≤ n) : (padL f n).length = n := by
  unfold padL
  rw [List.length_append, List.length_replicate]
  omega
theorem padL_get (f : List Int) (n k : Nat) : (padL f n).getD k 0 = f.getD k 0 := by
  unfold padL
  rw [List.getD_eq_getElem?_getD, List.getD_eq_getElem?_getD, List.getElem?_append]
  split
  · rfl
  · rw [List.getElem?_eq_none (show f.length ≤ k by omega), List.getElem?_replicate]
    split <;> rfl
def gP (f g : List Int) : D → D
  | .int i => .int (f.getD i.toNat 0 + g.getD i.toNat 0)
  | x => x
theorem sum_rg (f g : List Int) : (rgI (max f.length g.length)).map (fun i => f.getD i.toNat 0 + g.getD i.toNat 0) = addL f g := by
  refine ext_cf (by rw [List.length_map, rg_len, addL_len]) fun k => ?_
  rw [cf_addL]
  unfold cf rgI
  by_cases h : k < max f.length g.length
  · simp [List.getD_eq_getElem?_getD, List.getElem?_range h]
  · rw [List.getD_eq_getElem?_getD, List.getElem?_eq_none (by simp; omega)]
    simp only [List.getD_eq_getElem?_getD]
    rw [List.getElem?_eq_none (show f.length ≤ k by omega), List.getElem?_eq_none (show g.length ≤ k by omega)]
    rfl
theorem plus {cc : Nat} (h0 : C.io cc 0 = false) {f g : List Int} (hf : f.length ≤ 1000) (hg : g.length ≤ 1000) (hc : C.call cc [(lI (addL f g), .own)] = .ok (tI (trimP (addL f g))) false []) :
    runFn C ⟨2, 6, bPlus cc⟩ [(tI f, .frz), (tI g, .frz)] = .ok (tI (trimP (addL f g))) false [] := by
  obtain ⟨N, hN⟩ : ∃ N, N = max f.length g.length := ⟨_, rfl⟩
  have pf := padL_len (f := f) (n := N) (by omega)
  have pg := padL_len (f := g) (n := N) (by omega)
  have hmx : (if f.length < g.length then (g.length : Int) else (f.length : Int)) = (N : Int) := by split <;> omega
  have m1 : op2 .mul (.lst [.int 0]) (.int ((N : Int) - (f.length : Int))) = some (lI (zs (N - f.length)), true) := mul_zs (by omega) (by omega) (by omega)
  have m2 : op2 .mul (.lst [.int 0]) (.int ((N : Int) - (g.length : Int))) = some (lI (zs (N - g.length)), true) := mul_zs (by omega) (by omega) (by omega)
  have ad : ∀ xs ys : List Int, xs.length + ys.length ≤ 5000 → op2 .add (lI xs) (lI ys) = some (lI (xs ++ ys), true) := fun xs ys h => by
    show (if (xs.map D.int).length + (ys.map D.int).length ≤ LINE then some (D.lst (xs.map D.int ++ ys.map D.int), true) else none) = _
    rw [List.length_map, List.length_map, if_pos (Nat.le_trans h (by decide)), ← List.map_append]
  have a1 : op2 .add (lI f) (lI (zs (N - f.length))) = some (lI (padL f N), true) := ad _ _ (by rw [List.length_replicate]; omega)
  have a2 : op2 .add (lI g) (lI (zs (N - g.length))) = some (lI (padL g N), true) := ad _ _ (by rw [List.length_replicate]; omega)
  have S : List (Option (D × Fl)) := []
  refine (run_fn rfl (m := [some (tI f, .frz), some (tI g, .frz), some (.int (N : Nat), .frz), some (lI (padL f N), .frz), some (lI (padL g N), .frz), none]) (d := tI (trimP (addL f g))) (o := false) ?_).trans rfl
  show execs C (bPlus cc) [some (tI f, .frz), some (tI g, .frz), none, none, none, none] = _
  unfold bPlus
  rw [run_cons (m' := [some (tI f, .frz), some (tI g, .frz), some (.int (N : Nat), .frz), none, none, none]) (by
    simp [exec, ev, evAs, rdAs, argOf, bindR, hmx])]
  rw [run_cons (m' := [some (tI f, .frz), some (tI g, .frz), some (.int (N : Nat), .frz), some (lI (padL f N), .frz), some (lI (padL g N), .frz), none]) (by
    simp only [exec, ev, argOf, evFs]
    simp [evAs, evFs, ev, argOf, rdAs, setT, setTs, bindR, m1, m2, a1, a2, -List.map_replicate])]
  refine run_end ?_
  have kc : ev C (.comp [5] (.nm 5) (.range (.cons (.var 2) .nil)) .nil (.op .add (.idx (.var 3) (.var 5)) (.idx (.var 4) (.var 5)))) [some (tI f, .frz), some (tI g, .frz), some (.int (N : Nat), .frz), some (lI (padL f N), .frz), some (lI (padL g N), .frz), none] =
      .ok (lI (addL f g), true) [some (tI f, .frz), some (tI g, .frz), some (.int (N : Nat), .frz), some (lI (padL f N), .frz), some (lI (padL g N), .frz), none] := by
    refine ev_comp (m1 := [some (tI f, .frz), some (tI g, .frz), some (.int (N : Nat), .frz), some (lI (padL f N), .frz), some (lI (padL g N), .frz), none]) (xs := (rgI N).map D.int) (by simp [evI, ev, evFs, bindR, rangeO1 (n := N) (by omega)]) ?_
    simp only [evB]
    rw [compM_map (m1 := fun x => [some (tI f, .frz), some (tI g, .frz), some (.int (N : Nat), .frz), some (lI (padL f N), .frz), some (lI (padL g N), .frz), some (x, .frz)]) (g := gP f g) (o := fun _ => false)
      (by rw [List.length_map, rg_len]; exact Nat.le_trans (show N ≤ 1000 by omega) (by decide)) fun x hx => by
        obtain ⟨i, hi, rfl⟩ := List.mem_map.mp hx
        have hi := mem_rg.mp hi
        obtain ⟨k, rfl⟩ : ∃ k : Nat, i = (k : Int) := ⟨i.toNat, by omega⟩
        have g1 : atL ((padL f N).map D.int) (k : Int) = some (.int (f.getD k 0)) := (atL_at (by omega)).trans (by rw [padL_get])
        have g2 : atL ((padL g N).map D.int) (k : Int) = some (.int (g.getD k 0)) := (atL_at (by omega)).trans (by rw [padL_get])
        refine ⟨rfl, ?_, rfl⟩
        simp [ev, argOf, bindR, g1, g2, gP, -List.getD_eq_getElem?_getD]]
    rw [List.map_map]
    have e : (rgI N).map (gP f g ∘ D.int) = (addL f g).map D.int := by
      rw [← sum_rg, List.map_map, hN]
      rfl
    rw [e]
    rfl
  simp only [exec, evMv]
  rw [bind_ok (m' := [some (tI f, .frz), some (tI g, .frz), some (.int (N : Nat), .frz), some (lI (padL f N), .frz), some (lI (padL g N), .frz), none]) (a := (tI (trimP (addL f g)), false))]
  · rfl
  · have ke : evCs C cc 0 (.cons (.comp [5] (.nm 5) (.range (.cons (.var 2) .nil)) .nil (.op .add (.idx (.var 3) (.var 5)) (.idx (.var 4) (.var 5)))) .nil) [some (tI f, .frz), some (tI g, .frz), some (.int (N : Nat), .frz), some (lI (padL f N), .frz), some (lI (padL g N), .frz), none] = .ok [A.val (lI (addL f g)) true] [some (tI f, .frz), some (tI g, .frz), some (.int (N : Nat), .frz), some (lI (padL f N), .frz), some (lI (padL g N), .frz), none] := by
      simp only [evCs, h0, if_neg Bool.false_ne_true, bindR, kc]
      rfl
    show (evCs C cc 0 _ >>= fun as => callM C cc as) _ = _
    rw [bind_ok ke]
    simp [callMR, inArgs, lends, lendOk, poison, putBack, hc]
end
end Lb

set_option Elab.async false
set_option linter.all false
set_option maxRecDepth 1000000
set_option autoImplicit false
set_option maxHeartbeats 4000000
namespace Lb
open Mi
/-! ### how great coefficients grow -/
theorem addL_nat {A B : Nat} : ∀ {u v : List Int}, (∀ x ∈ u, x.natAbs ≤ A) → (∀ y ∈ v, y.natAbs ≤ B) → ∀ c ∈ addL u v, c.natAbs ≤ A + B
  | u, [], hu, hv, c, hc => by
    rw [addL_nil] at hc
    have := hu c hc
    omega
  | [], y :: v, hu, hv, c, hc => by
    have := hv c hc
    omega
  | x :: u, y :: v, hu, hv, c, hc => by
    rcases List.mem_cons.mp hc with rfl | hc
    · have h1 := hu x List.mem_cons_self
      have h2 := hv y List.mem_cons_self
      have := Int.natAbs_add_le x y
      omega
    · exact addL_nat (fun x hx => hu x (List.mem_cons_of_mem _ hx)) (fun y hy => hv y (List.mem_cons_of_mem _ hy)) c hc
theorem mulQ_nat {A G : Nat} {g : List Int} (hg : ∀ b ∈ g, b.natAbs ≤ G) : ∀ {f : List Int}, (∀ a ∈ f, a.natAbs ≤ A) → ∀ c ∈ mulQ f g, c.natAbs ≤ f.length * (A * G)
  | [], _, c, hc => by cases hc
  | a :: f, hf, c, hc => by
    have ih := mulQ_nat (G := G) hg (f := f) fun a ha => hf a (List.mem_cons_of_mem _ ha)
    have h := addL_nat (A := A * G) (B := f.length * (A * G)) (u := g.map fun b => a * b) (v := 0 :: mulQ f g) (fun x hx => by
      obtain ⟨b, hb, rfl⟩ := List.mem_map.mp hx
      rw [Int.natAbs_mul]
      exact Nat.mul_le_mul (hf a List.mem_cons_self) (hg b hb)) (fun y hy => by
      rcases List.mem_cons.mp hy with rfl | hy
      · exact Nat.zero_le _
      · exact ih y hy) c hc
    rw [List.length_cons, Nat.succ_mul]
    omega
theorem mem_trim : ∀ {xs : List Int} {c : Int}, c ∈ trimP xs → c ∈ xs
  | [], c, h => h
  | x :: r, c, h => by
    have h : c ∈ (match trimP r with
      | [] => if x = 0 then [] else [x]
      | y :: t => x :: y :: t) := h
    cases e : trimP r with
    | nil =>
      rw [e] at h
      dsimp only at h
      split at h
      · cases h
      · rw [List.mem_singleton.mp h]
        exact List.mem_cons_self
    | cons y t =>
      rw [e] at h
      dsimp only at h
      rcases List.mem_cons.mp h with rfl | h
      · exact List.mem_cons_self
      · exact List.mem_cons_of_mem _ (mem_trim (by rw [e]; exact h))
theorem poly_trim : ∀ xs : List Int, polyP (trimP xs) = true
  | [] => rfl
  | x :: r => by
    have ih := poly_trim r
    show polyP (match trimP r with
      | [] => if x = 0 then [] else [x]
      | y :: t => x :: y :: t) = true
    cases e : trimP r with
    | nil =>
      dsimp only
      split
      · rfl
      · rename_i h
        unfold polyP lastI
        simp [h]
    | cons y t =>
      rw [e] at ih
      dsimp only
      unfold polyP at ih ⊢
      rw [lastI_cons (by simp)]
      simpa using ih
theorem mulP_nat {A G : Nat} {f g : List Int} (hf : ∀ a ∈ f, a.natAbs ≤ A) (hg : ∀ b ∈ g, b.natAbs ≤ G) : ∀ c ∈ mulP f g, c.natAbs ≤ f.length * (A * G) := fun c hc => by
  unfold mulP at hc
  split at hc
  · cases hc
  · exact mulQ_nat hg hf c hc
theorem mulP_len (f g : List Int) : (mulP f g).length ≤ f.length + g.length - 1 := by
  unfold mulP
  split
  · exact Nat.zero_le _
  · rename_i h
    exact Nat.le_of_eq (mulQ_len f g (fun z => h (.inl z)) fun z => h (.inr z))
/-! ### one in the place of x in another one -/
def hS (g acc : List Int) (a : Int) : List Int := trimP (addL (mulP acc g) (trimP [a]))
def subP (f g : List Int) : List Int := f.reverse.foldl (hS g) []
def bSubst (cp cm ct : Nat) : Ss := .cons (.asg (.nm 2) (.tup .nil)) (.cons (.frr (.nm 3) (.ex (.rev (.var 0))) (.cons (.asg (.nm 2) (.call cp (.cons (.call cm (.cons (.var 2) (.cons (.var 1) .nil))) (.cons (.call ct (.cons (.tup (.cons (.var 3) .nil)) .nil)) .nil)))) .nil)) (.cons (.ret (.var 2)) .nil))
section
variable {C : Calls} {n : Nat}
theorem substL {cp cm ct : Nat} (h0 : ∀ k, C.io cp k = false) (h1 : ∀ k, C.io cm k = false) (h2 : ∀ k, C.io ct k = false) {f g : List Int} {I : Nat → List Int → Prop} {P : Int → Prop}
    (hI : ∀ k acc a, P a → I k acc → I (k + 1) (hS g acc a)) {K : Nat} (hm : ∀ k acc, k < K → I k acc → C.call cm [(tI acc, .frz), (tI g, .frz)] = .ok (tI (mulP acc g)) false [])
    (ht : ∀ a, C.call ct [(tI [a], .frz)] = .ok (tI (trimP [a])) false []) (hp : ∀ k acc a, k < K → I k acc → C.call cp [(tI (mulP acc g), .frz), (tI (trimP [a]), .frz)] = .ok (tI (hS g acc a)) false []) :
    ∀ (xs : List Int) (k : Nat) (acc : List Int) (q3 : Option D), (∀ a ∈ xs, P a) → I k acc → k + xs.length ≤ K → ∃ r3,
    forL (setT (.nm 3)) (execs C (.cons (.asg (.nm 2) (.call cp (.cons (.call cm (.cons (.var 2) (.cons (.var 1) .nil))) (.cons (.call ct (.cons (.tup (.cons (.var 3) .nil)) .nil)) .nil)))) .nil)) (xs.map D.int) [some (tI f, .frz), some (tI g, .frz), some (tI acc, .frz), fr q3] =
      .ok .nx [some (tI f, .frz), some (tI g, .frz), some (tI (xs.foldl (hS g) acc), .frz), fr r3] ∧ I (k + xs.length) (xs.foldl (hS g) acc)
  | [], k, acc, q3, _, hi, _ => ⟨q3, rfl, hi⟩
  | a :: xs, k, acc, q3, ha, hi, hk => by
    rw [List.length_cons] at hk
    have e1 := hm k acc (by omega) hi
    have e2 := ht a
    have e3 := hp k acc a (by omega) hi
    obtain ⟨r3, ih, hr⟩ := substL (f := f) h0 h1 h2 hI hm ht hp xs (k + 1) (hS g acc a) (some (.int a)) (fun b hb => ha b (List.mem_cons_of_mem _ hb)) (hI k acc a (ha a List.mem_cons_self) hi) (by omega)
    refine ⟨r3, ?_, by rw [List.length_cons, show k + (xs.length + 1) = k + 1 + xs.length by omega]; exact hr⟩
    show forL _ _ (.int a :: xs.map D.int) _ = _
    rw [forL_cons (m1 := [some (tI f, .frz), some (tI g, .frz), some (tI acc, .frz), some (.int a, .frz)]) (m2 := [some (tI f, .frz), some (tI g, .frz), some (tI (hS g acc a), .frz), fr (some (.int a))])]
    · exact ih
    · simp [setT, bindR, stVE, -stVR]
    · have e2 : C.call ct [(.tup [.int a], .frz)] = .ok (tI (trimP [a])) false [] := e2
      simp [execs, exec, ev, evCs, evFs, argOf, bindR, h0, h1, h2, callMR, inArgs, lends, lendOk, poison, putBack, e1, e2, e3]
theorem subst {cp cm ct : Nat} (h0 : ∀ k, C.io cp k = false) (h1 : ∀ k, C.io cm k = false) (h2 : ∀ k, C.io ct k = false) {f g : List Int} {I : Nat → List Int → Prop} {P : Int → Prop}
    (hI : ∀ k acc a, P a → I k acc → I (k + 1) (hS g acc a)) (hm : ∀ k acc, k < f.length → I k acc → C.call cm [(tI acc, .frz), (tI g, .frz)] = .ok (tI (mulP acc g)) false [])
    (ht : ∀ a, C.call ct [(tI [a], .frz)] = .ok (tI (trimP [a])) false []) (hp : ∀ k acc a, k < f.length → I k acc → C.call cp [(tI (mulP acc g), .frz), (tI (trimP [a]), .frz)] = .ok (tI (hS g acc a)) false [])
    (hf : ∀ a ∈ f, P a) (hi : I 0 []) : runFn C ⟨2, 4, bSubst cp cm ct⟩ [(tI f, .frz), (tI g, .frz)] = .ok (tI (subP f g)) false [] := by
  obtain ⟨r3, e, _⟩ := substL (C := C) (f := f) h0 h1 h2 hI hm ht hp f.reverse 0 [] none (fun a ha => hf a (List.mem_reverse.mp ha)) hi (by rw [List.length_reverse]; omega)
  refine (run_fn rfl (m := [some (tI f, .frz), some (tI g, .frz), some (tI (subP f g), .frz), fr r3]) (d := tI (subP f g)) (o := false) ?_).trans rfl
  show execs C (bSubst cp cm ct) [some (tI f, .frz), some (tI g, .frz), none, none] = _
  unfold bSubst
  rw [run_cons (m' := [some (tI f, .frz), some (tI g, .frz), some (tI [], .frz), none]) (by
    simp [exec, ev, evFs, bindR])]
  rw [run_cons (m' := [some (tI f, .frz), some (tI g, .frz), some (tI (subP f g), .frz), fr r3]) (by
    simp only [exec]
    rw [bind_ok (m' := [some (tI f, .frz), some (tI g, .frz), some (tI [], .frz), none]) (a := f.reverse.map D.int) (by simp [evI, ev, argOf, bindR, List.map_reverse])]
    exact e)]
  refine run_end ?_
  simp [exec, evMv, bindR]
/-! ### values -/
def vS (p q : Int) (ts : Int × Int) (a : Int) : Int × Int := (ts.1 * p + a * ts.2, ts.2 * q)
def valP (f : List Int) (p q : Int) : List Int := lowP ((f.reverse.foldl (vS p q) (0, 1)).1 * q) (f.reverse.foldl (vS p q) (0, 1)).2
def bVal (cl : Nat) : Ss := .cons (.asg (.tp (.cons (.nm 4) (.cons (.nm 5) .nil))) (.tup (.cons (.int 0) (.cons (.int 1) .nil)))) (.cons (.frr (.nm 3) (.ex (.rev (.var 0))) (.cons (.asg (.nm 4) (.op .add (.op .mul (.var 4) (.var 1)) (.op .mul (.var 3) (.var 5)))) (.cons (.asg (.nm 5) (.op .mul (.var 5) (.var 2))) .nil))) (.cons (.ret (.call cl (.cons (.op .mul (.var 4) (.var 2)) (.cons (.var 5) .nil)))) .nil))
theorem valL {f : List Int} {p q : Int} {u w : Nat} (hp : bits u p) (hq : bits u q) (q0 : 0 < q) (hw : w ≤ u) : ∀ (xs : List Int) (k : Nat) (t s : Int) (q3 : Option D), (∀ a ∈ xs, bits w a) → bits ((u + 2) * k + 2) t → bits ((u + 2) * k + 2) s → 0 < s → (u + 2) * (k + xs.length) < 8000 → ∃ r3,
    forL (setT (.nm 3)) (execs C (.cons (.asg (.nm 4) (.op .add (.op .mul (.var 4) (.var 1)) (.op .mul (.var 3) (.var 5)))) (.cons (.asg (.nm 5) (.op .mul (.var 5) (.var 2))) .nil))) (xs.map D.int) [some (tI f, .frz), some (.int p, .frz), some (.int q, .frz), fr q3, some (.int t, .frz), some (.int s, .frz)] =
      .ok .nx [some (tI f, .frz), some (.int p, .frz), some (.int q, .frz), fr r3, some (.int (xs.foldl (vS p q) (t, s)).1, .frz), some (.int (xs.foldl (vS p q) (t, s)).2, .frz)] ∧
      bits ((u + 2) * (k + xs.length) + 2) (xs.foldl (vS p q) (t, s)).1 ∧ bits ((u + 2) * (k + xs.length) + 2) (xs.foldl (vS p q) (t, s)).2 ∧ 0 < (xs.foldl (vS p q) (t, s)).2
  | [], k, t, s, q3, _, ht, hs, s0, _ => ⟨q3, rfl, ht, hs, s0⟩
  | a :: xs, k, t, s, q3, ha, ht, hs, s0, hk => by
    rw [List.length_cons] at hk
    have b1 := ht.mul hp
    have b2 := ((ha a List.mem_cons_self).mono hw).mul hs
    have b3 := hs.mul hq
    have hle : (u + 2) * (k + 1) ≤ (u + 2) * (k + (xs.length + 1)) := Nat.mul_le_mul_left _ (by omega)
    have hk1 : (u + 2) * (k + 1) = (u + 2) * k + (u + 2) := by rw [Nat.mul_add, Nat.mul_one]
    have e1 := ht.op hp (by omega)
    have e2 := ((ha a List.mem_cons_self).mono hw).op hs (by omega)
    have e3 := hs.op hq (by omega)
    have b4 : bits ((u + 2) * (k + 1) + 2) (t * p + a * s) := by
      rw [hk1]
      exact ((b1.mono (v := (u + 2) * k + 2 + u) (by omega)).add (b2.mono (by omega))).mono (by omega)
    obtain ⟨r3, ih, h1, h2, h3⟩ := valL (f := f) hp hq q0 hw xs (k + 1) (t * p + a * s) (s * q) (some (.int a)) (fun b hb => ha b (List.mem_cons_of_mem _ hb)) b4 (b3.mono (by omega)) (Int.mul_pos s0 q0) (by rw [show k + 1 + xs.length = k + (xs.length + 1) by omega]; exact hk)
    rw [show k + 1 + xs.length = k + (a :: xs).length by rw [List.length_cons]; omega] at h1 h2
    refine ⟨r3, ?_, h1, h2, h3⟩
    show forL _ _ (.int a :: xs.map D.int) _ = _
    rw [forL_cons (m1 := [some (tI f, .frz), some (.int p, .frz), some (.int q, .frz), some (.int a, .frz), some (.int t, .frz), some (.int s, .frz)]) (m2 := [some (tI f, .frz), some (.int p, .frz), some (.int q, .frz), fr (some (.int a)), some (.int (t * p + a * s), .frz), some (.int (s * q), .frz)])]
    · exact ih
    · simp [setT, bindR, stVE, -stVR]
    · simp [execs, exec, ev, argOf, bindR, e1, e2, e3]
theorem value {cl : Nat} (h0 : ∀ k, C.io cl k = false) {f : List Int} {p q : Int} {u w : Nat} (hp : bits u p) (hq : bits u q) (q0 : 0 < q) (hw : w ≤ u) (hf : ∀ a ∈ f, bits w a) (hl : (u + 2) * f.length < 8000) (hu : u < 900)
    (hc : ∀ t s : Int, bits 8900 s → 0 < s → C.call cl [(.int t, .frz), (.int s, .frz)] = .ok (tI (lowP t s)) false []) : runFn C ⟨3, 6, bVal cl⟩ [(tI f, .frz), (.int p, .frz), (.int q, .frz)] = .ok (tI (valP f p q)) false [] := by
  obtain ⟨r3, e, h1, h2, h3⟩ := valL (C := C) (f := f) (u := u) hp hq q0 hw f.reverse 0 0 1 none (fun a ha => hf a (List.mem_reverse.mp ha)) (bits_zero _) (show (1 : Nat) < 2 ^ ((u + 2) * 0 + 2) by simp) (by decide) (by rw [List.length_reverse, Nat.zero_add]; exact hl)
  rw [List.length_reverse, Nat.zero_add] at h1 h2
  have h2' : bits 8900 (f.reverse.foldl (vS p q) (0, 1)).2 := h2.mono (by omega)
  have hc' := hc ((f.reverse.foldl (vS p q) (0, 1)).1 * q) _ h2' h3
  have e4 := h1.op hq (by omega)
  refine (run_fn rfl (m := [some (tI f, .frz), some (.int p, .frz), some (.int q, .frz), fr r3, some (.int (f.reverse.foldl (vS p q) (0, 1)).1, .frz), some (.int (f.reverse.foldl (vS p q) (0, 1)).2, .frz)]) (d := tI (valP f p q)) (o := false) ?_).trans rfl
  show execs C (bVal cl) [some (tI f, .frz), some (.int p, .frz), some (.int q, .frz), none, none, none] = _
  unfold bVal valP
  generalize hF : f.reverse.foldl (vS p q) (0, 1) = F at *
  rw [run_cons (m' := [some (tI f, .frz), some (.int p, .frz), some (.int q, .frz), none, some (.int 0, .frz), some (.int 1, .frz)]) (by
    simp [exec, ev, evFs, setT, setTs, bindR])]
  rw [run_cons (by
    simp only [exec]
    rw [bind_ok (m' := [some (tI f, .frz), some (.int p, .frz), some (.int q, .frz), none, some (.int 0, .frz), some (.int 1, .frz)]) (a := f.reverse.map D.int) (by simp [evI, ev, argOf, bindR, List.map_reverse])]
    exact e)]
  refine run_end ?_
  simp [exec, evMv, ev, evCs, argOf, bindR, h0, callMR, inArgs, lends, lendOk, poison, putBack, hc', e4]
end
end Lb

set_option Elab.async false
set_option linter.all false
set_option maxRecDepth 1000000
set_option autoImplicit false
set_option maxHeartbeats 4000000
namespace Lb
open Mi
/-! ### what is asked of what is given -/
def allE (ci : Nat) : E := .bi .all (.cons (.comp [1] (.nm 1) (.ex (.var 0)) .nil (.call ci (.cons (.var 1) .nil))) .nil)
def bIsRat (ci : Nat) : Ss := .cons (.ifs (.lor (.lnot (.isi (.var 0) [.tuple])) (.lor (.cmp .ne (.bi .len (.cons (.var 0) .nil)) (.int 2)) (.lnot (allE ci)))) (.cons (.ret (.bl false)) .nil) .nil) (.cons (.ret (.land (.cmp .ge (.idx (.var 0) (.int 1)) (.int 1)) (.cmp .eq (.bi .gcd (.cons (.idx (.var 0) (.int 0)) (.cons (.idx (.var 0) (.int 1)) .nil))) (.int 1)))) .nil)
def bCkRat (cr : Nat) : Ss := .cons (.ifs (.lnot (.call cr (.cons (.var 0) .nil))) (.cons .bad .nil) .nil) .nil
def bValueAt (cc ck cv : Nat) : Ss := .cons (.expr (.call cc (.cons (.var 0) (.cons (.neg (.int 1)) .nil)))) (.cons (.expr (.call ck (.cons (.var 1) .nil))) (.cons (.ret (.call cv (.cons (.var 0) (.cons (.idx (.var 1) (.int 0)) (.cons (.idx (.var 1) (.int 1)) .nil))))) .nil))
def bDeriv (cc cd : Nat) : Ss := .cons (.expr (.call cc (.cons (.var 0) (.cons (.neg (.int 1)) .nil)))) (.cons (.ret (.call cd (.cons (.var 0) .nil))) .nil)
def bShift (cc ci cs : Nat) : Ss := .cons (.expr (.call cc (.cons (.var 0) (.cons (.neg (.int 1)) .nil)))) (.cons (.ifs (.lnot (.call ci (.cons (.var 1) .nil))) (.cons .bad .nil) .nil) (.cons (.ret (.call cs (.cons (.var 0) (.cons (.tup (.cons (.var 1) (.cons (.int 1) .nil))) .nil)))) .nil))
section
variable {C : Calls} {n : Nat}
theorem ev_lor_f {a b : E} {m m1 : MS} {o : Bool} (ha : ev C a m = .ok (.bl false, o) m1) : ev C (.lor a b) m = ev C b m1 := by
  simp only [ev]
  rw [bind_ok ha]
  rfl
theorem all_of {ci : Nat} (hio : C.io ci 0 = false) {xs : List D} {P : D → Bool} (hi : ∀ y ∈ xs, C.call ci [(y, .frz)] = .ok (.bl (P y)) false []) (hl : xs.length ≤ 1000000) : ev C (allE ci) [some (.tup xs, .frz), none] = .ok (.bl (xs.all P), false) [some (.tup xs, .frz), none] := by
  have kc : ev C (.comp [1] (.nm 1) (.ex (.var 0)) .nil (.call ci (.cons (.var 1) .nil))) [some (.tup xs, .frz), none] = .ok (.lst (xs.map fun x => .bl (P x)), true) [some (.tup xs, .frz), none] := by
    refine ev_comp (m1 := [some (.tup xs, .frz), none]) (xs := xs) (by simp [evI, ev, bindR]) ?_
    simp only [evB]
    rw [compM_map (m1 := fun x => [some (.tup xs, .frz), some (x, .frz)]) (g := fun x => .bl (P x)) (o := fun _ => false) (Nat.le_trans hl (by decide)) fun x hx => ⟨rfl, by
        have := hi x hx
        simp [ev, evCs, argOf, bindR, hio, callMR, inArgs, lends, lendOk, poison, putBack, this], rfl⟩]
    rfl
  have kb := argOf_val (rfl : isVar (.comp [1] (.nm 1) (.ex (.var 0)) .nil (.call ci (.cons (.var 1) .nil))) = false) kc
  have e := bi_all P xs
  unfold allE
  simp only [ev, evAs] at kb ⊢
  rw [bindR, bindR, kb]
  simp [rdAs, bindR, e]
theorem is_rat {ci : Nat} (hio : C.io ci 0 = false) (hi : ∀ i : Int, C.call ci [(.int i, .frz)] = .ok (.bl true) false []) {p q : Int} (hq : 1 ≤ q) (hg : Int.gcd p q = 1) : runFn C ⟨1, 2, bIsRat ci⟩ [(tI [p, q], .frz)] = .ok (.bl true) false [] := by
  refine (run_fn rfl (m := [some (tI [p, q], .frz), none]) (d := .bl true) (o := false) ?_).trans rfl
  show execs C (bIsRat ci) [some (tI [p, q], .frz), none] = _
  unfold bIsRat
  have ka := all_of (C := C) hio (xs := [.int p, .int q]) (P := fun _ => true) (fun y hy => by
    rcases List.mem_cons.mp hy with rfl | hy
    · exact hi _
    · rw [List.mem_singleton.mp hy]
      exact hi _) (by show 2 ≤ 1000000; decide)
  have ka : ev C (allE ci) [some (tI [p, q], .frz), none] = .ok (.bl true, false) [some (tI [p, q], .frz), none] := ka
  have k1 : ev C (.lor (.lnot (.isi (.var 0) [.tuple])) (.lor (.cmp .ne (.bi .len (.cons (.var 0) .nil)) (.int 2)) (.lnot (allE ci)))) [some (tI [p, q], .frz), none] = .ok (.bl false, false) [some (tI [p, q], .frz), none] := by
    have h1 : ev C (.lnot (.isi (.var 0) [.tuple])) [some (tI [p, q], .frz), none] = .ok (.bl false, false) [some (tI [p, q], .frz), none] := by
      simp [ev, argOf, bindR, isAny, isT]
    have h2 : ev C (.cmp .ne (.bi .len (.cons (.var 0) .nil)) (.int 2)) [some (tI [p, q], .frz), none] = .ok (.bl false, false) [some (tI [p, q], .frz), none] := by
      simp [ev, evAs, rdAs, argOf, bindR]
    have h3 : ev C (.lnot (allE ci)) [some (tI [p, q], .frz), none] = .ok (.bl false, false) [some (tI [p, q], .frz), none] := by
      show (ev C (allE ci) >>= fun p => _) _ = _
      rw [bind_ok ka]
      rfl
    rw [ev_lor_f h1, ev_lor_f h2]
    exact h3
  rw [run_cons ((exec_if_f k1).trans run_nil)]
  refine run_end ?_
  have a0 : atL ([p, q].map D.int) 0 = some (.int p) := rfl
  have a1 : atL ([p, q].map D.int) 1 = some (.int q) := rfl
  have e : bi1 .gcd [.int p, .int q] = some (.int 1, false) := by
    show some (D.int (Int.gcd p q : Nat), false) = _
    rw [hg]; rfl
  simp only [List.map_cons, List.map_nil] at a0 a1 ⊢
  simp [exec, evMv, ev, evAs, rdAs, argOf, bindR, a0, a1, hq, e, -bi_gcd]
theorem ck_rat {cr : Nat} (hio : C.io cr 0 = false) {x : D} (h : C.call cr [(x, .frz)] = .ok (.bl true) false []) : runFn C ⟨1, 1, bCkRat cr⟩ [(x, .frz)] = .ok .non false [] := by
  refine (run_fnN rfl (m := [some (x, .frz)]) ?_).trans rfl
  show execs C (bCkRat cr) [some (x, .frz)] = _
  unfold bCkRat
  refine (run_cons ?_).trans run_nil
  simp [exec, execs, ev, evCs, argOf, bindR, hio, callMR, inArgs, lends, lendOk, poison, putBack, h]
theorem value_at {cc ck cv : Nat} (h0 : ∀ k, C.io cc k = false) (h1 : ∀ k, C.io ck k = false) (h2 : ∀ k, C.io cv k = false) {f r : List Int} {p q : Int} (hc : C.call cc [(tI f, .frz), (.int (-1), .frz)] = .ok .non false []) (hk : C.call ck [(tI [p, q], .frz)] = .ok .non false [])
    (hv : C.call cv [(tI f, .frz), (.int p, .frz), (.int q, .frz)] = .ok (tI r) false []) : runFn C ⟨2, 2, bValueAt cc ck cv⟩ [(tI f, .frz), (tI [p, q], .frz)] = .ok (tI r) false [] := by
  refine (run_fn rfl (m := [some (tI f, .frz), some (tI [p, q], .frz)]) (d := tI r) (o := false) ?_).trans rfl
  show execs C (bValueAt cc ck cv) [some (tI f, .frz), some (tI [p, q], .frz)] = _
  unfold bValueAt
  have a0 : atL ([p, q].map D.int) 0 = some (.int p) := rfl
  have a1 : atL ([p, q].map D.int) 1 = some (.int q) := rfl
  rw [run_cons (m' := [some (tI f, .frz), some (tI [p, q], .frz)]) (by
    simp [exec, ev, evCs, argOf, bindR, h0, callMR, inArgs, lends, lendOk, poison, putBack, hc])]
  simp only [List.map_cons, List.map_nil] at a0 a1 hk ⊢
  rw [run_cons (m' := [some (tI f, .frz), some (tI [p, q], .frz)]) (by
    simp [exec, ev, evCs, argOf, bindR, h1, callMR, inArgs, lends, lendOk, poison, putBack, hk])]
  refine run_end ?_
  simp [exec, evMv, ev, evCs, argOf, bindR, h2, callMR, inArgs, lends, lendOk, poison, putBack, hv, a0, a1]
theorem deriv {cc cd : Nat} (h0 : ∀ k, C.io cc k = false) (h1 : ∀ k, C.io cd k = false) {f r : List Int} (hc : C.call cc [(tI f, .frz), (.int (-1), .frz)] = .ok .non false []) (hd : C.call cd [(tI f, .frz)] = .ok (tI r) false []) :
    runFn C ⟨1, 1, bDeriv cc cd⟩ [(tI f, .frz)] = .ok (tI r) false [] := by
  refine (run_fn rfl (m := [some (tI f, .frz)]) (d := tI r) (o := false) ?_).trans rfl
  show execs C (bDeriv cc cd) [some (tI f, .frz)] = _
  unfold bDeriv
  rw [run_cons (m' := [some (tI f, .frz)]) (by
    simp [exec, ev, evCs, argOf, bindR, h0, callMR, inArgs, lends, lendOk, poison, putBack, hc])]
  refine run_end ?_
  simp [exec, evMv, ev, evCs, argOf, bindR, h1, callMR, inArgs, lends, lendOk, poison, putBack, hd]
theorem shift {cc ci cs : Nat} (h0 : ∀ k, C.io cc k = false) (h1 : ∀ k, C.io ci k = false) (h2 : ∀ k, C.io cs k = false) {f r : List Int} {k : Int} (hc : C.call cc [(tI f, .frz), (.int (-1), .frz)] = .ok .non false []) (hi : C.call ci [(.int k, .frz)] = .ok (.bl true) false [])
    (hs : C.call cs [(tI f, .frz), (tI [k, 1], .frz)] = .ok (tI r) false []) : runFn C ⟨2, 2, bShift cc ci cs⟩ [(tI f, .frz), (.int k, .frz)] = .ok (tI r) false [] := by
  refine (run_fn rfl (m := [some (tI f, .frz), some (.int k, .frz)]) (d := tI r) (o := false) ?_).trans rfl
  show execs C (bShift cc ci cs) [some (tI f, .frz), some (.int k, .frz)] = _
  unfold bShift
  rw [run_cons (m' := [some (tI f, .frz), some (.int k, .frz)]) (by
    simp [exec, ev, evCs, argOf, bindR, h0, callMR, inArgs, lends, lendOk, poison, putBack, hc])]
  rw [run_cons (m' := [some (tI f, .frz), some (.int k, .frz)]) (by
    simp [exec, execs, ev, evCs, argOf, bindR, h1, callMR, inArgs, lends, lendOk, poison, putBack, hi])]
  refine run_end ?_
  have hs : C.call cs [(tI f, .frz), (.tup [.int k, .int 1], .frz)] = .ok (tI r) false [] := hs
  simp [exec, evMv, ev, evCs, evFs, argOf, bindR, h2, callMR, inArgs, lends, lendOk, poison, putBack, hs]
/-- what is no tuple is no polynomial -/
theorem no_poly {ci : Nat} {x : D} (h0 : noX x = true) (h1 : ∀ xs, x ≠ .tup xs) (h2 : ∀ xs, x ≠ .tupn xs) : runFn C ⟨1, 2, bIsPoly ci⟩ [(x, .frz)] = .ok (.bl false) false [] := by
  cases x <;> first | (cases h0; done) | exact absurd rfl (h1 _) | exact absurd rfl (h2 _) | simp [runFn, bIsPoly, execs, exec, evMv, ev, argOf, bindR, isAny, isT, outsOf]
theorem no_polyT {ci : Nat} (hio : C.io ci 0 = false) {xs : List D} (hi : ∀ y ∈ xs, C.call ci [(y, .frz)] = .ok (.bl (isI y)) false []) (hl : xs.length ≤ 1000000) (hn : xs.all isI = false) : runFn C ⟨1, 2, bIsPoly ci⟩ [(.tup xs, .frz)] = .ok (.bl false) false [] := by
  refine (run_fn rfl (m := [some (.tup xs, .frz), none]) (d := .bl false) (o := false) ?_).trans rfl
  show execs C (bIsPoly ci) [some (.tup xs, .frz), none] = _
  unfold bIsPoly
  have ka := all_of (C := C) hio hi hl
  rw [hn] at ka
  have k1 : ev C (.lor (.lnot (.isi (.var 0) [.tuple])) (.lnot (allE ci))) [some (.tup xs, .frz), none] = .ok (.bl true, false) [some (.tup xs, .frz), none] := by
    have h1 : ev C (.lnot (.isi (.var 0) [.tuple])) [some (.tup xs, .frz), none] = .ok (.bl false, false) [some (.tup xs, .frz), none] := by
      simp [ev, argOf, bindR, isAny, isT]
    rw [ev_lor_f h1]
    show (ev C (allE ci) >>= fun p => _) _ = _
    rw [bind_ok ka]
    rfl
  refine run_end ((exec_if_t k1).trans ?_)
  simp [execs, exec, evMv, ev, bindR]
end
end Lb

set_option Elab.async false
set_option linter.all false
set_option maxRecDepth 1000000
set_option autoImplicit false
set_option maxHeartbeats 4000000
namespace Lb
open Mi
/-! ### drawn polynomials -/
theorem PI.mono {ns : List Int} {B B' : Nat} {a b c e : Int} (h : PI ns B a b c e) (hB : B ≤ B') : PI ns B' a b c e := ⟨h.a0, h.b0, h.b1, h.c0, by have := h.c1; omega, h.e0, h.e1⟩
structure TkOk (C : Calls) (ct : Nat) (ns : List Int) : Prop where
  i0 : C.io ct 0 = true
  i1 : C.io ct 1 = false
  tk : ∀ {B : Nat} {a b c e many : Int}, PI ns B a b c e → B ≤ 1000000000 → 1 ≤ many → divOk many = true → ∃ r a' b' c' e', C.call ct [(.lst (potL ns a b c e), .bor), (.int many, .frz)] = .ok (.int r) false [some (.lst (potL ns a' b' c' e'))] ∧ PI ns (B + 1) a' b' c' e' ∧ 0 ≤ r ∧ r < many
theorem div_small {j : Int} (h0 : 1 ≤ j) (h : j ≤ 1000000000) : divOk j = true := by
  unfold divOk
  rw [decide_eq_true (show j ≠ 0 by omega), decide_eq_true (show j.natAbs < 1073741824 by omega)]
  rfl
def eltP (ct : Nat) : E := .op .sub (.call ct (.cons (.var 0) (.cons (.op .add (.op .mul (.int 2) (.var 2)) (.int 1)) .nil))) (.var 2)
def bPoly (ct : Nat) : Ss := .cons (.asg (.nm 3) (.comp [4] (.nm 4) (.range (.cons (.var 1) .nil)) .nil (eltP ct))) (.cons (.ret (.bi .tuple (.cons (.op .add (.var 3) (.lst (.cons (.op .mul (.op .add (.int 1) (.call ct (.cons (.var 0) (.cons (.var 2) .nil)))) (.op .sub (.int 1) (.op .mul (.int 2) (.call ct (.cons (.var 0) (.cons (.int 2) .nil)))))) .nil))) .nil))) .nil)
def bAny (ct cp : Nat) : Ss := .cons (.par [2, 3] (.cons (.op .sub (.call ct (.cons (.var 0) (.cons (.op .add (.var 1) (.int 2)) .nil))) (.int 1)) (.cons (.idx (.lst (.cons (.int 3) (.cons (.int 9) (.cons (.int 99) .nil)))) (.call ct (.cons (.var 0) (.cons (.int 3) .nil)))) .nil))) (.cons (.ret (.ife (.cmp .lt (.var 2) (.int 0)) (.tup .nil) (.call cp (.cons (.var 0) (.cons (.var 2) (.cons (.var 3) .nil)))))) .nil)
section
variable {C : Calls} {ns : List Int} {ct : Nat}
theorem polyE (T : TkOk C ct ns) {B : Nat} {a b c e far : Int} {dg i : D} (h : PI ns B a b c e) (hB : B ≤ 1000000000) (f0 : 0 ≤ far) (f1 : far ≤ 1000) : ∃ v a' b' c' e', ev C (eltP ct) [some (.lst (potL ns a b c e), .bor), some (dg, .frz), some (.int far, .frz), none, some (i, .frz)] =
    .ok (.int v, false) [some (.lst (potL ns a' b' c' e'), .bor), some (dg, .frz), some (.int far, .frz), none, some (i, .frz)] ∧ PI ns (B + 1) a' b' c' e' ∧ v.natAbs ≤ far.natAbs := by
  obtain ⟨r, a', b', c', e', k, hp, r0, r1⟩ := T.tk (many := 2 * far + 1) h hB (by omega) (div_small (by omega) (by omega))
  have m1 : op2 .mul (.int 2) (.int far) = some (.int (2 * far), false) := mul_smallL (by decide)
  refine ⟨r - far, a', b', c', e', ?_, hp, by omega⟩
  unfold eltP
  simp [ev, evCs, argOf, bindR, T.i0, T.i1, callMR, inArgs, lends, lendOk, noLend, poison, putBack, k, m1]
theorem polyL (T : TkOk C ct ns) {far : Int} {dg : D} (f0 : 0 ≤ far) (f1 : far ≤ 1000) : ∀ (xs : List D) (acc : List Int) {B : Nat} {a b c e : Int}, PI ns B a b c e → B + xs.length ≤ 1000000000 → ∃ more a' b' c' e', compL [4] (setT (.nm 4)) (M.ret true) (ev C (eltP ct)) xs (acc.map D.int) [some (.lst (potL ns a b c e), .bor), some (dg, .frz), some (.int far, .frz), none, none] =
    .ok ((acc ++ more).map D.int) [some (.lst (potL ns a' b' c' e'), .bor), some (dg, .frz), some (.int far, .frz), none, none] ∧ PI ns (B + xs.length) a' b' c' e' ∧ more.length = xs.length ∧ ∀ v ∈ more, v.natAbs ≤ far.natAbs
  | [], acc, B, a, b, c, e, h, _ => ⟨[], a, b, c, e, by rw [List.append_nil]; rfl, h, rfl, fun v hv => by cases hv⟩
  | x :: xs, acc, B, a, b, c, e, h, hB => by
    rw [List.length_cons] at hB
    obtain ⟨v, a1, b1, c1, e1, k, hp, hv⟩ := polyE T (dg := dg) (i := x) h (by omega) f0 f1
    obtain ⟨more, a2, b2, c2, e2, k2, hp2, hl, hm⟩ := polyL T (dg := dg) f0 f1 xs (acc ++ [v]) hp (by omega)
    refine ⟨v :: more, a2, b2, c2, e2, ?_, ?_, by rw [List.length_cons, List.length_cons, hl], fun w hw => ?_⟩
    · show (setT (.nm 4) x >>= fun _ => M.ret true >>= fun b => if b = true then ev C (eltP ct) >>= fun p => fun m => compL [4] (setT (.nm 4)) (M.ret true) (ev C (eltP ct)) xs (acc.map D.int ++ [p.1]) (wipeM m [4]) else fun m => compL [4] (setT (.nm 4)) (M.ret true) (ev C (eltP ct)) xs (acc.map D.int) (wipeM m [4])) _ = _
      rw [bind_ok (m' := [some (.lst (potL ns a b c e), .bor), some (dg, .frz), some (.int far, .frz), none, some (x, .frz)]) (a := ()) (by simp [setT])]
      rw [bind_ok (m' := [some (.lst (potL ns a b c e), .bor), some (dg, .frz), some (.int far, .frz), none, some (x, .frz)]) (a := true) (x := (M.ret true : M Bool)) rfl]
      rw [if_pos rfl, bind_ok k]
      show compL [4] (setT (.nm 4)) (M.ret true) (ev C (eltP ct)) xs (acc.map D.int ++ [D.int v]) [some (.lst (potL ns a1 b1 c1 e1), .bor), some (dg, .frz), some (.int far, .frz), none, none] = _
      rw [show acc.map D.int ++ [D.int v] = (acc ++ [v]).map D.int by simp, k2]
      simp
    · rw [List.length_cons, show B + (xs.length + 1) = B + 1 + xs.length by omega]
      exact hp2
    · rcases List.mem_cons.mp hw with rfl | hw
      · exact hv
      · exact hm w hw
/-- what is drawn: a polynomial of few terms, small -/
def SmP (L N : Nat) (f : List Int) : Prop := polyP f = true ∧ f.length ≤ L ∧ ∀ v ∈ f, v.natAbs ≤ N
theorem poly_draw (T : TkOk C ct ns) {B dg : Nat} {a b c e far : Int} (h : PI ns B a b c e) (hd : dg ≤ 100) (hB : B + 200 ≤ 1000000000) (f0 : 1 ≤ far) (f1 : far ≤ 1000) : ∃ f a' b' c' e', runFn C ⟨3, 5, bPoly ct⟩ [(.lst (potL ns a b c e), .bor), (.int (dg : Nat), .frz), (.int far, .frz)] = .ok (tI f) false [some (.lst (potL ns a' b' c' e'))] ∧
    PI ns (B + dg + 2) a' b' c' e' ∧ SmP (dg + 1) far.natAbs f := by
  obtain ⟨more, a1, b1, c1, e1, k, hp, hl, hm⟩ := polyL T (dg := .int (dg : Nat)) (far := far) (by omega) f1 ((rgI dg).map D.int) [] h (by rw [List.length_map, rg_len]; omega)
  rw [List.length_map, rg_len] at hl hp
  obtain ⟨r, a2, b2, c2, e2, k2, hp2, r0, r1⟩ := T.tk (many := far) hp (by omega) f0 (div_small f0 (by omega))
  obtain ⟨s, a3, b3, c3, e3, k3, hp3, s0, s1⟩ := T.tk (many := 2) hp2 (by omega) (by decide) (by decide)
  have hs : s = 0 ∨ s = 1 := by omega
  obtain ⟨w, hw⟩ : ∃ w, w = (1 + r) * (1 - 2 * s) := ⟨_, rfl⟩
  have w0 : w ≠ 0 := by rcases hs with rfl | rfl <;> omega
  have w1 : w.natAbs ≤ far.natAbs := by rcases hs with rfl | rfl <;> omega
  have m1 : op2 .mul (.int 2) (.int s) = some (.int (2 * s), false) := mul_smallL (by decide)
  have m2 : op2 .mul (.int (1 + r)) (.int (1 - 2 * s)) = some (.int w, false) := by rw [hw]; exact mul_smallL (by omega)
  have ad : op2 .add (lI more) (.lst [.int w]) = some (lI (more ++ [w]), true) := by
    show (if (more.map D.int).length + 1 ≤ LINE then some (D.lst (more.map D.int ++ [D.int w]), true) else none) = _
    rw [List.length_map, hl, if_pos (Nat.le_trans (show dg + 1 ≤ 101 by omega) (by decide))]
    simp
  refine ⟨more ++ [w], a3, b3, c3, e3, ?_, hp3.mono (by omega), ?_, ?_, ?_⟩
  · refine (run_fn rfl (m := [some (.lst (potL ns a3 b3 c3 e3), .bor), some (.int (dg : Nat), .frz), some (.int far, .frz), some (lI more, .own), none]) (d := tI (more ++ [w])) (o := false) ?_).trans rfl
    show execs C (bPoly ct) [some (.lst (potL ns a b c e), .bor), some (.int (dg : Nat), .frz), some (.int far, .frz), none, none] = _
    unfold bPoly
    have kc : ev C (.comp [4] (.nm 4) (.range (.cons (.var 1) .nil)) .nil (eltP ct)) [some (.lst (potL ns a b c e), .bor), some (.int (dg : Nat), .frz), some (.int far, .frz), none, none] = .ok (lI more, true) [some (.lst (potL ns a1 b1 c1 e1), .bor), some (.int (dg : Nat), .frz), some (.int far, .frz), none, none] := by
      refine ev_comp (m1 := [some (.lst (potL ns a b c e), .bor), some (.int (dg : Nat), .frz), some (.int far, .frz), none, none]) (xs := (rgI dg).map D.int) (by simp [evI, ev, evFs, bindR, rangeO1 (n := dg) (by omega)]) ?_
      simp only [evB]
      unfold compM
      rw [if_pos (by rw [List.length_map, rg_len]; exact Nat.le_trans hd (by decide))]
      show (match compL [4] (setT (.nm 4)) (M.ret true) (ev C (eltP ct)) ((rgI dg).map D.int) (([] : List Int).map D.int) [some (.lst (potL ns a b c e), .bor), some (.int (dg : Nat), .frz), some (.int far, .frz), none, none] with
        | .ok acc m' => R.ok (D.lst acc, true) (backM _ [4] m')
        | _ => .bad) = _
      rw [k]
      rfl
    rw [run_cons (m' := [some (.lst (potL ns a1 b1 c1 e1), .bor), some (.int (dg : Nat), .frz), some (.int far, .frz), some (lI more, .own), none]) (by
      simp only [exec]
      rw [bind_ok kc]
      simp [bindR])]
    refine run_end ?_
    simp [exec, evMv, ev, evCs, evAs, evFs, rdAs, argOf, bindR, T.i0, T.i1, callMR, inArgs, lends, lendOk, noLend, poison, putBack, k2, k3, m1, m2, ad]
  · unfold polyP
    rw [lastI_snoc]
    simp [w0]
  · rw [List.length_append, hl]
    exact Nat.le_refl _
  · intro v hv
    rcases List.mem_append.mp hv with hv | hv
    · exact hm v hv
    · rw [List.mem_singleton.mp hv]
      exact w1
theorem any_draw {cp : Nat} (T : TkOk C ct ns) (hc : C.io cp 0 = true ∧ C.io cp 1 = false ∧ C.io cp 2 = false)
    (hp : ∀ {B dg : Nat} {a b c e far : Int}, PI ns B a b c e → dg ≤ 100 → B + 200 ≤ 1000000000 → 1 ≤ far → far ≤ 1000 → ∃ f a' b' c' e', C.call cp [(.lst (potL ns a b c e), .bor), (.int (dg : Nat), .frz), (.int far, .frz)] = .ok (tI f) false [some (.lst (potL ns a' b' c' e'))] ∧ PI ns (B + dg + 2) a' b' c' e' ∧ SmP (dg + 1) far.natAbs f)
    {B most : Nat} {a b c e : Int} (h : PI ns B a b c e) (hm : most ≤ 90) (hB : B + 300 ≤ 1000000000) : ∃ f a' b' c' e', runFn C ⟨2, 4, bAny ct cp⟩ [(.lst (potL ns a b c e), .bor), (.int (most : Nat), .frz)] = .ok (tI f) false [some (.lst (potL ns a' b' c' e'))] ∧
    PI ns (B + most + 5) a' b' c' e' ∧ SmP (most + 1) 99 f := by
  obtain ⟨r, a1, b1, c1, e1, k, hp1, r0, r1⟩ := T.tk (many := (most : Int) + 2) h (by omega) (by omega) (div_small (by omega) (by omega))
  obtain ⟨s, a2, b2, c2, e2, k2, hp2, s0, s1⟩ := T.tk (many := 3) hp1 (by omega) (by decide) (by decide)
  obtain ⟨far, hf, f0, f1⟩ : ∃ far : Int, atL [.int 3, .int 9, .int 99] s = some (.int far) ∧ 1 ≤ far ∧ far ≤ 99 := by
    have : s = 0 ∨ s = 1 ∨ s = 2 := by omega
    rcases this with rfl | rfl | rfl
    · exact ⟨3, rfl, by decide, by decide⟩
    · exact ⟨9, rfl, by decide, by decide⟩
    · exact ⟨99, rfl, by decide, by decide⟩
  by_cases hr : r = 0
  · subst hr
    refine ⟨[], a2, b2, c2, e2, ?_, hp2.mono (by omega), rfl, Nat.zero_le _, fun v hv => by cases hv⟩
    refine (run_fn rfl (m := [some (.lst (potL ns a2 b2 c2 e2), .bor), some (.int (most : Nat), .frz), some (.int (-1), .frz), some (.int far, .frz)]) (d := tI []) (o := false) ?_).trans rfl
    show execs C (bAny ct cp) [some (.lst (potL ns a b c e), .bor), some (.int (most : Nat), .frz), none, none] = _
    unfold bAny
    rw [run_cons (m' := [some (.lst (potL ns a2 b2 c2 e2), .bor), some (.int (most : Nat), .frz), some (.int (-1), .frz), some (.int far, .frz)]) (by
      simp [exec, evRs, stVs, ev, evCs, evFs, argOf, bindR, T.i0, T.i1, callMR, inArgs, lends, lendOk, noLend, poison, putBack, k, k2, hf])]
    refine run_end ?_
    simp [exec, evMv, ev, evFs, argOf, bindR]
  · obtain ⟨dg, rfl⟩ : ∃ dg : Nat, r = (dg : Int) + 1 := ⟨(r - 1).toNat, by omega⟩
    obtain ⟨f, a3, b3, c3, e3, k3, hp3, hs⟩ := hp (dg := dg) (far := far) hp2 (by omega) (by omega) f0 (by omega)
    refine ⟨f, a3, b3, c3, e3, ?_, hp3.mono (by omega), hs.1, by have := hs.2.1; omega, fun v hv => by have := hs.2.2 v hv; omega⟩
    refine (run_fn rfl (m := [some (.lst (potL ns a3 b3 c3 e3), .bor), some (.int (most : Nat), .frz), some (.int (dg : Nat), .frz), some (.int far, .frz)]) (d := tI f) (o := false) ?_).trans rfl
    show execs C (bAny ct cp) [some (.lst (potL ns a b c e), .bor), some (.int (most : Nat), .frz), none, none] = _
    unfold bAny
    rw [run_cons (m' := [some (.lst (potL ns a2 b2 c2 e2), .bor), some (.int (most : Nat), .frz), some (.int (dg : Nat), .frz), some (.int far, .frz)]) (by
      have e0 : ((dg : Int) + 1 - 1) = (dg : Int) := by omega
      simp [exec, evRs, stVs, ev, evCs, evFs, argOf, bindR, T.i0, T.i1, callMR, inArgs, lends, lendOk, noLend, poison, putBack, k, k2, hf, e0])]
    refine run_end ?_
    have hn : ¬ ((dg : Int) < 0) := by omega
    simp [exec, evMv, ev, evCs, evFs, argOf, bindR, hc.1, hc.2.1, hc.2.2, callMR, inArgs, lends, lendOk, noLend, poison, putBack, k3, hn]
end
end Lb

set_option Elab.async false
set_option linter.all false
set_option maxRecDepth 1000000
set_option autoImplicit false
set_option maxHeartbeats 4000000
namespace Lb
/-! ### polynomials by their values at integers -/
def fe : List Int → Int → Int
  | [], _ => 0
  | a :: f, x => a + x * fe f x
theorem fe_addL : ∀ (u v : List Int) (x : Int), fe (addL u v) x = fe u x + fe v x
  | u, [], x => by rw [addL_nil]; show _ = fe u x + 0; omega
  | [], b :: v, x => by show fe (b :: v) x = 0 + _; omega
  | a :: u, b :: v, x => by
    show a + b + x * fe (addL u v) x = a + x * fe u x + (b + x * fe v x)
    rw [fe_addL u v x, Int.mul_add]
    omega
theorem fe_map (a : Int) : ∀ (f : List Int) (x : Int), fe (f.map fun b => a * b) x = a * fe f x
  | [], x => (Int.mul_zero a).symm
  | b :: f, x => by
    show a * b + x * fe (f.map fun b => a * b) x = a * (b + x * fe f x)
    rw [fe_map a f x, Int.mul_add, ← Int.mul_assoc, ← Int.mul_assoc, Int.mul_comm x a]
theorem fe_mulQ : ∀ (f g : List Int) (x : Int), fe (mulQ f g) x = fe f x * fe g x
  | [], g, x => (Int.zero_mul _).symm
  | a :: f, g, x => by
    show fe (addL (g.map fun b => a * b) (0 :: mulQ f g)) x = (a + x * fe f x) * fe g x
    rw [fe_addL, fe_map]
    show a * fe g x + (0 + x * fe (mulQ f g) x) = _
    rw [fe_mulQ f g x, Int.add_mul, Int.zero_add, Int.mul_assoc]
theorem fe_mulP (f g : List Int) (x : Int) : fe (mulP f g) x = fe f x * fe g x := by
  unfold mulP
  split
  · rename_i h
    rcases h with h | h <;> subst h
    · exact (Int.zero_mul _).symm
    · exact (Int.mul_zero _).symm
  · exact fe_mulQ f g x
theorem fe_zs : ∀ (n : Nat) (f : List Int) (x : Int), fe (zs n ++ f) x = x ^ n * fe f x
  | 0, f, x => by rw [Int.pow_zero, Int.one_mul]; rfl
  | n + 1, f, x => by
    show 0 + x * fe (zs n ++ f) x = _
    rw [fe_zs n f x, Int.pow_succ, Int.zero_add, Int.mul_comm (x ^ n) x, Int.mul_assoc]
theorem fe_snoc0 : ∀ (f : List Int) (x : Int), fe (f ++ [0]) x = fe f x
  | [], x => by show 0 + x * 0 = 0; omega
  | a :: f, x => by
    show a + x * fe (f ++ [0]) x = a + x * fe f x
    rw [fe_snoc0 f x]
theorem fe_trim : ∀ (f : List Int) (x : Int), fe (trimP f) x = fe f x
  | [], x => rfl
  | a :: r, x => by
    have ih := fe_trim r x
    show fe (match trimP r with
      | [] => if a = 0 then [] else [a]
      | y :: t => a :: y :: t) x = a + x * fe r x
    rw [← ih]
    cases e : trimP r with
    | nil =>
      dsimp only
      show fe (if a = 0 then [] else [a]) x = a + x * 0
      split
      · rename_i h; subst h; show (0 : Int) = 0 + x * 0; omega
      · rfl
    | cons y t => rfl
theorem fe_zeros : ∀ {f : List Int}, (∀ a ∈ f, a = 0) → ∀ x, fe f x = 0
  | [], _, x => rfl
  | a :: f, h, x => by
    show a + x * fe f x = 0
    rw [fe_zeros (fun b hb => h b (List.mem_cons_of_mem _ hb)) x, h a List.mem_cons_self]
    omega
/-- what is 0 at all great integers is 0 -/
theorem zero_of : ∀ {f : List Int} {N : Int}, (∀ x, N ≤ x → fe f x = 0) → ∀ a ∈ f, a = 0
  | [], _, _, a, ha => by cases ha
  | b :: f, N, h, a, ha => by
    have hb : b = 0 := by
      have h1 := h (max N (b.natAbs + 1)) (Int.le_max_left _ _)
      have h2 : (b.natAbs : Int) + 1 ≤ max N (b.natAbs + 1) := Int.le_max_right _ _
      generalize max N ((b.natAbs : Int) + 1) = x at *
      have h1 : b + x * fe f x = 0 := h1
      have hd : x ∣ b := ⟨-fe f x, by rw [Int.mul_neg]; omega⟩
      by_cases z : b = 0
      · exact z
      · have := Int.natAbs_dvd_natAbs.mpr hd
        have := Nat.le_of_dvd (by omega) this
        omega
    subst hb
    rcases List.mem_cons.mp ha with rfl | ha
    · rfl
    · refine zero_of (N := max N 1) (fun x hx => ?_) a ha
      have h1 : 0 + x * fe f x = 0 := h x (by omega)
      rw [Int.zero_add] at h1
      exact (Int.mul_eq_zero.mp h1).resolve_left (by omega)
theorem cf_last {f : List Int} (h : f ≠ []) : cf f (f.length - 1) = lastI f := by
  have hl : 0 < f.length := List.length_pos_iff.mpr h
  unfold cf lastI
  rw [List.getD_eq_getElem?_getD, List.getLastD_eq_getLast?, List.getLast?_eq_getElem?]
theorem cf_out {f : List Int} {k : Nat} (h : f.length ≤ k) : cf f k = 0 := by
  unfold cf
  rw [List.getD_eq_getElem?_getD, List.getElem?_eq_none h]
  rfl
theorem poly_last {f : List Int} (h : polyP f = true) (hn : f ≠ []) : lastI f ≠ 0 := by
  unfold polyP at h
  simpa [hn] using h
theorem poly_ext {f g : List Int} (hf : polyP f = true) (hg : polyP g = true) (h : ∀ k, cf f k = cf g k) : f = g := by
  refine ext_cf ?_ h
  rcases Nat.lt_trichotomy f.length g.length with hl | hl | hl
  · have hn : g ≠ [] := fun z => by rw [z] at hl; exact Nat.not_lt_zero _ hl
    have := poly_last hg hn
    rw [← cf_last hn, ← h, cf_out (by omega)] at this
    exact absurd rfl this
  · exact hl
  · have hn : f ≠ [] := fun z => by rw [z] at hl; exact Nat.not_lt_zero _ hl
    have := poly_last hf hn
    rw [← cf_last hn, h, cf_out (by omega)] at this
    exact absurd rfl this
/-- equal at all great integers: the same -/
theorem fe_inj {f g : List Int} (hf : polyP f = true) (hg : polyP g = true) {N : Int} (h : ∀ x, N ≤ x → fe f x = fe g x) : f = g := by
  have hz := zero_of (f := addL f (g.map fun b => -1 * b)) (N := N) fun x hx => by
    rw [fe_addL, fe_map, h x hx]
    omega
  refine poly_ext hf hg fun k => ?_
  have hk : cf (addL f (g.map fun b => -1 * b)) k = 0 := by
    unfold cf
    rw [List.getD_eq_getElem?_getD]
    cases e : (addL f (g.map fun b => -1 * b))[k]? with
    | none => rfl
    | some a => exact hz a (List.mem_of_getElem? e)
  rw [cf_addL, cf_map] at hk
  omega
/-- not 0 at great integers -/
theorem fe_far : ∀ {f : List Int}, polyP f = true → f ≠ [] → ∃ N : Int, ∀ x, N ≤ x → fe f x ≠ 0
  | [], _, h => absurd rfl h
  | [a], hp, _ => ⟨0, fun x _ => by
    have : lastI [a] ≠ 0 := poly_last hp (by simp)
    show a + x * 0 ≠ 0
    have : a ≠ 0 := this
    omega⟩
  | a :: b :: r, hp, _ => by
    have hp' : polyP (b :: r) = true := by
      unfold polyP at hp ⊢
      rw [lastI_cons (by simp)] at hp
      simpa using hp
    obtain ⟨N, h⟩ := fe_far hp' (by simp)
    refine ⟨max N (a.natAbs + 1), fun x hx z => ?_⟩
    have h0 := h x (by omega)
    have z : a + x * fe (b :: r) x = 0 := z
    generalize fe (b :: r) x = y at *
    have hd : x ∣ a := ⟨-y, by rw [Int.mul_neg]; omega⟩
    by_cases ha : a = 0
    · subst ha
      rw [Int.zero_add] at z
      exact (Int.mul_eq_zero.mp z).elim (fun q => by omega) h0
    · have := Nat.le_of_dvd (by omega) (Int.natAbs_dvd_natAbs.mpr hd)
      omega
/-- of degree 1 or more: beyond all bounds -/
theorem fe_big {f : List Int} (hp : polyP f = true) (hl : 2 ≤ f.length) (M : Nat) : ∃ N : Int, ∀ x, N ≤ x → M < (fe f x).natAbs := by
  match f, hl with
  | a :: b :: r, _ =>
    have hp' : polyP (b :: r) = true := by
      unfold polyP at hp ⊢
      rw [lastI_cons (by simp)] at hp
      simpa using hp
    obtain ⟨N, h⟩ := fe_far hp' (by simp)
    refine ⟨max N (a.natAbs + M + 1), fun x hx => ?_⟩
    have h0 := h x (by omega)
    show M < (a + x * fe (b :: r) x).natAbs
    generalize fe (b :: r) x = y at *
    have h1 : x.natAbs ≤ (x * y).natAbs := by
      rw [Int.natAbs_mul]
      exact Nat.le_mul_of_pos_right _ (by omega)
    omega
/-! ### without common roots -/
def Cop (u v : List Int) : Prop := ∃ c : Int, c ≠ 0 ∧ ∀ x, ∃ A B : Int, A * fe u x + B * fe v x = c
theorem Cop.symm {u v : List Int} (h : Cop u v) : Cop v u := by
  obtain ⟨c, h0, h⟩ := h
  refine ⟨c, h0, fun x => ?_⟩
  obtain ⟨A, B, e⟩ := h x
  exact ⟨B, A, by omega⟩
theorem Cop.const {a : Int} (h : a ≠ 0) (v : List Int) : Cop [a] v := ⟨a, h, fun x => ⟨1, 0, by
  show 1 * (a + x * 0) + 0 * _ = a
  rw [Int.mul_zero, Int.add_zero, Int.one_mul, Int.zero_mul, Int.add_zero]⟩⟩
theorem Cop.mul {u l v : List Int} (h1 : Cop u v) (h2 : Cop l v) : Cop (mulP u l) v := by
  obtain ⟨c, c0, h1⟩ := h1
  obtain ⟨d, d0, h2⟩ := h2
  refine ⟨c * d, fun z => (Int.mul_eq_zero.mp z).elim c0 d0, fun x => ?_⟩
  obtain ⟨A, B, e1⟩ := h1 x
  obtain ⟨A', B', e2⟩ := h2 x
  refine ⟨A * A', A * fe u x * B' + B * A' * fe l x + B * B' * fe v x, ?_⟩
  rw [fe_mulP, ← e1, ← e2]
  grind
theorem Cop.lin {p q p' q' : Int} (h : q * p' ≠ q' * p) : Cop [-p, q] [-p', q'] := by
  refine ⟨q * p' - q' * p, by omega, fun x => ⟨q', -q, ?_⟩⟩
  show q' * (-p + x * (q + x * 0)) + -q * (-p' + x * (q' + x * 0)) = _
  grind
theorem Cop.step {u v r r' : List Int} {keep cont : Int} (h : Cop u v) (k0 : keep ≠ 0) (hs : ∀ x, ∃ Q, keep * fe u x = Q * fe v x + fe r x) (hr : ∀ x, fe r x = cont * fe r' x) : Cop v r' := by
  obtain ⟨c, c0, h⟩ := h
  refine ⟨keep * c, fun z => (Int.mul_eq_zero.mp z).elim k0 c0, fun x => ?_⟩
  obtain ⟨A, B, e⟩ := h x
  obtain ⟨Q, e2⟩ := hs x
  have e3 := hr x
  refine ⟨A * Q + keep * B, A * cont, ?_⟩
  rw [← e]
  grind
theorem Cop.nil {u : List Int} (h : Cop u []) (hp : polyP u = true) : u.length = 1 := by
  obtain ⟨c, c0, h⟩ := h
  have hu : u ≠ [] := fun z => by
    subst z
    obtain ⟨A, B, e⟩ := h 0
    have e : A * 0 + B * 0 = c := e
    omega
  have := List.length_pos_iff.mpr hu
  by_cases h2 : 2 ≤ u.length
  · obtain ⟨N, hN⟩ := fe_big hp h2 c.natAbs
    obtain ⟨A, B, e⟩ := h N
    have h3 := hN N (Int.le_refl _)
    have e : A * fe u N + B * 0 = c := e
    rw [Int.mul_zero, Int.add_zero] at e
    have hd : fe u N ∣ c := ⟨A, by rw [← e, Int.mul_comm]⟩
    have := Nat.le_of_dvd (by omega) (Int.natAbs_dvd_natAbs.mpr hd)
    omega
  · omega
end Lb

set_option Elab.async false
set_option linter.all false
set_option maxRecDepth 1000000
set_option autoImplicit false
set_option maxHeartbeats 4000000
namespace Lb
open Mi hiding tI
/-! ### modulo a prime: the walks -/
def modL (f : List Int) (p : Int) : List Int := f.map fun a => a.fmod p
def lowM (f : List Int) (p : Int) : List Int := trimP (modL f p)
def bLowered (ct : Nat) : Ss := .cons (.ret (.call ct (.cons (.comp [2] (.nm 2) (.ex (.var 0)) .nil (.op .mod (.var 2) (.var 1))) .nil))) .nil
def bLmod (ct : Nat) : Ss := .cons (.ret (.call ct (.cons (.comp [2] (.nm 2) (.ex (.var 0)) .nil (.op .mod (.bi .int (.cons (.var 2) .nil)) (.var 1))) .nil))) .nil
def fmD (p : Int) : D → D
  | .int i => .int (i.fmod p)
  | x => x
theorem fmD_map (f : List Int) (p : Int) : (f.map D.int).map (fmD p) = (modL f p).map D.int := by
  unfold modL
  rw [List.map_map, List.map_map]
  rfl
theorem run_fnE {C : Calls} {fn : Fn} {args : List (D × Fl)} {c : Nat} {v : D} {m : MS} (hl : args.length = fn.np) (h : execs C fn.body (args.map some ++ List.replicate (fn.ns - fn.np) none) = .err c v m) : runFn C fn args = .err c v := by
  unfold runFn
  rw [if_pos hl, h]
theorem ev_call1 {C : Calls} {ct : Nat} {e : E} {m m' : MS} {d r : D} {o ro : Bool} (h0 : C.io ct 0 = false) (he : ev C e m = .ok (d, o) m') (hc : C.call ct [(d, if o then .own else .frz)] = .ok r ro []) : ev C (.call ct (.cons e .nil)) m = .ok (r, ro) m' := by
  cases o <;> simp [ev, evCs, h0, bindR, he, callMR, inArgs, lends, lendOk, poison, putBack] <;> (simp at hc; simp [hc, putBack])
section
variable {C : Calls} {n : Nat}
theorem ev_mods {f : List Int} {p : Int} (hp : p ≠ 0) (hl : f.length ≤ 1000) {elt : E} (he : elt = .op .mod (.var 2) (.var 1) ∨ elt = .op .mod (.bi .int (.cons (.var 2) .nil)) (.var 1)) :
    ev C (.comp [2] (.nm 2) (.ex (.var 0)) .nil elt) [some (tI f, .frz), some (.int p, .frz), none] = .ok (lI (modL f p), true) [some (tI f, .frz), some (.int p, .frz), none] := by
  refine ev_comp (m1 := [some (tI f, .frz), some (.int p, .frz), none]) (xs := f.map D.int) (by simp [evI, ev, bindR]) ?_
  simp only [evB]
  rw [compM_map (m1 := fun x => [some (tI f, .frz), some (.int p, .frz), some (x, .frz)]) (g := fmD p) (o := fun _ => false) (by rw [List.length_map]; exact Nat.le_trans hl (by decide)) fun x hx => by
    obtain ⟨i, hi, rfl⟩ := List.mem_map.mp hx
    have h := op_modI (i := i) hp
    refine ⟨rfl, ?_, rfl⟩
    rcases he with rfl | rfl <;> simp [ev, evAs, rdAs, argOf, bindR, h, fmD]]
  rw [fmD_map]
  rfl
theorem lowered {ct : Nat} (h0 : C.io ct 0 = false) {f : List Int} {p : Int} (hp : p ≠ 0) (hl : f.length ≤ 1000) (hc : C.call ct [(lI (modL f p), .own)] = .ok (tI (lowM f p)) false []) :
    runFn C ⟨2, 3, bLowered ct⟩ [(tI f, .frz), (.int p, .frz)] = .ok (tI (lowM f p)) false [] := by
  refine (run_fn rfl (m := [some (tI f, .frz), some (.int p, .frz), none]) (d := tI (lowM f p)) (o := false) ?_).trans rfl
  refine run_end ?_
  exact exec_ret (ev_call1 h0 (ev_mods (C := C) hp hl (.inl rfl)) hc)
theorem lmod {ct : Nat} (h0 : C.io ct 0 = false) {f : List Int} {p : Int} (hp : p ≠ 0) (hl : f.length ≤ 1000) (hc : C.call ct [(lI (modL f p), .own)] = .ok (tI (lowM f p)) false []) :
    runFn C ⟨2, 3, bLmod ct⟩ [(tI f, .frz), (.int p, .frz)] = .ok (tI (lowM f p)) false [] := by
  refine (run_fn rfl (m := [some (tI f, .frz), some (.int p, .frz), none]) (d := tI (lowM f p)) (o := false) ?_).trans rfl
  refine run_end ?_
  exact exec_ret (ev_call1 h0 (ev_mods (C := C) hp hl (.inr rfl)) hc)
/-! the roots -/
def hS2 (p v : Int) (t a : Int) : Int := (t * v + a).fmod p
def hv (f : List Int) (p v : Int) : Int := f.reverse.foldl (hS2 p v) 0
def rtL (f : List Int) (p : Int) : List Int → List Int
  | [] => []
  | v :: vs => if hv f p v = 0 then v :: rtL f p vs else rtL f p vs
def rts (f : List Int) (p : Int) (n : Nat) : List Int := rtL f p (rgI n)
def bRestsI : Ss := .cons (.asg (.nm 5) (.int 0)) (.cons (.frr (.nm 6) (.ex (.rev (.var 3))) (.cons (.asg (.nm 5) (.op .mod (.op .add (.op .mul (.var 5) (.var 2)) (.var 6)) (.var 1))) .nil)) (.cons (.ifs (.cmp .eq (.var 5) (.int 0)) (.cons (.expr (.mu .append 4 (.cons (.var 2) .nil))) .nil) .nil) .nil))
def bRests (cl : Nat) : Ss := .cons (.par [3, 4] (.cons (.call cl (.cons (.var 0) (.cons (.var 1) .nil))) (.cons (.lst .nil) .nil))) (.cons (.frr (.nm 2) (.range (.cons (.var 1) .nil)) bRestsI) (.cons (.ret (.var 4)) .nil))
theorem restsH {f0 : D} {low fd : List Int} {p v : Int} (hp : p ≠ 0) (hv : v.natAbs ≤ 1000) : ∀ (xs : List Int) (t : Int) (q6 : Option D), ∃ r6,
    forL (setT (.nm 6)) (execs C (.cons (.asg (.nm 5) (.op .mod (.op .add (.op .mul (.var 5) (.var 2)) (.var 6)) (.var 1))) .nil)) (xs.map D.int) [some (f0, .frz), some (.int p, .frz), some (.int v, .frz), some (tI low, .frz), some (lI fd, .own), some (.int t, .frz), fr q6]
      = .ok .nx [some (f0, .frz), some (.int p, .frz), some (.int v, .frz), some (tI low, .frz), some (lI fd, .own), some (.int (xs.foldl (hS2 p v) t), .frz), fr r6]
  | [], t, q6 => ⟨q6, rfl⟩
  | x :: xs, t, q6 => by
    obtain ⟨r6, k⟩ := restsH hp hv xs (hS2 p v t x) (some (.int x))
    refine ⟨r6, ?_⟩
    have m1 : op2 .mul (.int t) (.int v) = some (.int (t * v), false) := mul_small (by omega)
    have m2 := op_modI (i := t * v + x) hp
    rw [List.map_cons, forL_cons (m1 := [some (f0, .frz), some (.int p, .frz), some (.int v, .frz), some (tI low, .frz), some (lI fd, .own), some (.int t, .frz), fr (some (.int x))]) (m2 := [some (f0, .frz), some (.int p, .frz), some (.int v, .frz), some (tI low, .frz), some (lI fd, .own), some (.int (hS2 p v t x), .frz), fr (some (.int x))])
      (by cases q6 <;> simp [setT, fr]) (by simp [execs, exec, ev, argOf, bindR, m1, m2, fr, hS2])]
    exact k
theorem restsL {f0 : D} {low : List Int} {p : Int} (hp : p ≠ 0) : ∀ (vs fd : List Int) (q2 q5 q6 : Option D), (∀ v ∈ vs, v.natAbs ≤ 1000) → fd.length + vs.length ≤ 2000 → ∃ r2 r5 r6,
    forL (setT (.nm 2)) (execs C bRestsI) (vs.map D.int) [some (f0, .frz), some (.int p, .frz), fr q2, some (tI low, .frz), some (lI fd, .own), fr q5, fr q6]
      = .ok .nx [some (f0, .frz), some (.int p, .frz), fr r2, some (tI low, .frz), some (lI (fd ++ rtL low p vs), .own), fr r5, fr r6]
  | [], fd, q2, q5, q6, _, _ => ⟨q2, q5, q6, by
    rw [show rtL low p [] = [] from rfl, List.append_nil]
    rfl⟩
  | v :: vs, fd, q2, q5, q6, h1, h2 => by
    rw [List.length_cons] at h2
    obtain ⟨s6, k1⟩ := restsH (C := C) (f0 := f0) (low := low) (fd := fd) hp (h1 v List.mem_cons_self) low.reverse 0 q6
    have k1 : forL (setT (.nm 6)) (execs C (.cons (.asg (.nm 5) (.op .mod (.op .add (.op .mul (.var 5) (.var 2)) (.var 6)) (.var 1))) .nil)) (low.reverse.map D.int) [some (f0, .frz), some (.int p, .frz), some (.int v, .frz), some (tI low, .frz), some (lI fd, .own), some (.int 0, .frz), fr q6]
      = .ok .nx [some (f0, .frz), some (.int p, .frz), some (.int v, .frz), some (tI low, .frz), some (lI fd, .own), some (.int (hv low p v), .frz), fr s6] := k1
    have step : execs C bRestsI [some (f0, .frz), some (.int p, .frz), fr (some (.int v)), some (tI low, .frz), some (lI fd, .own), fr q5, fr q6] = .ok .nx [some (f0, .frz), some (.int p, .frz), fr (some (.int v)), some (tI low, .frz), some (lI (if hv low p v = 0 then fd ++ [v] else fd), .own), fr (some (.int (hv low p v))), fr s6] := by
      unfold bRestsI
      rw [run_cons (m' := [some (f0, .frz), some (.int p, .frz), some (.int v, .frz), some (tI low, .frz), some (lI fd, .own), some (.int 0, .frz), fr q6]) (by cases q5 <;> cases q6 <;> simp [exec, ev, bindR, fr])]
      rw [run_cons (m' := [some (f0, .frz), some (.int p, .frz), some (.int v, .frz), some (tI low, .frz), some (lI fd, .own), some (.int (hv low p v), .frz), fr s6]) (by
        simp only [exec]
        rw [bind_ok (m' := [some (f0, .frz), some (.int p, .frz), some (.int v, .frz), some (tI low, .frz), some (lI fd, .own), some (.int 0, .frz), fr q6]) (a := low.reverse.map D.int) (by simp [evI, ev, argOf, bindR])]
        exact k1)]
      refine (run_cons ?_).trans run_nil
      by_cases h : hv low p v = 0
      · have ap : mu1 .append (fd.map D.int) [.int v] = some ((fd ++ [v]).map D.int, .non) := by
          rw [mu_app (by rw [List.length_map]; exact Nat.lt_of_lt_of_le (show fd.length < 2001 by omega) (by decide)), List.map_append]
          rfl
        have e1 : ev C (.cmp .eq (.var 5) (.int 0)) [some (f0, .frz), some (.int p, .frz), some (.int v, .frz), some (tI low, .frz), some (lI fd, .own), some (.int (hv low p v), .frz), fr s6] = .ok (.bl true, false) [some (f0, .frz), some (.int p, .frz), some (.int v, .frz), some (tI low, .frz), some (lI fd, .own), some (.int (hv low p v), .frz), fr s6] := by
          simp [ev, argOf, bindR, h]
        rw [exec_if_t e1, if_pos h]
        simp [execs, exec, ev, evFs, argOf, bindR, updLR, ap, fr]
      · have e1 : ev C (.cmp .eq (.var 5) (.int 0)) [some (f0, .frz), some (.int p, .frz), some (.int v, .frz), some (tI low, .frz), some (lI fd, .own), some (.int (hv low p v), .frz), fr s6] = .ok (.bl false, false) [some (f0, .frz), some (.int p, .frz), some (.int v, .frz), some (tI low, .frz), some (lI fd, .own), some (.int (hv low p v), .frz), fr s6] := by
          simp [ev, argOf, bindR, h]
        rw [exec_if_f e1, if_neg h]
        exact run_nil
    obtain ⟨r2, r5, r6, k2⟩ := restsL hp vs (if hv low p v = 0 then fd ++ [v] else fd) (some (.int v)) (some (.int (hv low p v))) s6 (fun w hw => h1 w (List.mem_cons_of_mem _ hw)) (by
      by_cases h : hv low p v = 0
      · rw [if_pos h, List.length_append, List.length_singleton]; omega
      · rw [if_neg h]; omega)
    refine ⟨r2, r5, r6, ?_⟩
    rw [List.map_cons, forL_cons (m1 := [some (f0, .frz), some (.int p, .frz), fr (some (.int v)), some (tI low, .frz), some (lI fd, .own), fr q5, fr q6]) (by cases q2 <;> simp [setT, fr]) step, k2]
    have e : (if hv low p v = 0 then fd ++ [v] else fd) ++ rtL low p vs = fd ++ rtL low p (v :: vs) := by
      show _ = fd ++ (if hv low p v = 0 then v :: rtL low p vs else rtL low p vs)
      by_cases h : hv low p v = 0
      · rw [if_pos h, if_pos h, List.append_assoc]; rfl
      · rw [if_neg h, if_neg h]
    rw [e]
theorem rests {cl : Nat} (h0 : ∀ k, C.io cl k = false) {f low : List Int} {p : Nat} (hp : p ≠ 0) (hb : p ≤ 1000) (hc : C.call cl [(tI f, .frz), (.int (p : Nat), .frz)] = .ok (tI low) false []) :
    runFn C ⟨2, 7, bRests cl⟩ [(tI f, .frz), (.int (p : Nat), .frz)] = .ok (lI (rts low (p : Nat) p)) true [] := by
  obtain ⟨r2, r5, r6, k⟩ := restsL (C := C) (f0 := tI f) (low := low) (p := (p : Nat)) (by omega) (rgI p) [] none none none (fun v hv => by have := mem_rg.mp hv; omega) (by rw [rg_len]; show 0 + p ≤ 2000; omega)
  refine (run_fn rfl (m := [some (tI f, .frz), some (.int (p : Nat), .frz), fr r2, some (tI low, .frz), none, fr r5, fr r6]) (d := lI (rts low (p : Nat) p)) (o := true) ?_).trans rfl
  show execs C (bRests cl) [some (tI f, .frz), some (.int (p : Nat), .frz), none, none, none, none, none] = _
  unfold bRests
  rw [run_cons (m' := [some (tI f, .frz), some (.int (p : Nat), .frz), none, some (tI low, .frz), some (lI [], .own), none, none]) (by
    simp [exec, evRs, ev, evCs, evFs, argOf, bindR, stVs, h0, callMR, inArgs, lends, lendOk, poison, putBack, hc])]
  have hr : rangeO [.int (p : Nat)] = some ((rgI p).map D.int) := rangeO1 (by omega)
  rw [run_cons (m' := [some (tI f, .frz), some (.int (p : Nat), .frz), fr r2, some (tI low, .frz), some (lI (rts low (p : Nat) p), .own), fr r5, fr r6]) (by
    simp only [exec]
    rw [bind_ok (m' := [some (tI f, .frz), some (.int (p : Nat), .frz), none, some (tI low, .frz), some (lI [], .own), none, none]) (a := (rgI p).map D.int) (by simp [evI, evFs, ev, bindR, hr])]
    exact k)]
  refine run_end ?_
  simp [exec, evMv, bindR]
/-! two checks ahead of a question -/
def bTwo (cc ck : Nat) (l : E) (last : E) : Ss := .cons (.expr (.call cc (.cons (.var 0) (.cons l .nil)))) (.cons (.expr (.call ck (.cons (.var 1) .nil))) (.cons (.ret last) .nil))
theorem bTwo_err1 {cc ck : Nat} {l last : E} {lv : Int} (hl : ∀ m, ev C l m = .ok (.int lv, false) m) (h0 : ∀ k, C.io cc k = false) {x y v : D} {c : Nat} (hc : C.call cc [(x, .frz), (.int lv, .frz)] = .err c v) :
    runFn C ⟨2, 2, bTwo cc ck l last⟩ [(x, .frz), (y, .frz)] = .err c v := by
  refine run_fnE rfl (m := [some (x, .frz), some (y, .frz)]) ?_
  show execs C (bTwo cc ck l last) [some (x, .frz), some (y, .frz)] = .err c v [some (x, .frz), some (y, .frz)]
  unfold bTwo
  simp [execs, exec, ev, evCs, argOf, bindR, hl, h0, callMR, inArgs, lends, lendOk, poison, putBack, hc]
theorem bTwo_err2 {cc ck : Nat} {l last : E} {lv : Int} (hl : ∀ m, ev C l m = .ok (.int lv, false) m) (h0 : ∀ k, C.io cc k = false) (h1 : ∀ k, C.io ck k = false) {x y v : D} {c : Nat} (hc : C.call cc [(x, .frz), (.int lv, .frz)] = .ok .non false []) (hk : C.call ck [(y, .frz)] = .err c v) :
    runFn C ⟨2, 2, bTwo cc ck l last⟩ [(x, .frz), (y, .frz)] = .err c v := by
  refine run_fnE rfl (m := [some (x, .frz), some (y, .frz)]) ?_
  show execs C (bTwo cc ck l last) [some (x, .frz), some (y, .frz)] = .err c v [some (x, .frz), some (y, .frz)]
  unfold bTwo
  simp [execs, exec, ev, evCs, argOf, bindR, hl, h0, h1, callMR, inArgs, lends, lendOk, poison, putBack, hc, hk]
theorem bTwo_ok {cc ck : Nat} {l last : E} {lv : Int} (hl : ∀ m, ev C l m = .ok (.int lv, false) m) (h0 : ∀ k, C.io cc k = false) (h1 : ∀ k, C.io ck k = false) {x y r : D} (hc : C.call cc [(x, .frz), (.int lv, .frz)] = .ok .non false []) (hk : C.call ck [(y, .frz)] = .ok .non false [])
    (hr : evMv C last [some (x, .frz), some (y, .frz)] = .ok (r, false) [some (x, .frz), some (y, .frz)]) : runFn C ⟨2, 2, bTwo cc ck l last⟩ [(x, .frz), (y, .frz)] = .ok r false [] := by
  refine (run_fn rfl (m := [some (x, .frz), some (y, .frz)]) (d := r) (o := false) ?_).trans rfl
  show execs C (bTwo cc ck l last) [some (x, .frz), some (y, .frz)] = _
  unfold bTwo
  rw [run_cons (m' := [some (x, .frz), some (y, .frz)]) (by
    simp [exec, ev, evCs, argOf, bindR, hl, h0, callMR, inArgs, lends, lendOk, poison, putBack, hc])]
  rw [run_cons (m' := [some (x, .frz), some (y, .frz)]) (by
    simp [exec, ev, evCs, argOf, bindR, hl, h1, callMR, inArgs, lends, lendOk, poison, putBack, hk])]
  refine run_end ?_
  simp only [exec]
  rw [bind_ok hr]
  rfl
/-! checks that raise -/
def bCheckR (cp c : Nat) : Ss := .cons (.ifs (.lor (.lnot (.call cp (.cons (.var 0) .nil))) (.cmp .le (.bi .len (.cons (.var 0) .nil)) (.var 1))) (.cons (.raise c (.var 0)) .nil) .nil) .nil
theorem checkR {cp c : Nat} (hio : C.io cp 0 = false) {f : List Int} {l : Int} (hp : C.call cp [(tI f, .frz)] = .ok (.bl true) false []) (hl : l < f.length) : runFn C ⟨2, 2, bCheckR cp c⟩ [(tI f, .frz), (.int l, .frz)] = .ok .non false [] := by
  refine (run_fnN rfl (m := [some (tI f, .frz), some (.int l, .frz)]) ?_).trans rfl
  show execs C (bCheckR cp c) [some (tI f, .frz), some (.int l, .frz)] = _
  unfold bCheckR
  have hl' : ¬ (f.length : Int) ≤ l := by omega
  refine (run_cons ?_).trans run_nil
  simp [exec, execs, ev, evCs, evAs, rdAs, argOf, bindR, hio, callMR, inArgs, lends, lendOk, poison, putBack, hp, hl']
theorem checkR_err {cp c : Nat} (hio : C.io cp 0 = false) {x : D} {l : Int} (hp : C.call cp [(x, .frz)] = .ok (.bl false) false []) : runFn C ⟨2, 2, bCheckR cp c⟩ [(x, .frz), (.int l, .frz)] = .err c x := by
  refine run_fnE rfl (m := [some (x, .frz), some (.int l, .frz)]) ?_
  show execs C (bCheckR cp c) [some (x, .frz), some (.int l, .frz)] = .err c x [some (x, .frz), some (.int l, .frz)]
  unfold bCheckR
  simp [execs, exec, ev, evCs, argOf, bindR, hio, callMR, inArgs, lends, lendOk, poison, putBack, hp]
def bCkR (cr c : Nat) : Ss := .cons (.ifs (.lnot (.call cr (.cons (.var 0) .nil))) (.cons (.raise c (.var 0)) .nil) .nil) .nil
theorem ckR {cr c : Nat} (hio : C.io cr 0 = false) {x : D} (h : C.call cr [(x, .frz)] = .ok (.bl true) false []) : runFn C ⟨1, 1, bCkR cr c⟩ [(x, .frz)] = .ok .non false [] := by
  refine (run_fnN rfl (m := [some (x, .frz)]) ?_).trans rfl
  show execs C (bCkR cr c) [some (x, .frz)] = _
  unfold bCkR
  refine (run_cons ?_).trans run_nil
  simp [exec, execs, ev, evCs, argOf, bindR, hio, callMR, inArgs, lends, lendOk, poison, putBack, h]
theorem ckR_err {cr c : Nat} (hio : C.io cr 0 = false) {x : D} (h : C.call cr [(x, .frz)] = .ok (.bl false) false []) : runFn C ⟨1, 1, bCkR cr c⟩ [(x, .frz)] = .err c x := by
  refine run_fnE rfl (m := [some (x, .frz)]) ?_
  show execs C (bCkR cr c) [some (x, .frz)] = .err c x [some (x, .frz)]
  unfold bCkR
  simp [execs, exec, ev, evCs, argOf, bindR, hio, callMR, inArgs, lends, lendOk, poison, putBack, h]
/-! a drawn polynomial of just this degree -/
section
variable {ns : List Int} {ct : Nat}
theorem poly_drawX (T : TkOk C ct ns) {B dg : Nat} {a b c e far : Int} (h : PI ns B a b c e) (hd : dg ≤ 100) (hB : B + 200 ≤ 1000000000) (f0 : 1 ≤ far) (f1 : far ≤ 1000) : ∃ f a' b' c' e', runFn C ⟨3, 5, bPoly ct⟩ [(.lst (potL ns a b c e), .bor), (.int (dg : Nat), .frz), (.int far, .frz)] = .ok (tI f) false [some (.lst (potL ns a' b' c' e'))] ∧
    PI ns (B + dg + 2) a' b' c' e' ∧ SmP (dg + 1) far.natAbs f ∧ f.length = dg + 1 := by
  obtain ⟨more, a1, b1, c1, e1, k, hp, hl, hm⟩ := polyL T (dg := .int (dg : Nat)) (far := far) (by omega) f1 ((rgI dg).map D.int) [] h (by rw [List.length_map, rg_len]; omega)
  rw [List.length_map, rg_len] at hl hp
  obtain ⟨r, a2, b2, c2, e2, k2, hp2, r0, r1⟩ := T.tk (many := far) hp (by omega) f0 (div_small f0 (by omega))
  obtain ⟨s, a3, b3, c3, e3, k3, hp3, s0, s1⟩ := T.tk (many := 2) hp2 (by omega) (by decide) (by decide)
  have hs : s = 0 ∨ s = 1 := by omega
  obtain ⟨w, hw⟩ : ∃ w, w = (1 + r) * (1 - 2 * s) := ⟨_, rfl⟩
  have w0 : w ≠ 0 := by rcases hs with rfl | rfl <;> omega
  have w1 : w.natAbs ≤ far.natAbs := by rcases hs with rfl | rfl <;> omega
  have m1 : op2 .mul (.int 2) (.int s) = some (.int (2 * s), false) := mul_smallL (by decide)
  have m2 : op2 .mul (.int (1 + r)) (.int (1 - 2 * s)) = some (.int w, false) := by rw [hw]; exact mul_smallL (by omega)
  have ad : op2 .add (lI more) (.lst [.int w]) = some (lI (more ++ [w]), true) := by
    show (if (more.map D.int).length + 1 ≤ LINE then some (D.lst (more.map D.int ++ [D.int w]), true) else none) = _
    rw [List.length_map, hl, if_pos (Nat.le_trans (show dg + 1 ≤ 101 by omega) (by decide))]
    simp
  refine ⟨more ++ [w], a3, b3, c3, e3, ?_, hp3.mono (by omega), ⟨?_, ?_, ?_⟩, by rw [List.length_append, hl]; rfl⟩
  · refine (run_fn rfl (m := [some (.lst (potL ns a3 b3 c3 e3), .bor), some (.int (dg : Nat), .frz), some (.int far, .frz), some (lI more, .own), none]) (d := tI (more ++ [w])) (o := false) ?_).trans rfl
    show execs C (bPoly ct) [some (.lst (potL ns a b c e), .bor), some (.int (dg : Nat), .frz), some (.int far, .frz), none, none] = _
    unfold bPoly
    have kc : ev C (.comp [4] (.nm 4) (.range (.cons (.var 1) .nil)) .nil (eltP ct)) [some (.lst (potL ns a b c e), .bor), some (.int (dg : Nat), .frz), some (.int far, .frz), none, none] = .ok (lI more, true) [some (.lst (potL ns a1 b1 c1 e1), .bor), some (.int (dg : Nat), .frz), some (.int far, .frz), none, none] := by
      refine ev_comp (m1 := [some (.lst (potL ns a b c e), .bor), some (.int (dg : Nat), .frz), some (.int far, .frz), none, none]) (xs := (rgI dg).map D.int) (by simp [evI, ev, evFs, bindR, rangeO1 (n := dg) (by omega)]) ?_
      simp only [evB]
      unfold compM
      rw [if_pos (by rw [List.length_map, rg_len]; exact Nat.le_trans hd (by decide))]
      show (match compL [4] (setT (.nm 4)) (M.ret true) (ev C (eltP ct)) ((rgI dg).map D.int) (([] : List Int).map D.int) [some (.lst (potL ns a b c e), .bor), some (.int (dg : Nat), .frz), some (.int far, .frz), none, none] with
        | .ok acc m' => R.ok (D.lst acc, true) (backM _ [4] m')
        | _ => .bad) = _
      rw [k]
      rfl
    rw [run_cons (m' := [some (.lst (potL ns a1 b1 c1 e1), .bor), some (.int (dg : Nat), .frz), some (.int far, .frz), some (lI more, .own), none]) (by
      simp only [exec]
      rw [bind_ok kc]
      simp [bindR])]
    refine run_end ?_
    simp [exec, evMv, ev, evCs, evAs, evFs, rdAs, argOf, bindR, T.i0, T.i1, callMR, inArgs, lends, lendOk, noLend, poison, putBack, k2, k3, m1, m2, ad]
  · unfold polyP
    rw [lastI_snoc]
    simp [w0]
  · rw [List.length_append, hl]
    exact Nat.le_refl _
  · intro v hv
    rcases List.mem_append.mp hv with hv | hv
    · exact hm v hv
    · rw [List.mem_singleton.mp hv]
      exact w1
end
/-! prime numbers -/
def prL : Nat → Int → Int → Bool
  | 0, _, _ => true
  | n + 1, v, b => if b * b ≤ v then (if v.fmod b = 0 then false else prL n v (b + 1)) else true
def isPr (v : Int) : Bool := decide (2 ≤ v ∧ v < 10000) && prL 100 v 2
def bPrB : Ss := .cons (.ifs (.cmp .eq (.op .mod (.var 0) (.var 1)) (.int 0)) (.cons (.ret (.bl false)) .nil) .nil) (.cons (.asg (.nm 1) (.op .add (.var 1) (.int 1))) .nil)
def bIsPrime (ci g : Nat) : Ss := .cons (.ifs (.lor (.lnot (.call ci (.cons (.var 0) .nil))) (.lnot (.chn .le .lt (.int 2) (.var 0) (.glb g)))) (.cons (.ret (.bl false)) .nil) .nil) (.cons (.asg (.nm 1) (.int 2)) (.cons (.whl (.cmp .le (.op .mul (.var 1) (.var 1)) (.var 0)) bPrB) (.cons (.ret (.bl true)) .nil)))
theorem whN_ret {c : M Bool} {b : M Fw} {n : Nat} {m m1 m2 : MS} {d : D} {o : Bool} (h : c m = .ok true m1) (h2 : b m1 = .ok (.rt d o) m2) : whN c b (n + 1) m = .ok (.rt d o) m2 := by
  show (c >>= fun x => if x = true then b >>= fun f => match f with
      | .bk => pure .nx
      | .rt d o => pure (.rt d o)
      | _ => whN c b n else pure .nx) m = _
  simp only [bindR, h, if_true, h2]
  rfl
theorem sq_small {b v : Int} (h0 : 0 ≤ b) (h : b * b ≤ v) (hv : v < 10000) : b < 100 := by
  refine Int.lt_of_not_ge fun h1 => ?_
  have := Int.mul_le_mul h1 h1 (by omega) h0
  omega
theorem primeW {v : Int} (hv : v < 10000) : ∀ (k n : Nat) (b : Int), 2 ≤ b → b + k = 102 → k < n →
    ∃ r, whN (do
      let p ← ev C (.cmp .le (.op .mul (.var 1) (.var 1)) (.var 0))
      asB p.1) (execs C bPrB) n [some (.int v, .frz), some (.int b, .frz)] = .ok (if prL k v b then .nx else .rt (.bl false) false) [some (.int v, .frz), some (.int r, .frz)]
  | 0, n + 1, b, h2, hk, _ => by
    refine ⟨b, ?_⟩
    have hb : ¬ b * b ≤ v := fun z => by have := sq_small (by omega) z hv; omega
    have m1 : op2 .mul (.int b) (.int b) = some (.int (b * b), false) := mul_small (by omega)
    rw [whN_stop (m' := [some (.int v, .frz), some (.int b, .frz)]) (by simp [ev, argOf, bindR, m1, hb])]
    rfl
  | k + 1, n + 1, b, h2, hk, hn => by
    have m1 : op2 .mul (.int b) (.int b) = some (.int (b * b), false) := mul_small (by omega)
    have m2 := op_modI (i := v) (j := b) (by omega)
    by_cases hb : b * b ≤ v
    · by_cases h0 : v.fmod b = 0
      · refine ⟨b, ?_⟩
        have e : prL (k + 1) v b = false := by
          show (if b * b ≤ v then (if v.fmod b = 0 then false else prL k v (b + 1)) else true) = false
          rw [if_pos hb, if_pos h0]
        rw [whN_ret (m1 := [some (.int v, .frz), some (.int b, .frz)]) (d := .bl false) (o := false) (m2 := [some (.int v, .frz), some (.int b, .frz)]) (by simp [ev, argOf, bindR, m1, hb]) (by
          unfold bPrB
          simp [execs, exec, evMv, ev, argOf, bindR, m2, h0]), e]
        rfl
      · obtain ⟨r, k1⟩ := primeW hv k n (b + 1) (by omega) (by omega) (by omega)
        refine ⟨r, ?_⟩
        have e : prL (k + 1) v b = prL k v (b + 1) := by
          show (if b * b ≤ v then (if v.fmod b = 0 then false else prL k v (b + 1)) else true) = _
          rw [if_pos hb, if_neg h0]
        rw [whN_go (m1 := [some (.int v, .frz), some (.int b, .frz)]) (m2 := [some (.int v, .frz), some (.int (b + 1), .frz)]) (by simp [ev, argOf, bindR, m1, hb]) (by
          unfold bPrB
          simp [execs, exec, ev, argOf, bindR, m2, h0]), k1, e]
    · refine ⟨b, ?_⟩
      have e : prL (k + 1) v b = true := by
        show (if b * b ≤ v then (if v.fmod b = 0 then false else prL k v (b + 1)) else true) = true
        rw [if_neg hb]
      rw [whN_stop (m' := [some (.int v, .frz), some (.int b, .frz)]) (by simp [ev, argOf, bindR, m1, hb]), e]
      rfl
theorem is_prime (hW : C.whl = Wn n) {ci g : Nat} (h0 : C.io ci 0 = false) (hg : C.glob g = some (.int 10000)) (hn : 200 < n) {v : Int} (hi : C.call ci [(.int v, .frz)] = .ok (.bl true) false []) : runFn C ⟨1, 2, bIsPrime ci g⟩ [(.int v, .frz)] = .ok (.bl (isPr v)) false [] := by
  unfold isPr
  by_cases h : 2 ≤ v ∧ v < 10000
  · have e : prL 100 v 2 = prL 100 v 2 := rfl
    obtain ⟨r, k⟩ := primeW (C := C) h.2 100 n 2 (by omega) (by omega) (by omega)
    have fst : exec C (.ifs (.lor (.lnot (.call ci (.cons (.var 0) .nil))) (.lnot (.chn .le .lt (.int 2) (.var 0) (.glb g)))) (.cons (.ret (.bl false)) .nil) .nil) [some (.int v, .frz), none] = .ok .nx [some (.int v, .frz), none] := by
      simp [exec, execs, ev, evCs, argOf, bindR, h0, callMR, inArgs, lends, lendOk, poison, putBack, hi, hg, h.1, h.2]
    rw [decide_eq_true h, Bool.true_and]
    cases q : prL 100 v 2 with
    | true =>
      rw [q] at k
      refine (run_fn rfl (m := [some (.int v, .frz), some (.int r, .frz)]) (d := .bl true) (o := false) ?_).trans rfl
      show execs C (bIsPrime ci g) [some (.int v, .frz), none] = _
      unfold bIsPrime
      rw [run_cons fst, run_cons (m' := [some (.int v, .frz), some (.int 2, .frz)]) (by simp [exec, ev, bindR])]
      rw [run_cons (m' := [some (.int v, .frz), some (.int r, .frz)]) (by
        simp only [exec, hW]
        exact k)]
      refine run_end ?_
      simp [exec, evMv, ev, bindR]
    | false =>
      rw [q] at k
      refine (run_fn rfl (m := [some (.int v, .frz), some (.int r, .frz)]) (d := .bl false) (o := false) ?_).trans rfl
      show execs C (bIsPrime ci g) [some (.int v, .frz), none] = _
      unfold bIsPrime
      rw [run_cons fst, run_cons (m' := [some (.int v, .frz), some (.int 2, .frz)]) (by simp [exec, ev, bindR])]
      refine run_end ?_
      simp only [exec, hW]
      exact k
  · rw [decide_eq_false h, Bool.false_and]
    refine (run_fn rfl (m := [some (.int v, .frz), none]) (d := .bl false) (o := false) ?_).trans rfl
    show execs C (bIsPrime ci g) [some (.int v, .frz), none] = _
    unfold bIsPrime
    refine run_end ?_
    by_cases h1 : 2 ≤ v
    · have h2 : ¬ v < 10000 := fun z => h ⟨h1, z⟩
      simp [exec, execs, evMv, ev, evCs, argOf, bindR, h0, callMR, inArgs, lends, lendOk, poison, putBack, hi, hg, h1, h2]
    · simp [exec, execs, evMv, ev, evCs, argOf, bindR, h0, callMR, inArgs, lends, lendOk, poison, putBack, hi, hg, h1]
theorem no_prime {ci g : Nat} (h0 : C.io ci 0 = false) {x : D} (hi : C.call ci [(x, .frz)] = .ok (.bl false) false []) : runFn C ⟨1, 2, bIsPrime ci g⟩ [(x, .frz)] = .ok (.bl false) false [] := by
  refine (run_fn rfl (m := [some (x, .frz), none]) (d := .bl false) (o := false) ?_).trans rfl
  show execs C (bIsPrime ci g) [some (x, .frz), none] = _
  unfold bIsPrime
  refine run_end ?_
  simp [exec, execs, evMv, ev, evCs, argOf, bindR, h0, callMR, inArgs, lends, lendOk, poison, putBack, hi]
def bLawPrime : Ss := .cons (.asg (.nm 1) (.int 2)) (.cons (.whl (.land (.cmp .le (.op .mul (.var 1) (.var 1)) (.var 0)) (.cmp .ne (.op .mod (.bi .int (.cons (.var 0) .nil)) (.var 1)) (.int 0))) (.cons (.asg (.nm 1) (.op .add (.var 1) (.int 1))) .nil)) (.cons (.ret (.land (.cmp .gt (.var 0) (.int 1)) (.cmp .gt (.op .mul (.var 1) (.var 1)) (.var 0)))) .nil))
theorem lawPrimeW {v : Int} (hv : v < 10000) : ∀ (k n : Nat) (b : Int), 2 ≤ b → b + k = 102 → k < n →
    ∃ r, 2 ≤ r ∧ r ≤ 102 ∧ decide (v < r * r) = prL k v b ∧ whN (do
      let p ← ev C (.land (.cmp .le (.op .mul (.var 1) (.var 1)) (.var 0)) (.cmp .ne (.op .mod (.bi .int (.cons (.var 0) .nil)) (.var 1)) (.int 0)))
      asB p.1) (execs C (.cons (.asg (.nm 1) (.op .add (.var 1) (.int 1))) .nil)) n [some (.int v, .frz), some (.int b, .frz)] = .ok .nx [some (.int v, .frz), some (.int r, .frz)]
  | 0, n + 1, b, h2, hk, _ => by
    have hb : ¬ b * b ≤ v := fun z => by have := sq_small (by omega) z hv; omega
    refine ⟨b, h2, by omega, ?_, ?_⟩
    · rw [decide_eq_true (by omega)]; rfl
    have m1 : op2 .mul (.int b) (.int b) = some (.int (b * b), false) := mul_small (by omega)
    exact whN_stop (m' := [some (.int v, .frz), some (.int b, .frz)]) (by simp [ev, argOf, bindR, m1, hb])
  | k + 1, n + 1, b, h2, hk, hn => by
    have m1 : op2 .mul (.int b) (.int b) = some (.int (b * b), false) := mul_small (by omega)
    have m2 := op_modI (i := v) (j := b) (by omega)
    have e : prL (k + 1) v b = (if b * b ≤ v then (if v.fmod b = 0 then false else prL k v (b + 1)) else true) := rfl
    by_cases hb : b * b ≤ v
    · by_cases h0 : v.fmod b = 0
      · refine ⟨b, h2, by omega, ?_, ?_⟩
        · rw [e, if_pos hb, if_pos h0, decide_eq_false (by omega)]
        · exact whN_stop (m' := [some (.int v, .frz), some (.int b, .frz)]) (by simp [ev, evAs, rdAs, argOf, bindR, m1, m2, hb, h0])
      · obtain ⟨r, r1, r2, r3, k1⟩ := lawPrimeW hv k n (b + 1) (by omega) (by omega) (by omega)
        refine ⟨r, r1, r2, ?_, ?_⟩
        · rw [e, if_pos hb, if_neg h0, r3]
        · rw [whN_go (m1 := [some (.int v, .frz), some (.int b, .frz)]) (m2 := [some (.int v, .frz), some (.int (b + 1), .frz)]) (by simp [ev, evAs, rdAs, argOf, bindR, m1, m2, hb, h0]) (by
            simp [execs, exec, ev, argOf, bindR]), k1]
    · refine ⟨b, h2, by omega, ?_, ?_⟩
      · rw [e, if_neg hb, decide_eq_true (by omega)]
      · exact whN_stop (m' := [some (.int v, .frz), some (.int b, .frz)]) (by simp [ev, argOf, bindR, m1, hb])
theorem law_prime (hW : C.whl = Wn n) (hn : 200 < n) {v : Int} (hv : v < 10000) : runFn C ⟨1, 2, bLawPrime⟩ [(.int v, .frz)] = .ok (.bl (isPr v)) false [] := by
  obtain ⟨r, r1, r2, r3, k⟩ := lawPrimeW (C := C) hv 100 n 2 (by omega) (by omega) (by omega)
  have e : isPr v = (decide (1 < v) && decide (v < r * r)) := by
    unfold isPr
    rw [r3]
    by_cases h : 1 < v
    · rw [decide_eq_true h, decide_eq_true (show 2 ≤ v ∧ v < 10000 by omega)]
    · rw [decide_eq_false h, decide_eq_false (show ¬ (2 ≤ v ∧ v < 10000) by omega)]
  refine (run_fn rfl (m := [some (.int v, .frz), some (.int r, .frz)]) (d := .bl (isPr v)) (o := false) ?_).trans rfl
  show execs C bLawPrime [some (.int v, .frz), none] = _
  unfold bLawPrime
  rw [run_cons (m' := [some (.int v, .frz), some (.int 2, .frz)]) (by simp [exec, ev, bindR])]
  rw [run_cons (m' := [some (.int v, .frz), some (.int r, .frz)]) (by
    simp only [exec, hW]
    exact k)]
  refine run_end ?_
  have m1 : op2 .mul (.int r) (.int r) = some (.int (r * r), false) := mul_small (by omega)
  by_cases h : 1 < v
  · simp [exec, evMv, ev, argOf, bindR, m1, h, e]
  · simp [exec, evMv, ev, argOf, bindR, h, e]
end
end Lb

set_option Elab.async false
set_option linter.all false
set_option maxRecDepth 1000000
set_option autoImplicit false
set_option maxHeartbeats 4000000
namespace Lb
open Mi hiding tI
/-! ### the same, strings too -/
mutual
def gdS : D → Bool
  | .non => true
  | .int _ => true
  | .bl _ => true
  | .str s => strOk s
  | .tup xs => decide (xs.length ≤ 1000) && gdsS xs
  | .lst xs => decide (xs.length ≤ 1000) && gdsS xs
  | _ => false
def gdsS : List D → Bool
  | [] => true
  | x :: xs => gdS x && gdsS xs
end
theorem gdsS_mem : ∀ {xs : List D}, gdsS xs = true → ∀ x ∈ xs, gdS x = true
  | y :: ys, h, x, hx => by
    have h : (gdS y && gdsS ys) = true := h
    rw [Bool.and_eq_true] at h
    rcases List.mem_cons.mp hx with e | e
    · rw [e]; exact h.1
    · exact gdsS_mem h.2 x e
section
variable {C : Calls} {n : Nat}
theorem same_stepS {c : Nat} {x : D} {f0 f1 : Fl} (h0 : f0 = .frz ∨ f0 = .own) (h1 : f1 = .frz ∨ f1 = .own) (hg : gdS x = true) (hio : ∀ k, C.io c k = false) (hc : ∀ y ∈ itemsD x, C.call c [(y, .frz), (y, .frz)] = .ok (.bl true) false []) :
    runFn C ⟨2, 3, bSame c⟩ [(x, f0), (x, f1)] = .ok (.bl true) false [] := by
  have out : outsOf [some (x, f0), some (x, f1), none] 0 [(x, f0), (x, f1)] = [] := by
    rcases h0 with rfl | rfl <;> rcases h1 with rfl | rfl <;> rfl
  have key : execs C (bSame c) [some (x, f0), some (x, f1), none] = .ok (.rt (.bl true) false) [some (x, f0), some (x, f1), none] := by
    have sq : ∀ xs, (x = .tup xs ∨ x = .lst xs) → xs.length ≤ 1000 → (∀ y ∈ xs, C.call c [(y, .frz), (y, .frz)] = .ok (.bl true) false []) → execs C (bSame c) [some (x, f0), some (x, f1), none] = .ok (.rt (.bl true) false) [some (x, f0), some (x, f1), none] := fun xs hx hl hc => by
      have key := same_comp h0 h1 hx hl hc hio
      unfold bSame
      have k1 : ev C (.bi .all (.cons (sameC c) .nil)) [some (x, f0), some (x, f1), none] = .ok (.bl true, false) [some (x, f0), some (x, f1), none] := by
        have ka := argOf_val (rfl : isVar (sameC c) = false) key
        unfold sameC at ka ⊢
        simp only [ev, evAs] at ka ⊢
        rw [bindR, bindR, ka]
        simp [rdAs, bindR, all_true]
      have k0 : ev C (.cmp .eq (.bi .len (.cons (.var 0) .nil)) (.bi .len (.cons (.var 1) .nil))) [some (x, f0), some (x, f1), none] = .ok (.bl true, false) [some (x, f0), some (x, f1), none] := by
        rcases hx with rfl | rfl <;> rcases h0 with rfl | rfl <;> rcases h1 with rfl | rfl <;> simp [ev, evAs, rdAs, argOf, bindR]
      have k2 := (ev_land (b := .bi .all (.cons (sameC c) .nil)) k0).trans k1
      have d1 : ev C (.cmp .isN (.var 1) .non) [some (x, f0), some (x, f1), none] = .ok (.bl false, false) [some (x, f0), some (x, f1), none] := by
        rcases hx with rfl | rfl <;> rcases h0 with rfl | rfl <;> rcases h1 with rfl | rfl <;> simp [ev, argOf, bindR]
      have d2 : ev C (.isi (.var 1) [.bool, .str]) [some (x, f0), some (x, f1), none] = .ok (.bl false, false) [some (x, f0), some (x, f1), none] := by
        rcases hx with rfl | rfl <;> rcases h0 with rfl | rfl <;> rcases h1 with rfl | rfl <;> simp [ev, argOf, bindR, isAny, isT]
      have d3 : ev C (.isi (.var 1) [.int]) [some (x, f0), some (x, f1), none] = .ok (.bl false, false) [some (x, f0), some (x, f1), none] := by
        rcases hx with rfl | rfl <;> rcases h0 with rfl | rfl <;> rcases h1 with rfl | rfl <;> simp [ev, argOf, bindR, isAny, isT]
      have d4 : ev C (.lor (.cmp .ne (.isi (.var 1) [.list]) (.isi (.var 0) [.list])) (.cmp .ne (.isi (.var 1) [.tuple]) (.isi (.var 0) [.tuple]))) [some (x, f0), some (x, f1), none] = .ok (.bl false, false) [some (x, f0), some (x, f1), none] := by
        rcases hx with rfl | rfl <;> rcases h0 with rfl | rfl <;> rcases h1 with rfl | rfl <;> simp [ev, argOf, bindR, isAny, isT]
      rw [run_cons ((exec_if_f d1).trans run_nil), run_cons ((exec_if_f d2).trans run_nil), run_cons ((exec_if_f d3).trans run_nil), run_cons ((exec_if_f d4).trans run_nil)]
      exact run_end (exec_ret k2)
    cases x <;> first | (cases hg; done) | skip
    · unfold bSame
      rcases h0 with rfl | rfl <;> rcases h1 with rfl | rfl <;> simp [execs, exec, evMv, ev, argOf, bindR]
    · unfold bSame
      rcases h0 with rfl | rfl <;> rcases h1 with rfl | rfl <;> simp [execs, exec, evMv, ev, argOf, bindR, isAny, isT]
    · unfold bSame
      rcases h0 with rfl | rfl <;> rcases h1 with rfl | rfl <;> simp [execs, exec, evMv, ev, argOf, bindR, isAny, isT]
    · rename_i s
      have e0 : cm2 .isN (.str s) .non = some false := rfl
      have e1 : cm2 .eq (.str s) (.str s) = some true := by
        show (if cmpOk (.str s) && cmpOk (.str s) && decide (depD (.str s) ≤ 60) && decide (depD (.str s) ≤ 60) then some (eqD (.str s) (.str s)) else none) = _
        rw [show cmpOk (.str s) = true from hg]
        show some (s == s) = some true
        rw [beq_self_eq_true]
      have e2 : isAny C.sub (.str s) [.bool, .str] = some true := rfl
      have e3 : isAny C.sub (.str s) [.bool] = some false := rfl
      unfold bSame
      rcases h0 with rfl | rfl <;> rcases h1 with rfl | rfl <;> simp [execs, exec, evMv, ev, argOf, bindR, e0, e1, e2, e3]
    · rename_i xs
      have hg : (decide (xs.length ≤ 1000) && gdsS xs) = true := hg
      rw [Bool.and_eq_true, decide_eq_true_eq] at hg
      exact sq xs (.inl rfl) hg.1 hc
    · rename_i xs
      have hg : (decide (xs.length ≤ 1000) && gdsS xs) = true := hg
      rw [Bool.and_eq_true, decide_eq_true_eq] at hg
      exact sq xs (.inr rfl) hg.1 hc
  exact (run_fn rfl key).trans (by rw [out])
end
/-! ### the draws of a pot of three -/
def potM (ns : List Int) (a b c : Int) : List D := .int a :: .int b :: .int c :: ns.map D.int
section
variable {ns : List Int} {a b c : Int}
theorem potM_len : (potM ns a b c).length = 3 + ns.length := by unfold potM; simp; omega
theorem potM_bi : bi1 .len [.lst (potM ns a b c)] = some (.int (3 + ns.length : Nat), false) := by
  rw [bi_len_lst, potM_len]
theorem potM_ix (k : Nat) (h : k < 3) : ixN (potM ns a b c).length (k : Int) = some k := ixN_nat (by rw [potM_len]; omega)
theorem potM_i0 : ixN (potM ns a b c).length 0 = some 0 := potM_ix 0 (by omega)
theorem potM_i1 : ixN (potM ns a b c).length 1 = some 1 := potM_ix 1 (by omega)
theorem potM_i2 : ixN (potM ns a b c).length 2 = some 2 := potM_ix 2 (by omega)
theorem potM_a0 : atL (potM ns a b c) 0 = some (.int a) := by unfold atL; rw [potM_i0]; rfl
theorem potM_a1 : atL (potM ns a b c) 1 = some (.int b) := by unfold atL; rw [potM_i1]; rfl
theorem potM_a2 : atL (potM ns a b c) 2 = some (.int c) := by unfold atL; rw [potM_i2]; rfl
theorem potM_s0 (x : Int) : (potM ns a b c).set 0 (.int x) = potM ns x b c := rfl
theorem potM_s1 (x : Int) : (potM ns a b c).set 1 (.int x) = potM ns a x c := rfl
theorem potM_s2 (x : Int) : (potM ns a b c).set 2 (.int x) = potM ns a b x := rfl
theorem potM_ae (h3 : 3 ≤ c) (h : c < 3 + (ns.length : Int)) : ∃ x, atL (potM ns a b c) c = some (.int x) := by
  obtain ⟨k, rfl⟩ : ∃ k : Nat, c = ((k + 3 : Nat) : Int) := ⟨(c - 3).toNat, by omega⟩
  have hk : k < ns.length := by omega
  refine ⟨ns[k], ?_⟩
  unfold atL
  rw [ixN_nat (by rw [potM_len]; omega)]
  show (potM ns a b ((k + 3 : Nat) : Int))[k + 3]? = _
  unfold potM
  simp [List.getElem?_eq_getElem hk]
end
structure PM (ns : List Int) (a b c : Int) : Prop where
  a0 : 0 ≤ a
  b0 : 0 ≤ b
  b1 : b < 2147483647
  c0 : 3 ≤ c
  c1 : c ≤ 3 + (ns.length : Int)
def tmS1 : S := .ifs (.land (.cmp .eq (.idx (.var 0) (.int 0)) (.int 0)) (.cmp .lt (.idx (.var 0) (.int 2)) (.bi .len (.cons (.var 0) .nil)))) (.cons (.asg (.nm 2) (.idx (.var 0) (.idx (.var 0) (.int 2)))) (.cons (.augi 0 (.int 2) .add (.int 1)) (.cons (.ifs (.cmp .ge (.var 2) (.op .pow (.int 10) (.int 18))) (.cons (.seti 0 (.int 0) (.op .sub (.var 2) (.op .pow (.int 10) (.int 18)))) .nil) (.cons (.asg (.nm 4) (.op .mod (.bi .int (.cons (.var 2) .nil)) (.int 2147483647))) (.cons (.asg (.nm 4) (.op .mod (.bi .int (.cons (.op .add (.op .add (.op .mul (.var 4) (.var 4)) (.op .mul (.int 69621) (.var 4))) (.op .mul (.int 977) (.idx (.var 0) (.int 2)))) .nil)) (.int 2147483629))) (.cons (.seti 0 (.int 1) (.op .mod (.bi .int (.cons (.op .add (.idx (.var 0) (.int 1)) (.var 4)) .nil)) (.int 2147483629))) .nil)))) .nil))) .nil
def tmS2 : S := .ifs (.cmp .gt (.idx (.var 0) (.int 0)) (.int 0)) (.cons (.asg (.nm 3) (.op .mod (.bi .int (.cons (.idx (.var 0) (.int 0)) .nil)) (.var 1))) (.cons (.seti 0 (.int 0) (.op .fdiv (.idx (.var 0) (.int 0)) (.var 1))) (.cons (.ret (.var 3)) .nil))) .nil
def tmS3 : S := .seti 0 (.int 1) (.op .mod (.bi .int (.cons (.op .add (.op .add (.op .mul (.idx (.var 0) (.int 1)) (.int 48271)) (.op .mul (.int 40692) (.idx (.var 0) (.int 2)))) (.int 11)) .nil)) (.int 2147483647))
def tmS4 : S := .seti 0 (.int 1) (.op .mod (.bi .int (.cons (.op .add (.op .mul (.idx (.var 0) (.int 1)) (.idx (.var 0) (.int 1))) (.int 7)) .nil)) (.int 2147483629))
def tmS5 : S := .ret (.op .mod (.bi .int (.cons (.op .fdiv (.idx (.var 0) (.int 1)) (.int 8)) .nil)) (.var 1))
def bTakeM : Ss := .cons tmS1 (.cons tmS2 (.cons tmS3 (.cons tmS4 (.cons tmS5 .nil))))
section
variable {C : Calls} {n : Nat}
theorem tm1 {ns : List Int} {a b c many : Int} (h : PM ns a b c) : ∃ a' b' c' s2 s4, PM ns a' b' c' ∧
    exec C tmS1 [some (.lst (potM ns a b c), .bor), some (.int many, .frz), none, none, none] = .ok .nx [some (.lst (potM ns a' b' c'), .bor), some (.int many, .frz), fr s2, none, fr s4] := by
  have l1 : ∀ i : Int, op2 .mul (.int 69621) (.int i) = some (.int (69621 * i), false) := fun i => mul_smallL (by decide)
  have l2 : ∀ i : Int, op2 .mul (.int 977) (.int i) = some (.int (977 * i), false) := fun i => mul_smallL (by decide)
  have l3 : ∀ i : Int, op2 .mod (.int i) (.int 2147483647) = some (.int (i.fmod 2147483647), false) := fun i => op_modI (by decide)
  have l4 : ∀ i : Int, op2 .mod (.int i) (.int 2147483629) = some (.int (i.fmod 2147483629), false) := fun i => op_modI (by decide)
  unfold tmS1
  by_cases ha : a = 0
  · by_cases he : c < 3 + (ns.length : Int)
    · obtain ⟨cell, hg⟩ := potM_ae (ns := ns) (a := a) (b := b) h.c0 he
      subst ha
      have he' : c < ((potM ns 0 b c).length : Int) := by rw [potM_len]; omega
      by_cases hc : (1000000000000000000 : Int) ≤ cell
      · refine ⟨cell - 1000000000000000000, b, c + 1, some (.int cell), none, ⟨by omega, h.b0, h.b1, by have := h.c0; omega, by omega⟩, ?_⟩
        simp [exec, execs, ev, evAs, rdAs, argOf, bindR, updLR, aug2, potM_bi, potM_i0, potM_i1, potM_i2, potM_a0, potM_a1, potM_a2, potM_s0, potM_s1, potM_s2, hg, hc, pow18, he', fr]
      · have q1 := fmod_rg cell (j := 2147483647) (by decide)
        generalize hx : cell.fmod 2147483647 = x at q1
        have m1 : op2 .mul (.int x) (.int x) = some (.int (x * x), false) := mul_small (by omega)
        have q2 := fmod_rg (x * x + 69621 * x + 977 * (c + 1)) (j := 2147483629) (by decide)
        generalize hy : (x * x + 69621 * x + 977 * (c + 1)).fmod 2147483629 = y at q2
        have q3 := fmod_rg (b + y) (j := 2147483629) (by decide)
        refine ⟨0, (b + y).fmod 2147483629, c + 1, some (.int cell), some (.int y), ⟨by omega, q3.1, by omega, by have := h.c0; omega, by omega⟩, ?_⟩
        simp [exec, execs, ev, evAs, rdAs, argOf, bindR, updLR, aug2, potM_bi, potM_i0, potM_i1, potM_i2, potM_a0, potM_a1, potM_a2, potM_s0, potM_s1, potM_s2, hg, hc, pow18, he', l1, l2, l3, l4, hx, hy, m1, fr]
    · refine ⟨a, b, c, none, none, h, ?_⟩
      subst ha
      have he' : ¬ c < ((potM ns 0 b c).length : Int) := by rw [potM_len]; omega
      simp [exec, execs, ev, evAs, rdAs, argOf, bindR, potM_bi, potM_a0, potM_a2, he', fr]
  · refine ⟨a, b, c, none, none, h, ?_⟩
    simp [exec, execs, ev, evAs, rdAs, argOf, bindR, potM_a0, ha, fr]
theorem takeM {ns : List Int} {a b c many : Int} (h : PM ns a b c) (h1 : 1 ≤ many) (hdo : divOk many = true) : ∃ r a' b' c', runFn C ⟨2, 5, bTakeM⟩ [(.lst (potM ns a b c), .bor), (.int many, .frz)] = .ok (.int r) false [some (.lst (potM ns a' b' c'))] ∧
    PM ns a' b' c' ∧ 0 ≤ r ∧ r < many := by
  obtain ⟨a1, b1, c1, s2, s4, i1, k1⟩ := tm1 (C := C) (many := many) h
  have hm0 : many ≠ 0 := by omega
  have hmod : ∀ i : Int, op2 .mod (.int i) (.int many) = some (.int (i.fmod many), false) := fun i => op_modI hm0
  have hdiv : ∀ i : Int, op2 .fdiv (.int i) (.int many) = some (.int (i.fdiv many), false) := fun i => op_fdivI hdo
  by_cases hb : 0 < a1
  · have hr := fmod_rg a1 (j := many) (by omega)
    refine ⟨a1.fmod many, a1.fdiv many, b1, c1, ?_, ⟨Int.fdiv_nonneg i1.a0 (by omega), i1.b0, i1.b1, i1.c0, i1.c1⟩, hr.1, hr.2⟩
    refine (run_fn (m := [some (.lst (potM ns (a1.fdiv many) b1 c1), .bor), some (.int many, .frz), fr s2, some (.int (a1.fmod many), .frz), fr s4]) rfl ?_).trans rfl
    show execs C bTakeM [some (.lst (potM ns a b c), .bor), some (.int many, .frz), none, none, none] = _
    unfold bTakeM
    rw [run_cons k1]
    refine run_end ?_
    unfold tmS2
    simp [exec, execs, evMv, ev, evAs, rdAs, argOf, bindR, updLR, potM_a0, potM_i0, potM_s0, hb, hmod, hdiv]
  · have hb0 : a1 = 0 := by have := i1.a0; omega
    subst hb0
    have b0 := i1.b0
    have b2 := i1.b1
    have m1 : op2 .mul (.int b1) (.int 48271) = some (.int (b1 * 48271), false) := mul_small (by decide)
    have m2 : op2 .mul (.int 40692) (.int c1) = some (.int (40692 * c1), false) := mul_smallL (by decide)
    have l3 : ∀ i : Int, op2 .mod (.int i) (.int 2147483647) = some (.int (i.fmod 2147483647), false) := fun i => op_modI (by decide)
    have l4 : ∀ i : Int, op2 .mod (.int i) (.int 2147483629) = some (.int (i.fmod 2147483629), false) := fun i => op_modI (by decide)
    have l5 : ∀ i : Int, op2 .fdiv (.int i) (.int 8) = some (.int (i.fdiv 8), false) := fun i => op_fdivI (by decide)
    have q1 := fmod_rg (b1 * 48271 + 40692 * c1 + 11) (j := 2147483647) (by decide)
    generalize hx : (b1 * 48271 + 40692 * c1 + 11).fmod 2147483647 = x at q1
    have m3 : op2 .mul (.int x) (.int x) = some (.int (x * x), false) := mul_small (by omega)
    have q2 := fmod_rg (x * x + 7) (j := 2147483629) (by decide)
    generalize hy : (x * x + 7).fmod 2147483629 = y at q2
    have hr := fmod_rg (y.fdiv 8) (j := many) (by omega)
    refine ⟨(y.fdiv 8).fmod many, 0, y, c1, ?_, ⟨by omega, q2.1, by omega, i1.c0, i1.c1⟩, hr.1, hr.2⟩
    refine (run_fn (m := [some (.lst (potM ns 0 y c1), .bor), some (.int many, .frz), fr s2, none, fr s4]) rfl ?_).trans rfl
    show execs C bTakeM [some (.lst (potM ns a b c), .bor), some (.int many, .frz), none, none, none] = _
    unfold bTakeM
    rw [run_cons k1]
    rw [run_cons (m' := [some (.lst (potM ns 0 b1 c1), .bor), some (.int many, .frz), fr s2, none, fr s4]) (by
      unfold tmS2
      simp [exec, execs, ev, argOf, bindR, potM_a0])]
    rw [run_cons (m' := [some (.lst (potM ns 0 x c1), .bor), some (.int many, .frz), fr s2, none, fr s4]) (by
      unfold tmS3
      simp [exec, ev, evAs, rdAs, argOf, bindR, updLR, potM_a1, potM_a2, potM_i1, potM_s1, m1, m2, l3, hx])]
    rw [run_cons (m' := [some (.lst (potM ns 0 y c1), .bor), some (.int many, .frz), fr s2, none, fr s4]) (by
      unfold tmS4
      simp [exec, ev, evAs, rdAs, argOf, bindR, updLR, potM_a1, potM_i1, potM_s1, m3, l4, hy])]
    refine run_end ?_
    unfold tmS5
    simp [exec, evMv, ev, evAs, rdAs, argOf, bindR, potM_a1, l5, hmod]
structure TkM (C : Calls) (ct : Nat) (ns : List Int) : Prop where
  i0 : C.io ct 0 = true
  i1 : C.io ct 1 = false
  tk : ∀ {a b c many : Int}, PM ns a b c → 1 ≤ many → divOk many = true → ∃ r a' b' c', C.call ct [(.lst (potM ns a b c), .bor), (.int many, .frz)] = .ok (.int r) false [some (.lst (potM ns a' b' c'))] ∧ PM ns a' b' c' ∧ 0 ≤ r ∧ r < many
end
end Lb

set_option Elab.async false
set_option linter.all false
set_option maxRecDepth 1000000
set_option autoImplicit false
set_option maxHeartbeats 8000000
namespace K00
open Mi hiding tI
open Lb
abbrev Pr : Prog := progOf rows globs io
def depth : Nat := 12
def fuel : Nat := 20000
abbrev Cd (d : Nat) : Calls := ⟨callD Pr (Wn fuel) d, Pr.glob, Pr.io, Pr.sub, Wn fuel⟩
abbrev cl (d f : Nat) (as : List (D × Fl)) : CR := callD Pr (Wn fuel) d f as
theorem f0 (d : Nat) (ns : List Int) : TkM (Cd (d + 1)) 0 ns where
  i0 := rfl
  i1 := rfl
  tk := fun h h1 h2 => by
    obtain ⟨r, a', b', c', k, h'⟩ := takeM (C := Cd d) h h1 h2
    exact ⟨r, a', b', c', (callD_eq (f := 0) (fn := r0.fn) rfl).trans k, h'⟩
theorem f1 : ∀ (n d : Nat) {x : D} {g0 g1 : Fl}, (g0 = .frz ∨ g0 = .own) → (g1 = .frz ∨ g1 = .own) → gdS x = true → depD x ≤ n → cl (d + n + 1) 1 [(x, g0), (x, g1)] = .ok (.bl true) false []
  | 0, d, x, g0, g1, h0, h1, hg, hd => (callD_eq (fn := r1.fn) rfl).trans (same_stepS (c := 1) h0 h1 hg (fun _ => rfl) fun y hy => by
    cases x <;> first | (cases hy; done) | skip
    · exact absurd hd (by show ¬ depDs _ + 1 ≤ 0; omega)
    · exact absurd hd (by show ¬ depDs _ + 1 ≤ 0; omega))
  | n + 1, d, x, g0, g1, h0, h1, hg, hd => (callD_eq (fn := r1.fn) rfl).trans (same_stepS (c := 1) h0 h1 hg (fun _ => rfl) fun y hy => by
    cases x <;> first | (cases hy; done) | skip
    · rename_i xs
      have hg : (decide (xs.length ≤ 1000) && gdsS xs) = true := hg
      rw [Bool.and_eq_true] at hg
      exact f1 n d (.inl rfl) (.inl rfl) (gdsS_mem hg.2 y (show y ∈ xs from hy)) (depDs_mem (show depDs xs ≤ n by have : depDs xs + 1 ≤ n + 1 := hd; omega) y (show y ∈ xs from hy))
    · rename_i xs
      have hg : (decide (xs.length ≤ 1000) && gdsS xs) = true := hg
      rw [Bool.and_eq_true] at hg
      exact f1 n d (.inl rfl) (.inl rfl) (gdsS_mem hg.2 y (show y ∈ xs from hy)) (depDs_mem (show depDs xs ≤ n by have : depDs xs + 1 ≤ n + 1 := hd; omega) y (show y ∈ xs from hy)))
/-- the class of a number -/
def exW (k : Nat) : Nat := if k < 22 then k + 1 else 0
theorem f2 (d : Nat) {k : Nat} (hk : k < 8) (v : D) (b : Bool) : cl (d + 1) 2 [(.int (k : Nat), .frz), (v, .frz), (.bl b, .frz)] = .err (exW k) v := by
  refine (callD_eq (fn := r2.fn) rfl).trans (run_fnE rfl (m := [some (.int (k : Nat), .frz), some (v, .frz), some (.bl b, .frz)]) ?_)
  show execs (Cd d) b2 [some (.int (k : Nat), .frz), some (v, .frz), some (.bl b, .frz)] = _
  generalize Cd d = C
  have : k = 0 ∨ k = 1 ∨ k = 2 ∨ k = 3 ∨ k = 4 ∨ k = 5 ∨ k = 6 ∨ k = 7 := by omega
  unfold b2
  rcases this with rfl | rfl | rfl | rfl | rfl | rfl | rfl | rfl <;> cases b <;> simp [execs, exec, ev, argOf, bindR, exW]
theorem f3 (d : Nat) {k : Nat} (h8 : 8 ≤ k) (hk : k < 15) (v : D) (b : Bool) : cl (d + 1) 3 [(.int (k : Nat), .frz), (v, .frz), (.bl b, .frz)] = .err (exW k) v := by
  refine (callD_eq (fn := r3.fn) rfl).trans (run_fnE rfl (m := [some (.int (k : Nat), .frz), some (v, .frz), some (.bl b, .frz)]) ?_)
  show execs (Cd d) b3 [some (.int (k : Nat), .frz), some (v, .frz), some (.bl b, .frz)] = _
  generalize Cd d = C
  have : k = 8 ∨ k = 9 ∨ k = 10 ∨ k = 11 ∨ k = 12 ∨ k = 13 ∨ k = 14 := by omega
  unfold b3
  rcases this with rfl | rfl | rfl | rfl | rfl | rfl | rfl <;> cases b <;> simp [execs, exec, ev, argOf, bindR, exW]
theorem f4 (d : Nat) {k : Nat} (h15 : 15 ≤ k) (hk : k < 23) (v : D) (b : Bool) : cl (d + 1) 4 [(.int (k : Nat), .frz), (v, .frz), (.bl b, .frz)] = .err (exW k) v := by
  refine (callD_eq (fn := r4.fn) rfl).trans (run_fnE rfl (m := [some (.int (k : Nat), .frz), some (v, .frz), some (.bl b, .frz)]) ?_)
  show execs (Cd d) b4 [some (.int (k : Nat), .frz), some (v, .frz), some (.bl b, .frz)] = _
  generalize Cd d = C
  have : k = 15 ∨ k = 16 ∨ k = 17 ∨ k = 18 ∨ k = 19 ∨ k = 20 ∨ k = 21 ∨ k = 22 := by omega
  unfold b4
  rcases this with rfl | rfl | rfl | rfl | rfl | rfl | rfl | rfl <;> cases b <;> simp [execs, exec, ev, argOf, bindR, exW]
/-! the kinds -/
def eqK (k : Nat) : D → D
  | .int i => .bl (decide (i = (k : Int)))
  | x => x
def dueL (k : Nat) : List D := (rgF 0 22).map (eqK k)
def kinds (s : Nat → Bool) : List D := [.bl (s 1), .bl (s 2), .bl (s 3), .bl (s 4), .bl (s 5), .bl (s 6), .bl (s 7), .bl (s 8), .bl (s 9), .bl (s 10), .bl (s 11), .bl (s 12), .bl (s 13), .bl (s 14), .bl (s 15), .bl (s 16), .bl (s 17), .bl (s 18), .bl (s 19), .bl (s 20), .bl (s 21), .bl (s 22)]
theorem kinds_eq {k : Nat} (hk : k < 23) : kinds (subT (exW k)) = dueL k := by
  have : k = 0 ∨ k = 1 ∨ k = 2 ∨ k = 3 ∨ k = 4 ∨ k = 5 ∨ k = 6 ∨ k = 7 ∨ k = 8 ∨ k = 9 ∨ k = 10 ∨ k = 11 ∨ k = 12 ∨ k = 13 ∨ k = 14 ∨ k = 15 ∨ k = 16 ∨ k = 17 ∨ k = 18 ∨ k = 19 ∨ k = 20 ∨ k = 21 ∨ k = 22 := by omega
  rcases this with rfl | rfl | rfl | rfl | rfl | rfl | rfl | rfl | rfl | rfl | rfl | rfl | rfl | rfl | rfl | rfl | rfl | rfl | rfl | rfl | rfl | rfl | rfl <;> rfl
theorem isx {s : Nat → Nat → Bool} {c j : Nat} {v : D} : isAny s (.exc c v) [.cls j] = some (s c j) := by
  show (match some (s c j) with
    | none => none
    | some true => some true
    | some false => some false) = _
  cases s c j <;> rfl
theorem addLs {xs ys : List D} (h : xs.length + ys.length ≤ 1000) : op2 .add (.lst xs) (.lst ys) = some (.lst (xs ++ ys), true) := by
  show (if xs.length + ys.length ≤ LINE then some (D.lst (xs ++ ys), true) else none) = _
  rw [if_pos (Nat.le_trans h (by decide))]
theorem kinds_run {C : Calls} {c : Nat} {v : D} : runFn C r5.fn [(.exc c v, .frz)] = .ok (.lst (kinds (C.sub c))) true [] := by
  refine (run_fn rfl (m := [some (.exc c v, .frz), none]) (d := .lst (kinds (C.sub c))) (o := true) ?_).trans rfl
  show execs C b5 [some (.exc c v, .frz), none] = _
  unfold b5
  simp [execs, exec, evMv, ev, evFs, argOf, bindR, isx, addLs, kinds]
theorem f5 (d : Nat) {k : Nat} (hk : k < 23) (v : D) : cl (d + 1) 5 [(.exc (exW k) v, .frz)] = .ok (.lst (dueL k)) true [] := by
  rw [← kinds_eq hk]
  exact (callD_eq (fn := r5.fn) rfl).trans kinds_run
/-! what is given -/
def Gv (x : D) : Prop := gdS x = true ∧ depD x ≤ 4
def somes (far n : Int) : List D := [.int far, .int n, .str ("" : PySem.Str), .str ("a b" : PySem.Str), .non, .bl true, .bl false, .tup [], .tup [.int far, .int 1], .lst [.int far, .str ("x" : PySem.Str)], .tup [.str ("ab" : PySem.Str), .tup [.str ("to" : PySem.Str), .tup []]], .lst [], .int (-1), .int 0, .tup [.int 2, .tup [.int 0, .int 1, .int 1, .int 1]]]
theorem gv_int (i : Int) : Gv (.int i) := ⟨rfl, by show 0 ≤ 4; decide⟩
theorem somes_gv (far n : Int) : ∀ x ∈ somes far n, Gv x := by
  intro x hx
  unfold somes at hx
  simp only [List.mem_cons, List.not_mem_nil, or_false] at hx
  rcases hx with rfl | rfl | rfl | rfl | rfl | rfl | rfl | rfl | rfl | rfl | rfl | rfl | rfl | rfl | rfl
  · exact gv_int _
  · exact gv_int _
  · exact ⟨by decide +kernel, by decide⟩
  · exact ⟨by decide +kernel, by decide⟩
  · exact ⟨rfl, by decide⟩
  · exact ⟨rfl, by decide⟩
  · exact ⟨rfl, by decide⟩
  · exact ⟨rfl, by decide⟩
  · exact ⟨rfl, by show 1 ≤ 4; decide⟩
  · refine ⟨?_, by show 1 ≤ 4; decide⟩
    show (decide (2 ≤ 1000) && (true && (strOk ("x" : PySem.Str) && true))) = true
    decide +kernel
  · exact ⟨by decide +kernel, by decide⟩
  · exact ⟨rfl, by decide⟩
  · exact gv_int _
  · exact gv_int _
  · exact ⟨rfl, by decide⟩
theorem given {C : Calls} {ns : List Int} (T : TkM C 0 ns) {a b c : Int} (h : PM ns a b c) : ∃ x a' b' c', runFn C r6.fn [(.lst (potM ns a b c), .bor)] = .ok x false [some (.lst (potM ns a' b' c'))] ∧ PM ns a' b' c' ∧ Gv x := by
  have d9 : divOk 1000000000 = true := div_small (by decide) (by decide)
  obtain ⟨r1, a1, b1, c1, k1, h1, r10, r11⟩ := T.tk (many := 1000000000) h (by decide) d9
  obtain ⟨r2, a2, b2, c2, k2, h2, r20, r21⟩ := T.tk (many := 1000000000) h1 (by decide) d9
  obtain ⟨r3, a3, b3, c3, k3, h3, r30, r31⟩ := T.tk (many := 9) h2 (by decide) (by decide)
  obtain ⟨r4, a4, b4, c4, k4, h4, r40, r41⟩ := T.tk (many := 15) h3 (by decide) (by decide)
  have pw : ∀ k : Nat, k ≤ 100 → op2 .pow (.int 10) (.int (k : Nat)) = some (.int (10 ^ k), false) := fun k hk => pow_ok (i := 10) (k := k) (by omega) (by decide)
  have p9 : op2 .pow (.int 10) (.int 9) = some (.int 1000000000, false) := by
    have := pw 9 (by decide)
    rw [show ((10 : Int) ^ 9) = 1000000000 by decide +kernel] at this
    exact this
  have p20 : op2 .pow (.int 10) (.int 20) = some (.int 100000000000000000000, false) := by
    have := pw 20 (by decide)
    rw [show ((10 : Int) ^ 20) = 100000000000000000000 by decide +kernel] at this
    exact this
  have p28 : op2 .pow (.int 10) (.int 28) = some (.int 10000000000000000000000000000, false) := by
    have := pw 28 (by decide)
    rw [show ((10 : Int) ^ 28) = 10000000000000000000000000000 by decide +kernel] at this
    exact this
  have m1 : op2 .mul (.int r1) (.int 100000000000000000000) = some (.int (r1 * 100000000000000000000), false) := mul_smallL (by omega)
  obtain ⟨far, hfar⟩ : ∃ far : Int, far = r1 * 100000000000000000000 + r2 - 10000000000000000000000000000 := ⟨_, rfl⟩
  obtain ⟨x, hx, hat⟩ := atL_mem (xs := somes far r3) r40 (by show r4 < 15; exact r41)
  refine ⟨x, a4, b4, c4, ?_, h4, somes_gv far r3 x hx⟩
  refine (run_fn rfl (m := [some (.lst (potM ns a4 b4 c4), .bor), some (.int far, .frz), some (.lst ((somes far r3).take 12), .own)]) (d := x) (o := false) ?_).trans rfl
  show execs C b6 [some (.lst (potM ns a b c), .bor), none, none] = _
  unfold b6
  rw [run_cons (m' := [some (.lst (potM ns a2 b2 c2), .bor), some (.int far, .frz), none]) (by
    simp [exec, ev, evCs, argOf, bindR, T.i0, T.i1, callMR, inArgs, lends, lendOk, noLend, poison, putBack, k1, k2, p9, p20, p28, m1, hfar])]
  rw [run_cons (m' := [some (.lst (potM ns a3 b3 c3), .bor), some (.int far, .frz), some (.lst ((somes far r3).take 12), .own)]) (by
    simp [exec, ev, evFs, evCs, argOf, bindR, T.i0, T.i1, callMR, inArgs, lends, lendOk, noLend, poison, putBack, k3, somes])]
  refine run_end ?_
  have ad : op2 .add (.lst ((somes far r3).take 12)) (.lst [.int (-1), .int 0, .tup [.int 2, .tup [.int 0, .int 1, .int 1, .int 1]]]) = some (.lst (somes far r3), true) := addLs (by show 12 + 3 ≤ 1000; decide)
  generalize (somes far r3).take 12 = S1 at *
  generalize somes far r3 = S2 at *
  simp [exec, evMv, ev, evFs, evCs, argOf, bindR, T.i0, T.i1, callMR, inArgs, lends, lendOk, noLend, poison, putBack, k4, ad, hat]
theorem f6 (d : Nat) {ns : List Int} {a b c : Int} (h : PM ns a b c) : ∃ x a' b' c', cl (d + 2) 6 [(.lst (potM ns a b c), .bor)] = .ok x false [some (.lst (potM ns a' b' c'))] ∧ PM ns a' b' c' ∧ Gv x := by
  obtain ⟨x, a', b', c', k, h'⟩ := given (f0 d ns) h
  exact ⟨x, a', b', c', (callD_eq (fn := r6.fn) rfl).trans k, h'⟩
/-! what is caught -/
theorem caught {C : Calls} (hs : ∀ c, C.sub c 0 = true) (i2 : ∀ k, C.io 2 k = false) (i3 : ∀ k, C.io 3 k = false) (i4 : ∀ k, C.io 4 k = false) {k c : Nat} {v : D} {b : Bool}
    (h1 : k < 8 → C.call 2 [(.int (k : Nat), .frz), (v, .frz), (.bl b, .frz)] = .err c v) (h2 : 8 ≤ k → k < 15 → C.call 3 [(.int (k : Nat), .frz), (v, .frz), (.bl b, .frz)] = .err c v) (h3 : 15 ≤ k → C.call 4 [(.int (k : Nat), .frz), (v, .frz), (.bl b, .frz)] = .err c v) :
    runFn C r7.fn [(.int (k : Nat), .frz), (v, .frz), (.bl b, .frz)] = .ok (.exc c v) false [] := by
  refine (run_fn rfl (m := [some (.int (k : Nat), .frz), some (v, .frz), some (.bl b, .frz), some (.exc c v, .frz), none]) (d := .exc c v) (o := false) ?_).trans rfl
  show execs C b7 [some (.int (k : Nat), .frz), some (v, .frz), some (.bl b, .frz), none, none] = _
  unfold b7
  rw [run_cons (m' := [some (.int (k : Nat), .frz), some (v, .frz), some (.bl b, .frz), some (.non, .frz), none]) (by simp [exec, ev, bindR])]
  rw [run_cons (m' := [some (.int (k : Nat), .frz), some (v, .frz), some (.bl b, .frz), some (.exc c v, .frz), none]) (by
    by_cases w0 : k < 8
    · have h := h1 w0
      have e1 : (k : Int) < 8 := by omega
      simp [exec, execs, ev, evCs, argOf, bindR, i2, callMR, inArgs, lends, lendOk, poison, putBack, h, hs, caughtAs, clrV, e1]
    · have e1 : ¬ (k : Int) < 8 := by omega
      by_cases w1 : k < 15
      · have h := h2 (by omega) w1
        have e2 : (k : Int) < 15 := by omega
        simp [exec, execs, ev, evCs, argOf, bindR, i3, callMR, inArgs, lends, lendOk, poison, putBack, h, hs, caughtAs, clrV, e1, e2]
      · have h := h3 (by omega)
        have e2 : ¬ (k : Int) < 15 := by omega
        simp [exec, execs, ev, evCs, argOf, bindR, i4, callMR, inArgs, lends, lendOk, poison, putBack, h, hs, caughtAs, clrV, e1, e2])]
  refine run_end ?_
  simp [exec, evMv, bindR]
theorem f7 (d : Nat) {k : Nat} (hk : k < 23) (v : D) (b : Bool) : cl (d + 2) 7 [(.int (k : Nat), .frz), (v, .frz), (.bl b, .frz)] = .ok (.exc (exW k) v) false [] :=
  (callD_eq (fn := r7.fn) rfl).trans (caught (fun _ => rfl) (fun _ => rfl) (fun _ => rfl) (fun _ => rfl) (fun h => f2 d h v b) (fun h h' => f3 d h h' v b) (fun h => f4 d h hk v b))
/-! whether it is right -/
theorem gdsS_map (k : Nat) : ∀ xs : List D, (∀ x ∈ xs, ∃ i, x = .int i) → gdsS (xs.map (eqK k)) = true ∧ depDs (xs.map (eqK k)) = 0
  | [], _ => ⟨rfl, rfl⟩
  | x :: xs, h => by
    obtain ⟨i, rfl⟩ := h x List.mem_cons_self
    obtain ⟨h1, h2⟩ := gdsS_map k xs fun y hy => h y (List.mem_cons_of_mem _ hy)
    refine ⟨?_, ?_⟩
    · show (true && gdsS (xs.map (eqK k))) = true
      rw [h1]; rfl
    · show max 0 (depDs (xs.map (eqK k))) = 0
      rw [h2]; rfl
theorem rgF_int (n : Nat) : ∀ x ∈ rgF 0 n, ∃ i : Int, x = .int i := fun x hx => by
  unfold rgF at hx
  obtain ⟨k, _, rfl⟩ := List.mem_map.mp hx
  exact ⟨_, rfl⟩
theorem due_gv (k : Nat) : gdS (.lst (dueL k)) = true ∧ depD (.lst (dueL k)) ≤ 4 := by
  obtain ⟨h1, h2⟩ := gdsS_map k (rgF 0 22) (rgF_int 22)
  refine ⟨?_, ?_⟩
  · show (decide (((rgF 0 22).map (eqK k)).length ≤ 1000) && gdsS ((rgF 0 22).map (eqK k))) = true
    rw [h1, List.length_map, decide_eq_true (by decide)]; rfl
  · show depDs ((rgF 0 22).map (eqK k)) + 1 ≤ 4
    rw [h2]
    decide
theorem right {C : Calls} (i1 : ∀ k, C.io 1 k = false) (i5 : ∀ k, C.io 5 k = false) {k c : Nat} {v : D} (h5 : C.call 5 [(.exc c v, .frz)] = .ok (.lst (dueL k)) true []) (h1 : C.call 1 [(.lst (dueL k), .own), (.lst (dueL k), .own)] = .ok (.bl true) false []) (h2 : C.call 1 [(v, .frz), (v, .frz)] = .ok (.bl true) false []) :
    runFn C r8.fn [(.exc c v, .frz), (.int (k : Nat), .frz), (v, .frz)] = .ok (.bl true) false [] := by
  refine (run_fn rfl (m := [some (.exc c v, .frz), some (.int (k : Nat), .frz), some (v, .frz), none]) (d := .bl true) (o := false) ?_).trans rfl
  show execs C b8 [some (.exc c v, .frz), some (.int (k : Nat), .frz), some (v, .frz), none] = _
  have e0 : cm2 .isN (.exc c v) .non = some false := rfl
  have e1 : isAny C.sub (.exc c v) [.valueError] = some true := rfl
  unfold b8
  rw [run_cons (m' := [some (.exc c v, .frz), some (.int (k : Nat), .frz), some (v, .frz), none]) (by simp [exec, execs, ev, argOf, bindR, e0, e1])]
  refine run_end ?_
  have hr : rangeO [.int 22] = some (rgF 0 22) := rfl
  have kc : ev C (.comp [3] (.nm 3) (.range (.cons (.int 22) .nil)) .nil (.cmp .eq (.var 3) (.var 1))) [some (.exc c v, .frz), some (.int (k : Nat), .frz), some (v, .frz), none] = .ok (.lst (dueL k), true) [some (.exc c v, .frz), some (.int (k : Nat), .frz), some (v, .frz), none] := by
    refine ev_comp (m1 := [some (.exc c v, .frz), some (.int (k : Nat), .frz), some (v, .frz), none]) (xs := rgF 0 22) (by simp [evI, ev, evFs, bindR, hr]) ?_
    simp only [evB]
    rw [compM_map (m1 := fun x => [some (.exc c v, .frz), some (.int (k : Nat), .frz), some (v, .frz), some (x, .frz)]) (g := eqK k) (o := fun _ => false) (by decide) fun x hx => by
      obtain ⟨i, rfl⟩ := rgF_int 22 x hx
      refine ⟨rfl, ?_, rfl⟩
      simp [ev, argOf, bindR, eqK]]
    rfl
  generalize hE : (E.comp [3] (.nm 3) (.range (.cons (.int 22) .nil)) .nil (.cmp .eq (.var 3) (.var 1))) = E1 at *
  clear hE
  have ka : ev C (.call 1 (.cons (.call 5 (.cons (.var 0) .nil)) (.cons E1 .nil))) [some (.exc c v, .frz), some (.int (k : Nat), .frz), some (v, .frz), none] = .ok (.bl true, false) [some (.exc c v, .frz), some (.int (k : Nat), .frz), some (v, .frz), none] := by
    generalize hL : dueL k = L at *
    clear hL
    simp [ev, evCs, argOf, bindR, i1, i5, callMR, inArgs, lends, lendOk, poison, putBack, h5, kc, h1]
  have kb : ev C (.call 1 (.cons (.valOf (.var 0)) (.cons (.var 2) .nil))) [some (.exc c v, .frz), some (.int (k : Nat), .frz), some (v, .frz), none] = .ok (.bl true, false) [some (.exc c v, .frz), some (.int (k : Nat), .frz), some (v, .frz), none] := by
    simp [ev, evCs, argOf, bindR, i1, callMR, inArgs, lends, lendOk, poison, putBack, h2]
  exact exec_ret ((ev_land ka).trans kb)
theorem f8 (d : Nat) {k : Nat} (hk : k < 23) {v : D} (hv : Gv v) : cl (d + 6) 8 [(.exc (exW k) v, .frz), (.int (k : Nat), .frz), (v, .frz)] = .ok (.bl true) false [] := by
  have h5 : (Cd (d + 5)).call 5 [(.exc (exW k) v, .frz)] = .ok (.lst (dueL k)) true [] := f5 (d + 4) hk v
  have h1 : (Cd (d + 5)).call 1 [(.lst (dueL k), .own), (.lst (dueL k), .own)] = .ok (.bl true) false [] := by
    have g := due_gv k
    generalize dueL k = L at *
    exact f1 4 d (x := .lst L) (g0 := .own) (g1 := .own) (.inr rfl) (.inr rfl) g.1 g.2
  have h2 : (Cd (d + 5)).call 1 [(v, .frz), (v, .frz)] = .ok (.bl true) false [] := f1 4 d (.inl rfl) (.inl rfl) hv.1 hv.2
  have i1 : ∀ k, (Cd (d + 5)).io 1 k = false := fun _ => rfl
  have i5 : ∀ k, (Cd (d + 5)).io 5 k = false := fun _ => rfl
  refine (callD_eq (fn := r8.fn) rfl).trans ?_
  show runFn (Cd (d + 5)) r8.fn _ = _
  generalize Cd (d + 5) = C at *
  exact right i1 i5 h5 h1 h2
/-! ### the law -/
abbrev Q := Option (D × Fl)
abbrev ST (sc ns : List Int) (a b c : Int) (q2 q3 q4 q5 q6 q7 q8 : Q) : MS := [some (.scr sc, .frz), some (.lst (potM ns a b c), .own), q2, q3, q4, q5, q6, q7, q8]
def st1 : S := .par [6, 7, 8] (.cons (.call 6 (.cons (.var 1) .nil)) (.cons (.call 6 (.cons (.var 1) .nil)) (.cons (.cmp .eq (.call 0 (.cons (.var 1) (.cons (.int 2) .nil))) (.int 0)) .nil)))
def st2 : S := .asg (.nm 4) (.call 7 (.cons (.var 3) (.cons (.var 6) (.cons (.var 8) .nil))))
def st3 : S := .asg (.nm 5) (.call 7 (.cons (.var 3) (.cons (.var 7) (.cons (.lnot (.var 8)) .nil))))
def st4 : S := .ifs (.lor (.lnot (.call 8 (.cons (.var 4) (.cons (.var 3) (.cons (.var 6) .nil))))) (.lnot (.call 8 (.cons (.var 5) (.cons (.var 3) (.cons (.var 7) .nil)))))) (.cons (.ret (.bl false)) .nil) .nil
def bTurn : Ss := .cons st1 (.cons st2 (.cons st3 (.cons st4 .nil)))
theorem b9_eq : b9 = .cons (.asg (.nm 1) (.op .add (.lst (.cons (.int 0) (.cons (.int 7) (.cons (.int 3) .nil)))) (.bi .list (.cons (.var 0) .nil)))) (.cons (.frr (.nm 2) (.range (.cons (.bi .max (.cons (.int 1) (.cons (.bi .min (.cons (.int 12) (.cons (.bi .len (.cons (.var 0) .nil)) .nil))) .nil))) .nil)) (.cons (.frr (.nm 3) (.range (.cons (.int 23) .nil)) bTurn) .nil)) (.cons (.ret (.bl true)) .nil)) := rfl
structure CF (C : Calls) (ns : List Int) : Prop where
  tk : TkM C 0 ns
  i6 : C.io 6 0 = true
  i7 : ∀ k, C.io 7 k = false
  i8 : ∀ k, C.io 8 k = false
  c6 : ∀ {a b c : Int}, PM ns a b c → ∃ x a' b' c', C.call 6 [(.lst (potM ns a b c), .bor)] = .ok x false [some (.lst (potM ns a' b' c'))] ∧ PM ns a' b' c' ∧ Gv x
  c7 : ∀ {k : Nat}, k < 23 → ∀ (v : D) (b : Bool), C.call 7 [(.int (k : Nat), .frz), (v, .frz), (.bl b, .frz)] = .ok (.exc (exW k) v) false []
  c8 : ∀ {k : Nat}, k < 23 → ∀ {v : D}, Gv v → C.call 8 [(.exc (exW k) v, .frz), (.int (k : Nat), .frz), (v, .frz)] = .ok (.bl true) false []
theorem cf (ns : List Int) : CF (Cd 11) ns where
  tk := f0 10 ns
  i6 := rfl
  i7 := fun _ => rfl
  i8 := fun _ => rfl
  c6 := fun h => f6 9 h
  c7 := fun h v b => f7 9 h v b
  c8 := fun h _ hv => f8 5 h hv
section
variable {C : Calls} {sc ns : List Int} {a b c : Int} {q2 q3 q4 q5 q6 q7 q8 : Q}
theorem turn (F : CF C ns) (h : PM ns a b c) {k : Nat} (hk : k < 23) (n4 : isBor q4 = false) (n5 : isBor q5 = false) (n6 : isBor q6 = false) (n7 : isBor q7 = false) (n8 : isBor q8 = false) :
    ∃ (a' b' c' : Int) (r4 r5 r6 r7 r8 : Q), PM ns a' b' c' ∧ (isBor r4 = false ∧ isBor r5 = false ∧ isBor r6 = false ∧ isBor r7 = false ∧ isBor r8 = false) ∧
    execs C bTurn (ST sc ns a b c q2 (some (.int (k : Nat), .frz)) q4 q5 q6 q7 q8) = .ok .nx (ST sc ns a' b' c' q2 (some (.int (k : Nat), .frz)) r4 r5 r6 r7 r8) := by
  obtain ⟨x, a1, b1, c1, k1, h1, gx⟩ := F.c6 h
  obtain ⟨y, a2, b2, c2, k2, h2, gy⟩ := F.c6 h1
  obtain ⟨r, a3, b3, c3, k3, h3, r0, r1⟩ := F.tk.tk (many := 2) h2 (by decide) (by decide)
  obtain ⟨d, hd⟩ : ∃ d : Bool, d = decide (r = 0) := ⟨_, rfl⟩
  have e1 := F.c7 hk x d
  have e2 := F.c7 hk y (!d)
  have e3 := F.c8 hk gx
  have e4 := F.c8 hk gy
  have i6 := F.i6
  have i7 := F.i7
  have i8 := F.i8
  have t0 := F.tk.i0
  have t1 := F.tk.i1
  refine ⟨a3, b3, c3, some (.exc (exW k) x, .frz), some (.exc (exW k) y, .frz), some (x, .frz), some (y, .frz), some (.bl d, .frz), h3, ⟨rfl, rfl, rfl, rfl, rfl⟩, ?_⟩
  unfold bTurn
  rw [run_cons (m' := ST sc ns a3 b3 c3 q2 (some (.int (k : Nat), .frz)) q4 q5 (some (x, .frz)) (some (y, .frz)) (some (.bl d, .frz))) (by
    unfold st1
    simp [exec, ev, evRs, evCs, stVs, argOf, bindR, i6, t0, t1, callMR, inArgs, lends, lendOk, noLend, poison, putBack, k1, k2, k3, stVE, -stVR, n6, n7, n8, hd])]
  rw [run_cons (m' := ST sc ns a3 b3 c3 q2 (some (.int (k : Nat), .frz)) (some (.exc (exW k) x, .frz)) q5 (some (x, .frz)) (some (y, .frz)) (some (.bl d, .frz))) (by
    unfold st2
    simp [exec, ev, evCs, argOf, bindR, i7, callMR, inArgs, lends, lendOk, noLend, poison, putBack, e1, stVE, -stVR, n4])]
  rw [run_cons (m' := ST sc ns a3 b3 c3 q2 (some (.int (k : Nat), .frz)) (some (.exc (exW k) x, .frz)) (some (.exc (exW k) y, .frz)) (some (x, .frz)) (some (y, .frz)) (some (.bl d, .frz))) (by
    unfold st3
    simp [exec, ev, evCs, argOf, bindR, i7, callMR, inArgs, lends, lendOk, noLend, poison, putBack, e2, stVE, -stVR, n5])]
  refine (run_cons ?_).trans run_nil
  unfold st4
  simp [exec, execs, ev, evCs, argOf, bindR, i8, callMR, inArgs, lends, lendOk, noLend, poison, putBack, e3, e4]
theorem inner (F : CF C ns) : ∀ (m p : Nat) {a b c : Int} {q3 q4 q5 q6 q7 q8 : Q}, p + m ≤ 23 → PM ns a b c → isBor q3 = false → (isBor q4 = false ∧ isBor q5 = false ∧ isBor q6 = false ∧ isBor q7 = false ∧ isBor q8 = false) →
    ∃ (a' b' c' : Int) (r3 r4 r5 r6 r7 r8 : Q), PM ns a' b' c' ∧ isBor r3 = false ∧ (isBor r4 = false ∧ isBor r5 = false ∧ isBor r6 = false ∧ isBor r7 = false ∧ isBor r8 = false) ∧
    forL (setT (.nm 3)) (execs C bTurn) (rgF p m) (ST sc ns a b c q2 q3 q4 q5 q6 q7 q8) = .ok .nx (ST sc ns a' b' c' q2 r3 r4 r5 r6 r7 r8)
  | 0, p, a, b, c, q3, q4, q5, q6, q7, q8, _, h, n3, n => ⟨a, b, c, q3, q4, q5, q6, q7, q8, h, n3, n, rfl⟩
  | m + 1, p, a, b, c, q3, q4, q5, q6, q7, q8, hm, h, n3, ⟨n4, n5, n6, n7, n8⟩ => by
    obtain ⟨a1, b1, c1, r4, r5, r6, r7, r8, h1, n', k1⟩ := turn (C := C) (sc := sc) (q2 := q2) (k := p) F h (by omega) n4 n5 n6 n7 n8
    obtain ⟨a2, b2, c2, s3, s4, s5, s6, s7, s8, h2, n3', n'', k2⟩ := inner F m (p + 1) (q3 := some (.int (p : Nat), .frz)) (by omega) h1 rfl n'
    refine ⟨a2, b2, c2, s3, s4, s5, s6, s7, s8, h2, n3', n'', ?_⟩
    rw [rgF_succ]
    exact (forL_cons (by simp [setT, stVE, n3, -stVR]) k1).trans k2
theorem outer (F : CF C ns) : ∀ (xs : List D) {a b c : Int} {q2 q3 q4 q5 q6 q7 q8 : Q}, PM ns a b c → isBor q2 = false → isBor q3 = false → (isBor q4 = false ∧ isBor q5 = false ∧ isBor q6 = false ∧ isBor q7 = false ∧ isBor q8 = false) →
    ∃ m, forL (setT (.nm 2)) (execs C (.cons (.frr (.nm 3) (.range (.cons (.int 23) .nil)) bTurn) .nil)) xs (ST sc ns a b c q2 q3 q4 q5 q6 q7 q8) = .ok .nx m
  | [], _, _, _, _, _, _, _, _, _, _, _, _, _, _ => ⟨_, rfl⟩
  | x :: xs, a, b, c, q2, q3, q4, q5, q6, q7, q8, h, n2, n3, n => by
    obtain ⟨a1, b1, c1, r3, r4, r5, r6, r7, r8, h1, n3', n', k1⟩ := inner (C := C) (sc := sc) (q2 := some (x, .frz)) F 23 0 (by omega) h n3 n
    obtain ⟨m2, k2⟩ := outer F xs (q2 := some (x, .frz)) h1 rfl n3' n'
    have hr : rangeO [.int 23] = some (rgF 0 23) := rfl
    refine ⟨m2, (forL_cons (m1 := ST sc ns a b c (some (x, .frz)) q3 q4 q5 q6 q7 q8) (by simp [setT, stVE, n2, -stVR]) ?_).trans k2⟩
    refine (run_cons ?_).trans run_nil
    simp only [exec]
    rw [bind_ok (m' := ST sc ns a b c (some (x, .frz)) q3 q4 q5 q6 q7 q8) (a := rgF 0 23) (by simp [evI, evFs, ev, bindR, hr])]
    exact k1
end
theorem law_true (ns : List Int) (hl : ns.length ≤ 63) : ∃ own outs, callD (progOf rows globs io) (fun c b => whN c b fuel) depth 9 [(.scr ns, .frz)] = .ok (.bl true) own outs := by
  show ∃ own outs, callD Pr (Wn fuel) (11 + 1) 9 [(.scr ns, .frz)] = .ok (.bl true) own outs
  have F := cf ns
  rw [callD_eq (fn := r9.fn) rfl]
  have F : CF (⟨callD Pr (Wn fuel) 11, Pr.glob, Pr.io, Pr.sub, Wn fuel⟩ : Calls) ns := F
  generalize (⟨callD Pr (Wn fuel) 11, Pr.glob, Pr.io, Pr.sub, Wn fuel⟩ : Calls) = C at F ⊢
  have p0 : PM ns 0 7 3 := ⟨by decide, by decide, by decide, by decide, by omega⟩
  obtain ⟨N, hN, hN2⟩ : ∃ N : Nat, (if (1 : Int) < (if (ns.length : Int) < 12 then (ns.length : Int) else 12) then (if (ns.length : Int) < 12 then (ns.length : Int) else 12) else 1) = (N : Int) ∧ N ≤ 12 := by
    by_cases h1 : (ns.length : Int) < 12
    · rw [if_pos h1]
      by_cases h2 : (1 : Int) < (ns.length : Int)
      · exact ⟨ns.length, by rw [if_pos h2], by omega⟩
      · exact ⟨1, by rw [if_neg h2]; rfl, by omega⟩
    · rw [if_neg h1]
      exact ⟨12, by rw [if_pos (by decide)]; rfl, by omega⟩
  obtain ⟨m, hk⟩ := outer (C := C) (sc := ns) F (rgF 0 N) (q2 := none) (q3 := none) (q4 := none) (q5 := none) (q6 := none) (q7 := none) (q8 := none) p0 rfl rfl ⟨rfl, rfl, rfl, rfl, rfl⟩
  refine ⟨false, outsOf m 0 [(.scr ns, .frz)], run_fn (d := .bl true) (o := false) (m := m) rfl ?_⟩
  show execs C b9 [some (.scr ns, .frz), none, none, none, none, none, none, none, none] = _
  rw [b9_eq]
  have e : op2 .add (.lst [.int 0, .int 7, .int 3]) (.lst (ns.map D.int)) = some (.lst (potM ns 0 7 3), true) := by
    show (if [D.int 0, .int 7, .int 3].length + (ns.map D.int).length ≤ LINE then some (D.lst ([D.int 0, .int 7, .int 3] ++ ns.map D.int), true) else none) = _
    rw [if_pos]
    · rfl
    · rw [List.length_map]
      exact Nat.le_trans (show 3 + ns.length ≤ 66 by omega) (by decide)
  rw [run_cons (m' := ST ns ns 0 7 3 none none none none none none none) (by
    simp [exec, ev, evFs, evAs, rdAs, argOf, bindR, e])]
  have hr : rangeO [.int (N : Nat)] = some (rgF 0 N) := by
    rw [← rg_rgF]
    exact rangeO1 (by omega)
  rw [run_cons (by
    simp only [exec]
    rw [bind_ok (m' := ST ns ns 0 7 3 none none none none none none none) (a := rgF 0 N) (by simp [evI, evFs, evAs, rdAs, argOf, ev, bindR, hN, hr])]
    exact hk)]
  refine run_end ?_
  simp [exec, evMv, ev, bindR]
end K00

open PySem PySem.W PyProof.Rows
set_option maxHeartbeats 0 in
theorem PySem.Challenge.cw_wholetowers_k00_errors_holds : PySem.Challenge.rw_wholetowers_k00_errors.Holds := by
  w_on; o_law; k_head; (case hw => w_witness2)
  k_fill
  refine L2.walk_of (l := PySem.Challenge.rw_wholetowers_k00_errors) (n := 63) (k := K00.depth + 2) (x := "script") (CX := fun w => L2.CX PySem.Challenge.rw_wholetowers_k00_errors.prog w) (sp := fun w => Mi.spF _ (Mi.excXR _) (Mi.callD (Mi.progOf K00.rows K00.globs K00.io) (fun c b => Mi.whN c b K00.fuel) K00.depth) 9) rfl (by decide) rfl ⟨rfl, by decide, by decide⟩ (fun w h Y => PySem.W.kIn_of Y) ?F (fun _ _ a ns hl ho hs => Mi.law_sp ho hs (K00.law_true ns hl)) ?Z
  case Z =>
    rintro w H s e s2 ⟨_, _, _, _, _, _, _, _, _, _, _, _, z⟩
    exact z
  case F =>
    intro w mg fa h KX G hmg
    refine' Mi.law_ok (rows := K00.rows) (globs := K00.globs) (blts := K00.blts) (gcd := false) (cls := K00.cls) (stI := K00.stI) KX G K00.allT K00.chk ⟨?qd0, ?qd1, ?qd2, ?qd3, ?qd4, ?qd5, ?qd6, ?qd7, ?qd8, ?qd9, trivial⟩ ⟨?qz0, ?qz1, ?qz2, ?qz3, ?qz4, ?qz5, ?qz6, ?qz7, ?qz8, ?qz9, ?qz10, ?qz11, trivial⟩ trivial (fun z => nomatch z) (Mi.exc_top (by decide) (.put ?qx0 (.put ?qx1 (.put ?qx2 (.put ?qx3 (.put ?qx4 (.put ?qx5 (.put ?qx6 (.put ?qx7 (.put ?qx8 (.put ?qx9 (.put ?qx10 (.put ?qx11 (.put ?qx12 (.put ?qx13 (.put ?qx14 (.put ?qx15 (.put ?qx16 (.put ?qx17 (.put ?qx18 (.put ?qx19 (.put ?qx20 (.put ?qx21 (.put ?qx22 trivial))))))))))))))))))))))) K00.iniT K00.iniB ?qe1 ?qe2 ?qea ?qeb ?qe3 ?qe4 ?qe5 ?qe6 ?qe7) (row := K00.r9) rfl rfl rfl hmg
    case qd0 => refine' Mi.def_in ?qa ?ql ?qc ?qk; (case qa => k_is); (case ql => k_is); (case qc => k_is); (case qk => k_is)
    case qd1 => refine' Mi.def_in ?qa ?ql ?qc ?qk; (case qa => k_is); (case ql => k_is); (case qc => k_is); (case qk => k_is)
    case qd2 => refine' Mi.def_in ?qa ?ql ?qc ?qk; (case qa => k_is); (case ql => k_is); (case qc => k_is); (case qk => k_is)
    case qd3 => refine' Mi.def_in ?qa ?ql ?qc ?qk; (case qa => k_is); (case ql => k_is); (case qc => k_is); (case qk => k_is)
    case qd4 => refine' Mi.def_in ?qa ?ql ?qc ?qk; (case qa => k_is); (case ql => k_is); (case qc => k_is); (case qk => k_is)
    case qd5 => refine' Mi.def_in ?qa ?ql ?qc ?qk; (case qa => k_is); (case ql => k_is); (case qc => k_is); (case qk => k_is)
    case qd6 => refine' Mi.def_in ?qa ?ql ?qc ?qk; (case qa => k_is); (case ql => k_is); (case qc => k_is); (case qk => k_is)
    case qd7 => refine' Mi.def_in ?qa ?ql ?qc ?qk; (case qa => k_is); (case ql => k_is); (case qc => k_is); (case qk => k_is)
    case qd8 => refine' Mi.def_in ?qa ?ql ?qc ?qk; (case qa => k_is); (case ql => k_is); (case qc => k_is); (case qk => k_is)
    case qd9 => refine' Mi.def_in ?qa ?ql ?qc ?qk; (case qa => k_is); (case ql => k_is); (case qc => k_is); (case qk => k_is)
    case qz0 => k_is
    case qz1 => k_is
    case qz2 => k_is
    case qz3 => k_is
    case qz4 => k_is
    case qz5 => k_is
    case qz6 => k_is
    case qz7 => k_is
    case qz8 => k_is
    case qz9 => k_is
    case qz10 => k_is
    case qz11 => k_is
    case qx0 => k_is
    case qx1 => k_is
    case qx2 => k_is
    case qx3 => k_is
    case qx4 => k_is
    case qx5 => k_is
    case qx6 => k_is
    case qx7 => k_is
    case qx8 => k_is
    case qx9 => k_is
    case qx10 => k_is
    case qx11 => k_is
    case qx12 => k_is
    case qx13 => k_is
    case qx14 => k_is
    case qx15 => k_is
    case qx16 => k_is
    case qx17 => k_is
    case qx18 => k_is
    case qx19 => k_is
    case qx20 => k_is
    case qx21 => k_is
    case qx22 => k_is
    case qe1 => k_is
    case qe2 => k_is
    case qea => k_is
    case qeb => k_is
    case qe3 => k_is
    case qe4 => k_is
    case qe5 => k_is
    case qe6 => k_is
    case qe7 => kernel_rfl
