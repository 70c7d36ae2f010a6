import PyProof.Rows.All
import Wide.All
import OpenK.AllK
import Wide.FinOn
import PySem.Value
import PyProof.EqLayable
import PyProof.P3Statements
import PyProof.ReprReads
import KE.SortData
import HandS.ForMost
import HandS.TupAny
import HandS.TupMul
import HandS.Style
import HandS.IsInst
import HandS.TupLe
import HandS.More
import KE.KTupSum
import HandS.RaiseMore
import HandS.Property
import HandS.Defaults
import HandS.Ends
import HandS.MakeKw
import HandS.OwnEq
import KE.GoesMore
import HandS.Zip
import HandS.Comp
import HandS.Conv
import HandS.IterVal
import HandS.Deep
import HandS.MakeKwOnly
import HandS.Dict
import HandS.HeadNt
import HandS.HeadEnd
import HandS.Codes
import HandS.Head0
import HandS.Head1
import HandS.Head2
import PySem.Challenge.RW_sureparts_k18_whole_rows_below_and_webs
set_option Elab.async false
set_option linter.all false
-- MPDef
section
/-! A small interpreter over data trees: what the defs of the row do, told without a heap. -/
namespace MP
open PySem (Str)

inductive D where
  | non | bl (b : Bool) | int (i : Int) | str (s : Str)
  | tup (xs : List D) | lst (xs : List D) | ins (c : Nat) (fs : List D) | loc (i : Nat) | junk | fz (xs : List D)
  | dct (ks : List (List Int)) (vs : List D)
  deriving Inhabited

inductive BO where | add | sub | mul | fdiv | mod | pow
  deriving DecidableEq
inductive CO where | eq | ne | lt | le | gt | ge | is_ | isn | in_ | nin
  deriving DecidableEq
inductive B1 where | len | sum | max | min | all | any | abs | int | list | tuple | repr | sorted | str
  deriving DecidableEq
inductive B2 where | max | min | divmod | index | count
  deriving DecidableEq
inductive Ty where | int | bool | str | list | tuple | seq | cls (c : Nat)
  deriving DecidableEq
inductive Mt where | app | ext | ins | pop0 | pop
  deriving DecidableEq

mutual
inductive E where
  | c (d : D) | v (i : Nat) | mv (i : Nat) | ln (i : Nat)
  | tup (es : Es) | lst (k : Nat) (es : Es) | lstL (es : Es)
  | bin (op : BO) (a b : E) | neg (a : E) | nt (a : E) | an (a b : E) | or (a b : E) | ife (c a b : E)
  | cmp (op : CO) (a b : E) | cmp2 (op op' : CO) (a b c : E)
  | ix (a i : E) | pix (i : Nat) (es : Es) | sl (a : E) (lo hi : Es) | rev (a : E) | sls (a st : E) | apc (i : Nat) (n e : E)
  | fld (a : E) (c f : Nat) | prop (a : E) (c m : Nat)
  | call (f : Nat) (pm : List Nat) (as : Es) | meth (c m : Nat) (a : E) (pm : List Nat) (as : Es) | new (c : Nat) (pm : List Nat) (as : Es)
  | b1 (op : B1) (a : E) | b2 (op : B2) (a b : E) | isi (t : Ty) (a : E)
  | itl (tp : Bool) (it : I)
  | comp (k : Nat) (own : List Nat) (tg : T) (it : I) (cond : Es) (elt : E)
  | dnew | dget (a k : E) | dgetd (a k : E) | frz (a : E) | ceq (ng : Bool) (c m : Nat) (a b : E) | ceo (c m : Nat) (a b : E)
  | mtp (m : Mt) (i : Nat) (path : Es) (as : Es) | mtt (m : Mt) (a : E) (as : Es)
inductive Es where | nil | cons (e : E) (es : Es)
inductive I where
  | seq (e : E) | rng1 (a : E) | rng2 (a b : E) | rng3 (a b c : E) | enum (e : E) | zip (a b : E) | zip3 (a b c : E) | zip4 (a b c d : E) | enumz (a b : E)
inductive T where | sl (i : Nat) | tup (ts : Ts) | pix (i : Nat) (es : Es)
inductive Ts where | nil | cons (t : T) (ts : Ts)
end

mutual
inductive S where
  | asg (t : T) (e : E) | par (is : List Nat) (es : Es) | aug (i : Nat) (op : BO) (e : E) | setf (c f : Nat) (e : E)
  | ex (e : E) | ret (e : E) | retN | ifs (c : E) (a b : Ss) | for_ (t : T) (it : I) (b : Ss) | forO (i : Nat) (t : T) (b : Ss)
  | whl (c : E) (b : Ss) | pss | brk | cnt | rse
  | dput (i : Nat) (k v : E)
inductive Ss where | nil | cons (s : S) (ss : Ss) | bor (b : Ss) (n : Nat) (ss : Ss)
end

/-- the end of a piece: v, or an error of class c with its fields, or nothing is told -/
inductive R (α : Type) where
  | ok (a : α) | exc (c : Nat) (fs : List D) (st : List (List D)) | bad
  deriving Inhabited
@[inline] def R.bind {α β : Type} (x : R α) (f : α → R β) : R β := match x with | .ok a => f a | .exc c fs s => .exc c fs s | .bad => .bad
instance : Monad R where pure := R.ok; bind := R.bind

abbrev Sl := Option (D × Nat)
/-- slots and the store of the lists that are known by their number -/
structure Sta where
  σ : List Sl
  μ : List (List D)
  deriving Inhabited

def lim : Nat := 16777216
def ofO {α : Type} : Option α → R α | some a => .ok a | none => .bad

/-! ### data -/
def ixN (n : Nat) (i : Int) : Option Nat :=
  if 0 ≤ i then (if i < n then some i.toNat else none)
  else if -(n : Int) ≤ i then some (i + n).toNat else none
def atD (xs : List D) (i : Int) : Option D := match ixN xs.length i with | some j => xs[j]? | none => none
def toInt : D → Option Int | .int i => some i | _ => none
def toInts : List D → Option (List Int)
  | [] => some []
  | .int i :: r => match toInts r with | some is => some (i :: is) | none => none
  | _ :: _ => none
def toBls : List D → Option (List Bool)
  | [] => some []
  | .bl i :: r => match toBls r with | some is => some (i :: is) | none => none
  | _ :: _ => none
-- no list, nothing unknown, in it
mutual
def flat : D → Bool
  | .lst _ => false | .junk => false | .loc _ => false | .fz _ => false | .dct _ _ => false
  | .tup xs => flats xs | .ins _ xs => flats xs
  | _ => true
def flats : List D → Bool | [] => true | x :: xs => flat x && flats xs
end
-- nothing unknown, no store number in it
mutual
def pureD : D → Bool
  | .junk => false | .loc _ => false | .fz _ => false | .dct _ _ => false
  | .lst xs => pureDs xs | .tup xs => pureDs xs | .ins _ xs => pureDs xs
  | _ => true
def pureDs : List D → Bool | [] => true | x :: xs => pureD x && pureDs xs
end
mutual
/-- as plain data -/
def toPy : D → PySem.PyData
  | .non => .none | .bl b => .bool b | .int i => .int i | .str s => .str s
  | .tup xs => .tuple (toPys xs) | .lst xs => .list (toPys xs)
  | _ => .dict []
def toPys : List D → List PySem.PyData | [] => [] | x :: xs => toPy x :: toPys xs
end
/-- == -/
def eqD (eqn : Nat → Nat) (x y : D) : Option Bool := if PySem.SeqAt.shaped (toPy x) && PySem.SeqAt.shaped (toPy y) then some (PySem.PyData.eqv (toPy x) (toPy y)) else none
/-- of another kind than an instance -/
def otherK : D → Bool | .non | .int _ | .lst _ | .tup _ => true | _ => false
def flatK : D → Bool | .non | .bl _ | .int _ | .str _ => true | _ => false
def isD (x y : D) : Option Bool := match x, y with
  | .junk, _ => none
  | .bl a, .bl b => some (a == b)
  | .non, .non => some true
  | _, .non => some false
  | _, _ => none
def eqF : D → D → Bool
  | .non, .non => true | .bl a, .bl b => a == b | .bl a, .int j => (if a then 1 else 0) == j | .int i, .bl b => i == (if b then 1 else 0) | .int i, .int j => i == j | .str s, .str t => s == t
  | _, _ => false
def inD (x : D) (xs : List D) : Option Bool := if flatK x && xs.all flatK then some (xs.any fun y => eqF y x) else none
/-- x in a list, anything -/
def inP (x : D) (ys : List D) : Option Bool := if PySem.SeqAt.shaped (toPy x) && PySem.SeqAt.shaped (toPy (.lst ys)) then some ((toPys ys).any fun z => PySem.PyData.eqv z (toPy x)) else none
def inQ (x : D) (ys : List D) : Option Bool := match inD x ys with | some b => some b | none => inP x ys
def lexI : List Int → List Int → Bool
  | [], [] => false | [], _ :: _ => true | _ :: _, [] => false
  | x :: xs, y :: ys => if x = y then lexI xs ys else decide (x < y)

def cmpD (eqn : Nat → Nat) : CO → D → D → Option Bool
  | .eq, .str a, .str b => some (decide (a = b))
  | .ne, .str a, .str b => some (!decide (a = b))
  | .eq, x, y => eqD eqn x y
  | .ne, x, y => (eqD eqn x y).map (!·)
  | .lt, .int i, .int j => some (decide (i < j))
  | .le, .int i, .int j => some (decide (i ≤ j))
  | .gt, .int i, .int j => some (decide (j < i))
  | .ge, .int i, .int j => some (decide (j ≤ i))
  | .is_, x, y => isD x y
  | .isn, x, y => (isD x y).map (!·)
  | .in_, x, .lst ys => inQ x ys
  | .in_, x, .tup ys => inD x ys
  | .nin, x, .lst ys => (inQ x ys).map (!·)
  | .nin, x, .tup ys => (inD x ys).map (!·)
  | _, _, _ => none

def small64 (i : Int) : Bool := decide (-(2 ^ 64) < i) && decide (i < 2 ^ 64)
def binD : BO → D → D → Option (D × Nat)
  | .add, .int i, .int j => some (.int (i + j), 0)
  | .add, .lst a, .lst b => if a.length + b.length ≤ lim then some (.lst (a ++ b), 1) else none
  | .add, .tup a, .tup b => if a.length + b.length ≤ lim then some (.tup (a ++ b), 0) else none
  | .sub, .int i, .int j => some (.int (i - j), 0)
  | .mul, .int i, .int j => if small64 i || small64 j then some (.int (i * j), 0) else none
  | .mul, .lst a, .int k => if small64 k && decide (-(2 ^ 63) ≤ k) && decide (k < 2 ^ 63) && decide (a.length * k.toNat ≤ lim) then some (.lst (List.replicate k.toNat a).flatten, 1) else none
  | .mul, .tup a, .int k => if a.length ≠ 0 ∧ 2 ≤ k ∧ k ≤ 1000 ∧ a.length ≤ 1000 then some (.tup (List.replicate k.toNat a).flatten, 0) else none
  | .fdiv, .int i, .int j => if 0 < j ∧ j < 1073741824 then some (.int (i / j), 0) else none
  | .mod, .int i, .int j => if 0 < j then some (.int (i % j), 0) else none
  | .pow, .int i, .int j => if 0 ≤ j ∧ j ≤ 1000 ∧ -(2 ^ 63) < i ∧ i < 2 ^ 63 then some (.int (i ^ j.toNat), 0) else none
  | _, _, _ => none
def negD : D → Option D | .int i => some (.int (-i)) | _ => none
def tyD : Ty → D → Option Bool
  | _, .junk => none
  | _, .dct _ _ => none
  | .int, d => some (match d with | .int _ | .bl _ => true | _ => false)
  | .bool, d => some (match d with | .bl _ => true | _ => false)
  | .str, d => some (match d with | .str _ => true | _ => false)
  | .list, d => some (match d with | .lst _ | .loc _ | .fz _ => true | _ => false)
  | .tuple, d => some (match d with | .tup _ => true | _ => false)
  | .seq, d => some (match d with | .lst _ | .loc _ | .fz _ | .tup _ => true | _ => false)
  | .cls c, d => some (match d with | .ins c' _ => decide (c = c') | _ => false)
def seqD : D → Option (List D) | .lst xs | .tup xs | .fz xs => some xs | _ => none
def listMax : List Int → Option Int | [] => none | x :: xs => some (xs.foldl (fun a b => if a < b then b else a) x)
def listMin : List Int → Option Int | [] => none | x :: xs => some (xs.foldl (fun a b => if b < a then b else a) x)
/-- can it be shown -/
def okShow (d : D) : Bool := (toPy d).canLay0 && ((toPy d).showable && (!(toPy d).hasDict && (decide ((toPy d).depth ≤ 64) && decide ((toPy d).shown.length ≤ PySem.sizeLine))))
/-- can these be sorted -/
def noTup : PySem.PyData → Bool | .none => false | .tuple _ => false | _ => true
def tup1 : PySem.PyData → Bool | .tuple (_ :: _) => true | _ => false
def unitT : List PySem.PyData → Bool | [.tuple []] => true | _ => false
def okSort (xs : List D) : Bool := (toPys xs).all (fun d => (toPys xs).all fun e => PySem.W.alike d e) && (((toPys xs).all tup1 || ((toPys xs).all noTup || unitT (toPys xs))) && (PySem.PyData.canLayAll0 (toPys xs) && (toPys xs).all fun d => decide (d.depth ≤ 64)))
def sortD (xs : List D) : List D := xs.mergeSort (PySem.W.dataLe false toPy)
/-- a built-in of one argument -/
def b1D (rp : D → Option Str) : B1 → D → Option D
  | .len, d => (seqD d).map fun xs => .int xs.length
  | .sum, .lst xs => (toInts xs).map fun is => (.int is.sum)
  | .max, .lst xs => ((toInts xs).bind listMax).map fun m => (.int m)
  | .min, .lst xs => ((toInts xs).bind listMin).map fun m => (.int m)
  | .sum, .tup xs => (toInts xs).map fun is => (.int is.sum)
  | .max, .tup xs => ((toInts xs).bind listMax).map fun m => (.int m)
  | .min, .tup xs => ((toInts xs).bind listMin).map fun m => (.int m)
  | .all, .lst xs => (toBls xs).map fun bs => (.bl (bs.all id))
  | .any, .lst xs => (toBls xs).map fun bs => (.bl (bs.any id))
  | .abs, .int i => some (.int (if i < 0 then -i else i))
  | .int, .int i => some (.int i)
  | .int, .bl b => some (.int (if b then 1 else 0))
  | .list, d => (seqD d).map fun xs => (.lst xs)
  | .tuple, d => (seqD d).map fun xs => (.tup xs)
  | .repr, .int i => if small64 i then some (.str (toString i)) else none
  | .repr, .bl b => some (.str (if b then "True" else "False"))
  | .repr, .lst xs => if okShow (.lst xs) then some (.str (toPy (.lst xs)).shown) else none
  | .repr, .tup xs => if okShow (.tup xs) then some (.str (toPy (.tup xs)).shown) else none
  | .sorted, .lst xs => if okSort xs then some (.lst (sortD xs)) else none
  | _, _ => none
def b2D : B2 → D → D → Option (D × Nat)
  | .max, .int i, .int j => some (.int (if j > i then j else i), 0)
  | .min, .int i, .int j => some (.int (if j < i then j else i), 0)
  | .divmod, .int i, .int j => if 0 < j ∧ j < 1073741824 then some (.tup [.int (i / j), .int (i % j)], 0) else none
  | _, _, _ => none
/-- xs[lo:hi] -/
def sIx (n d : Nat) : Option Int → Nat
  | none => d
  | some i => if i < 0 then (i + n).toNat else min i.toNat n
def cutD (xs : List D) (lo hi : Option Int) : List D := (xs.drop (sIx xs.length 0 lo)).take (sIx xs.length xs.length hi - sIx xs.length 0 lo)

/-- xs[::k] -/
def stepIx (n : Nat) (k : Int) : List Nat := (List.range ((if (0 : Int) < (n : Int) then ((n : Int) - 0 + k - 1) / k else 0 : Int)).toNat).map fun (i : Nat) => ((0 : Int) + k * (i : Int)).toNat
def stepL {α : Type} (xs : List α) (k : Int) : List α := (stepIx xs.length k).filterMap fun i => xs[i]?
/-- d[k] -/
def getK : List (List Int) → List D → List Int → Option D
  | k :: ks, v :: vs, x => if k = x then some v else getK ks vs x
  | _, _, _ => none
/-- may p stand where depth k is wanted -/
def fits (k : Nat) (p : D × Nat) : Bool := k == 0 || p.2 == k || flatK p.1

/-! ### slots -/
def Sta.get (s : Sta) (i : Nat) : R (D × Nat) := match s.σ[i]? with | some (some p) => .ok p | _ => .bad
def Sta.put (s : Sta) (i : Nat) (p : D × Nat) : Sta := { s with σ := s.σ.set i (some p) }
/-- the slot's own depth is at most n -/
def Sta.low (s : Sta) (i n : Nat) : Sta := match s.σ[i]? with | some (some (d, k)) => if k ≤ n then s else { s with σ := s.σ.set i (some (d, n)) } | _ => s
/-- its children are others', too -/
def Sta.shr (s : Sta) (i : Nat) : Sta := match s.σ[i]? with | some (some (.lst _, _)) => s.low i 1 | _ => s.low i 0
def Sta.wipe (s : Sta) (is : List Nat) : Sta := { s with σ := is.foldl (fun σ i => σ.set i none) s.σ }

/-- an operand: a slot that is read when it is wanted, or a value -/
inductive Od where | s (i : Nat) | t (d : D) (k : Nat)
def Od.val (o : Od) (st : Sta) : R D := match o with | .s i => (match st.get i with | .ok (d, _) => .ok d | .exc c f m => .exc c f m | .bad => .bad) | .t d _ => .ok d
def Od.share (o : Od) (st : Sta) : Sta := match o with | .s i => st.shr i | .t _ _ => st
def Od.own (o : Od) (st : Sta) : Nat := match o with | .s _ => 0 | .t _ k => k

def nav : D → List Int → Option D
  | d, [] => some d
  | .lst xs, i :: is => match atD xs i with | some d => nav d is | none => none
  | .tup xs, i :: is => match atD xs i with | some d => nav d is | none => none
  | .fz xs, i :: is => match atD xs i with | some d => nav d is | none => none
  | _, _ :: _ => none
/-- the list at a path, changed -/
def navSet (f : List D → Option (List D)) : D → List Int → Option D
  | .lst xs, [] => (f xs).map .lst
  | .lst xs, i :: is => match ixN xs.length i with
    | some j => (match xs[j]? with
      | some d => (match navSet f d is with | some d' => some (.lst (xs.set j d')) | none => none)
      | none => none)
    | none => none
  | _, _ => none

def okM (m : Mt) (k : Nat) (qs : List (D × Nat)) : Bool := match m with
  | .ext => k == 0 || qs.all fun q => q.2 == k + 1
  | _ => qs.all (fits k)
def mtD : Mt → List D → List D → Option (List D × D)
  | .app, xs, [d] => if xs.length < lim then some (xs ++ [d], .non) else none
  | .ext, xs, [.lst ys] => if xs.length + ys.length ≤ lim then some (xs ++ ys, .non) else none
  | .ins, xs, [.int i, d] => if xs.length < lim ∧ 0 ≤ i ∧ i < 1000000 then some (xs.take i.toNat ++ d :: xs.drop i.toNat, .non) else none
  | .pop0, xs, [] => match xs[xs.length - 1]? with | some d => some (xs.dropLast, d) | none => none
  | .pop, xs, [.int i] => match ixN xs.length i with | some j => (match xs[j]? with | some d => if -(2 ^ 63) ≤ i ∧ i < 2 ^ 63 then some (xs.eraseIdx j, d) else none | none => none) | none => none
  | _, _, _ => none

/-- what is known of the program: calls by number (its arguments; for an __init__ the new instance is what comes), methods, fields -/
structure Cfg where
  call : Nat → List (D × Nat) → List (List D) → R ((D × Nat) × List (List D))
  eqn : Nat → Nat
  meth : Nat → Nat → Nat
  init : Nat → Nat
  fu : Nat
  rp : D → Option Str

section
variable (C : Cfg)

def asInts : List D → Option (List Int) := toInts
def permOf {α : Type} (pm : List Nat) (xs : List α) : Option (List α) := if pm.isEmpty then some xs else pm.mapM fun i => xs[i]?
def rngD (lo hi : Int) (n : Nat) : Option (List D) := if -(2 ^ 62) ≤ lo ∧ lo < 2 ^ 62 ∧ -(2 ^ 62) ≤ hi ∧ hi < 2 ^ 62 ∧ n ≤ lim then some ((List.range n).map fun i => .int (lo + (i : Nat))) else none
def zipD : List D → List D → List D
  | x :: xs, y :: ys => .tup [x, y] :: zipD xs ys
  | _, _ => []
def zip3D : List D → List D → List D → List D
  | x :: xs, y :: ys, z :: zs => .tup [x, y, z] :: zip3D xs ys zs
  | _, _, _ => []
def zip4D : List D → List D → List D → List D → List D
  | x :: xs, y :: ys, z :: zs, w :: ws => .tup [x, y, z, w] :: zip4D xs ys zs ws
  | _, _, _, _ => []
def enumD : Nat → List D → List D
  | _, [] => []
  | n, x :: xs => .tup [.int n, x] :: enumD (n + 1) xs

/-- the turns of a comprehension -/
def loopC (k : Nat) (f : D → Sta → R (Option (D × Nat) × Sta)) : List D → List D → Sta → R (List D × Sta)
  | [], acc, st => .ok (acc, st)
  | x :: xs, acc, st => (f x st).bind fun (r, st) => match r with
    | some (d, k') => if fits k (d, k') ∧ acc.length < lim then loopC k f xs (acc ++ [d]) st else .bad
    | none => loopC k f xs acc st

inductive Fl where | nx | br | ct | rt (d : D) (k : Nat)
def loopF (f : D → Sta → R (Fl × Sta)) : List D → Sta → R (Fl × Sta)
  | [], st => .ok (.nx, st)
  | x :: xs, st => (f x st).bind fun (r, st) => match r with
    | .nx => loopF f xs st
    | .ct => loopF f xs st
    | .br => .ok (.nx, st)
    | .rt d k => .ok (.rt d k, st)
def loopW (c : Sta → R (Bool × Sta)) (f : Sta → R (Fl × Sta)) : Nat → Sta → R (Fl × Sta)
  | 0, _ => .bad
  | n + 1, st => (c st).bind fun (b, st) => if b then (f st).bind fun (r, st) => match r with
      | .nx => loopW c f n st
      | .ct => loopW c f n st
      | .br => .ok (.nx, st)
      | .rt d k => .ok (.rt d k, st)
    else .ok (.nx, st)
end

/-- an operand: a bare slot is read late -/
def opd (a : E) (r : R ((D × Nat) × Sta)) (s : Sta) : R (Od × Sta) := match a with
  | .v i => (s.get i).bind fun _ => .ok (.s i, s)
  | _ => r.bind fun (p, s) => .ok (.t p.1 p.2, s)
/-- an argument: a lent slot, or a value -/
def arg1 (a : E) (r : R ((D × Nat) × Sta)) (s : Sta) : R (Od × Sta) := match a with
  | .ln i => (s.get i).bind fun _ => .ok (.s i, s)
  | _ => r.bind fun (p, s) => .ok (.t p.1 p.2, s)
def bool1 (r : R ((D × Nat) × Sta)) : R (Bool × Sta) := r.bind fun (p, s) => match p.1 with | .bl b => .ok (b, s) | _ => .bad
mutual
def noIns : D → Bool
  | .ins _ _ => false | .dct _ _ => false
  | .tup xs => noInss xs | .lst xs => noInss xs | .fz xs => noInss xs
  | _ => true
def noInss : List D → Bool | [] => true | x :: xs => noIns x && noInss xs
end
def vals : List Od → Sta → R (List (D × Nat))
  | [], _ => .ok []
  | .s i :: os, s => (s.get i).bind fun p => if noIns p.1 then (vals os s).bind fun ps => .ok ((p.1, 0) :: ps) else .bad
  | .t d k :: os, s => (vals os s).bind fun ps => .ok ((d, k) :: ps)
def lent (os : List Od) : Bool := os.any fun | .s _ => true | _ => false
/-- behind a call -/
def after (os : List Od) (s : Sta) (r : R ((D × Nat) × List (List D))) : R ((D × Nat) × Sta) := r.bind fun (r, μ) =>
  if lent os && !flat r.1 then .bad else .ok (r, { s with μ := μ })

/-- a constant, a slot: nothing is changed to have it -/
def flat1 : E → Sta → Option D
  | .c d, _ => some d
  | .v j, s => (match s.σ[j]? with | some (some (d, _)) => some d | _ => none)
  | _, _ => none
mutual
def ev (C : Cfg) : E → Sta → R ((D × Nat) × Sta)
  | .c d, s => .ok ((d, 0), s)
  | .v i, s => (s.get i).bind fun p => .ok ((p.1, 0), s.low i 0)
  | .mv i, s => (s.get i).bind fun p => .ok (p, s.wipe [i])
  | .ln _, _ => .bad
  | .tup es, s => (evs C es s).bind fun (ps, s) => if ps.length ≤ lim then .ok ((.tup (ps.map Prod.fst), 0), s) else .bad
  | .lst k es, s => (evs C es s).bind fun (ps, s) => if ps.length ≤ lim ∧ ps.all (fits k) then .ok ((.lst (ps.map Prod.fst), k + 1), s) else .bad
  | .lstL es, s => (evs C es s).bind fun (ps, s) => if ps.length ≤ lim ∧ ps.all (fun p => flatK p.1) then .ok ((.loc s.μ.length, 0), { s with μ := s.μ ++ [ps.map Prod.fst] }) else .bad
  | .bin op a b, s => (opd a (ev C a s) s).bind fun (p, s) => (opd b (ev C b s) s).bind fun (q, s) => (p.val s).bind fun x => (q.val s).bind fun y =>
      (ofO (binD op x y)).bind fun r => .ok (r, q.share (p.share s))
  | .frz a, s => (ev C a s).bind fun (p, s) => .ok ((p.1, 0), s)
  | .neg a, s => (ev C a s).bind fun (p, s) => (ofO (negD p.1)).bind fun d => .ok ((d, 0), s)
  | .nt a, s => (bool1 (ev C a s)).bind fun (b, s) => .ok ((.bl (!b), 0), s)
  | .an a b, s => (bool1 (ev C a s)).bind fun (x, s) => if x then ev C b s else .ok ((.bl false, 0), s)
  | .or a b, s => (bool1 (ev C a s)).bind fun (x, s) => if x then .ok ((.bl true, 0), s) else ev C b s
  | .ife c a b, s => (bool1 (ev C c s)).bind fun (x, s) => if x then ev C a s else ev C b s
  | .cmp op a b, s => (opd a (ev C a s) s).bind fun (p, s) => (opd b (ev C b s) s).bind fun (q, s) => (p.val s).bind fun x => (q.val s).bind fun y =>
      (ofO (cmpD C.eqn op x y)).bind fun r => .ok ((.bl r, 0), s)
  | .cmp2 op op' a b c, s => (ev C a s).bind fun (p, s) => (ev C b s).bind fun (q, s) => (ofO (cmpD C.eqn op p.1 q.1)).bind fun r =>
      if r then (ev C c s).bind fun (q', s) => (ofO (cmpD C.eqn op' q.1 q'.1)).bind fun r' => .ok ((.bl r', 0), s) else .ok ((.bl false, 0), s)
  | .ix a i, s => (ev C a s).bind fun (p, s) => (ev C i s).bind fun (j, s) => (ofO (toInt j.1)).bind fun j => (ofO (nav p.1 [j])).bind fun d => .ok ((d, 0), s)
  | .pix i es, s => (s.get i).bind fun _ => (evs C es s).bind fun (ps, s) => (ofO (toInts (ps.map Prod.fst))).bind fun is => (s.get i).bind fun p => match p.1, is with
      | .loc j, [n] => (ofO (s.μ[j]?)).bind fun xs => (ofO (atD xs n)).bind fun d => .ok ((d, 0), s)
      | d, is => (ofO (nav d is)).bind fun d => .ok ((d, 0), if flatK d then s else s.shr i)
  | .sl a lo hi, s => (opd a (ev C a s) s).bind fun (p, s) => (prt C lo s).bind fun (l, s) => (prt C hi s).bind fun (h, s) => (p.val s).bind fun x => match x with
      | .lst xs => .ok ((.lst (cutD xs l h), 1), p.share s)
      | .fz xs => .ok ((.lst (cutD xs l h), 1), p.share s)
      | .tup xs => .ok ((.tup (cutD xs l h), 0), p.share s)
      | _ => .bad
  | .rev a, s => (opd a (ev C a s) s).bind fun (p, s) => (p.val s).bind fun x => match x with
      | .lst xs => .ok ((.lst xs.reverse, 1), p.share s)
      | .tup xs => .ok ((.tup xs.reverse, 0), p.share s)
      | _ => .bad
  | .ceq ng c m a b, s => (ev C a s).bind fun (p, s) => (ev C b s).bind fun (q, s) => match p.1, q.1 with
      | .ins c1 fs, .ins c2 gs => if c = c1 ∧ c = c2 then (after [] s (C.call (C.meth c m) [(.ins c1 fs, 0), (.ins c2 gs, 0)] s.μ)).bind fun (r, s) => match r.1 with
        | .bl x => .ok ((.bl (x != ng), 0), s)
        | _ => .bad
        else .bad
      | _, _ => .bad
  | .ceo c m a b, s => (ev C a s).bind fun (p, s) => (ev C b s).bind fun (q, s) => match p.1 with
      | .ins c1 fs => if c = c1 ∧ otherK q.1 = true then (C.call (C.meth c m) [(.ins c1 fs, 0), (.ins c1 fs, 0)] s.μ).bind fun _ => .ok ((.bl false, 0), s) else .bad
      | _ => .bad
  | .sls a st, s => (opd a (ev C a s) s).bind fun (p, s) => (ev C st s).bind fun (q, s) => (p.val s).bind fun x => match x, q.1 with
      | .lst xs, .int k => if 0 < k then .ok ((.lst (stepL xs k), 1), p.share s) else .bad
      | _, _ => .bad
  | .apc i n e, s => (s.get i).bind fun _ => (ev C n s).bind fun (q, s) => (ofO (toInt q.1)).bind fun k => (s.get i).bind fun p => match p with
      | (.lst xs, kk + 2) => (match ixN xs.length k with
        | some j => (match xs[j]? with
          | some (.lst ys) => (match flat1 e s with
            | some d => if flatK d && decide (ys.length < lim) then .ok ((.non, 0), s.put i (.lst (xs.set j (.lst (ys ++ [d]))), kk + 2)) else .bad
            | none => .bad)
          | _ => .bad)
        | none => .bad)
      | _ => .bad
  | .fld a c f, s => (opd a (ev C a s) s).bind fun (p, s) => (p.val s).bind fun x => match x with
      | .ins c' fs => if c = c' then (ofO fs[f]?).bind fun d => .ok ((d, 0), s) else .bad
      | _ => .bad
  | .prop a c m, s => (ev C a s).bind fun (p, s) => match p.1 with
      | .ins c' fs => if c = c' then after [] s (C.call (C.meth c m) [(.ins c' fs, 0)] s.μ) else .bad
      | _ => .bad
  | .call f pm as, s => (args C as s).bind fun (os, s) => (vals os s).bind fun ps => (ofO (permOf pm ps)).bind fun ps => after os s (C.call f ps s.μ)
  | .meth c m a pm as, s => (ev C a s).bind fun (p, s) => match p.1 with
      | .ins c' fs => if c = c' then (args C as s).bind fun (os, s) => (vals os s).bind fun ps => (ofO (permOf pm ps)).bind fun ps =>
          after os s (C.call (C.meth c m) ((.ins c' fs, 0) :: ps) s.μ) else .bad
      | _ => .bad
  | .new c pm as, s => (args C as s).bind fun (os, s) => (vals os s).bind fun ps => (ofO (permOf pm ps)).bind fun ps => after os s (C.call (C.init c) ((.ins c [], 1) :: ps) s.μ)
  | .b1 op a, s => (opd a (ev C a s) s).bind fun (p, s) => (p.val s).bind fun x => (ofO (b1D C.rp op x)).bind fun r => .ok (match op with
      | .list => ((r, match x with | .lst _ => max 1 (p.own s) | _ => 1), p.share s)
      | .tuple => ((r, match x with | .lst _ => p.own s - 1 | _ => 0), p.share s)
      | .sorted => ((r, 1), p.share s)
      | _ => ((r, 0), s))
  | .b2 op a b, s => (ev C a s).bind fun (p, s) => (ev C b s).bind fun (q, s) => (ofO (b2D op p.1 q.1)).bind fun r => .ok (r, s)
  | .isi t a, s => (opd a (ev C a s) s).bind fun (p, s) => (p.val s).bind fun x => (ofO (tyD t x)).bind fun r => .ok ((.bl r, 0), s)
  | .itl tp it, s => (evI C it s).bind fun (xs, s) => if xs.length ≤ lim then .ok (if tp then (.tup xs, 0) else (.lst xs, 1), s) else .bad
  | .comp k own tg it cond elt, s => (evI C it s).bind fun (xs, s) => (loopC k (fun d s => (asT C tg (d, 0) s).bind fun s => (cnd C cond s).bind fun (b, s) =>
      if b then (ev C elt s).bind fun (r, s) => .ok (some r, s.wipe own) else .ok (none, s.wipe own)) xs [] (s.wipe own)).bind fun (ys, s) => .ok ((.lst ys, k + 1), s)
  | .dnew, s => .ok ((.dct [] [], 1), s)
  | .dget a k, s => (opd a (ev C a s) s).bind fun (p, s) => (ev C k s).bind fun (q, s) => (p.val s).bind fun x => match x, q.1 with
      | .dct ks vs, .tup ds => (ofO (toInts ds)).bind fun k => (ofO (getK ks vs k)).bind fun d => .ok ((d, 0), s)
      | _, _ => .bad
  | .dgetd a k, s => (opd a (ev C a s) s).bind fun (p, s) => (p.val s).bind fun y => match y with
      | .dct _ _ => (ev C k s).bind fun (q, s) => (p.val s).bind fun x => match x, q.1 with
        | .dct ks vs, .tup ds => (ofO (toInts ds)).bind fun k => .ok (((getK ks vs k).getD (.lst []), 0), s)
        | _, _ => .bad
      | _ => .bad
  | .mtp m i path as, s => (s.get i).bind fun p => match path, p.1 with
    | .nil, .lst _ => (evs C as s).bind fun (qs, s) => (s.get i).bind fun p => match p with
      | (.lst xs, k + 1) => if okM m k qs then (ofO (mtD m xs (qs.map Prod.fst))).bind fun r => .ok ((r.2, k), s.put i (.lst r.1, k + 1)) else .bad
      | _ => .bad
    | _, _ => .bad
  | .mtt m a as, s => (ev C a s).bind fun (p, s) => match p with
    | (.lst xs, _ + 1) => (evs C as s).bind fun (qs, s) => match m, qs with
      | .app, [_] => if xs.length < lim then .ok ((.non, 0), s) else .bad
      | _, _ => .bad
    | _ => .bad
def evs (C : Cfg) : Es → Sta → R (List (D × Nat) × Sta)
  | .nil, s => .ok ([], s)
  | .cons e es, s => (ev C e s).bind fun (p, s) => (evs C es s).bind fun (ps, s) => .ok (p :: ps, s)
def args (C : Cfg) : Es → Sta → R (List Od × Sta)
  | .nil, s => .ok ([], s)
  | .cons e es, s => (arg1 e (ev C e s) s).bind fun (o, s) => (args C es s).bind fun (os, s) => .ok (o :: os, s)
def prt (C : Cfg) : Es → Sta → R (Option Int × Sta)
  | .nil, s => .ok (none, s)
  | .cons e _, s => (ev C e s).bind fun (p, s) => match p.1 with | .int i => .ok (some i, s) | _ => .bad
def cnd (C : Cfg) : Es → Sta → R (Bool × Sta)
  | .nil, s => .ok (true, s)
  | .cons e _, s => bool1 (ev C e s)
def evI (C : Cfg) : I → Sta → R (List D × Sta)
  | .seq e, s => (ev C e s).bind fun (p, s) => (ofO (seqD p.1)).bind fun xs => .ok (xs, s)
  | .rng1 a, s => (ev C a s).bind fun (p, s) => (ofO (toInt p.1)).bind fun j => (ofO (rngD 0 j j.toNat)).bind fun xs => .ok (xs, s)
  | .rng2 a b, s => (ev C a s).bind fun (p, s) => (ev C b s).bind fun (q, s) => (ofO (toInt p.1)).bind fun i => (ofO (toInt q.1)).bind fun j => (ofO (rngD i j (j - i).toNat)).bind fun xs => .ok (xs, s)
  | .rng3 _ _ _, _ => .bad
  | .enum e, s => (ev C e s).bind fun (p, s) => match p.1 with
    | .lst xs => .ok (enumD 0 xs, s)
    | _ => .bad
  | .zip a b, s => (ev C a s).bind fun (p, s) => (ev C b s).bind fun (q, s) => match p.1, q.1 with
    | .lst xs, .lst ys => .ok (zipD xs ys, s)
    | .tup xs, .tup ys => .ok (zipD xs ys, s)
    | .tup xs, .lst ys => .ok (zipD xs ys, s)
    | .lst xs, .tup ys => .ok (zipD xs ys, s)
    | _, _ => .bad
  | .zip3 _ _ _, _ => .bad
  | .zip4 _ _ _ _, _ => .bad
  | .enumz _ _, _ => .bad
def asT (C : Cfg) : T → D × Nat → Sta → R Sta
  | .sl i, p, s => if i < s.σ.length then .ok (s.put i p) else .bad
  | .tup ts, p, s => match p.1 with
    | .tup ds => asTs C ts (ds.map fun d => (d, p.2)) s
    | .lst ds => asTs C ts (ds.map fun d => (d, p.2 - 1)) s
    | _ => .bad
  | .pix i es, p, s => (s.get i).bind fun _ => (evs C es s).bind fun (ps, s) => (ofO (toInts (ps.map Prod.fst))).bind fun is => (s.get i).bind fun q => match q.1, is with
    | .loc j, [n] => (ofO (s.μ[j]?)).bind fun xs => match ixN xs.length n with
      | some m => if flatK p.1 then .ok { s with μ := s.μ.set j (xs.set m p.1) } else .bad
      | none => .bad
    | .lst xs, [n] => match ixN xs.length n with
      | some m => if q.2 ≠ 0 ∧ fits (q.2 - 1) p then .ok (s.put i (.lst (xs.set m p.1), q.2)) else .bad
      | none => .bad
    | _, _ => .bad
def asTs (C : Cfg) : Ts → List (D × Nat) → Sta → R Sta
  | .nil, [], s => .ok s
  | .cons t ts, p :: ps, s => (asT C t p s).bind fun s => asTs C ts ps s
  | _, _, _ => .bad
end

-- the slots that a target stores
mutual
def tgs : T → List Nat | .sl i => [i] | .tup ts => tgss ts | .pix _ _ => []
def tgss : Ts → List Nat | .nil => [] | .cons t ts => tgs t ++ tgss ts
end
mutual
/-- the slots that a statement stores -/
def stS : S → List Nat
  | .asg t _ => tgs t | .par is _ => is | .aug i _ _ => [i] | .setf _ _ _ => [] | .ex _ => [] | .ret _ => [] | .retN => []
  | .ifs _ a b => stSs a ++ stSs b | .for_ t _ b => tgs t ++ stSs b | .forO _ t b => tgs t ++ stSs b | .whl _ b => stSs b | .pss => [] | .brk => [] | .cnt => [] | .rse => [] | .dput _ _ _ => []
def stSs : Ss → List Nat | .nil => [] | .cons a as => stS a ++ stSs as | .bor b _ as => stSs b ++ stSs as
end
/-- all of it frozen for a while -/
def frz1 (x : Sl) : Sl := x.map fun p => (p.1, 0)
def Sta.froz (s : Sta) : Sta := { s with σ := s.σ.map frz1 }
/-- behind that while: what was stored meanwhile is forgotten -/
def Sta.back (s : Sta) (is : List Nat) (μ : List (List D)) : Sta := ⟨(s.wipe is).σ, μ⟩
mutual
def exec (C : Cfg) : S → Sta → R (Fl × Sta)
  | .asg t e, s => (ev C e s).bind fun (p, s) => (asT C t p s).bind fun s => .ok (.nx, s)
  | .par is es, s => (evs C es s).bind fun (ps, s) => if is.length = ps.length ∧ is.all (fun i => decide (i < s.σ.length)) ∧ is.Nodup then .ok (.nx, (is.zip ps).foldl (fun s q => s.put q.1 q.2) s) else .bad
  | .aug i op e, s => (s.get i).bind fun _ => (ev C e s).bind fun (q, s) => (s.get i).bind fun p => (match p.1, q.1 with
    | .int _, .int _ => ofO (binD op p.1 q.1)
    | _, _ => .bad).bind fun r => .ok (.nx, s.put i r)
  | .setf c f e, s => (ev C e s).bind fun (p, s) => (s.get 0).bind fun q => match q with
    | (.ins c' fs, _ + 1) => if c = c' ∧ f = fs.length ∧ f < 1000 then .ok (.nx, (s.put 0 (.ins c' (fs ++ [p.1]), 1))) else .bad
    | _ => .bad
  | .ex e, s => (ev C e s).bind fun (_, s) => .ok (.nx, s)
  | .ret e, s => (ev C e s).bind fun (p, s) => .ok (.rt p.1 p.2, s)
  | .retN, s => .ok (.rt .non 0, s)
  | .ifs c a b, s => (bool1 (ev C c s)).bind fun (x, s) => if x then execs C a s else execs C b s
  | .for_ t it b, s => (evI C it s).bind fun (xs, s) => loopF (fun d s => (asT C t (d, 0) s).bind fun s => execs C b s) xs s
  | .forO i t b, s => (s.get i).bind fun p => match p with
    | (.lst xs, k + 1) => loopF (fun d s => (asT C t (d, k) s).bind fun s => execs C b s) xs (s.put i (.lst (xs.map fun _ => .junk), 1))
    | _ => .bad
  | .whl c b, s => loopW (fun s => bool1 (ev C c s)) (fun s => execs C b s) C.fu s
  | .pss, s => .ok (.nx, s)
  | .brk, s => .ok (.br, s)
  | .cnt, s => .ok (.ct, s)
  | .rse, _ => .bad
  | .dput i k v, s => (ev C v s).bind fun (p, s) => (s.get i).bind fun _ => (ev C k s).bind fun (q, s) => (s.get i).bind fun r => match r, q.1 with
    | (.dct ks vs, n + 1), .tup ds => (ofO (toInts ds)).bind fun k => if getK ks vs k = none ∧ ks.length < 1000 ∧ ks.length = vs.length then .ok (.nx, s.put i (.dct (ks ++ [k]) (vs ++ [p.1]), n + 1)) else .bad
    | _, _ => .bad
def execs (C : Cfg) : Ss → Sta → R (Fl × Sta)
  | .nil, s => .ok (.nx, s)
  | .cons a as, s => (exec C a s).bind fun (r, s) => match r with
    | .nx => execs C as s
    | .br => .ok (.br, s)
    | .ct => .ok (.ct, s)
    | .rt d k => .ok (.rt d k, s)
  | .bor b _ as, s => (execs C b s.froz).bind fun (r, s1) => match r with
    | .nx => execs C as (s.back (stSs b) s1.μ)
    | .br => .ok (.br, s.back (stSs b) s1.μ)
    | .ct => .ok (.ct, s.back (stSs b) s1.μ)
    | .rt d k => .ok (.rt d k, s1)
end

/-- a def: its parameters, its slots, its body, the depth that its value has; whether it is an __init__ -/
structure Fn where
  par : Nat
  slots : Nat
  body : Ss
  deep : Nat := 0
  ini : Bool := false
structure Pg where
  fns : List Fn
  eqn : Nat → Nat
  meth : Nat → Nat → Nat
  init : Nat → Nat
  rp : D → Option Str
def Pg.cfg (P : Pg) (fu : Nat) (call : Nat → List (D × Nat) → List (List D) → R ((D × Nat) × List (List D))) : Cfg := ⟨call, P.eqn, P.meth, P.init, fu, P.rp⟩
/-- the def's end -/
def endF (f : Fn) : Fl × Sta → R ((D × Nat) × List (List D))
  | (.rt d k, s) => if f.ini then .bad else if f.deep = 0 ∨ f.deep = k then .ok ((d, f.deep), s.μ) else .bad
  | (.nx, s) => if f.ini then (match s.σ[0]? with | some (some (D.ins c fs, _)) => R.ok ((D.ins c fs, 0), s.μ) | _ => R.bad) else .ok ((.non, 0), s.μ)
  | _ => .bad
def run (P : Pg) (fu : Nat) : Nat → Nat → List (D × Nat) → List (List D) → R ((D × Nat) × List (List D))
  | 0, _, _, _ => .bad
  | n + 1, f, ps, μ => match P.fns[f]? with
    | some fn => if ps.length = fn.par ∧ fn.par ≤ fn.slots then
        (execs (P.cfg fu (run P fu n)) fn.body ⟨ps.map some ++ List.replicate (fn.slots - fn.par) none, μ⟩).bind (endF fn) else .bad
    | none => .bad
end MP
end
-- MPRep
section
set_option maxRecDepth 100000
/-! What stands for a data tree in the abstract heap; how it stays. -/
namespace MP
open PySem (Addr)
open L2

/-- the classes: where they stand, what their fields are called -/
structure Wd where
  K : PySem.W.Frag
  cls : Nat → Addr
  flds : Nat → List PySem.Str
  ok : Nat → Bool

/-- a key: ints -/
def keyL (k : List Int) : List Key := k.map Sum.inl
section
variable (W : Wd)
mutual
inductive Rep : List Addr → (Addr → Prop) → Hp → Nat → D → V → List Addr → Prop
  | non {L B H} (k) : Rep L B H k .non .non []
  | bl {L B H} (k) (b : Bool) : Rep L B H k (.bl b) (.bl b) []
  | int {L B H} (k) (i : Int) : Rep L B H k (.int i) (.int i) []
  | str {L B H} (k) (s : PySem.Str) : Rep L B H k (.str s) (.str s) []
  | junk {L B H} (k) (v : V) : Rep L B H k .junk v []
  | loc {L B H} (k) {i : Nat} {a : Addr} : L[i]? = some a → Rep L B H k (.loc i) (.ref a) []
  | tup {L B H} {k ds a vs O} : H a = some (.tup vs) → Reps L B H k ds vs O → Rep L B H k (.tup ds) (.ref a) O
  | lst0 {L B H} {ds a vs} : H a = some (.lst vs) → ¬ B a → Reps L B H 0 ds vs [] → Rep L B H 0 (.lst ds) (.ref a) []
  | fz {L B H} (k) {ds a vs} : (∃ o, H a = some (.frz o (.lst vs))) ∨ (∀ H, SqL W.K H a vs) → Reps L B H 0 ds vs [] → Rep L B H k (.fz ds) (.ref a) []
  | lstS {L B H} {k ds a vs O} : H a = some (.lst vs) → Reps L B H k ds vs O → Rep L B H (k + 1) (.lst ds) (.ref a) (a :: O)
  | ins0 {L B H} {c ds a dx fs vs} : W.ok c = true → H a = some (.ins (W.cls c) dx fs) → ¬ B a → fs = ((W.flds c).take ds.length).zip vs → ds.length ≤ (W.flds c).length → Reps L B H 0 ds vs [] → Rep L B H 0 (.ins c ds) (.ref a) []
  | insS {L B H} {k c ds a dx fs vs} : W.ok c = true → H a = some (.ins (W.cls c) dx fs) → fs = ((W.flds c).take ds.length).zip vs → ds.length ≤ (W.flds c).length → Reps L B H 0 ds vs [] → Rep L B H (k + 1) (.ins c ds) (.ref a) [a]
  | dct0 {L B H} {ks ds a kvs vs} : H a = some (.dT kvs) → ¬ B a → kvs = (ks.map keyL).zip vs → ks.length = ds.length → Reps L B H 0 ds vs [] → Rep L B H 0 (.dct ks ds) (.ref a) []
  | dctS {L B H} {k ks ds a kvs vs} : H a = some (.dT kvs) → kvs = (ks.map keyL).zip vs → ks.length = ds.length → Reps L B H 0 ds vs [] → Rep L B H (k + 1) (.dct ks ds) (.ref a) [a]
inductive Reps : List Addr → (Addr → Prop) → Hp → Nat → List D → List V → List Addr → Prop
  | nil {L B H} (k) : Reps L B H k [] [] []
  | cons {L B H} {k d v ds vs O O'} : Rep L B H k d v O → Reps L B H k ds vs O' → Reps L B H k (d :: ds) (v :: vs) (O ++ O')
end
end

/-- from H to H': but for M all that is tracked stays; tuples and what is locked stay -/
structure Keep (M : Addr → Prop) (H H' : Hp) : Prop where
  any : ∀ b o, H b = some o → ¬ M b → H' b = some o
  tup : ∀ b vs, H b = some (.tup vs) → H' b = some (.tup vs)
  frz : ∀ b o u, H b = some (.frz o u) → H' b = some (.frz o u)
theorem Keep.refl {M H} : Keep M H H := ⟨fun _ _ h _ => h, fun _ _ h => h, fun _ _ _ h => h⟩
theorem Keep.upd {M : Addr → Prop} {H : Hp} {p : Addr} {o : HO} (h : H p = none) : Keep M H (upd H p o) :=
  ⟨fun b o e _ => by rw [upd_ne (ne_of_none e h)]; exact e, fun b o e => by rw [upd_ne (ne_of_none e h)]; exact e, fun b o u e => by rw [upd_ne (ne_of_none e h)]; exact e⟩
theorem Keep.set {M : Addr → Prop} {H : Hp} {p : Addr} {o o' : HO} (m : M p) (h : H p = some o) (h1 : ∀ vs, o ≠ .tup vs) (h2 : ∀ x u, o ≠ .frz x u) : Keep M H (L2.upd H p o') :=
  ⟨fun b u e n => by
      have z : b ≠ p := by intro z; subst z; exact n m
      rw [upd_ne z]; exact e, fun b vs e => by
      by_cases z : b = p
      · subst z; rw [h] at e; exact absurd (Option.some.inj e) (h1 vs)
      · rw [upd_ne z]; exact e, fun b x u e => by
      by_cases z : b = p
      · subst z; rw [h] at e; exact absurd (Option.some.inj e) (h2 x u)
      · rw [upd_ne z]; exact e⟩
theorem Keep.trans {M N P : Addr → Prop} {H H1 H2 : Hp} (a : Keep M H H1) (b : Keep N H1 H2) (h1 : ∀ x, M x → P x) (h2 : ∀ x, N x → P x ∨ H x = none) : Keep P H H2 :=
  ⟨fun x o e n => b.any x o (a.any x o e fun m => n (h1 x m)) fun m => (h2 x m).elim n fun z => (by rw [z] at e; cases e), fun x vs e => b.tup x vs (a.tup x vs e), fun x o u e => b.frz x o u (a.frz x o u e)⟩
theorem Keep.mono {M N : Addr → Prop} {H H1 : Hp} (a : Keep M H H1) (h : ∀ x, M x → N x) : Keep N H H1 :=
  ⟨fun x o e n => a.any x o e fun m => n (h x m), a.tup, a.frz⟩

section
variable {W : Wd}
theorem rd_keep {M : Addr → Prop} {H H' : Hp} {a : Addr} {u : HO} (k : Keep M H H') (r : Rd H a u) (h : ¬ M a ∨ ∃ vs, u = .tup vs) : Rd H' a u := by
  unfold Rd at r ⊢
  rcases r with r | ⟨o, r⟩
  · rcases h with h | ⟨vs, rfl⟩
    · exact .inl (k.any _ _ r h)
    · exact .inl (k.tup _ _ r)
  · exact .inr ⟨o, k.frz _ _ _ r⟩
theorem Rd_some {H : Hp} {a : Addr} {u : HO} (r : Rd H a u) : H a ≠ none := by
  intro z
  unfold Rd at r
  rcases r with r | ⟨o, r⟩ <;> (rw [r] at z; cases z)

mutual
/-- a tree stays while what is its own, and what is frozen, is not touched -/
theorem Rep.keep {L L' : List Addr} {B B' M : Addr → Prop} {H H' : Hp} (kp : Keep M H H') (hM : ∀ a, M a → B a) (hB : ∀ a, H a ≠ none → B' a → B a) (hL : ∀ (i : Nat) (a : Addr), L[i]? = some a → L'[i]? = some a) :
    ∀ {k d v O}, Rep W L B H k d v O → (∀ a ∈ O, ¬ M a) → Rep W L' B' H' k d v O
  | _, _, _, _, .non k, _ => .non k
  | _, _, _, _, .bl k b, _ => .bl k b
  | _, _, _, _, .int k b, _ => .int k b
  | _, _, _, _, .str k b, _ => .str k b
  | _, _, _, _, .junk k b, _ => .junk k b
  | _, _, _, _, .loc k h, _ => .loc k (hL _ _ h)
  | _, _, _, _, .tup h hs, hO => .tup (kp.tup _ _ h) (Reps.keep kp hM hB hL hs hO)
  | _, _, _, _, .lst0 h n hs, hO => .lst0 (kp.any _ _ h fun m => n (hM _ m)) (fun b => n (hB _ (by rw [h]; intro z; cases z) b)) (Reps.keep kp hM hB hL hs hO)
  | _, _, _, _, .fz k h hs, hO => .fz k (h.elim (fun ⟨o, e⟩ => .inl ⟨o, kp.frz _ _ _ e⟩) .inr) (Reps.keep kp hM hB hL hs hO)
  | _, _, _, _, .lstS h hs, hO => .lstS (kp.any _ _ h (hO _ (List.mem_cons_self ..))) (Reps.keep kp hM hB hL hs fun a m => hO a (List.mem_cons_of_mem _ m))
  | _, _, _, _, .ins0 o h n e l hs, hO => .ins0 o (kp.any _ _ h fun m => n (hM _ m)) (fun b => n (hB _ (by rw [h]; intro z; cases z) b)) e l (Reps.keep kp hM hB hL hs hO)
  | _, _, _, _, .insS o h e l hs, hO => .insS o (kp.any _ _ h (hO _ (List.mem_cons_self ..))) e l (Reps.keep kp hM hB hL hs (by simp))
  | _, _, _, _, .dct0 h n e l hs, hO => .dct0 (kp.any _ _ h fun m => n (hM _ m)) (fun b => n (hB _ (by rw [h]; intro z; cases z) b)) e l (Reps.keep kp hM hB hL hs hO)
  | _, _, _, _, .dctS h e l hs, hO => .dctS (kp.any _ _ h (hO _ (List.mem_cons_self ..))) e l (Reps.keep kp hM hB hL hs (by simp))
theorem Reps.keep {L L' : List Addr} {B B' M : Addr → Prop} {H H' : Hp} (kp : Keep M H H') (hM : ∀ a, M a → B a) (hB : ∀ a, H a ≠ none → B' a → B a) (hL : ∀ (i : Nat) (a : Addr), L[i]? = some a → L'[i]? = some a) :
    ∀ {k ds vs O}, Reps W L B H k ds vs O → (∀ a ∈ O, ¬ M a) → Reps W L' B' H' k ds vs O
  | _, _, _, _, .nil k, _ => .nil k
  | _, _, _, _, .cons h hs, hO => .cons (Rep.keep kp hM hB hL h fun a m => hO a (List.mem_append_left _ m)) (Reps.keep kp hM hB hL hs fun a m => hO a (List.mem_append_right _ m))
end
mutual
/-- all of it frozen -/
theorem Rep.frz {L : List Addr} {B B' : Addr → Prop} {H : Hp} (h1 : ∀ a, B' a → B a) : ∀ {k d v O}, Rep W L B H k d v O → (∀ a ∈ O, ¬ B' a) → Rep W L B' H 0 d v []
  | _, _, _, _, .non k, _ => .non 0
  | _, _, _, _, .bl k b, _ => .bl 0 b
  | _, _, _, _, .int k b, _ => .int 0 b
  | _, _, _, _, .str k b, _ => .str 0 b
  | _, _, _, _, .junk k b, _ => .junk 0 b
  | _, _, _, _, .loc k h, _ => .loc 0 h
  | _, _, _, _, .tup h hs, hO => .tup h (Reps.frz h1 hs hO)
  | _, _, _, _, .lst0 h n hs, hO => .lst0 h (fun b => n (h1 _ b)) (Reps.frz h1 hs (by simp))
  | _, _, _, _, .fz k h hs, hO => .fz 0 h (Reps.frz h1 hs (by simp))
  | _, _, _, _, .lstS h hs, hO => .lst0 h (hO _ (List.mem_cons_self ..)) (Reps.frz h1 hs fun a m => hO a (List.mem_cons_of_mem _ m))
  | _, _, _, _, .ins0 o h n e l hs, hO => .ins0 o h (fun b => n (h1 _ b)) e l (Reps.frz h1 hs (by simp))
  | _, _, _, _, .insS o h e l hs, hO => .ins0 o h (hO _ (List.mem_cons_self ..)) e l (Reps.frz h1 hs (by simp))
  | _, _, _, _, .dct0 h n e l hs, hO => .dct0 h (fun b => n (h1 _ b)) e l (Reps.frz h1 hs (by simp))
  | _, _, _, _, .dctS h e l hs, hO => .dct0 h (hO _ (List.mem_cons_self ..)) e l (Reps.frz h1 hs (by simp))
theorem Reps.frz {L : List Addr} {B B' : Addr → Prop} {H : Hp} (h1 : ∀ a, B' a → B a) : ∀ {k ds vs O}, Reps W L B H k ds vs O → (∀ a ∈ O, ¬ B' a) → Reps W L B' H 0 ds vs []
  | _, _, _, _, .nil k, _ => .nil 0
  | _, _, _, _, .cons h hs, hO => .cons (Rep.frz h1 h fun a m => hO a (List.mem_append_left _ m)) (Reps.frz h1 hs fun a m => hO a (List.mem_append_right _ m))
end
/-- what is flat is so at each depth -/
theorem Rep.flatK {L L' : List Addr} {B B' : Addr → Prop} {H H' : Hp} {k k' : Nat} {d : D} {v : V} {O : List Addr} (h : Rep W L B H k d v O) (f : MP.flatK d = true) : Rep W L' B' H' k' d v [] ∧ O = [] := by
  cases h <;> simp [MP.flatK] at f <;> exact ⟨by constructor, rfl⟩
mutual
/-- what is its own stands -/
theorem Rep.there {L : List Addr} {B : Addr → Prop} {H : Hp} : ∀ {k d v O}, Rep W L B H k d v O → ∀ a ∈ O, H a ≠ none ∧ ∀ vs, H a ≠ some (.tup vs)
  | _, _, _, _, .non k, a, m => by cases m
  | _, _, _, _, .bl k b, a, m => by cases m
  | _, _, _, _, .int k b, a, m => by cases m
  | _, _, _, _, .str k b, a, m => by cases m
  | _, _, _, _, .junk k b, a, m => by cases m
  | _, _, _, _, .loc k h, a, m => by cases m
  | _, _, _, _, .lst0 h n hs, a, m => by cases m
  | _, _, _, _, .fz k h hs, a, m => by cases m
  | _, _, _, _, .ins0 o h n e l hs, a, m => by cases m
  | _, _, _, _, .dct0 h n e l hs, a, m => by cases m
  | _, _, _, _, .tup h hs, a, m => Reps.there hs a m
  | _, _, _, _, .lstS h hs, a, m => by
    rcases List.mem_cons.mp m with e | m
    · subst e; rw [h]; exact ⟨by simp, by simp⟩
    · exact Reps.there hs a m
  | _, _, _, _, .insS o h e l hs, a, m => by
    rcases List.mem_cons.mp m with e | m
    · subst e; rw [h]; exact ⟨by simp, by simp⟩
    · cases m
  | _, _, _, _, .dctS h e l hs, a, m => by
    rcases List.mem_cons.mp m with e | m
    · subst e; rw [h]; exact ⟨by simp, by simp⟩
    · cases m
theorem Reps.there {L : List Addr} {B : Addr → Prop} {H : Hp} : ∀ {k ds vs O}, Reps W L B H k ds vs O → ∀ a ∈ O, H a ≠ none ∧ ∀ vs, H a ≠ some (.tup vs)
  | _, _, _, _, .nil k, a, m => by cases m
  | _, _, _, _, .cons h hs, a, m => by
    rcases List.mem_append.mp m with m | m
    · exact Rep.there h a m
    · exact Reps.there hs a m
end
mutual
theorem Rep.own0 {L : List Addr} {B : Addr → Prop} {H : Hp} : ∀ {k d v O}, Rep W L B H k d v O → k = 0 → O = []
  | _, _, _, _, .non k, _ => rfl
  | _, _, _, _, .bl k b, _ => rfl
  | _, _, _, _, .int k b, _ => rfl
  | _, _, _, _, .str k b, _ => rfl
  | _, _, _, _, .junk k b, _ => rfl
  | _, _, _, _, .loc k h, _ => rfl
  | _, _, _, _, .lst0 h n hs, _ => rfl
  | _, _, _, _, .fz k h hs, _ => rfl
  | _, _, _, _, .ins0 o h n e l hs, _ => rfl
  | _, _, _, _, .tup h hs, e => Reps.own0 hs e
  | _, _, _, _, .lstS h hs, e => by cases e
  | _, _, _, _, .insS o h e l hs, e' => by cases e'
  | _, _, _, _, .dct0 h n e l hs, _ => rfl
  | _, _, _, _, .dctS h e l hs, e' => by cases e'
theorem Reps.own0 {L : List Addr} {B : Addr → Prop} {H : Hp} : ∀ {k ds vs O}, Reps W L B H k ds vs O → k = 0 → O = []
  | _, _, _, _, .nil k, _ => rfl
  | _, _, _, _, .cons h hs, e => by rw [Rep.own0 h e, Reps.own0 hs e]; rfl
end
theorem Reps.length {L : List Addr} {B : Addr → Prop} {H : Hp} : ∀ {k ds vs O}, Reps W L B H k ds vs O → ds.length = vs.length
  | _, _, _, _, .nil k => rfl
  | _, _, _, _, .cons h hs => by simp [Reps.length hs]
/-- the views: nothing of it is its own, nothing forbidden -/
abbrev no : Addr → Prop := fun _ => False
theorem Rep.view {L : List Addr} {B : Addr → Prop} {H : Hp} {k d v O} (h : Rep W L B H k d v O) : Rep W L no H 0 d v [] := h.frz (fun _ f => f.elim) fun _ _ f => f
theorem Reps.view {L : List Addr} {B : Addr → Prop} {H : Hp} {k ds vs O} (h : Reps W L B H k ds vs O) : Reps W L no H 0 ds vs [] := h.frz (fun _ f => f.elim) fun _ _ f => f

theorem Rep.lst_inv {L : List Addr} {B : Addr → Prop} {H : Hp} {k ds v O} (h : Rep W L B H k (.lst ds) v O) :
    (k = 0 ∧ O = [] ∧ ∃ a vs, v = .ref a ∧ H a = some (.lst vs) ∧ Reps W L B H 0 ds vs []) ∨ ∃ k' a vs O', k = k' + 1 ∧ O = a :: O' ∧ v = .ref a ∧ H a = some (.lst vs) ∧ Reps W L B H k' ds vs O' := by
  cases h with
  | lst0 h n hs => exact .inl ⟨rfl, rfl, _, _, rfl, h, hs⟩
  | lstS h hs => exact .inr ⟨_, _, _, _, rfl, rfl, rfl, h, hs⟩
theorem Rep.ins_inv {L : List Addr} {B : Addr → Prop} {H : Hp} {k c ds v O} (h : Rep W L B H k (.ins c ds) v O) :
    W.ok c = true ∧ ∃ a dx fs vs, v = .ref a ∧ H a = some (.ins (W.cls c) dx fs) ∧ fs = ((W.flds c).take ds.length).zip vs ∧ ds.length ≤ (W.flds c).length ∧ Reps W L B H 0 ds vs [] ∧ ((k = 0 ∧ O = [] ∧ ¬ B a) ∨ ((∃ k', k = k' + 1) ∧ O = [a])) := by
  cases h with
  | ins0 o h n e l hs => exact ⟨o, _, _, _, _, rfl, h, e, l, hs, .inl ⟨rfl, rfl, n⟩⟩
  | insS o h e l hs => exact ⟨o, _, _, _, _, rfl, h, e, l, hs, .inr ⟨⟨_, rfl⟩, rfl⟩⟩
theorem Rep.fz_inv {L : List Addr} {B : Addr → Prop} {H : Hp} {k ds v O} (h : Rep W L B H k (.fz ds) v O) : ∃ a vs, v = .ref a ∧ SqL W.K H a vs ∧ Reps W L B H 0 ds vs [] := by
  cases h with
  | fz k h hs =>
    refine ⟨_, _, rfl, ?_, hs⟩
    rcases h with ⟨o, e⟩ | h
    · exact .inl (.inr ⟨o, e⟩)
    · exact h H
theorem Rep.tup_inv {L : List Addr} {B : Addr → Prop} {H : Hp} {k ds v O} (h : Rep W L B H k (.tup ds) v O) : ∃ a vs, v = .ref a ∧ H a = some (.tup vs) ∧ Reps W L B H k ds vs O := by
  cases h with
  | tup h hs => exact ⟨_, _, rfl, h, hs⟩

/-! ### slots, the store -/
inductive RepS (W : Wd) (L : List Addr) (B : Addr → Prop) (H : Hp) : List Sl → St → List Addr → Prop
  | nil : RepS W L B H [] [] []
  | emp {σ τ O} (x : Option V) : RepS W L B H σ τ O → RepS W L B H (none :: σ) (x :: τ) O
  | val {k d v σ τ O O'} : Rep W L B H k d v O → RepS W L B H σ τ O' → RepS W L B H (some (d, k) :: σ) (some v :: τ) (O ++ O')
theorem RepS.keep {L L' : List Addr} {B B' M : Addr → Prop} {H H' : Hp} (kp : Keep M H H') (hM : ∀ a, M a → B a) (hB : ∀ a, H a ≠ none → B' a → B a) (hL : ∀ (i : Nat) (a : Addr), L[i]? = some a → L'[i]? = some a) :
    ∀ {σ τ O}, RepS W L B H σ τ O → (∀ a ∈ O, ¬ M a) → RepS W L' B' H' σ τ O
  | _, _, _, .nil, _ => .nil
  | _, _, _, .emp x h, hO => .emp x (RepS.keep kp hM hB hL h hO)
  | _, _, _, .val h hs, hO => .val (h.keep kp hM hB hL fun a m => hO a (List.mem_append_left _ m)) (RepS.keep kp hM hB hL hs fun a m => hO a (List.mem_append_right _ m))
theorem RepS.there {L : List Addr} {B : Addr → Prop} {H : Hp} : ∀ {σ τ O}, RepS W L B H σ τ O → ∀ a ∈ O, H a ≠ none ∧ ∀ vs, H a ≠ some (.tup vs)
  | _, _, _, .nil, a, m => by cases m
  | _, _, _, .emp x h, a, m => RepS.there h a m
  | _, _, _, .val h hs, a, m => by
    rcases List.mem_append.mp m with m | m
    · exact h.there a m
    · exact RepS.there hs a m
theorem RepS.length {L : List Addr} {B : Addr → Prop} {H : Hp} : ∀ {σ τ O}, RepS W L B H σ τ O → σ.length = τ.length
  | _, _, _, .nil => rfl
  | _, _, _, .emp x h => by simp [RepS.length h]
  | _, _, _, .val h hs => by simp [RepS.length hs]
theorem RepS.mono {L : List Addr} {B B' : Addr → Prop} {H : Hp} {σ τ O} (r : RepS W L B H σ τ O) (h : ∀ a, H a ≠ none → B' a → B a) : RepS W L B' H σ τ O :=
  r.keep .refl (M := fun _ => False) (fun _ f => f.elim) h (fun _ _ e => e) fun _ _ f => f
theorem Rep.mono {L : List Addr} {B B' : Addr → Prop} {H : Hp} {k d v O} (r : Rep W L B H k d v O) (h : ∀ a, H a ≠ none → B' a → B a) : Rep W L B' H k d v O :=
  r.keep .refl (M := fun _ => False) (fun _ f => f.elim) h (fun _ _ e => e) fun _ _ f => f
theorem Reps.mono {L : List Addr} {B B' : Addr → Prop} {H : Hp} {k d v O} (r : Reps W L B H k d v O) (h : ∀ a, H a ≠ none → B' a → B a) : Reps W L B' H k d v O :=
  r.keep .refl (M := fun _ => False) (fun _ f => f.elim) h (fun _ _ e => e) fun _ _ f => f
/-- a slot, and what comes when another thing of the same object is put in its place -/
theorem RepS.at {L : List Addr} {B : Addr → Prop} {H : Hp} : ∀ {σ τ O} {i : Nat} {d : D} {k : Nat}, RepS W L B H σ τ O → σ[i]? = some (some (d, k)) →
    ∃ v O1 O2, τ[i]? = some (some v) ∧ Rep W L B H k d v O1 ∧ O.Perm (O1 ++ O2) ∧
      (∀ {B' : Addr → Prop} {d' k' O1'}, (∀ a, H a ≠ none → B' a → B a) → Rep W L B' H k' d' v O1' → ∃ O', RepS W L B' H (σ.set i (some (d', k'))) τ O' ∧ O'.Perm (O1' ++ O2)) ∧ RepS W L B H (σ.set i none) τ O2
  | _, _, _, i, _, _, .nil, e => by simp at e
  | _, _, _, 0, _, _, .emp x h, e => by simp at e
  | _, _, _, i + 1, d, k, .emp x h, e => by
    obtain ⟨v, O1, O2, h1, h2, h3, h4, h5⟩ := RepS.at (i := i) (d := d) (k := k) h (by simpa using e)
    exact ⟨v, O1, O2, by simpa using h1, h2, h3, fun m r => by
      obtain ⟨O', a, b⟩ := h4 m r
      exact ⟨O', .emp x a, b⟩, .emp x h5⟩
  | _, _, _, 0, _, _, @RepS.val _ _ _ _ k d v σ τ O O' h hs, e => by
    simp at e
    obtain ⟨rfl, rfl⟩ := e
    exact ⟨v, O, O', by simp, h, .refl _, fun m r => ⟨_, .val r (hs.mono m), .refl _⟩, .emp _ hs⟩
  | _, _, _, i + 1, d', k', @RepS.val _ _ _ _ k d v σ τ O O' h hs, e => by
    obtain ⟨w, O1, O2, h1, h2, h3, h4, h5⟩ := RepS.at (i := i) (d := d') (k := k') hs (by simpa using e)
    refine ⟨w, O1, O ++ O2, by simpa using h1, h2, ?_, fun m r => ?_, .val h h5⟩
    · exact (h3.append_left O).trans (by rw [← List.append_assoc, ← List.append_assoc]; exact (List.perm_append_comm).append_right O2)
    · obtain ⟨O'', a, b⟩ := h4 m r
      exact ⟨_, .val (h.mono m) a, (b.append_left O).trans (by rw [← List.append_assoc, ← List.append_assoc]; exact (List.perm_append_comm).append_right O2)⟩
/-- a slot is stored anew -/
theorem RepS.store {L : List Addr} {B : Addr → Prop} {H : Hp} {d : D} {k : Nat} {v : V} {Ov : List Addr} (r : Rep W L B H k d v Ov) : ∀ {σ τ O} {i : Nat}, RepS W L B H σ τ O → i < σ.length →
    ∃ O1 O2, O.Perm (O1 ++ O2) ∧ ∃ O', RepS W L B H (σ.set i (some (d, k))) (τ.set i (some v)) O' ∧ O'.Perm (Ov ++ O2)
  | _, _, _, i, .nil, h => by simp at h
  | _, _, _, 0, .emp x h, _ => ⟨[], _, .refl _, _, .val r h, .refl _⟩
  | _, _, _, i + 1, .emp x h, hi => by
    obtain ⟨O1, O2, a, O', b, c⟩ := RepS.store r (i := i) h (by simpa using hi)
    exact ⟨O1, O2, a, O', .emp x b, c⟩
  | _, _, _, 0, @RepS.val _ _ _ _ k d v σ τ O O' h hs, _ => ⟨O, O', .refl _, _, .val r hs, .refl _⟩
  | _, _, _, i + 1, @RepS.val _ _ _ _ k d v σ τ O O' h hs, hi => by
    obtain ⟨O1, O2, a, O'', b, c⟩ := RepS.store r (i := i) hs (by simpa using hi)
    refine ⟨O1, O ++ O2, (a.append_left O).trans ?_, _, .val h b, (c.append_left O).trans ?_⟩ <;>
      (rw [← List.append_assoc, ← List.append_assoc]; exact (List.perm_append_comm).append_right O2)
theorem RepS.wipe1 {L : List Addr} {B : Addr → Prop} {H : Hp} : ∀ {σ τ O} {i : Nat}, RepS W L B H σ τ O → ∃ O', O'.Sublist O ∧ RepS W L B H (σ.set i none) τ O'
  | _, _, _, i, .nil => ⟨[], .slnil, by simpa using RepS.nil⟩
  | _, _, _, 0, .emp x h => ⟨_, .refl _, .emp x h⟩
  | _, _, _, i + 1, .emp x h => by
    obtain ⟨O', a, b⟩ := RepS.wipe1 (i := i) h
    exact ⟨O', a, .emp x b⟩
  | _, _, _, 0, .val h hs => ⟨_, List.sublist_append_right _ _, .emp _ hs⟩
  | _, _, _, i + 1, @RepS.val _ _ _ _ k d v σ τ O O' h hs => by
    obtain ⟨O'', a, b⟩ := RepS.wipe1 (i := i) hs
    exact ⟨O ++ O'', (List.Sublist.refl O).append a, .val h b⟩
/-- the store: lists of flat things -/
structure RepM (W : Wd) (L : List Addr) (H : Hp) (μ : List (List D)) : Prop where
  len : L.length = μ.length
  at_ : ∀ (j : Nat) (xs : List D), μ[j]? = some xs → ∃ a vs, L[j]? = some a ∧ H a = some (.lst vs) ∧ Reps W [] no H 0 xs vs [] ∧ ∀ x ∈ xs, MP.flatK x = true
end
end MP
end
-- MPSt
section
set_option maxRecDepth 100000
/-! States that stand for slots and store; steps from state to state. -/
namespace MP
open PySem (Addr)
open L2
section
variable {W : Wd}
/-- what may not be seen as frozen -/
def BB (F : Addr → Prop) (L O : List Addr) : Addr → Prop := fun a => F a ∨ a ∈ L ∨ a ∈ O
/-- a state; F: what others own -/
structure Gd (W : Wd) (L : List Addr) (F : Addr → Prop) (H : Hp) (s : Sta) (τ : St) (O : List Addr) : Prop where
  sl : RepS W L (BB F L O) H s.σ τ O
  mu : RepM W L H s.μ
  nd : (L ++ O).Nodup
  ap : ∀ a, F a → a ∉ L ∧ a ∉ O
  ft : ∀ a, F a → H a ≠ none
/-- a step; Ov: what comes beside the slots -/
structure Stp (L : List Addr) (H : Hp) (O : List Addr) (L' : List Addr) (H' : Hp) (O' Ov : List Addr) : Prop where
  pre : L <+: L'
  newL : ∀ a ∈ L', a ∈ L ∨ H a = none
  newO : ∀ a, a ∈ O' ∨ a ∈ Ov → a ∈ O ∨ H a = none
  kp : Keep (fun a => a ∈ L ∨ a ∈ O) H H'
  st : ∀ a, H a ≠ none → H' a ≠ none
def FU (F : Addr → Prop) (Ov : List Addr) : Addr → Prop := fun a => F a ∨ a ∈ Ov

theorem Stp.refl {L H O} : Stp L H O L H O [] := ⟨List.prefix_refl _, fun _ h => .inl h, fun _ h => .inl (by simpa using h), .refl, fun _ h => h⟩
theorem pre_get {L L' : List Addr} (h : L <+: L') (i : Nat) (a : Addr) (e : L[i]? = some a) : L'[i]? = some a := by
  obtain ⟨t, rfl⟩ := h
  have hi : i < L.length := by
    rcases Nat.lt_or_ge i L.length with q | q
    · exact q
    · rw [List.getElem?_eq_none q] at e; cases e
  rw [List.getElem?_append_left hi]; exact e
theorem Stp.trans {L H O L1 H1 O1 P1 L2 H2 O2 P2 : _} (a : Stp L H O L1 H1 O1 P1) (b : Stp L1 H1 O1 L2 H2 O2 P2) {P : List Addr} (hP : ∀ x ∈ P, x ∈ P1 ∨ x ∈ P2) : Stp L H O L2 H2 O2 P where
  pre := a.pre.trans b.pre
  newL := fun x h => (b.newL x h).elim (a.newL x) fun z => .inr (Classical.byContradiction fun q => a.st x q z)
  newO := fun x h => by
    have old : ∀ x, x ∈ O2 ∨ x ∈ P2 → x ∈ O ∨ H x = none := fun x h =>
      (b.newO x h).elim (fun m => a.newO x (.inl m)) fun z => .inr (Classical.byContradiction fun q => a.st x q z)
    rcases h with h | h
    · exact old x (.inl h)
    · rcases hP x h with h | h
      · exact a.newO x (.inr h)
      · exact old x (.inr h)
  kp := a.kp.trans b.kp (fun _ h => h) fun x h => h.elim (fun m => (a.newL x m).elim (fun z => .inl (.inl z)) .inr) fun m => (a.newO x (.inl m)).elim (fun z => .inl (.inr z)) .inr
  st := fun x h => b.st x (a.st x h)
/-- fewer owned -/
theorem Stp.less {L H O L1 H1 O1 P1 O2 P2} (a : Stp L H O L1 H1 O1 P1) (h : ∀ x, x ∈ O2 ∨ x ∈ P2 → x ∈ O1 ∨ x ∈ P1) : Stp L H O L1 H1 O2 P2 := { a with newO := fun x m => a.newO x (h x m) }
theorem Gd.weak {L F F' H s τ O} (g : Gd W L F H s τ O) (h : ∀ a, F' a → F a) : Gd W L F' H s τ O where
  sl := g.sl.keep .refl (M := fun _ => False) (fun _ f => f.elim) (fun a _ b => b.elim (fun z => .inl (h a z)) .inr) (fun _ _ e => e) fun _ _ f => f
  mu := g.mu
  nd := g.nd
  ap := fun a z => g.ap a (h a z)
  ft := fun a z => g.ft a (h a z)
/-- a temporary value lives on through a step -/
theorem Rep.step {L F H O L' H' O' Ov k d v P} {s : Sta} {τ : St} (g : Gd W L F H s τ O) (st : Stp L H O L' H' O' Ov) (r : Rep W L (BB F L O) H k d v P) (hP : ∀ a ∈ P, F a) : Rep W L' (BB (FU F Ov) L' O') H' k d v P :=
  r.keep st.kp (fun a m => .inr m) (fun a n b => by
    rcases b with (b | b) | b | b
    · exact .inl b
    · rcases st.newO a (.inr b) with z | z
      · exact .inr (.inr z)
      · exact absurd z n
    · rcases st.newL a b with z | z
      · exact .inr (.inl z)
      · exact absurd z n
    · rcases st.newO a (.inl b) with z | z
      · exact .inr (.inr z)
      · exact absurd z n) (pre_get st.pre) fun a m q => q.elim (g.ap a (hP a m)).1 (g.ap a (hP a m)).2
theorem Reps.step {L F H O L' H' O' Ov k d v P} {s : Sta} {τ : St} (g : Gd W L F H s τ O) (st : Stp L H O L' H' O' Ov) (r : Reps W L (BB F L O) H k d v P) (hP : ∀ a ∈ P, F a) : Reps W L' (BB (FU F Ov) L' O') H' k d v P :=
  r.keep st.kp (fun a m => .inr m) (fun a n b => by
    rcases b with (b | b) | b | b
    · exact .inl b
    · rcases st.newO a (.inr b) with z | z
      · exact .inr (.inr z)
      · exact absurd z n
    · rcases st.newL a b with z | z
      · exact .inr (.inl z)
      · exact absurd z n
    · rcases st.newO a (.inl b) with z | z
      · exact .inr (.inr z)
      · exact absurd z n) (pre_get st.pre) fun a m q => q.elim (g.ap a (hP a m)).1 (g.ap a (hP a m)).2

/-- what is there behind a value's coming -/
structure PE' (W : Wd) (F : Addr → Prop) (L : List Addr) (H : Hp) (O : List Addr) (τ : St) (p : D × Nat) (s' : Sta) (v : V) (L' : List Addr) (H' : Hp) (O' Ov : List Addr) : Prop where
  st : Stp L H O L' H' O' Ov
  g : Gd W L' (FU F Ov) H' s' τ O'
  r : Rep W L' (BB (FU F Ov) L' O') H' p.2 p.1 v Ov
  nd : Ov.Nodup
  ap : ∀ a ∈ Ov, ¬ F a
def PostE (W : Wd) (F : Addr → Prop) (L : List Addr) (H : Hp) (O : List Addr) (τ : St) (r : (D × Nat) × Sta) (v : V) (H' : Hp) : Prop :=
  ∃ L' O' Ov, PE' W F L H O τ r.1 r.2 v L' H' O' Ov
structure PN' (W : Wd) (F : Addr → Prop) (L : List Addr) (H : Hp) (O : List Addr) (τ : St) (s' : Sta) (L' : List Addr) (H' : Hp) (O' : List Addr) : Prop where
  st : Stp L H O L' H' O' []
  g : Gd W L' F H' s' τ O'
def PostN (W : Wd) (F : Addr → Prop) (L : List Addr) (H : Hp) (O : List Addr) (τ : St) (s' : Sta) (H' : Hp) : Prop := ∃ L' O', PN' W F L H O τ s' L' H' O'

/-- a value that owns nothing new -/
theorem PE'.flat {F L H O τ s' L' H' O' v k d} (st : Stp L H O L' H' O' []) (g : Gd W L' F H' s' τ O') (r : Rep W L' (BB F L' O') H' k d v []) : PE' W F L H O τ (d, k) s' v L' H' O' [] where
  st := st
  g := g.weak fun a h => h.elim id (by simp)
  r := r.keep .refl (M := fun _ => False) (fun _ f => f.elim) (fun a _ b => by
    rcases b with (b | b) | b
    · exact .inl b
    · cases b
    · exact .inr b) (fun _ _ e => e) fun _ _ f => f
  nd := .nil
  ap := by simp
/-- a temporary is dropped -/
theorem PE'.drop {F L H O τ s' L' H' O' Ov v p} (e : PE' W F L H O τ p s' v L' H' O' Ov) : PN' W F L H O τ s' L' H' O' :=
  ⟨e.st.less fun x h => h.elim .inl (by simp), e.g.weak fun a h => .inl h⟩
theorem PN'.trans {F L H O τ s' L' H' O' s2 L2 H2 O2} (a : PN' W F L H O τ s' L' H' O') (b : PN' W F L' H' O' τ s2 L2 H2 O2) : PN' W F L H O τ s2 L2 H2 O2 :=
  ⟨a.st.trans b.st (by simp), b.g⟩
theorem PN'.refl {F L H O τ s'} (g : Gd W L F H s' τ O) : PN' W F L H O τ s' L H O := ⟨.refl, g⟩
theorem PE'.after {F L H O τ s' L' H' O' p s2 v L2 H2 O2 Ov} (a : PN' W F L H O τ s' L' H' O') (b : PE' W F L' H' O' τ p s2 v L2 H2 O2 Ov) : PE' W F L H O τ p s2 v L2 H2 O2 Ov :=
  { b with st := a.st.trans b.st (by simp) }
theorem BB_fu {F : Addr → Prop} {L O Ov : List Addr} {a : Addr} (h : BB F L O a) : BB (FU F Ov) L O a := h.elim (fun z => .inl (.inl z)) .inr
end
end MP
end
-- MPSn1
section
set_option maxRecDepth 100000
set_option maxHeartbeats 1000000
/-! The readings of expressions by the interpreter. -/
namespace MP
open PySem (Addr Expr Stmt Str Pos)
open PySem.Spec
open L2
open PyProof.Rows hiding St
theorem bind_ok {α β : Type} {x : R α} {f : α → R β} {r : β} (h : x.bind f = .ok r) : ∃ a, x = .ok a ∧ f a = .ok r := by
  cases x with
  | ok a => exact ⟨a, rfl, h⟩
  | exc => cases h
  | bad => cases h
theorem ofO_ok {α : Type} {x : Option α} {a : α} (h : ofO x = .ok a) : x = some a := by
  cases x with
  | none => cases h
  | some b => cases h; rfl
theorem get_ok {s : Sta} {i : Nat} {p : D × Nat} (h : s.get i = .ok p) : s.σ[i]? = some (some p) := by
  unfold Sta.get at h
  split at h
  · rename_i q e; cases h; exact e
  · cases h
section
variable (W : Wd) (C : Cfg)
def tE (e : E) : TE := fun τ H Q => ∃ F L s O, Gd W L F H s τ O ∧ ∃ r, ev C e s = .ok r ∧ ∀ v H', PostE W F L H O τ r v H' → Q v H'
def tBo (e : E) : TT := fun τ H Q => ∃ F L s O, Gd W L F H s τ O ∧ ∃ b s', bool1 (ev C e s) = .ok (b, s') ∧ ∀ H', PostN W F L H O τ s' H' → Q b H'
/-- an operand: a slot's value, or a temporary -/
def PostO (F : Addr → Prop) (L : List Addr) (H : Hp) (O : List Addr) (τ : St) (o : Od) (s' : Sta) (v : V) (H' : Hp) : Prop :=
  match o with
  | .s i => τ[i]? = some (some v) ∧ PostN W F L H O τ s' H'
  | .t d k => PostE W F L H O τ ((d, k), s') v H'
def tO (e : E) : TE := fun τ H Q => ∃ F L s O, Gd W L F H s τ O ∧ ∃ o s', opd e (ev C e s) s = .ok (o, s') ∧ ∀ v H', PostO W F L H O τ o s' v H' → Q v H'
end
section
variable {W : Wd} {C : Cfg} {X : Cx}
theorem PE.imp {e : Expr} {t t' : TE} (h : PE X e t) (i : ∀ τ H Q, t' τ H Q → t τ H Q) : PE X e t' := ⟨fun p s σ H Q I q => h.run p s σ H Q I (i σ H Q q)⟩
theorem PT.imp {e : Expr} {t t' : TT} (h : PT X e t) (i : ∀ τ H Q, t' τ H Q → t τ H Q) : PT X e t' := ⟨fun p s σ H Q I q => h.run p s σ H Q I (i σ H Q q)⟩
theorem PS.imp {e : Stmt} {t t' : TS} (h : PS X e t) (i : ∀ D τ H, t' D τ H → t D τ H) : PS X e t' := ⟨fun p s σ H D I q => h.run p s σ H D I (i D σ H q)⟩
theorem PSs.imp {e : List Stmt} {t t' : TS} (h : PSs X e t) (i : ∀ D τ H, t' D τ H → t D τ H) : PSs X e t' := ⟨fun p s σ H D I q => h.run p s σ H D I (i D σ H q)⟩

/-! ### names, constants -/
theorem Gd.slot {L : List Addr} {F : Addr → Prop} {H : Hp} {s : Sta} {τ : L2.St} {O : List Addr} {i : Nat} {d : D} {k : Nat} (g : Gd W L F H s τ O) (h : s.σ[i]? = some (some (d, k))) :
    ∃ v O1 O2, τ[i]? = some (some v) ∧ Rep W L (BB F L O) H k d v O1 ∧ O.Perm (O1 ++ O2) ∧
      (∀ {B' : Addr → Prop} {d' k' O1'}, (∀ a, H a ≠ none → B' a → BB F L O a) → Rep W L B' H k' d' v O1' → ∃ O', RepS W L B' H (s.σ.set i (some (d', k'))) τ O' ∧ O'.Perm (O1' ++ O2)) ∧ RepS W L (BB F L O) H (s.σ.set i none) τ O2 := g.sl.at h
theorem Gd.ndO {L F H s τ O} (g : Gd W L F H s τ O) : O.Nodup := (List.nodup_append.mp g.nd).2.1
theorem Gd.ndL {L F H s τ O} (g : Gd W L F H s τ O) : L.Nodup := (List.nodup_append.mp g.nd).1
theorem Gd.LO {L F H s τ O} (g : Gd W L F H s τ O) : ∀ a ∈ L, a ∉ O := fun a ha hb => (List.nodup_append.mp g.nd).2.2 a ha a hb rfl
theorem Stp.sub {L H O O' P : _} (h : ∀ x, x ∈ O' ∨ x ∈ P → x ∈ O) : Stp L H O L H O' P := ⟨List.prefix_refl _, fun _ h => .inl h, fun x m => .inl (h x m), .refl, fun _ h => h⟩
/-- a slot whose thing is seen otherwise: P' of its own is left -/
theorem Gd.reput {L F H s τ O i d k} (g : Gd W L F H s τ O) (h : s.σ[i]? = some (some (d, k))) :
    ∃ v P R, τ[i]? = some (some v) ∧ Rep W L (BB F L O) H k d v P ∧ O.Perm (P ++ R) ∧
      ∀ {d' k' P'}, (∀ a ∈ P', a ∈ P) → P'.Nodup → Rep W L (BB F L (P' ++ R)) H k' d' v P' → ∃ O', Gd W L F H { s with σ := s.σ.set i (some (d', k')) } τ O' ∧ O'.Perm (P' ++ R) := by
  obtain ⟨v, P, R, h1, h2, h3, h4, h5⟩ := g.slot h
  refine ⟨v, P, R, h1, h2, h3, fun sub nd r => ?_⟩
  have nO : (P ++ R).Nodup := h3.nodup_iff.mp g.ndO
  have dj := List.nodup_append.mp nO
  have sub' : ∀ a ∈ _ ++ R, a ∈ O := fun a m => h3.mem_iff.mpr ((List.mem_append.mp m).elim (fun m => List.mem_append_left _ (sub a m)) fun m => List.mem_append_right _ m)
  obtain ⟨O', hs, hp⟩ := h4 (B' := BB F L (_ ++ R)) (fun a _ b => b.elim .inl fun b => b.elim (fun z => .inr (.inl z)) fun z => .inr (.inr (sub' a z))) r
  have mem : ∀ a, a ∈ O' ↔ a ∈ _ ++ R := fun a => hp.mem_iff
  have ndO' : O'.Nodup := hp.nodup_iff.mpr (List.nodup_append.mpr ⟨nd, dj.2.1, fun a ha b hb => dj.2.2 a (sub a ha) b hb⟩)
  refine ⟨O', ⟨hs.mono fun a _ b => b.elim .inl fun b => b.elim (fun z => .inr (.inl z)) fun z => .inr (.inr ((mem a).mp z)), g.mu, ?_, fun a f => ⟨(g.ap a f).1, fun z => (g.ap a f).2 (sub' a ((mem a).mp z))⟩, g.ft⟩, hp⟩
  exact List.nodup_append.mpr ⟨g.ndL, ndO', fun a ha b hb e => g.LO a ha (by subst e; exact sub' a ((mem a).mp hb))⟩
theorem Gd.fz {L F H s τ O P R k d v} (g : Gd W L F H s τ O) (hp : O.Perm (P ++ R)) (r : Rep W L (BB F L O) H k d v P) : Rep W L (BB F L R) H 0 d v [] := by
  have dj := List.nodup_append.mp (hp.nodup_iff.mp g.ndO)
  refine r.frz (fun a b => b.elim .inl fun b => b.elim (fun z => .inr (.inl z)) fun z => .inr (.inr (hp.mem_iff.mpr (List.mem_append_right _ z)))) fun a m b => ?_
  have mO : a ∈ O := hp.mem_iff.mpr (List.mem_append_left _ m)
  rcases b with b | b | b
  · exact (g.ap a b).2 mO
  · exact g.LO a b mO
  · exact dj.2.2 a m a b rfl
/-- a slot frozen -/
theorem Gd.freeze {L F H s τ O i d k} (g : Gd W L F H s τ O) (h : s.σ[i]? = some (some (d, k))) :
    ∃ v O', τ[i]? = some (some v) ∧ (∀ a ∈ O', a ∈ O) ∧ Gd W L F H (s.low i 0) τ O' ∧ Rep W L (BB F L O') H 0 d v [] := by
  obtain ⟨v, P, R, h1, h2, h3, h4⟩ := g.reput h
  have r0 := g.fz h3 h2
  by_cases hk : k ≤ 0
  · obtain rfl : k = 0 := by omega
    have e := Rep.own0 h2 rfl
    subst e
    refine ⟨v, O, h1, fun _ m => m, ?_, h2⟩
    have : s.low i 0 = s := by unfold Sta.low; rw [h]; simp
    rw [this]; exact g
  · obtain ⟨O', g', hp⟩ := h4 (d' := d) (k' := 0) (P' := []) (by simp) .nil (by simpa using r0)
    have e : s.low i 0 = { s with σ := s.σ.set i (some (d, 0)) } := by unfold Sta.low; rw [h]; simp [hk]
    refine ⟨v, O', h1, fun a m => h3.mem_iff.mpr (List.mem_append_right _ (by simpa using hp.mem_iff.mp m)), by rw [e]; exact g', r0.mono fun a _ b => b.elim .inl fun b => b.elim (fun z => .inr (.inl z)) fun z => .inr (.inr (by simpa using hp.mem_iff.mp z))⟩
/-- ev of a bare slot -/
theorem snd_v {i : Nat} {x : Str} {pos : Pos} (hp : PE X (.Name x pos) (tVar i)) : PE X (.Name x pos) (tE W C (.v i)) := by
  refine PE.imp hp fun τ H Q ⟨F, L, s, O, g, r, hr, q⟩ => ?_
  simp only [ev] at hr
  obtain ⟨⟨d, k⟩, h1, h2⟩ := bind_ok hr
  cases h2
  obtain ⟨v, O', e, sub, g', r0⟩ := g.freeze (get_ok h1)
  exact ⟨v, e, q v H ⟨L, O', [], PE'.flat (.sub fun x m => m.elim (sub x) (by simp)) g' r0⟩⟩
theorem snd_mv {i : Nat} {x : Str} {pos : Pos} (hp : PE X (.Name x pos) (tVar i)) : PE X (.Name x pos) (tE W C (.mv i)) := by
  refine PE.imp hp fun τ H Q ⟨F, L, s, O, g, r, hr, q⟩ => ?_
  simp only [ev] at hr
  obtain ⟨⟨d, k⟩, h1, h2⟩ := bind_ok hr
  cases h2
  obtain ⟨v, P, R, e1, e2, e3, e4, e5⟩ := g.slot (get_ok h1)
  have dj := List.nodup_append.mp (e3.nodup_iff.mp g.ndO)
  have mP : ∀ a ∈ P, a ∈ O := fun a m => e3.mem_iff.mpr (List.mem_append_left _ m)
  have mR : ∀ a ∈ R, a ∈ O := fun a m => e3.mem_iff.mpr (List.mem_append_right _ m)
  refine ⟨v, e1, q v H ⟨L, R, P, ⟨.sub fun x m => m.elim (mR x) (mP x), ⟨?_, g.mu, ?_, ?_, ?_⟩, ?_, dj.1, fun a m f => (g.ap a f).2 (mP a m)⟩⟩⟩
  · refine RepS.mono (B := BB F L O) (by simpa [Sta.wipe] using e5) fun a _ b => ?_
    rcases b with (b | b) | b | b
    · exact .inl b
    · exact .inr (.inr (mP a b))
    · exact .inr (.inl b)
    · exact .inr (.inr (mR a b))
  · exact List.nodup_append.mpr ⟨g.ndL, dj.2.1, fun a ha b hb z => g.LO a ha (by subst z; exact mR a hb)⟩
  · intro a f
    rcases f with f | f
    · exact ⟨(g.ap a f).1, fun z => (g.ap a f).2 (mR a z)⟩
    · exact ⟨fun z => g.LO a z (mP a f), fun z => dj.2.2 a f a z rfl⟩
  · intro a f
    rcases f with f | f
    · exact g.ft a f
    · exact (e2.there a f).1
  · refine e2.mono fun a _ b => ?_
    rcases b with (b | b) | b | b
    · exact .inl b
    · exact .inr (.inr (mP a b))
    · exact .inr (.inl b)
    · exact .inr (.inr (mR a b))
/-- a constant -/
theorem snd_c {d : D} {v : V} {e : Expr} (hp : PE X e (tC v)) (hr : ∀ L B H, Rep W L B H 0 d v []) : PE X e (tE W C (.c d)) := by
  refine PE.imp hp fun τ H Q ⟨F, L, s, O, g, r, h, q⟩ => ?_
  simp only [ev] at h
  cases h
  exact q v H ⟨L, O, [], PE'.flat .refl g (hr _ _ _)⟩
/-- an operand -/
theorem snd_o {e : Expr} {m : E} (hm : PE X e (tE W C m)) (hv : ∀ i, m = .v i → PE X e (tVar i)) : PE X e (tO W C m) := by
  by_cases h : ∃ i, m = .v i
  · obtain ⟨i, rfl⟩ := h
    refine PE.imp (hv i rfl) fun τ H Q ⟨F, L, s, O, g, o, s', hr, q⟩ => ?_
    simp only [opd] at hr
    obtain ⟨⟨d, k⟩, h1, h2⟩ := bind_ok hr
    cases h2
    obtain ⟨v, P, R, e1, _⟩ := g.slot (get_ok h1)
    exact ⟨v, e1, q v H ⟨e1, L, O, .refl g⟩⟩
  · refine PE.imp hm fun τ H Q ⟨F, L, s, O, g, o, s', hr, q⟩ => ?_
    have hr' : (ev C m s).bind (fun (p, s) => .ok (Od.t p.1 p.2, s)) = .ok (o, s') := by
      unfold opd at hr
      split at hr
      · exact absurd ⟨_, rfl⟩ h
      · exact hr
    obtain ⟨⟨p, s1⟩, h1, h2⟩ := bind_ok hr'
    cases h2
    exact ⟨F, L, s, O, g, _, h1, fun v H' hp => q v H' hp⟩
end
end MP
end
-- MPSn2
section
set_option maxRecDepth 100000
set_option maxHeartbeats 1000000
/-! Operators. -/
namespace MP
open PySem (Addr Expr Stmt Str Pos)
open PySem.Spec
open L2
open PyProof.Rows hiding St
section
variable {W : Wd} {C : Cfg} {X : Cx}
/-- an operand behind all: a slot, or frozen -/
def OI (W : Wd) (L : List Addr) (F : Addr → Prop) (H : Hp) (O : List Addr) (τ : L2.St) (o : Od) (v : V) : Prop :=
  match o with
  | .s i => τ[i]? = some (some v)
  | .t d k => Rep W L (BB F L O) H 0 d v []
/-- a thing that may be read; a list's children frozen -/
def Sh (W : Wd) (L : List Addr) (B : Addr → Prop) (H : Hp) (d : D) (v : V) : Prop :=
  match d with
  | .lst ds => ∃ a vs, v = .ref a ∧ H a = some (.lst vs) ∧ Reps W L B H 0 ds vs []
  | d => Rep W L B H 0 d v []
theorem Sh.of {L B H d v} (r : Rep W L B H 0 d v []) : Sh W L B H d v := by
  cases d with
  | lst ds => cases r with
    | lst0 h n hs => exact ⟨_, _, rfl, h, hs⟩
  | _ => exact r
theorem Sh.mono {L B B' H d v} (r : Sh W L B H d v) (h : ∀ a, H a ≠ none → B' a → B a) : Sh W L B' H d v := by
  cases d with
  | lst ds => obtain ⟨a, vs, e, q, hs⟩ := r; exact ⟨a, vs, e, q, hs.mono h⟩
  | _ => exact Rep.mono r h
theorem Gd.low1 {L F H s τ O i d k} (g : Gd W L F H s τ O) (h : s.σ[i]? = some (some (d, k))) :
    ∃ v O', τ[i]? = some (some v) ∧ (∀ a ∈ O', a ∈ O) ∧ Gd W L F H (s.shr i) τ O' ∧ Sh W L (BB F L O') H d v := by
  have other : (∀ ds, d ≠ .lst ds) → s.shr i = s.low i 0 := by
    intro hn
    unfold Sta.shr
    split
    · rename_i ds k' e; rw [h] at e; cases e; exact absurd rfl (hn ds)
    · rfl
  cases d with
  | lst ds =>
    have e1 : s.shr i = s.low i 1 := by unfold Sta.shr; rw [h]
    rw [e1]
    obtain ⟨v, P, R, h1, h2, h3, h4⟩ := g.reput h
    by_cases hk : k ≤ 1
    · have e : s.low i 1 = s := by unfold Sta.low; rw [h]; simp [hk]
      rw [e]
      refine ⟨v, O, h1, fun _ m => m, g, ?_⟩
      rcases h2.lst_inv with ⟨_, _, q⟩ | ⟨k', a, vs, O', rfl, rfl, rfl, x, hs⟩
      · exact q
      · obtain rfl : k' = 0 := by omega
        have eO := Reps.own0 hs rfl
        subst eO
        exact ⟨_, _, rfl, x, hs⟩
    · have e : s.low i 1 = { s with σ := s.σ.set i (some (.lst ds, 1)) } := by unfold Sta.low; rw [h]; simp [hk]
      rw [e]
      rcases h2.lst_inv with ⟨q, _⟩ | ⟨k', a, vs, O', rfl, rfl, rfl, x, hs⟩
      · omega
      · have dj := List.nodup_append.mp (h3.nodup_iff.mp g.ndO)
        have na : a ∉ O' := (List.nodup_cons.mp dj.1).1
        have hs0 : Reps W L (BB F L ([a] ++ R)) H 0 ds vs [] := hs.frz (fun b z => z.elim .inl fun z => z.elim (fun z => .inr (.inl z)) fun z => .inr (.inr (h3.mem_iff.mpr (by
            rcases List.mem_append.mp z with z | z
            · exact List.mem_append_left _ (by simp at z; simp [z])
            · exact List.mem_append_right _ z)))) fun b m z => by
          have mO : b ∈ O := h3.mem_iff.mpr (List.mem_append_left _ (List.mem_cons_of_mem _ m))
          rcases z with z | z | z
          · exact (g.ap b z).2 mO
          · exact g.LO b z mO
          · rcases List.mem_append.mp z with z | z
            · simp at z; subst z; exact na m
            · exact dj.2.2 b (List.mem_cons_of_mem _ m) b z rfl
        obtain ⟨O2, g2, hp⟩ := h4 (d' := .lst ds) (k' := 1) (P' := [a]) (by simp) (by simp) (.lstS x hs0)
        refine ⟨_, O2, h1, fun b m => h3.mem_iff.mpr ?_, g2, _, _, rfl, x, hs0.mono fun b _ z => z.elim .inl fun z => z.elim (fun z => .inr (.inl z)) fun z => .inr (.inr (hp.mem_iff.mp z))⟩
        rcases List.mem_append.mp (hp.mem_iff.mp m) with z | z
        · exact List.mem_append_left _ (by simp at z; simp [z])
        · exact List.mem_append_right _ z
  | _ =>
    rw [other (by intro ds; simp)]
    obtain ⟨v, O', h1, h2, h3, h4⟩ := g.freeze h
    exact ⟨v, O', h1, h2, h3, h4⟩
theorem OI.share {L F H s τ O o v d} (g : Gd W L F H s τ O) (h : OI W L F H O τ o v) (e : o.val s = .ok d) :
    ∃ O', (∀ a ∈ O', a ∈ O) ∧ Gd W L F H (o.share s) τ O' ∧ Sh W L (BB F L O') H d v := by
  cases o with
  | t d' k =>
    cases e
    exact ⟨O, fun _ m => m, g, .of h⟩
  | s i =>
    simp only [Od.val] at e
    split at e
    · rename_i d' k' q
      cases e
      obtain ⟨v', O', h1, h2, h3, h4⟩ := g.low1 (get_ok q)
      rw [show τ[i]? = some (some v) from h] at h1
      cases h1
      exact ⟨O', h2, h3, h4⟩
    · cases e
    · cases e
theorem OI.view {L F H s τ O o v d} (g : Gd W L F H s τ O) (h : OI W L F H O τ o v) (e : o.val s = .ok d) : Rep W L no H 0 d v [] := by
  cases o with
  | t d' k =>
    cases e
    exact Rep.view h
  | s i =>
    simp only [Od.val] at e
    split at e
    · rename_i d' k' q
      cases e
      obtain ⟨v', P, R, h1, h2, h3, h4⟩ := g.slot (get_ok q)
      rw [show τ[i]? = some (some v) from h] at h1
      cases h1
      exact h2.view
    · cases e
    · cases e
theorem OI.less {L F H τ O O' o v} (h : OI W L F H O τ o v) (sub : ∀ a ∈ O', a ∈ O) : OI W L F H O' τ o v := by
  cases o with
  | s i => exact h
  | t d k => exact Rep.mono h fun a _ b => b.elim .inl fun b => b.elim (fun z => .inr (.inl z)) fun z => .inr (.inr (sub a z))
/-- one operand -/
theorem PostO.oi {F L H O τ o s' v H'} (h : PostO W F L H O τ o s' v H') : ∃ L' O', PN' W F L H O τ s' L' H' O' ∧ OI W L' F H' O' τ o v := by
  cases o with
  | s i => obtain ⟨e, L', O', p⟩ := h; exact ⟨L', O', p, e⟩
  | t d k =>
    obtain ⟨L', O', Ov, p⟩ := h
    refine ⟨L', O', p.drop, p.r.frz (fun a b => b.elim (fun z => .inl (.inl z)) .inr) fun a m b => ?_⟩
    rcases b with b | b | b
    · exact p.ap a m b
    · exact (p.g.ap a (.inr m)).1 b
    · exact (p.g.ap a (.inr m)).2 b
/-- two operands -/
theorem two_o {m n : E} {τ : L2.St} {H : Hp} {L : List Addr} {F : Addr → Prop} {s s1 s2 : Sta} {O : List Addr} {p q : Od} {Q : V → V → Hp → Prop} (g : Gd W L F H s τ O)
    (h1 : opd m (ev C m s) s = .ok (p, s1)) (h2 : opd n (ev C n s1) s1 = .ok (q, s2))
    (k : ∀ v u L2 H2 O2, PN' W F L H O τ s2 L2 H2 O2 → OI W L2 F H2 O2 τ p v → OI W L2 F H2 O2 τ q u → Q v u H2) :
    tO W C m τ H fun v H1 => tO W C n τ H1 fun u H2 => Q v u H2 := by
  refine ⟨F, L, s, O, g, p, s1, h1, fun v H1 hv => ?_⟩
  cases p with
  | s i =>
    obtain ⟨e, L1, O1, p1⟩ := hv
    refine ⟨F, L1, s1, O1, p1.g, q, s2, h2, fun u H2 hu => ?_⟩
    obtain ⟨L2, O2, p2, oi⟩ := hu.oi
    exact k v u L2 H2 O2 (p1.trans p2) e oi
  | t d kk =>
    obtain ⟨L1, O1, Ov, p1⟩ := hv
    refine ⟨FU F Ov, L1, s1, O1, p1.g, q, s2, h2, fun u H2 hu => ?_⟩
    obtain ⟨L2, O2, p2, oi⟩ := hu.oi
    have gw : Gd W L2 F H2 s2 τ O2 := p2.g.weak fun a z => .inl z
    refine k v u L2 H2 O2 ⟨p1.st.trans p2.st (by simp), gw⟩ ?_ ?_
    · have r := p1.r.step p1.g p2.st fun a m => .inr m
      refine r.frz (fun a b => b.elim (fun z => .inl (.inl (.inl z))) .inr) fun a m b => ?_
      rcases b with b | b | b
      · exact p1.ap a m b
      · exact (p2.g.ap a (.inr m)).1 b
      · exact (p2.g.ap a (.inr m)).2 b
    · cases q with
      | s i => exact oi
      | t d k => exact Rep.mono oi fun a _ b => b.elim (fun z => .inl (.inl z)) .inr
end
end MP
end
-- MPSn3
section
set_option maxRecDepth 100000
set_option maxHeartbeats 1000000
/-! New values; binary operators. -/
namespace MP
open PySem (Addr Expr Stmt Str Pos)
open PySem.Spec
open L2
open PyProof.Rows hiding St
theorem lim_eq : lim = PySem.sizeLine := by rw [PySem.sizeLine_eq]; rfl
section
variable {W : Wd} {C : Cfg} {X : Cx}
/-- what an operator gives: something as it stands, or a new list, a new tuple of what stands -/
inductive NewD (W : Wd) (L : List Addr) (B : Addr → Prop) (H : Hp) : D × Nat → V → Hp → Prop
  | same {d v} (k) : Rep W L B H 0 d v [] → (k = 0 ∨ flatK d = true) → NewD W L B H (d, k) v H
  | lst {ds vs p} : H p = none → Reps W L B H 0 ds vs [] → NewD W L B H (.lst ds, 1) (.ref p) (upd H p (.lst vs))
  | tup {ds vs p} : H p = none → Reps W L B H 0 ds vs [] → NewD W L B H (.tup ds, 0) (.ref p) (upd H p (.tup vs))
theorem there_upd {H : Hp} {p : Addr} {o : HO} {a : Addr} (h : H a ≠ none) : upd H p o a ≠ none := by
  unfold upd; split
  · simp
  · exact h
theorem Gd.thereL {L F H s τ O} (g : Gd W L F H s τ O) : ∀ a ∈ L, H a ≠ none ∧ ∀ vs, H a ≠ some (.tup vs) := fun a m => by
  obtain ⟨j, hj, e⟩ := List.getElem_of_mem m
  have hl := g.mu.len
  have : s.μ[j]? = some s.μ[j] := List.getElem?_eq_getElem (by omega)
  obtain ⟨a', vs, e1, e2, _⟩ := g.mu.at_ j _ this
  rw [List.getElem?_eq_getElem hj, e] at e1
  cases e1
  rw [e2]; exact ⟨by simp, by simp⟩
/-- the heap grows -/
theorem Gd.grow {L F H H' s τ O} (g : Gd W L F H s τ O) (kp : Keep (fun _ => False) H H') (st : ∀ a, H a ≠ none → H' a ≠ none) : Gd W L F H' s τ O where
  sl := g.sl.keep kp (fun _ f => f.elim) (fun a _ b => b) (fun _ _ e => e) fun _ _ f => f
  mu := ⟨g.mu.len, fun j xs e => by
    obtain ⟨a, vs, h1, h2, h3, h4⟩ := g.mu.at_ j xs e
    exact ⟨a, vs, h1, kp.any _ _ h2 fun f => f, h3.keep kp (fun _ f => f.elim) (fun _ _ b => b) (fun _ _ e => e) fun _ _ f => f, h4⟩⟩
  nd := g.nd
  ap := g.ap
  ft := fun a f => st a (g.ft a f)
theorem PE'.new {F L H s τ O d k v H'} (g : Gd W L F H s τ O) (n : NewD W L (BB F L O) H (d, k) v H') : ∃ Ov, PE' W F L H O τ (d, k) s v L H' O Ov := by
  cases n with
  | same k r hk =>
    rcases hk with rfl | f
    · exact ⟨[], PE'.flat .refl g r⟩
    · exact ⟨[], PE'.flat .refl g (r.flatK f).1⟩
  | @lst ds vs p hp hs =>
    have kp : Keep (fun _ => False) H (upd H p (.lst vs)) := Keep.upd hp
    have pL : p ∉ L := fun m => (g.thereL p m).1 hp
    have pO : p ∉ O := fun m => (g.sl.there p m).1 hp
    have pF : ¬ F p := fun f => g.ft p f hp
    have hB : ∀ a, H a ≠ none → BB (FU F [p]) L O a → BB F L O a := fun a n b => by
      rcases b with (b | b) | b
      · exact .inl b
      · simp at b; subst b; exact absurd hp n
      · exact .inr b
    refine ⟨[p], ⟨List.prefix_refl _, fun _ h => .inl h, fun a m => m.elim .inl fun m => by simp at m; subst m; exact .inr hp, Keep.upd hp, fun a h => there_upd h⟩, ?_, ?_, by simp, by simpa using pF⟩
    · refine ⟨g.sl.keep kp (fun _ f => f.elim) hB (fun _ _ e => e) fun _ _ f => f, (g.grow kp fun a h => there_upd h).mu, g.nd, fun a f => f.elim (g.ap a) fun m => by simp at m; subst m; exact ⟨pL, pO⟩, fun a f => f.elim (fun f => there_upd (g.ft a f)) fun m => by simp at m; subst m; rw [upd_same]; simp⟩
    · exact .lstS upd_same (hs.keep kp (fun _ f => f.elim) hB (fun _ _ e => e) fun _ _ f => f)
  | @tup ds vs p hp hs =>
    have kp : Keep (fun _ => False) H (upd H p (.tup vs)) := Keep.upd hp
    refine ⟨[], PE'.flat ⟨List.prefix_refl _, fun _ h => .inl h, fun a m => .inl (by simpa using m), Keep.upd hp, fun a h => there_upd h⟩ (g.grow kp fun a h => there_upd h) ?_⟩
    exact .tup upd_same (hs.keep kp (fun _ f => f.elim) (fun _ _ b => b) (fun _ _ e => e) fun _ _ f => f)
theorem PostE.new {F L H O s τ L1 H1 O1 d k v H'} (p : PN' W F L H O τ s L1 H1 O1) (n : NewD W L1 (BB F L1 O1) H1 (d, k) v H') : PostE W F L H O τ ((d, k), s) v H' := by
  obtain ⟨Ov, q⟩ := PE'.new p.g n
  exact ⟨L1, O1, Ov, q.after p⟩

/-! ### binary operators -/
theorem sh_int {L B H i v} (h : Sh W L B H (.int i) v) : v = .int i := by cases h; rfl
theorem sh_lst {L B H ds v} (h : Sh W L B H (.lst ds) v) : ∃ a vs, v = .ref a ∧ H a = some (.lst vs) ∧ Reps W L B H 0 ds vs [] := h
theorem sh_tup {L B H ds v} (h : Sh W L B H (.tup ds) v) : ∃ a vs, v = .ref a ∧ H a = some (.tup vs) ∧ Reps W L B H 0 ds vs [] := Rep.tup_inv h
theorem Reps.append {L B H} : ∀ {k ds vs O es us O'}, Reps W L B H k ds vs O → Reps W L B H k es us O' → Reps W L B H k (ds ++ es) (vs ++ us) (O ++ O')
  | _, _, _, _, _, _, _, .nil k, h => h
  | _, _, _, _, _, _, _, .cons h hs, h' => by rw [List.append_assoc]; exact .cons h (hs.append h')
theorem Reps.append0 {L B H ds vs es us} (h : Reps W L B H 0 ds vs []) (h' : Reps W L B H 0 es us []) : Reps W L B H 0 (ds ++ es) (vs ++ us) [] := h.append h'
theorem Reps.rep {L B H ds vs} (h : Reps W L B H 0 ds vs []) : ∀ n : Nat, Reps W L B H 0 (List.replicate n ds).flatten (List.replicate n vs).flatten []
  | 0 => .nil 0
  | n + 1 => by
    rw [List.replicate_succ, List.replicate_succ, List.flatten_cons, List.flatten_cons]
    exact h.append0 (h.rep n)
def rBin (W : Wd) (op : BO) : R2 := fun x y H Q => ∃ L B d e r, Sh W L B H d x ∧ Sh W L B H e y ∧ binD op d e = some r ∧ ∀ v H', NewD W L B H r v H' → Q v H'
def bop : BO → PySem.Operator
  | .add => .Add | .sub => .Sub | .mul => .Mult | .fdiv => .FloorDiv | .mod => .Mod | .pow => .Pow
theorem OpR.imp {f : PySem.Value → PySem.Value → PySem.Sem PySem.Value} {r r' : R2} (h : OpR X f r) (i : ∀ x y H Q, r' x y H Q → r x y H Q) : OpR X f r' :=
  fun pins s σ H x y v u Q I rx ry q => h pins s σ H x y v u Q I rx ry (i x y H Q q)
theorem small64_iff {i : Int} (h : small64 i = true) : -(2 ^ 64) < i ∧ i < 2 ^ 64 := by
  unfold small64 at h
  simp only [Bool.and_eq_true, decide_eq_true_eq] at h
  exact h
theorem new_int {L B H i} : NewD W L B H (.int i, 0) (.int i) H := .same 0 (.int 0 i) (.inl rfl)
theorem Reps.nil_inv {L B H k vs O} (h : Reps W L B H k [] vs O) : vs = [] := by cases h; rfl
theorem Reps.nil_inv' {L B H k ds O} (h : Reps W L B H k ds [] O) : ds = [] := by cases h; rfl
theorem op_bin (op : BO) : OpR X (PySem.binaryOp (bop op)) (rBin W op) := by
  cases op with
  | add =>
    refine OpR.imp (op_add.or (op_cat.or op_catA)) fun x y H Q ⟨L, B, d, e, r, hd, he, hb, q⟩ => ?_
    cases d <;> cases e <;> simp only [binD, reduceCtorEq] at hb
    · cases hb
      cases sh_int hd; cases sh_int he
      exact .inl ⟨_, _, rfl, rfl, q _ _ new_int⟩
    · split at hb <;> cases hb
      rename_i hl
      obtain ⟨a, vs, rfl, ha, hvs⟩ := sh_tup hd
      obtain ⟨b, us, rfl, hb, hus⟩ := sh_tup he
      rw [hvs.length, hus.length, lim_eq] at hl
      refine .inr (.inr ⟨a, b, vs, us, rfl, rfl, .inl (.inl ha), .inl (.inl hb), hl, ?_, ?_, ?_⟩)
      · intro e; subst e
        have := hvs.nil_inv'; subst this
        exact q _ _ (.same 0 (.tup hb hus) (.inl rfl))
      · intro _ e; subst e
        have := hus.nil_inv'; subst this
        rw [List.append_nil] at q
        exact q _ _ (.same 0 (.tup ha hvs) (.inl rfl))
      · intro _ _ p hp
        exact q _ _ (.tup hp (hvs.append0 hus))
    · split at hb <;> cases hb
      rename_i hl
      obtain ⟨a, vs, rfl, ha, hvs⟩ := sh_lst hd
      obtain ⟨b, us, rfl, hb, hus⟩ := sh_lst he
      rw [hvs.length, hus.length, lim_eq] at hl
      exact .inr (.inl ⟨a, b, vs, us, rfl, rfl, ha, hb, hl, fun p hp => q _ _ (.lst hp (hvs.append0 hus))⟩)
  | sub =>
    refine OpR.imp op_sub fun x y H Q ⟨L, B, d, e, r, hd, he, hb, q⟩ => ?_
    cases d <;> cases e <;> simp only [binD, reduceCtorEq] at hb
    cases hb
    cases sh_int hd; cases sh_int he
    exact ⟨_, _, rfl, rfl, q _ _ new_int⟩
  | mul =>
    refine OpR.imp (op_mul.or (op_rep.or op_repT)) fun x y H Q ⟨L, B, d, e, r, hd, he, hb, q⟩ => ?_
    cases d <;> cases e <;> simp only [binD, reduceCtorEq] at hb
    · split at hb <;> cases hb
      rename_i hl
      cases sh_int hd; cases sh_int he
      simp only [Bool.or_eq_true] at hl
      exact .inl ⟨_, _, rfl, rfl, hl.elim (fun z => .inl (small64_iff z)) fun z => .inr (small64_iff z), q _ _ new_int⟩
    · split at hb <;> cases hb
      rename_i hl
      obtain ⟨a, vs, rfl, ha, hvs⟩ := sh_tup hd
      cases sh_int he
      rw [hvs.length] at hl
      exact .inr (.inr ⟨a, _, vs, rfl, rfl, .inl (.inl ha), fun z => hl.1 (by rw [z]; rfl), hl.2.1, hl.2.2.1, hl.2.2.2, fun p hp => q _ _ (.tup hp (hvs.rep _))⟩)
    · split at hb <;> cases hb
      rename_i hl
      obtain ⟨a, vs, rfl, ha, hvs⟩ := sh_lst hd
      cases sh_int he
      simp only [Bool.and_eq_true, decide_eq_true_eq] at hl
      rw [hvs.length, lim_eq] at hl
      exact .inr (.inl ⟨a, _, vs, rfl, rfl, ha, hl.1.1.2, hl.1.2, hl.2, fun p hp => q _ _ (.lst hp (hvs.rep _))⟩)
  | fdiv =>
    refine OpR.imp op_fdiv fun x y H Q ⟨L, B, d, e, r, hd, he, hb, q⟩ => ?_
    cases d <;> cases e <;> simp only [binD, reduceCtorEq] at hb
    split at hb <;> cases hb
    rename_i hl
    cases sh_int hd; cases sh_int he
    exact ⟨_, _, rfl, rfl, hl, q _ _ new_int⟩
  | mod =>
    refine OpR.imp op_mod fun x y H Q ⟨L, B, d, e, r, hd, he, hb, q⟩ => ?_
    cases d <;> cases e <;> simp only [binD, reduceCtorEq] at hb
    split at hb <;> cases hb
    rename_i hl
    cases sh_int hd; cases sh_int he
    exact ⟨_, _, rfl, rfl, hl, q _ _ new_int⟩
  | pow =>
    refine OpR.imp op_pow fun x y H Q ⟨L, B, d, e, r, hd, he, hb, q⟩ => ?_
    cases d <;> cases e <;> simp only [binD, reduceCtorEq] at hb
    split at hb <;> cases hb
    rename_i hl
    cases sh_int hd; cases sh_int he
    exact ⟨_, _, rfl, rfl, ⟨hl.1, by omega, by omega⟩, q _ _ new_int⟩
theorem low_d (s : Sta) (i n j : Nat) (d : D) : (∃ k, (s.low i n).σ[j]? = some (some (d, k))) ↔ ∃ k, s.σ[j]? = some (some (d, k)) := by
  unfold Sta.low
  split
  · rename_i d' k' e
    split
    · exact .rfl
    · by_cases h : i = j
      · subst h
        have hi : i < s.σ.length := by
          rcases Nat.lt_or_ge i s.σ.length with q | q
          · exact q
          · rw [List.getElem?_eq_none q] at e; cases e
        show (∃ k, (s.σ.set i (some (d', n)))[i]? = some (some (d, k))) ↔ _
        rw [List.getElem?_set_self hi, e]
        simp
      · show (∃ k, (s.σ.set i (some (d', n)))[j]? = some (some (d, k))) ↔ _
        rw [List.getElem?_set_ne h]
  · exact .rfl
theorem shr_d (s : Sta) (i j : Nat) (d : D) : (∃ k, (s.shr i).σ[j]? = some (some (d, k))) ↔ ∃ k, s.σ[j]? = some (some (d, k)) := by
  unfold Sta.shr
  split
  · exact low_d ..
  · exact low_d ..
theorem val_s {s : Sta} {i : Nat} {d : D} : (Od.s i).val s = .ok d ↔ ∃ k, s.σ[i]? = some (some (d, k)) := by
  simp only [Od.val]
  constructor
  · intro h
    split at h
    · rename_i d' k e; cases h; exact ⟨k, get_ok e⟩
    · cases h
    · cases h
  · rintro ⟨k, e⟩
    have : s.get i = .ok (d, k) := by unfold Sta.get; rw [e]
    rw [this]
theorem val_share {s : Sta} {p q : Od} {d : D} (h : q.val s = .ok d) : q.val (p.share s) = .ok d := by
  cases q with
  | t d' k => exact h
  | s j =>
    cases p with
    | t d' k => exact h
    | s i => exact val_s.mpr ((shr_d s i j d).mpr (val_s.mp h))
theorem PN'.sub {F L H O s s' τ L1 H1 O1 O2} (p : PN' W F L H O τ s L1 H1 O1) (g : Gd W L1 F H1 s' τ O2) (sub : ∀ a ∈ O2, a ∈ O1) : PN' W F L H O τ s' L1 H1 O2 :=
  ⟨p.st.less fun a m => m.elim (fun m => .inl (sub a m)) fun m => by simp at m, g⟩
theorem BB_sub {F : Addr → Prop} {L O O' : List Addr} (sub : ∀ a ∈ O', a ∈ O) : ∀ a, BB F L O' a → BB F L O a := fun a b => b.elim .inl fun b => b.elim (fun z => .inr (.inl z)) fun z => .inr (.inr (sub a z))
theorem snd_bin {a b : Expr} {m n : E} {op : BO} {pos : Pos} (ha : PE X a (tO W C m)) (hb : PE X b (tO W C n)) : PE X (.BinOp a (bop op) b pos) (tE W C (.bin op m n)) := by
  refine PE.imp (pe_op (op_bin (W := W) op) ha hb) fun τ H Q ⟨F, L, s, O, g, r, hr, q⟩ => ?_
  simp only [ev] at hr
  obtain ⟨⟨p, s1⟩, h1, hr⟩ := bind_ok hr
  obtain ⟨⟨p2, s2⟩, h2, hr⟩ := bind_ok hr
  obtain ⟨x, hx, hr⟩ := bind_ok hr
  obtain ⟨y, hy, hr⟩ := bind_ok hr
  obtain ⟨z, hz, hr⟩ := bind_ok hr
  cases hr
  refine two_o g h1 h2 (Q := fun v u H2 => rBin W op v u H2 Q) fun v u L2 H2 O2 pn oi1 oi2 => ?_
  obtain ⟨O3, sub3, g3, sh3⟩ := oi1.share pn.g hx
  obtain ⟨O4, sub4, g4, sh4⟩ := (oi2.less sub3).share g3 (val_share hy)
  refine ⟨L2, BB F L2 O4, x, y, z, sh3.mono fun a _ => BB_sub sub4 a, sh4, ofO_ok hz, fun w H' nw => q w H' ?_⟩
  exact PostE.new ((pn.sub g3 sub3).sub g4 sub4) nw

/-! ### comparisons -/
def cop : CO → PySem.CmpOp
  | .eq => .Eq | .ne => .NotEq | .lt => .Lt | .le => .LtE | .gt => .Gt | .ge => .GtE | .is_ => .Is | .isn => .IsNot | .in_ => .In | .nin => .NotIn
def rCmp (W : Wd) (eqn : Nat → Nat) (op : CO) : R2 := fun x y H Q => ∃ L d e r, Rep W L no H 0 d x [] ∧ Rep W L no H 0 e y [] ∧ cmpD eqn op d e = some r ∧ Q (.bl r) H
theorem vw_int {L B H k i v O} (h : Rep W L B H k (.int i) v O) : v = .int i := by cases h; rfl
theorem vw_bl {L B H k i v O} (h : Rep W L B H k (.bl i) v O) : v = .bl i := by cases h; rfl
theorem vw_non {L B H k v O} (h : Rep W L B H k .non v O) : v = .non := by cases h; rfl
theorem vw_str {L B H k s v O} (h : Rep W L B H k (.str s) v O) : v = .str s := by cases h; rfl
theorem op_cmpI (op : CO) (hop : op = .lt ∨ op = .le ∨ op = .gt ∨ op = .ge) {eqn : Nat → Nat} : OpR X (PySem.compareOp (cop op)) (rCmp W eqn op) := by
  rcases hop with rfl | rfl | rfl | rfl
  · refine OpR.imp op_lt fun x y H Q ⟨L, d, e, r, hd, he, hb, q⟩ => ?_
    cases d <;> cases e <;> simp only [cmpD, reduceCtorEq] at hb
    cases hb; cases vw_int hd; cases vw_int he
    exact ⟨_, _, rfl, rfl, q⟩
  · refine OpR.imp op_le fun x y H Q ⟨L, d, e, r, hd, he, hb, q⟩ => ?_
    cases d <;> cases e <;> simp only [cmpD, reduceCtorEq] at hb
    cases hb; cases vw_int hd; cases vw_int he
    exact ⟨_, _, rfl, rfl, q⟩
  · refine OpR.imp op_gt fun x y H Q ⟨L, d, e, r, hd, he, hb, q⟩ => ?_
    cases d <;> cases e <;> simp only [cmpD, reduceCtorEq] at hb
    cases hb; cases vw_int hd; cases vw_int he
    exact ⟨_, _, rfl, rfl, q⟩
  · refine OpR.imp op_ge fun x y H Q ⟨L, d, e, r, hd, he, hb, q⟩ => ?_
    cases d <;> cases e <;> simp only [cmpD, reduceCtorEq] at hb
    cases hb; cases vw_int hd; cases vw_int he
    exact ⟨_, _, rfl, rfl, q⟩
theorem snd_cmp {a b : Expr} {m n : E} {op : CO} {pos : Pos} (ho : OpR X (PySem.compareOp (cop op)) (rCmp W C.eqn op)) (hm : PySem.behindInMarks (cop op) b = false) (ha : PE X a (tO W C m)) (hb : PE X b (tO W C n)) :
    PE X (.Compare a [cop op] [b] pos) (tE W C (.cmp op m n)) ∧ PT X (.Compare a [cop op] [b] pos) (tBo W C (.cmp op m n)) := by
  have key : ∀ {τ H} {Q : V → Hp → Prop} {F L s O} {s' : Sta} {r : Bool}, Gd W L F H s τ O → ev C (.cmp op m n) s = .ok ((.bl r, 0), s') → (∀ H', PostN W F L H O τ s' H' → Q (.bl r) H') →
      tOp (rCmp W C.eqn op) (tO W C m) (tO W C n) τ H Q := by
    intro τ H Q F L s O s' r g hr q
    simp only [ev] at hr
    obtain ⟨⟨p, s1⟩, h1, hr⟩ := bind_ok hr
    obtain ⟨⟨p2, s2⟩, h2, hr⟩ := bind_ok hr
    obtain ⟨x, hx, hr⟩ := bind_ok hr
    obtain ⟨y, hy, hr⟩ := bind_ok hr
    obtain ⟨z, hz, hr⟩ := bind_ok hr
    cases hr
    refine two_o g h1 h2 (Q := fun v u H2 => rCmp W C.eqn op v u H2 Q) fun v u L2 H2 O2 pn oi1 oi2 => ?_
    exact ⟨L2, x, y, _, oi1.view pn.g hx, oi2.view pn.g hy, ofO_ok hz, q H2 ⟨L2, O2, pn⟩⟩
  have isb : ∀ {s r}, ev C (.cmp op m n) s = .ok r → ∃ b s', r = ((.bl b, 0), s') := by
    intro s r hr
    simp only [ev] at hr
    obtain ⟨⟨p, s1⟩, h1, hr⟩ := bind_ok hr
    obtain ⟨⟨p2, s2⟩, h2, hr⟩ := bind_ok hr
    obtain ⟨x, hx, hr⟩ := bind_ok hr
    obtain ⟨y, hy, hr⟩ := bind_ok hr
    obtain ⟨z, hz, hr⟩ := bind_ok hr
    cases hr
    exact ⟨_, _, rfl⟩
  constructor
  · refine PE.imp (pe_cmpR ho ha hb hm) fun τ H Q ⟨F, L, s, O, g, r, hr, q⟩ => ?_
    obtain ⟨b, s', rfl⟩ := isb hr
    exact key g hr fun H' ⟨L', O', p⟩ => q _ H' ⟨L', O', [], PE'.flat p.st p.g (.bl 0 b)⟩
  · refine PT.imp (pt_cmpR ho ha hb hm) fun τ H Q ⟨F, L, s, O, g, b, s', hr, q⟩ => ?_
    obtain ⟨⟨p, s2⟩, h1, h2⟩ := bind_ok hr
    obtain ⟨b', s3, e⟩ := isb h1
    cases e
    cases h2
    exact key g h1 fun H' p => ⟨_, rfl, q H' p⟩
end
end MP
end
-- MPSn4
section
set_option maxRecDepth 100000
set_option maxHeartbeats 1000000
/-! Tests, displays, subscripts. -/
namespace MP
open PySem (Addr Expr Stmt Str Pos)
open PySem.Spec
open L2
open PyProof.Rows hiding St
section
variable {W : Wd} {C : Cfg} {X : Cx}
theorem bool1_ok {r : R ((D × Nat) × Sta)} {b : Bool} {s' : Sta} (h : bool1 r = .ok (b, s')) : ∃ k, r = .ok ((.bl b, k), s') := by
  unfold bool1 at h
  obtain ⟨⟨⟨d, k⟩, s2⟩, h1, h2⟩ := bind_ok h
  cases d <;> simp only [reduceCtorEq] at h2
  cases h2
  exact ⟨k, h1⟩
theorem PostE.bl {F L H O τ b k s' v H'} (h : PostE W F L H O τ ((.bl b, k), s') v H') : v = .bl b ∧ PostN W F L H O τ s' H' := by
  obtain ⟨L', O', Ov, p⟩ := h
  exact ⟨vw_bl p.r, L', O', p.drop⟩
theorem PostN.bl {F L H O τ b k s' H'} (h : PostN W F L H O τ s' H') : PostE W F L H O τ ((.bl b, k), s') (.bl b) H' := by
  obtain ⟨L', O', p⟩ := h
  exact ⟨L', O', [], PE'.flat p.st p.g (.bl k b)⟩
/-- a test by its value -/
theorem snd_t {e : Expr} {m : E} (h : PE X e (tE W C m)) (he : ∀ whole, PySem.isTrue e X.env whole = (do let v ← whole; PySem.standAt e.pos; PySem.holding [v] (PySem.truthy v))) : PT X e (tBo W C m) := by
  refine PT.imp (pt_val h he) fun τ H Q ⟨F, L, s, O, g, b, s', hr, q⟩ => ?_
  obtain ⟨k, hr⟩ := bool1_ok hr
  refine ⟨F, L, s, O, g, _, hr, fun v H' p => ?_⟩
  obtain ⟨e, p⟩ := p.bl
  exact ⟨b, e, q H' p⟩
/-- what follows a test -/
theorem after_t {F L H O τ s H' L' O'} {Q : V → Hp → Prop} {m : E} {r} (p : PN' W F L H O τ s L' H' O') (hr : ev C m s = .ok r) (q : ∀ v H2, PostE W F L H O τ r v H2 → Q v H2) : tE W C m τ H' Q :=
  ⟨F, L', s, O', p.g, r, hr, fun v H2 ⟨L2, O2, Ov, e⟩ => q v H2 ⟨L2, O2, Ov, e.after p⟩⟩
theorem after_b {F L H O τ s H' L' O'} {Q : Bool → Hp → Prop} {m : E} {b s2} (p : PN' W F L H O τ s L' H' O') (hr : bool1 (ev C m s) = .ok (b, s2)) (q : ∀ H2, PostN W F L H O τ s2 H2 → Q b H2) : tBo W C m τ H' Q :=
  ⟨F, L', s, O', p.g, b, s2, hr, fun H2 ⟨L2, O2, e⟩ => q H2 ⟨L2, O2, p.trans e⟩⟩
theorem snd_nt {a : Expr} {m : E} {pos : Pos} (ha : PT X a (tBo W C m)) (hv : PE X a (tE W C m)) : PE X (.UnaryOp .Not a pos) (tE W C (.nt m)) ∧ PT X (.UnaryOp .Not a pos) (tBo W C (.nt m)) := by
  constructor
  · refine PE.imp (pe_not hv) fun τ H Q ⟨F, L, s, O, g, r, hr, q⟩ => ?_
    simp only [ev] at hr
    obtain ⟨⟨b, s1⟩, h1, hr⟩ := bind_ok hr
    cases hr
    obtain ⟨k, h1⟩ := bool1_ok h1
    refine ⟨F, L, s, O, g, _, h1, fun v H' p => ?_⟩
    obtain ⟨e, p⟩ := p.bl
    exact ⟨b, e, q _ _ p.bl⟩
  · refine PT.imp (pt_not ha) fun τ H Q ⟨F, L, s, O, g, b, s', hr, q⟩ => ?_
    obtain ⟨k, hr⟩ := bool1_ok hr
    simp only [ev] at hr
    obtain ⟨⟨b1, s1⟩, h1, hr⟩ := bind_ok hr
    cases hr
    exact ⟨F, L, s, O, g, b1, s1, h1, fun H' p => q H' p⟩
theorem snd_an {a b : Expr} {rest : List Expr} {m n : E} {pos : Pos} (ha : PE X a (tE W C m)) (hb : PE X (.BoolOp .And (b :: rest) pos) (tE W C n)) : PE X (.BoolOp .And (a :: b :: rest) pos) (tE W C (.an m n)) := by
  refine PE.imp (pe_and ha hb) fun τ H Q ⟨F, L, s, O, g, r, hr, q⟩ => ?_
  simp only [ev] at hr
  obtain ⟨⟨c, s1⟩, h1, hr⟩ := bind_ok hr
  obtain ⟨k, h1⟩ := bool1_ok h1
  refine ⟨F, L, s, O, g, _, h1, fun v H' p => ?_⟩
  obtain ⟨e, L1, O1, pn⟩ := p.bl
  refine ⟨c, e, ?_⟩
  cases c
  · cases hr
    rw [if_neg (by simp)]
    exact q _ _ ⟨L1, O1, [], PE'.flat pn.st pn.g (.bl 0 false)⟩
  · rw [if_pos rfl]
    exact after_t (s := s1) pn hr q
theorem snd_or {a b : Expr} {rest : List Expr} {m n : E} {pos : Pos} (ha : PE X a (tE W C m)) (hb : PE X (.BoolOp .Or (b :: rest) pos) (tE W C n)) : PE X (.BoolOp .Or (a :: b :: rest) pos) (tE W C (.or m n)) := by
  refine PE.imp (pe_or ha hb) fun τ H Q ⟨F, L, s, O, g, r, hr, q⟩ => ?_
  simp only [ev] at hr
  obtain ⟨⟨c, s1⟩, h1, hr⟩ := bind_ok hr
  obtain ⟨k, h1⟩ := bool1_ok h1
  refine ⟨F, L, s, O, g, _, h1, fun v H' p => ?_⟩
  obtain ⟨e, L1, O1, pn⟩ := p.bl
  refine ⟨c, e, ?_⟩
  cases c
  · rw [if_neg (by simp)]
    exact after_t (s := s1) pn hr q
  · cases hr
    rw [if_pos rfl]
    exact q _ _ ⟨L1, O1, [], PE'.flat pn.st pn.g (.bl 0 true)⟩
theorem snd_anT {a b : Expr} {rest : List Expr} {m n : E} {pos : Pos} (ha : PT X a (tBo W C m)) (hb : PW X (.BoolOp .And (b :: rest) pos) (tBo W C n)) : PW X (.BoolOp .And (a :: b :: rest) pos) (tBo W C (.an m n)) := by
  refine ⟨fun whole pins s σ H Q I h => (pw_and ha hb).run whole pins s σ H Q I ?_⟩
  obtain ⟨F, L, s, O, g, c, s', hr, q⟩ := h
  obtain ⟨k, hr⟩ := bool1_ok hr
  simp only [ev] at hr
  obtain ⟨⟨c1, s1⟩, h1, hr⟩ := bind_ok hr
  refine ⟨F, L, s, O, g, c1, s1, h1, fun H' ⟨L1, O1, pn⟩ => ?_⟩
  cases c1
  · cases hr
    rw [if_neg (by simp)]
    exact q _ ⟨L1, O1, pn⟩
  · rw [if_pos rfl]
    exact after_b (s := s1) pn (by unfold bool1; rw [show ev C n s1 = _ from hr]; rfl) q
theorem snd_orT {a b : Expr} {rest : List Expr} {m n : E} {pos : Pos} (ha : PT X a (tBo W C m)) (hb : PW X (.BoolOp .Or (b :: rest) pos) (tBo W C n)) : PW X (.BoolOp .Or (a :: b :: rest) pos) (tBo W C (.or m n)) := by
  refine ⟨fun whole pins s σ H Q I h => (pw_or ha hb).run whole pins s σ H Q I ?_⟩
  obtain ⟨F, L, s, O, g, c, s', hr, q⟩ := h
  obtain ⟨k, hr⟩ := bool1_ok hr
  simp only [ev] at hr
  obtain ⟨⟨c1, s1⟩, h1, hr⟩ := bind_ok hr
  refine ⟨F, L, s, O, g, c1, s1, h1, fun H' ⟨L1, O1, pn⟩ => ?_⟩
  cases c1
  · rw [if_neg (by simp)]
    exact after_b (s := s1) pn (by unfold bool1; rw [show ev C n s1 = _ from hr]; rfl) q
  · cases hr
    rw [if_pos rfl]
    exact q _ ⟨L1, O1, pn⟩
theorem snd_ife {c a b : Expr} {k m n : E} {pos : Pos} (hc : PT X c (tBo W C k)) (ha : PE X a (tE W C m)) (hb : PE X b (tE W C n)) : PE X (.IfExp c a b pos) (tE W C (.ife k m n)) := by
  refine PE.imp (pe_ifExp hc ha hb) fun τ H Q ⟨F, L, s, O, g, r, hr, q⟩ => ?_
  simp only [ev] at hr
  obtain ⟨⟨x, s1⟩, h1, hr⟩ := bind_ok hr
  refine ⟨F, L, s, O, g, x, s1, h1, fun H' ⟨L1, O1, pn⟩ => ?_⟩
  cases x
  · rw [if_neg (by simp)]
    exact after_t (s := s1) pn hr q
  · rw [if_pos rfl]
    exact after_t (s := s1) pn hr q
theorem snd_neg {a : Expr} {m : E} {pos : Pos} (ha : PE X a (tE W C m)) : PE X (.UnaryOp .USub a pos) (tE W C (.neg m)) := by
  refine PE.imp (pe_un un_neg ha) fun τ H Q ⟨F, L, s, O, g, r, hr, q⟩ => ?_
  simp only [ev] at hr
  obtain ⟨⟨⟨d, k⟩, s1⟩, h1, hr⟩ := bind_ok hr
  obtain ⟨z, hz, hr⟩ := bind_ok hr
  cases hr
  have hz := ofO_ok hz
  cases d <;> simp only [negD, reduceCtorEq] at hz
  cases hz
  refine ⟨F, L, s, O, g, _, h1, fun v H' ⟨L', O', Ov, p⟩ => ?_⟩
  have e := vw_int p.r
  subst e
  exact ⟨_, rfl, q _ _ ⟨L', O', [], PE'.flat p.drop.st p.drop.g (.int 0 _)⟩⟩

/-! ### lists of values -/
/-- values with their depths -/
inductive RepP (W : Wd) (L : List Addr) (B : Addr → Prop) (H : Hp) : List (D × Nat) → List V → List Addr → Prop
  | nil : RepP W L B H [] [] []
  | cons {d k v ps vs O O'} : Rep W L B H k d v O → RepP W L B H ps vs O' → RepP W L B H ((d, k) :: ps) (v :: vs) (O ++ O')
def PostP (W : Wd) (F : Addr → Prop) (L : List Addr) (H : Hp) (O : List Addr) (τ : L2.St) (ps : List (D × Nat)) (s' : Sta) (vs : List V) (H' : Hp) : Prop :=
  ∃ L' O' Ov, Stp L H O L' H' O' Ov ∧ Gd W L' (FU F Ov) H' s' τ O' ∧ RepP W L' (BB (FU F Ov) L' O') H' ps vs Ov ∧ Ov.Nodup ∧ ∀ a ∈ Ov, ¬ F a
def tP (W : Wd) (C : Cfg) (es : Es) : TA := fun τ H Q => ∃ F L s O, Gd W L F H s τ O ∧ ∃ ps s', evs C es s = .ok (ps, s') ∧ ∀ vs H', PostP W F L H O τ ps s' vs H' → Q vs H'
theorem PA.imp {es : List Expr} {t t' : TA} (h : PA X es t) (i : ∀ τ H Q, t' τ H Q → t τ H Q) : PA X es t' := ⟨fun p q s σ H Q I z => h.run p q s σ H Q I (i σ H Q z)⟩
theorem snd_nil : PA X [] (tP W C .nil) := by
  refine PA.imp pa_nil fun τ H Q ⟨F, L, s, O, g, ps, s', hr, q⟩ => ?_
  simp only [evs] at hr
  cases hr
  exact q _ _ ⟨L, O, [], .refl, g.weak fun a h => h.elim id (by simp), .nil, .nil, by simp⟩
theorem RepP.step {L F H O L' H' O' Ov} {s : Sta} {τ : L2.St} (g : Gd W L F H s τ O) (st : Stp L H O L' H' O' Ov) : ∀ {ps vs P}, RepP W L (BB F L O) H ps vs P → (∀ a ∈ P, F a) → RepP W L' (BB (FU F Ov) L' O') H' ps vs P
  | _, _, _, .nil, _ => .nil
  | _, _, _, .cons r h, hP => .cons (r.step g st fun a m => hP a (List.mem_append_left _ m)) (h.step g st fun a m => hP a (List.mem_append_right _ m))
theorem RepP.mono {L : List Addr} {B B' : Addr → Prop} {H : Hp} (hb : ∀ a, H a ≠ none → B' a → B a) : ∀ {ps vs O}, RepP W L B H ps vs O → RepP W L B' H ps vs O
  | _, _, _, .nil => .nil
  | _, _, _, .cons r h => .cons (r.mono hb) (h.mono hb)
theorem FU_assoc {F : Addr → Prop} {A B : List Addr} {a : Addr} : FU (FU F A) B a ↔ FU F (A ++ B) a := by
  unfold FU
  rw [List.mem_append, or_assoc]
theorem snd_cons {e : Expr} {es : List Expr} {m : E} {ms : Es} (he : PE X e (tE W C m)) (hs : PA X es (tP W C ms)) (hst : PySem.starEach (e :: es) X.env = (false, PySem.eval e X.env) :: PySem.starEach es X.env) : PA X (e :: es) (tP W C (.cons m ms)) := by
  refine PA.imp (pa_cons he hs hst) fun τ H Q ⟨F, L, s, O, g, ps, s', hr, q⟩ => ?_
  simp only [evs] at hr
  obtain ⟨⟨⟨d, k⟩, s1⟩, h1, hr⟩ := bind_ok hr
  obtain ⟨⟨ps2, s2⟩, h2, hr⟩ := bind_ok hr
  cases hr
  refine ⟨F, L, s, O, g, _, h1, fun v H1 ⟨L1, O1, Ov, p⟩ => ?_⟩
  refine ⟨FU F Ov, L1, s1, O1, p.g, ps2, s2, h2, fun vs H2 ⟨L2, O2, Ov2, st, g2, r2, nd, ap⟩ => ?_⟩
  refine q _ _ ⟨L2, O2, Ov ++ Ov2, p.st.trans st (fun x m => List.mem_append.mp m), g2.weak fun a h => FU_assoc.mpr h, .cons ?_ ?_, ?_, ?_⟩
  · exact (p.r.step p.g st fun a m => .inr m).mono fun a _ b => b.elim (fun z => .inl (FU_assoc.mpr z)) .inr
  · exact r2.mono fun a _ b => b.elim (fun z => .inl (FU_assoc.mpr z)) .inr
  · exact List.nodup_append.mpr ⟨p.nd, nd, fun a ha b hb e => ap b hb (by subst e; exact .inr ha)⟩
  · intro a m f
    rcases List.mem_append.mp m with m | m
    · exact p.ap a m f
    · exact ap a m (.inl f)
theorem RepP.frz {L : List Addr} {B B' : Addr → Prop} {H : Hp} (hb : ∀ a, B' a → B a) : ∀ {ps vs O}, RepP W L B H ps vs O → (∀ a ∈ O, ¬ B' a) → Reps W L B' H 0 (ps.map Prod.fst) vs []
  | _, _, _, .nil, _ => .nil 0
  | _, _, _, .cons r h, hO => .cons (r.frz hb fun a m => hO a (List.mem_append_left _ m)) (h.frz hb fun a m => hO a (List.mem_append_right _ m))
theorem RepP.length {L : List Addr} {B : Addr → Prop} {H : Hp} : ∀ {ps vs O}, RepP W L B H ps vs O → ps.length = vs.length
  | _, _, _, .nil => rfl
  | _, _, _, .cons r h => by simp [h.length]
/-- frozen behind the temporaries' end -/
theorem PostP.fz {F L H O τ ps s' vs H'} (h : PostP W F L H O τ ps s' vs H') : ∃ L' O', PN' W F L H O τ s' L' H' O' ∧ Reps W L' (BB F L' O') H' 0 (ps.map Prod.fst) vs [] := by
  obtain ⟨L', O', Ov, st, g, r, nd, ap⟩ := h
  refine ⟨L', O', ⟨st.less fun a m => m.elim .inl fun m => by simp at m, g.weak fun a f => .inl f⟩, r.frz (fun a b => b.elim (fun z => .inl (.inl z)) .inr) fun a m b => ?_⟩
  rcases b with b | b | b
  · exact ap a m b
  · exact (g.ap a (.inr m)).1 b
  · exact (g.ap a (.inr m)).2 b
theorem snd_tup {es : List Expr} {ms : Es} {x1 : _} {pos : Pos} (h : PA X es (tP W C ms)) : PE X (.Tuple es x1 pos) (tE W C (.tup ms)) := by
  refine PE.imp (pe_tup h) fun τ H Q ⟨F, L, s, O, g, r, hr, q⟩ => ?_
  simp only [ev] at hr
  obtain ⟨⟨ps, s1⟩, h1, hr⟩ := bind_ok hr
  split at hr
  · rename_i hl
    cases hr
    refine ⟨F, L, s, O, g, ps, s1, h1, fun vs H1 hp => ?_⟩
    obtain ⟨L', O', pn, rs⟩ := hp.fz
    have hle := rs.length
    refine ⟨by rw [← hle, List.length_map, ← lim_eq]; exact hl, fun p hp => q _ _ (PostE.new pn (.tup hp rs))⟩
  · cases hr
/-- the depth that fits -/
theorem RepP.fit {k : Nat} {F F' : Addr → Prop} {L O : List Addr} {H : Hp} : ∀ {ps vs P}, RepP W L (BB F L O) H ps vs P → (∀ p ∈ ps, fits k p = true) → k ≠ 0 → Reps W L (BB F L O) H k (ps.map Prod.fst) vs P
  | _, _, _, .nil, _, _ => .nil k
  | _, _, _, @RepP.cons _ _ _ _ d k' v ps vs O O' r h, hf, hk => by
    have h1 := hf (d, k') (List.mem_cons_self ..)
    have h2 := h.fit (F' := F') (fun p m => hf p (List.mem_cons_of_mem _ m)) hk
    simp only [fits, Bool.or_eq_true, beq_iff_eq] at h1
    rcases h1 with (h1 | h1) | h1
    · exact absurd h1 hk
    · subst h1; exact .cons r h2
    · obtain ⟨r', e⟩ := r.flatK (k' := k) (L' := L) (B' := BB F L _) (H' := H) h1
      subst e
      exact .cons r' h2
/-- a new list of temporaries -/
theorem PE'.newK {F L H O τ L1 H1 O1 s1 ds vs k Ov p} (st : Stp L H O L1 H1 O1 Ov) (g : Gd W L1 (FU F Ov) H1 s1 τ O1) (rs : Reps W L1 (BB (FU F Ov) L1 O1) H1 k ds vs Ov) (nd : Ov.Nodup) (ap : ∀ a ∈ Ov, ¬ F a) (hp : H1 p = none) :
    PE' W F L H O τ (.lst ds, k + 1) s1 (.ref p) L1 (upd H1 p (.lst vs)) O1 (p :: Ov) := by
  have kp : Keep (fun _ => False) H1 (upd H1 p (.lst vs)) := Keep.upd hp
  have pL : p ∉ L1 := fun m => (g.thereL p m).1 hp
  have pO : p ∉ O1 := fun m => (g.sl.there p m).1 hp
  have pF : ¬ F p := fun f => g.ft p (.inl f) hp
  have pv : p ∉ Ov := fun m => g.ft p (.inr m) hp
  have hB : ∀ a, H1 a ≠ none → BB (FU F (p :: Ov)) L1 O1 a → BB (FU F Ov) L1 O1 a := fun a n b => by
    rcases b with (b | b) | b
    · exact .inl (.inl b)
    · rcases List.mem_cons.mp b with b | b
      · subst b; exact absurd hp n
      · exact .inl (.inr b)
    · exact .inr b
  refine ⟨?_, ?_, ?_, List.nodup_cons.mpr ⟨pv, nd⟩, fun a m => (List.mem_cons.mp m).elim (fun e => by subst e; exact pF) (ap a)⟩
  · have s2 : Stp L1 H1 O1 L1 (upd H1 p (.lst vs)) O1 [p] := ⟨List.prefix_refl _, fun _ h => .inl h, fun a m => m.elim .inl fun m => by simp at m; subst m; exact .inr hp, Keep.upd hp, fun a h => there_upd h⟩
    exact st.trans s2 fun x m => (List.mem_cons.mp m).elim (fun e => .inr (by simp [e])) .inl
  · refine ⟨g.sl.keep kp (fun _ f => f.elim) hB (fun _ _ e => e) fun _ _ f => f, (g.grow kp fun a h => there_upd h).mu, g.nd, fun a f => ?_, fun a f => ?_⟩
    · rcases f with f | f
      · exact g.ap a (.inl f)
      · rcases List.mem_cons.mp f with e | m
        · subst e; exact ⟨pL, pO⟩
        · exact g.ap a (.inr m)
    · rcases f with f | f
      · exact there_upd (g.ft a (.inl f))
      · rcases List.mem_cons.mp f with e | m
        · subst e; rw [upd_same]; simp
        · exact there_upd (g.ft a (.inr m))
  · exact .lstS upd_same (rs.keep kp (fun _ f => f.elim) hB (fun _ _ e => e) fun _ _ f => f)
theorem snd_lst {es : List Expr} {ms : Es} {k : Nat} {pos : Pos} (h : PA X es (tP W C ms)) : PE X (.List es pos) (tE W C (.lst k ms)) := by
  refine PE.imp (pe_lst h) fun τ H Q ⟨F, L, s, O, g, r, hr, q⟩ => ?_
  simp only [ev] at hr
  obtain ⟨⟨ps, s1⟩, h1, hr⟩ := bind_ok hr
  split at hr
  · rename_i hl
    cases hr
    refine ⟨F, L, s, O, g, ps, s1, h1, fun vs H1 hp => ?_⟩
    by_cases hk : k = 0
    · subst hk
      obtain ⟨L', O', pn, rs⟩ := hp.fz
      have hle := rs.length
      exact ⟨by rw [← hle, List.length_map, ← lim_eq]; exact hl.1, fun p hp => q _ _ (PostE.new pn (.lst hp rs))⟩
    · obtain ⟨L', O', Ov, st, g', r', nd, ap⟩ := hp
      have rs := r'.fit (F' := F) (fun p m => List.all_eq_true.mp hl.2 p m) hk
      have hle := rs.length
      exact ⟨by rw [← hle, List.length_map, ← lim_eq]; exact hl.1, fun p hp => q _ _ ⟨L', O', _, PE'.newK st g' rs nd ap hp⟩⟩
  · cases hr
end
end MP
end
-- MPSn5
section
set_option maxRecDepth 100000
set_option maxHeartbeats 1000000
/-! Subscripts, slices, fields, built-ins, isinstance. -/
namespace MP
open PySem (Addr Expr Stmt Str Pos)
open PySem.Spec
open L2
open PyProof.Rows hiding St
section
variable {W : Wd} {C : Cfg} {X : Cx}
theorem ixN_eq (n : Nat) (i : Int) : L2.ixN n i = MP.ixN n i := rfl
theorem Reps.get {L B H} : ∀ {k ds vs O} {j : Nat} {d : D}, Reps W L B H k ds vs O → ds[j]? = some d → ∃ v, vs[j]? = some v ∧ ∃ P, (∀ a ∈ P, a ∈ O) ∧ Rep W L B H k d v P
  | _, _, _, _, j, d, .nil k, e => by simp at e
  | _, _, _, _, 0, d, .cons h hs, e => by
    simp at e; subst e
    exact ⟨_, by simp, _, fun a m => List.mem_append_left _ m, h⟩
  | _, _, _, _, j + 1, d, .cons h hs, e => by
    obtain ⟨v, h1, P, h2, h3⟩ := Reps.get (j := j) (d := d) hs (by simpa using e)
    exact ⟨v, by simpa using h1, P, fun a m => List.mem_append_right _ (h2 a m), h3⟩
theorem Reps.get0 {L B H} {ds : List D} {vs : List V} {j : Nat} {d : D} (h : Reps W L B H 0 ds vs []) (e : ds[j]? = some d) : ∃ v, vs[j]? = some v ∧ Rep W L B H 0 d v [] := by
  obtain ⟨v, h1, P, h2, h3⟩ := h.get e
  have := h3.own0 rfl
  subst this
  exact ⟨v, h1, h3⟩
theorem Reps.atI {L B H} {ds : List D} {vs : List V} {i : Int} {d : D} (h : Reps W L B H 0 ds vs []) (e : atD ds i = some d) : ∃ v, L2.atI vs i = some v ∧ Rep W L B H 0 d v [] := by
  unfold atD at e
  split at e
  · rename_i j hj
    obtain ⟨v, h1, h2⟩ := h.get0 e
    refine ⟨v, ?_, h2⟩
    unfold L2.atI
    rw [ixN_eq, ← h.length, hj]
    exact h1
  · cases e
theorem plainIx {b : Expr} (h : ∀ lo hi st p, b ≠ .Slice lo hi st p) : PlainIx b := by
  intro o i
  cases b <;> first | rfl | exact absurd rfl (h _ _ _ _)
/-- what an index leads to -/
theorem rIx_of {L B H d x i e} {Q : VK} (h : Rep W L B H 0 d x []) (hn : nav d [i] = some e) (q : ∀ v, Rep W L B H 0 e v [] → Q v H) (hK : W.K = X.K) : (fun x y H Q => rIxL X.K x y H Q ∨ rIxT X.K x y H Q) x (.int i) H Q := by
  cases d <;> simp only [nav, reduceCtorEq] at hn
  · split at hn <;> (try cases hn; done)
    rename_i w hw
    cases hn
    obtain ⟨a, vs, rfl, ha, hs⟩ := h.tup_inv
    obtain ⟨v, h1, h2⟩ := hs.atI hw
    exact .inr ⟨a, vs, i, v, rfl, rfl, .inl (.inl ha), h1, q v h2⟩
  · split at hn <;> (try cases hn; done)
    rename_i w hw
    cases hn
    rcases h.lst_inv with ⟨_, _, a, vs, rfl, ha, hs⟩ | ⟨_, _, _, _, z, _⟩
    · obtain ⟨v, h1, h2⟩ := hs.atI hw
      exact .inl ⟨a, vs, i, v, rfl, rfl, .inl (.inl ha), h1, q v h2⟩
    · cases z
  · split at hn <;> (try cases hn; done)
    rename_i w hw
    cases hn
    obtain ⟨a, vs, rfl, ha, hs⟩ := h.fz_inv
    obtain ⟨v, h1, h2⟩ := hs.atI hw
    rw [hK] at ha
    exact .inl ⟨a, vs, i, v, rfl, rfl, ha, h1, q v h2⟩
/-- of what is shared -/
theorem rSh_of {L B H d x i e} {Q : VK} (h : Sh W L B H d x) (hn : nav d [i] = some e) (q : ∀ v, Rep W L B H 0 e v [] → Q v H) (hK : W.K = X.K) : (fun x y H Q => rIxL X.K x y H Q ∨ rIxT X.K x y H Q) x (.int i) H Q := by
  by_cases hd : ∃ ds, d = .lst ds
  · obtain ⟨ds, rfl⟩ := hd
    obtain ⟨a, vs, rfl, ha, hs⟩ := sh_lst h
    simp only [nav] at hn
    split at hn <;> (try cases hn; done)
    rename_i w hw
    cases hn
    obtain ⟨v, h1, h2⟩ := hs.atI hw
    exact .inl ⟨a, vs, i, v, rfl, rfl, .inl (.inl ha), h1, q v h2⟩
  · have r : Rep W L B H 0 d x [] := by
      cases d <;> first | exact h | exact absurd ⟨_, rfl⟩ hd
    exact rIx_of r hn q hK
theorem snd_ix {a b : Expr} {m n : E} {pos : Pos} (hK : W.K = X.K) (ha : PE X a (tE W C m)) (hb : PE X b (tE W C n)) (hp : ∀ lo hi st p, b ≠ .Slice lo hi st p) : PE X (.Subscript a b pos) (tE W C (.ix m n)) := by
  refine PE.imp (pe_ix (ix_list.or ix_tup) ha hb (plainIx hp)) fun τ H Q ⟨F, L, s, O, g, r, hr, q⟩ => ?_
  simp only [ev] at hr
  obtain ⟨⟨⟨d, k⟩, s1⟩, h1, hr⟩ := bind_ok hr
  obtain ⟨⟨⟨d2, k2⟩, s2⟩, h2, hr⟩ := bind_ok hr
  obtain ⟨j, hj, hr⟩ := bind_ok hr
  obtain ⟨e, he, hr⟩ := bind_ok hr
  cases hr
  have hj := ofO_ok hj
  cases d2 <;> simp only [toInt, reduceCtorEq] at hj
  cases hj
  refine ⟨F, L, s, O, g, _, h1, fun v H1 ⟨L1, O1, Ov, p⟩ => ?_⟩
  refine ⟨FU F Ov, L1, s1, O1, p.g, _, h2, fun u H2 ⟨L2, O2, Ov2, p2⟩ => ?_⟩
  have eu := vw_int p2.r
  subst eu
  have pn := p2.drop
  have r1 := p.r.step p.g pn.st fun a m => .inr m
  have gw : Gd W L2 F H2 s2 τ O2 := pn.g.weak fun a z => .inl z
  have r0 : Rep W L2 (BB F L2 O2) H2 0 d v [] := by
    refine r1.frz (fun a b => b.elim (fun z => .inl (.inl (.inl z))) .inr) fun a m b => ?_
    rcases b with b | b | b
    · exact p.ap a m b
    · exact (pn.g.ap a (.inr m)).1 b
    · exact (pn.g.ap a (.inr m)).2 b
  refine rIx_of r0 (ofO_ok he) (fun w hw => ?_) hK
  exact q w H2 ⟨L2, O2, [], PE'.flat (p.st.trans pn.st (by simp)) gw hw⟩
theorem toInts1 {d : D} {js : List Int} (h : toInts [d] = some js) : ∃ j, d = .int j ∧ js = [j] := by
  cases d <;> simp only [toInts, reduceCtorEq] at h
  cases h
  exact ⟨_, rfl, rfl⟩
/-- x[i], x a slot -/
theorem snd_pix {x : Expr} {b : Expr} {i : Nat} {n : E} {pos : Pos} (hK : W.K = X.K) (hx : PE X x (tVar i)) (hb : PE X b (tE W C n)) (hp : ∀ lo hi st p, b ≠ .Slice lo hi st p) : PE X (.Subscript x b pos) (tE W C (.pix i (.cons n .nil))) := by
  refine PE.imp (pe_ix (ix_list.or ix_tup) hx hb (plainIx hp)) fun τ H Q ⟨F, L, s, O, g, r, hr, q⟩ => ?_
  simp only [ev] at hr
  obtain ⟨⟨d0, k0⟩, h0, hr⟩ := bind_ok hr
  obtain ⟨⟨ps, s1⟩, h1, hr⟩ := bind_ok hr
  simp only [evs] at h1
  obtain ⟨⟨⟨d2, k2⟩, s2⟩, h2, h1⟩ := bind_ok h1
  cases h1
  obtain ⟨js, hj, hr⟩ := bind_ok hr
  obtain ⟨j, rfl, rfl⟩ := toInts1 (ofO_ok hj)
  obtain ⟨⟨d, k⟩, hd, hr⟩ := bind_ok hr
  have hd := get_ok hd
  obtain ⟨v, P, R, e1, _⟩ := g.slot (get_ok h0)
  refine ⟨v, e1, F, L, s, O, g, _, h2, fun u H2 ⟨L2, O2, Ov2, p2⟩ => ?_⟩
  have eu := vw_int p2.r
  subst eu
  have pn := p2.drop
  by_cases hl : ∃ l, d = .loc l
  · obtain ⟨l, rfl⟩ := hl
    simp only at hr
    obtain ⟨xs, hx1, hr⟩ := bind_ok hr
    obtain ⟨w, hw, hr⟩ := bind_ok hr
    cases hr
    have hx1 := ofO_ok hx1
    have hw := ofO_ok hw
    obtain ⟨v', P', R', e2, r2, _⟩ := pn.g.slot hd
    rw [e1] at e2
    cases e2
    cases r2 with
    | loc k hL =>
      obtain ⟨a', vs, m1, m2, m3, m4⟩ := pn.g.mu.at_ l xs hx1
      rw [hL] at m1
      cases m1
      have hm := hw
      unfold atD at hm
      split at hm
      · rename_i jj hjj
        have fl : flatK w = true := m4 w (List.mem_of_getElem? hm)
        obtain ⟨z, z1, z2⟩ := m3.atI hw
        refine .inl ⟨_, vs, _, z, rfl, rfl, .inl (.inl m2), z1, q z H2 ⟨L2, O2, [], PE'.flat pn.st pn.g (z2.flatK fl).1⟩⟩
      · cases hm
  · have hr2 : ((ofO (nav d [j])).bind fun d => MP.R.ok ((d, 0), if flatK d = true then s2 else s2.shr i)) = .ok r := by
      cases d <;> first | exact hr | exact absurd ⟨_, rfl⟩ hl
    obtain ⟨e, he, hr⟩ := bind_ok hr2
    cases hr
    have he := ofO_ok he
    by_cases fl : flatK e = true
    · obtain ⟨v', P', R', e2, r2, _⟩ := pn.g.slot hd
      rw [e1] at e2
      cases e2
      refine rIx_of r2.view he (fun w hw => q w H2 ⟨L2, O2, [], ?_⟩) hK
      rw [if_pos fl]
      exact PE'.flat pn.st pn.g (hw.flatK fl).1
    · obtain ⟨v', O', e2, sub, g', sh⟩ := pn.g.low1 hd
      rw [e1] at e2
      cases e2
      have pn' := pn.sub g' sub
      refine rSh_of sh he (fun w hw => q w H2 ⟨L2, O', [], ?_⟩) hK
      rw [if_neg fl]
      exact PE'.flat pn'.st g' hw
end
end MP
end
-- MPTup
section
set_option maxRecDepth 100000
set_option maxHeartbeats 1000000
/-! sum, max, min of a tuple of ints. -/
namespace MP
open PySem PySem.Spec PyProof.Rows L2
section
variable {prog : Program} {w : World} {A : Around} {E : Value → Shared → Prop} {s : Shared} {l : Addr} {its : List Value} {ns : List Int} {Q : Value → Shared → Prop}
theorem iter_intTup {xs : Array (Int × Tok)} {Q : Value → Shared → Prop} (hl : s.heap.IsTuple l (intItems xs))
    (h : ∀ s₂ : Shared, s₂ = { s with heap := s.heap.push { cls := .type "tuple_iterator", data := .fields #[.ref l, .int 0 0] } } →
      (s₂.heap.IsTupleIter s.heap.objs.size l 0 ∧ s₂.heap.IsTuple l (intItems xs)) → (∀ b ∈ [s.heap.objs.size, l], b < s₂.heap.objs.size) → l ≠ s.heap.objs.size → Q (.ref s.heap.objs.size) s₂) :
    wpAny (model prog w) A (pyIter (.ref l)) Q E s := by
  have hlt : l < s.heap.objs.size := by obtain ⟨_, e, _⟩ := id hl; exact Heap.lt_size e
  refine wpAny_pyIter_tuple hl (h _ rfl ⟨⟨_, Heap.get?_push_size _ rfl, rfl, rfl⟩, hl.push _⟩ (fun b hb => ?_) (Nat.ne_of_lt hlt))
  show b < (s.heap.push _).objs.size
  rw [Heap.size_push]
  rcases List.mem_cons.mp hb with rfl | hb
  · exact Nat.lt_succ_self _
  · rcases List.mem_cons.mp hb with rfl | hb
    · exact Nat.lt_succ_of_lt hlt
    · cases hb
theorem old_keptT {h' : Heap} (hk : ∀ b o, b ∉ [s.heap.objs.size] → (s.heap.push { cls := .type "tuple_iterator", data := .fields #[.ref l, .int 0 0] }).get? b = some o → h'.get? b = some o) :
    ∀ b o, s.heap.get? b = some o → h'.get? b = some o := fun b o e => by
  refine hk b o (fun hm => ?_) (Heap.get?_push_of_some _ e)
  rcases List.mem_cons.mp hm with e1 | hm
  · exact absurd (e1 ▸ Heap.lt_size e) (Nat.lt_irrefl _)
  · cases hm
theorem max_rawT (hh : A.handled = none) (hl : s.heap.IsTuple l its.toArray) (hi : IntsAre its ns) (hne : 0 < ns.length)
    (h : ∀ h' tk M t', (∀ b o, s.heap.get? b = some o → h'.get? b = some o) → M ∈ ns → (∀ a, a ∈ ns → a ≤ M) → Q (.int M t') { s with heap := h', toks := tk }) : wpAny (model prog w) A (call (.builtin "max") [.ref l]) Q E s := by
  obtain ⟨xs, e⟩ := hi.allInts.items
  have hn : numsOf (intItems xs).toList = ns := by rw [← e]; exact hi.numsOf
  rw [nums_intItems] at hn
  subst hn
  rw [e] at hl
  have hsz : 0 < xs.size := by simpa using hne
  refine call_max_walk (iter_intTup hl fun s₂ e st hfp hlI => ?_)
  subst e
  refine ⟨_, _, _, _, _, _, _, rfl, Walks.tuple (A := A.in1) hh _ l hlI (intItems xs), st, hfp, by simpa [intItems] using hsz, CmpOf.ints_gt (numAt xs) (fun _ _ => intItems_at), fun v h' tk hP hk => ?_⟩
  have hP : (intItems xs)[argBest (fun i j => decide (numAt xs i > numAt xs j)) (xs.size - 1)]? = some v := by simpa [intItems] using hP
  obtain ⟨t, rfl⟩ := intItems_at hP
  obtain ⟨h1, h2⟩ := argBest_gt (numAt xs) (xs.size - 1)
  refine h h' tk _ t (old_keptT hk) ?_ fun a ha => ?_
  · rw [numAt_eq]; exact PySem.getD_mem (by rw [List.length_map, Array.length_toList]; omega)
  · obtain ⟨j, hj, rfl⟩ := mem_getD ha
    rw [List.length_map, Array.length_toList] at hj
    rw [← numAt_eq]; exact h2 j (by omega)
theorem min_rawT (hh : A.handled = none) (hl : s.heap.IsTuple l its.toArray) (hi : IntsAre its ns) (hne : 0 < ns.length)
    (h : ∀ h' tk M t', (∀ b o, s.heap.get? b = some o → h'.get? b = some o) → M ∈ ns → (∀ a, a ∈ ns → M ≤ a) → Q (.int M t') { s with heap := h', toks := tk }) : wpAny (model prog w) A (call (.builtin "min") [.ref l]) Q E s := by
  obtain ⟨xs, e⟩ := hi.allInts.items
  have hn : numsOf (intItems xs).toList = ns := by rw [← e]; exact hi.numsOf
  rw [nums_intItems] at hn
  subst hn
  rw [e] at hl
  have hsz : 0 < xs.size := by simpa using hne
  refine call_min_walk (iter_intTup hl fun s₂ e st hfp hlI => ?_)
  subst e
  refine ⟨_, _, _, _, _, _, _, rfl, Walks.tuple (A := A.in1) hh _ l hlI (intItems xs), st, hfp, by simpa [intItems] using hsz, CmpOf.ints_lt (numAt xs) (fun _ _ => intItems_at), fun v h' tk hP hk => ?_⟩
  have hP : (intItems xs)[argBest (fun i j => decide (numAt xs i < numAt xs j)) (xs.size - 1)]? = some v := by simpa [intItems] using hP
  obtain ⟨t, rfl⟩ := intItems_at hP
  obtain ⟨h1, h2⟩ := argBest_lt (numAt xs) (xs.size - 1)
  refine h h' tk _ t (old_keptT hk) ?_ fun a ha => ?_
  · rw [numAt_eq]; exact PySem.getD_mem (by rw [List.length_map, Array.length_toList]; omega)
  · obtain ⟨j, hj, rfl⟩ := mem_getD ha
    rw [List.length_map, Array.length_toList] at hj
    rw [← numAt_eq]; exact h2 j (by omega)
theorem sum_rawT (hh : A.handled = none) (hl : s.heap.IsTuple l its.toArray) (hi : IntsAre its ns)
    (h : ∀ h' tk t', (∀ b o, s.heap.get? b = some o → h'.get? b = some o) → Q (.int ns.sum t') { s with heap := h', toks := tk }) : wpAny (model prog w) A (call (.builtin "sum") [.ref l]) Q E s := by
  obtain ⟨xs, e⟩ := hi.allInts.items
  have hn : numsOf (intItems xs).toList = ns := by rw [← e]; exact hi.numsOf
  rw [nums_intItems] at hn
  rw [e] at hl
  refine PySem.W.ktm_sumG hh hl fun h' tk t' hk => ?_
  have := h h' tk t' hk
  rw [preSum_eq, List.take_of_length_le (by simp), hn]; exact this
end
section
variable {X : Cx}
def rSumT (K : PySem.W.Frag) : List V → Hp → VK → Prop := fun vs H Q => ∃ (a : Addr) (ns : List Int), vs = [V.ref a] ∧ SqT K H a (ns.map V.int) ∧ Q (.int ns.sum) H
def rMaxT (K : PySem.W.Frag) : List V → Hp → VK → Prop := fun vs H Q => ∃ (a : Addr) (ns : List Int), vs = [V.ref a] ∧ SqT K H a (ns.map V.int) ∧ 0 < ns.length ∧ ∀ m, m ∈ ns → (∀ y, y ∈ ns → y ≤ m) → Q (.int m) H
def rMinT (K : PySem.W.Frag) : List V → Hp → VK → Prop := fun vs H Q => ∃ (a : Addr) (ns : List Int), vs = [V.ref a] ∧ SqT K H a (ns.map V.int) ∧ 0 < ns.length ∧ ∀ m, m ∈ ns → (∀ y, y ∈ ns → m ≤ y) → Q (.int m) H
theorem cr_sumT (hc : X.calm = true) : CallR X (.builtin "sum") (rSumT X.K) := by
  intro pins s σ H vs us Q I r h
  obtain ⟨a, ns, rfl, hs, q⟩ := h
  obtain ⟨its, rv, hl, _⟩ := I.tuple hs
  rw [Vals.ref1 r]
  exact sum_rawT (I.ok.hd hc) hl rv.ints fun h' tk t' hk => ⟨.int _, H, I.kept hk, ⟨_, rfl⟩, q⟩
theorem cr_maxT (hc : X.calm = true) : CallR X (.builtin "max") (rMaxT X.K) := by
  intro pins s σ H vs us Q I r h
  obtain ⟨a, ns, rfl, hs, hne, q⟩ := h
  obtain ⟨its, rv, hl, _⟩ := I.tuple hs
  rw [Vals.ref1 r]
  exact max_rawT (I.ok.hd hc) hl rv.ints hne fun h' tk m t' hk h1 h2 => ⟨.int _, H, I.kept hk, ⟨_, rfl⟩, q m h1 h2⟩
theorem cr_minT (hc : X.calm = true) : CallR X (.builtin "min") (rMinT X.K) := by
  intro pins s σ H vs us Q I r h
  obtain ⟨a, ns, rfl, hs, hne, q⟩ := h
  obtain ⟨its, rv, hl, _⟩ := I.tuple hs
  rw [Vals.ref1 r]
  exact min_rawT (I.ok.hd hc) hl rv.ints hne fun h' tk m t' hk h1 h2 => ⟨.int _, H, I.kept hk, ⟨_, rfl⟩, q m h1 h2⟩
end
end MP
end
-- MPSn6
section
set_option maxRecDepth 100000
set_option maxHeartbeats 1000000
/-! Slices, fields, built-ins, isinstance, list methods. -/
namespace MP
open PySem (Addr Expr Stmt Str Pos)
open PySem.Spec
open L2
open PyProof.Rows hiding St
section
variable {W : Wd} {C : Cfg} {X : Cx}
theorem PostO.hold {F L H O τ o s1 v H1} (h : PostO W F L H O τ o s1 v H1) : ∃ F1 L1 O1, Gd W L1 F1 H1 s1 τ O1 ∧
    ∀ {s2 L2 H2 O2}, PN' W F1 L1 H1 O1 τ s2 L2 H2 O2 → PN' W F L H O τ s2 L2 H2 O2 ∧ OI W L2 F H2 O2 τ o v := by
  cases o with
  | s i =>
    obtain ⟨e, L1, O1, p1⟩ := h
    exact ⟨F, L1, O1, p1.g, fun p2 => ⟨p1.trans p2, e⟩⟩
  | t d kk =>
    obtain ⟨L1, O1, Ov, p1⟩ := h
    refine ⟨FU F Ov, L1, O1, p1.g, fun p2 => ⟨⟨p1.st.trans p2.st (by simp), p2.g.weak fun a z => .inl z⟩, ?_⟩⟩
    have r := p1.r.step p1.g p2.st fun a m => .inr m
    refine r.frz (fun a b => b.elim (fun z => .inl (.inl (.inl z))) .inr) fun a m b => ?_
    rcases b with b | b | b
    · exact p1.ap a m b
    · exact (p2.g.ap a (.inr m)).1 b
    · exact (p2.g.ap a (.inr m)).2 b
def tPr (W : Wd) (C : Cfg) (es : Es) : TO := fun τ H Q => ∃ F L s O, Gd W L F H s τ O ∧ ∃ l s', prt C es s = .ok (l, s') ∧ ∀ H', PostN W F L H O τ s' H' → Q l H'
theorem PO.imp {e : Option Expr} {t t' : TO} (h : PO X e t) (i : ∀ τ H Q, t' τ H Q → t τ H Q) : PO X e t' := ⟨fun p s σ H Q I q => h.run p s σ H Q I (i σ H Q q)⟩
theorem snd_prt0 : PO X none (tPr W C .nil) := by
  refine PO.imp po_none fun τ H Q ⟨F, L, s, O, g, l, s', hr, q⟩ => ?_
  simp only [prt] at hr
  cases hr
  exact q H ⟨L, O, .refl g⟩
theorem snd_prt1 {e : Expr} {m : E} {ms : Es} (h : PE X e (tE W C m)) : PO X (some e) (tPr W C (.cons m ms)) := by
  refine PO.imp (po_some h) fun τ H Q ⟨F, L, s, O, g, l, s', hr, q⟩ => ?_
  simp only [prt] at hr
  obtain ⟨⟨⟨d, k⟩, s1⟩, h1, hr⟩ := bind_ok hr
  cases d <;> simp only [reduceCtorEq] at hr
  cases hr
  refine ⟨F, L, s, O, g, _, h1, fun v H' ⟨L', O', Ov, p⟩ => ?_⟩
  have e := vw_int p.r
  subst e
  exact ⟨_, rfl, q H' ⟨L', O', p.drop⟩⟩
theorem Reps.cons_inv {L B H k d ds vs O} (h : Reps W L B H k (d :: ds) vs O) : ∃ v vs' P P', vs = v :: vs' ∧ O = P ++ P' ∧ Rep W L B H k d v P ∧ Reps W L B H k ds vs' P' := by
  cases h with
  | cons r hs => exact ⟨_, _, _, _, rfl, rfl, r, hs⟩
theorem Reps.cons0 {L B H d ds vs} (h : Reps W L B H 0 (d :: ds) vs []) : ∃ v vs', vs = v :: vs' ∧ Rep W L B H 0 d v [] ∧ Reps W L B H 0 ds vs' [] := by
  obtain ⟨v, vs', P, P', rfl, e, r, hs⟩ := h.cons_inv
  have e1 := r.own0 rfl
  have e2 := hs.own0 rfl
  subst e1; subst e2
  exact ⟨v, vs', rfl, r, hs⟩
theorem Reps.mk0 {L B H d v ds vs} (r : Rep W L B H 0 d v []) (hs : Reps W L B H 0 ds vs []) : Reps W L B H 0 (d :: ds) (v :: vs) [] := .cons r hs
theorem Reps.drop0 {L B H} : ∀ {ds : List D} {vs : List V} (n : Nat), Reps W L B H 0 ds vs [] → Reps W L B H 0 (ds.drop n) (vs.drop n) []
  | _, _, 0, h => h
  | [], vs, n + 1, h => by have := h.nil_inv; subst this; exact .nil 0
  | d :: ds, vs, n + 1, h => by
    obtain ⟨v, vs', rfl, r, hs⟩ := h.cons0
    exact Reps.drop0 n hs
theorem Reps.take0 {L B H} : ∀ {ds : List D} {vs : List V} (n : Nat), Reps W L B H 0 ds vs [] → Reps W L B H 0 (ds.take n) (vs.take n) []
  | _, _, 0, h => .nil 0
  | [], vs, n + 1, h => by have := h.nil_inv; subst this; exact .nil 0
  | d :: ds, vs, n + 1, h => by
    obtain ⟨v, vs', rfl, r, hs⟩ := h.cons0
    exact .mk0 r (Reps.take0 n hs)
theorem Reps.rev0 {L B H} : ∀ {ds : List D} {vs : List V}, Reps W L B H 0 ds vs [] → Reps W L B H 0 ds.reverse vs.reverse []
  | [], vs, h => by have := h.nil_inv; subst this; exact .nil 0
  | d :: ds, vs, h => by
    obtain ⟨v, vs', rfl, r, hs⟩ := h.cons0
    rw [List.reverse_cons, List.reverse_cons]
    exact (Reps.rev0 hs).append0 (.mk0 r (.nil 0))
theorem sIx_eq (n d : Nat) (o : Option Int) : HT.sIx n d o = MP.sIx n d o := by cases o <;> rfl
theorem Reps.cut0 {L B H} {ds : List D} {vs : List V} (lo hi : Option Int) (h : Reps W L B H 0 ds vs []) : Reps W L B H 0 (cutD ds lo hi) (cutV vs lo hi) [] := by
  unfold cutD cutV
  rw [sIx_eq, sIx_eq, ← h.length]
  exact (h.drop0 _).take0 _
theorem cut_all {α : Type} (xs : List α) (lo hi : Nat) (h1 : lo = 0) (h2 : hi = xs.length) : (xs.drop lo).take (hi - lo) = xs := by
  subst h1; subst h2; simp
/-- what a slice gives -/
def slD : D → Option Int → Option Int → Option (D × Nat)
  | .lst xs, l, h => some (.lst (cutD xs l h), 1)
  | .fz xs, l, h => some (.lst (cutD xs l h), 1)
  | .tup xs, l, h => some (.tup (cutD xs l h), 0)
  | _, _, _ => none
def rSl (W : Wd) : V → Option Int → Option Int → Hp → VK → Prop := fun x lo hi H Q => ∃ L B d r, Sh W L B H d x ∧ slD d lo hi = some r ∧ ∀ v H', NewD W L B H r v H' → Q v H'
theorem SlR.imp {r r' : V → Option Int → Option Int → Hp → VK → Prop} (h : SlR X r) (i : ∀ x lo hi H Q, r' x lo hi H Q → r x lo hi H Q) : SlR X r' :=
  fun pins s σ H x v vl vu lo hi sl Q I rx hs pl pu q => h pins s σ H x v vl vu lo hi sl Q I rx hs pl pu (i x lo hi H Q q)
theorem sl_all (hK : W.K = X.K) : SlR X (rSl W) := by
  refine SlR.imp (sl_list.or sl_tupA) fun x lo hi H Q ⟨L, B, d, r, h, e, q⟩ => ?_
  cases d <;> simp only [slD, reduceCtorEq] at e
  · cases e
    obtain ⟨a, vs, rfl, ha, hs⟩ := sh_tup h
    refine .inr ⟨a, vs, rfl, .inl (.inl ha), fun z => ?_, fun z p hp => q _ _ (.tup hp (hs.cut0 lo hi))⟩
    have ec : cutD _ lo hi = _ := cut_all _ _ _ (by rw [← sIx_eq]; rw [hs.length]; exact z.1) (by rw [← sIx_eq]; rw [hs.length]; exact z.2)
    rw [ec] at q
    exact q _ _ (.same 0 (.tup ha hs) (.inl rfl))
  · cases e
    obtain ⟨a, vs, rfl, ha, hs⟩ := sh_lst h
    exact .inl ⟨a, vs, rfl, .inl (.inl ha), fun p hp => q _ _ (.lst hp (hs.cut0 lo hi))⟩
  · cases e
    obtain ⟨a, vs, rfl, ha, hs⟩ := Rep.fz_inv h
    rw [hK] at ha
    exact .inl ⟨a, vs, rfl, ha, fun p hp => q _ _ (.lst hp (hs.cut0 lo hi))⟩
theorem snd_sl {a : Expr} {m : E} {lo hi : Option Expr} {ml mh : Es} {p2 pos : Pos} (hK : W.K = X.K) (ha : PE X a (tO W C m)) (hl : PO X lo (tPr W C ml)) (hh : PO X hi (tPr W C mh)) : PE X (.Subscript a (.Slice lo hi none p2) pos) (tE W C (.sl m ml mh)) := by
  refine PE.imp (pe_slice (sl_all hK) ha hl hh) fun τ H Q ⟨F, L, s, O, g, r, hr, q⟩ => ?_
  simp only [ev] at hr
  obtain ⟨⟨p, s1⟩, h1, hr⟩ := bind_ok hr
  obtain ⟨⟨l, s2⟩, h2, hr⟩ := bind_ok hr
  obtain ⟨⟨h, s3⟩, h3, hr⟩ := bind_ok hr
  obtain ⟨d, hd, hr⟩ := bind_ok hr
  have hr' : ∃ r', slD d l h = some r' ∧ r = (r', p.share s3) := by
    cases d <;> simp only [reduceCtorEq] at hr <;> cases hr <;> exact ⟨_, rfl, rfl⟩
  obtain ⟨r', e1, rfl⟩ := hr'
  refine ⟨F, L, s, O, g, p, s1, h1, fun v H1 hv => ?_⟩
  obtain ⟨F1, L1, O1, g1, k⟩ := hv.hold
  refine ⟨F1, L1, s1, O1, g1, l, s2, h2, fun H2 ⟨L2, O2, pn2⟩ => ?_⟩
  refine ⟨F1, L2, s2, O2, pn2.g, h, s3, h3, fun H3 ⟨L3, O3, pn3⟩ => ?_⟩
  obtain ⟨pn, oi⟩ := k (pn2.trans pn3)
  obtain ⟨O4, sub, g4, sh⟩ := oi.share pn.g hd
  exact ⟨L3, BB F L3 O4, d, r', sh, e1, fun w H' nw => q w H' (PostE.new (pn.sub g4 sub) nw)⟩

/-! ### built-ins of one argument -/
theorem CallR.imp {f : PySem.Value} {r r' : List V → Hp → VK → Prop} (h : CallR X f r) (i : ∀ xs H Q, r' xs H Q → r xs H Q) : CallR X f r' :=
  fun pins s σ H vs us Q I rv q => h pins s σ H vs us Q I rv (i vs H Q q)
/-- one written argument, an operand -/
theorem one_arg {a : Expr} {m : E} (ha : PE X a (tO W C m)) (hst : PySem.starEach [a] X.env = [(false, PySem.eval a X.env)]) : PA X [a] (tCons (tO W C m) tNil) := pa_cons ha pa_nil hst
theorem vw_ints {L B H} : ∀ {ds : List D} {vs : List V} {is : List Int}, Reps W L B H 0 ds vs [] → toInts ds = some is → vs = is.map V.int
  | [], vs, is, h, e => by cases e; exact h.nil_inv
  | d :: ds, vs, is, h, e => by
    obtain ⟨v, vs', rfl, r, hs⟩ := h.cons0
    cases d <;> simp only [toInts, reduceCtorEq] at e
    split at e <;> cases e
    rename_i js hj
    rw [vw_int r, vw_ints hs hj]
    rfl
theorem vw_bls {L B H} : ∀ {ds : List D} {vs : List V} {is : List Bool}, Reps W L B H 0 ds vs [] → toBls ds = some is → vs = is.map V.bl
  | [], vs, is, h, e => by cases e; exact h.nil_inv
  | d :: ds, vs, is, h, e => by
    obtain ⟨v, vs', rfl, r, hs⟩ := h.cons0
    cases d <;> simp only [toBls, reduceCtorEq] at e
    split at e <;> cases e
    rename_i js hj
    rw [vw_bl r, vw_bls hs hj]
    rfl
theorem foldmax_spec : ∀ (xs : List Int) (a : Int), (xs.foldl (fun a b => if a < b then b else a) a = a ∨ xs.foldl (fun a b => if a < b then b else a) a ∈ xs) ∧ a ≤ xs.foldl (fun a b => if a < b then b else a) a ∧ ∀ y ∈ xs, y ≤ xs.foldl (fun a b => if a < b then b else a) a
  | [], a => ⟨.inl rfl, Int.le_refl _, by simp⟩
  | x :: xs, a => by
    obtain ⟨h1, h2, h3⟩ := foldmax_spec xs (if a < x then x else a)
    refine ⟨?_, ?_, ?_⟩
    · show xs.foldl _ _ = a ∨ xs.foldl _ _ ∈ x :: xs
      rcases h1 with h1 | h1
      · rw [h1]; split <;> simp
      · exact .inr (List.mem_cons_of_mem _ h1)
    · refine Int.le_trans ?_ h2; split <;> omega
    · intro y hy
      rcases List.mem_cons.mp hy with e | hy
      · subst e; refine Int.le_trans ?_ h2; split <;> omega
      · exact h3 y hy
theorem foldmin_spec : ∀ (xs : List Int) (a : Int), (xs.foldl (fun a b => if b < a then b else a) a = a ∨ xs.foldl (fun a b => if b < a then b else a) a ∈ xs) ∧ xs.foldl (fun a b => if b < a then b else a) a ≤ a ∧ ∀ y ∈ xs, xs.foldl (fun a b => if b < a then b else a) a ≤ y
  | [], a => ⟨.inl rfl, Int.le_refl _, by simp⟩
  | x :: xs, a => by
    obtain ⟨h1, h2, h3⟩ := foldmin_spec xs (if x < a then x else a)
    refine ⟨?_, ?_, ?_⟩
    · show xs.foldl _ _ = a ∨ xs.foldl _ _ ∈ x :: xs
      rcases h1 with h1 | h1
      · rw [h1]; split <;> simp
      · exact .inr (List.mem_cons_of_mem _ h1)
    · refine Int.le_trans h2 ?_; split <;> omega
    · intro y hy
      rcases List.mem_cons.mp hy with e | hy
      · subst e; refine Int.le_trans h2 ?_; split <;> omega
      · exact h3 y hy
theorem listMax_spec {xs : List Int} {m : Int} (h : listMax xs = some m) : 0 < xs.length ∧ ∀ m', m' ∈ xs → (∀ y, y ∈ xs → y ≤ m') → m' = m := by
  cases xs with
  | nil => cases h
  | cons x xs =>
    cases h
    obtain ⟨h1, h2, h3⟩ := foldmax_spec xs x
    refine ⟨by simp, fun m' hm hy => ?_⟩
    have : xs.foldl (fun a b => if a < b then b else a) x ∈ x :: xs := h1.elim (fun e => by rw [e]; simp) (List.mem_cons_of_mem _)
    have a1 := hy _ this
    rcases List.mem_cons.mp hm with e | hm
    · subst e; omega
    · have := h3 _ hm; omega
theorem listMin_spec {xs : List Int} {m : Int} (h : listMin xs = some m) : 0 < xs.length ∧ ∀ m', m' ∈ xs → (∀ y, y ∈ xs → m' ≤ y) → m' = m := by
  cases xs with
  | nil => cases h
  | cons x xs =>
    cases h
    obtain ⟨h1, h2, h3⟩ := foldmin_spec xs x
    refine ⟨by simp, fun m' hm hy => ?_⟩
    have : xs.foldl (fun a b => if b < a then b else a) x ∈ x :: xs := h1.elim (fun e => by rw [e]; simp) (List.mem_cons_of_mem _)
    have a1 := hy _ this
    rcases List.mem_cons.mp hm with e | hm
    · subst e; omega
    · have := h3 _ hm; omega
/-- the result of a reading built-in -/
def flatV' : D → Option V
  | .non => some .non | .bl b => some (.bl b) | .int i => some (.int i) | .str s => some (.str s) | _ => none
theorem flatV_rep {L B H k d v} (h : flatV' d = some v) : Rep W L B H k d v [] := by
  cases d <;> simp only [flatV', reduceCtorEq] at h <;> cases h <;> constructor
def rB1 (W : Wd) (rp : D → Option Str) (op : B1) : List V → Hp → VK → Prop := fun xs H Q => ∃ x L d r, xs = [x] ∧ Rep W L no H 0 d x [] ∧ b1D rp op d = some r ∧ ∀ v, flatV' r = some v → Q v H
theorem seq_view {L H d x xs} (h : Rep W L no H 0 d x []) (e : seqD d = some xs) : ∃ a vs, x = .ref a ∧ (SqL W.K H a vs ∨ SqT W.K H a vs) ∧ Reps W L no H 0 xs vs [] := by
  cases d <;> simp only [seqD, reduceCtorEq] at e <;> cases e
  · obtain ⟨a, vs, rfl, ha, hs⟩ := h.tup_inv
    exact ⟨a, vs, rfl, .inr (.inl (.inl ha)), hs⟩
  · rcases h.lst_inv with ⟨_, _, a, vs, rfl, ha, hs⟩ | ⟨_, _, _, _, z, _⟩
    · exact ⟨a, vs, rfl, .inl (.inl (.inl ha)), hs⟩
    · cases z
  · obtain ⟨a, vs, rfl, ha, hs⟩ := h.fz_inv
    exact ⟨a, vs, rfl, .inl ha, hs⟩
theorem lst_view {L H ds x} (h : Rep W L no H 0 (.lst ds) x []) : ∃ a vs, x = .ref a ∧ SqL W.K H a vs ∧ Reps W L no H 0 ds vs [] := by
  obtain ⟨a, vs, h1, h2, h3⟩ := Sh.of h
  exact ⟨a, vs, h1, .inl (.inl h2), h3⟩
theorem CallR.or {f : PySem.Value} {r r' : List V → Hp → VK → Prop} (h : CallR X f r) (h' : CallR X f r') : CallR X f (fun xs H Q => r xs H Q ∨ r' xs H Q) :=
  fun pins s σ H vs us Q I rv z => z.elim (h pins s σ H vs us Q I rv) (h' pins s σ H vs us Q I rv)
theorem cb_len {rp} (hK : W.K = X.K) : CallR X (.builtin "len") (rB1 W rp .len) := by
  refine CallR.imp call_len_seq fun xs H Q ⟨x, L, d, r, e, h, hb, q⟩ => ?_
  subst e
  simp only [b1D, Option.map_eq_some_iff] at hb
  obtain ⟨ds, h1, rfl⟩ := hb
  obtain ⟨a, vs, rfl, hs, hr⟩ := seq_view h h1
  rw [hK] at hs
  exact ⟨a, vs, rfl, hs, q _ (by rw [hr.length]; rfl)⟩
theorem cb_sum {rp} (hK : W.K = X.K) (hc : X.calm = true) : CallR X (.builtin "sum") (rB1 W rp .sum) := by
  refine CallR.imp (CallR.or (cr_sumT hc) (cr_sum hc)) fun xs H Q ⟨x, L, d, r, e, h, hb, q⟩ => ?_
  subst e
  cases d <;> simp only [b1D, reduceCtorEq, Option.map_eq_some_iff] at hb
  · obtain ⟨is, h1, rfl⟩ := hb
    obtain ⟨a, vs, rfl, hs, hr⟩ := h.tup_inv
    rw [vw_ints hr h1] at hs
    exact .inl ⟨a, is, rfl, .inl (.inl hs), q _ rfl⟩
  · obtain ⟨is, h1, rfl⟩ := hb
    obtain ⟨a, vs, rfl, hs, hr⟩ := lst_view h
    rw [hK, vw_ints hr h1] at hs
    exact .inr ⟨a, is, rfl, hs, q _ rfl⟩
theorem cb_max {rp} (hK : W.K = X.K) (hc : X.calm = true) : CallR X (.builtin "max") (rB1 W rp .max) := by
  refine CallR.imp (CallR.or (cr_maxT hc) (cr_max hc)) fun xs H Q ⟨x, L, d, r, e, h, hb, q⟩ => ?_
  subst e
  cases d <;> simp only [b1D, reduceCtorEq, Option.map_eq_some_iff, Option.bind_eq_some_iff] at hb
  · obtain ⟨m, ⟨is, h1, h2⟩, rfl⟩ := hb
    obtain ⟨a, vs, rfl, hs, hr⟩ := h.tup_inv
    rw [vw_ints hr h1] at hs
    obtain ⟨l, u⟩ := listMax_spec h2
    exact .inl ⟨a, is, rfl, .inl (.inl hs), l, fun m' h3 h4 => by rw [u m' h3 h4]; exact q _ rfl⟩
  · obtain ⟨m, ⟨is, h1, h2⟩, rfl⟩ := hb
    obtain ⟨a, vs, rfl, hs, hr⟩ := lst_view h
    rw [hK, vw_ints hr h1] at hs
    obtain ⟨l, u⟩ := listMax_spec h2
    exact .inr ⟨a, is, rfl, hs, l, fun m' h3 h4 => by rw [u m' h3 h4]; exact q _ rfl⟩
theorem cb_min {rp} (hK : W.K = X.K) (hc : X.calm = true) : CallR X (.builtin "min") (rB1 W rp .min) := by
  refine CallR.imp (CallR.or (cr_minT hc) (cr_min hc)) fun xs H Q ⟨x, L, d, r, e, h, hb, q⟩ => ?_
  subst e
  cases d <;> simp only [b1D, reduceCtorEq, Option.map_eq_some_iff, Option.bind_eq_some_iff] at hb
  · obtain ⟨m, ⟨is, h1, h2⟩, rfl⟩ := hb
    obtain ⟨a, vs, rfl, hs, hr⟩ := h.tup_inv
    rw [vw_ints hr h1] at hs
    obtain ⟨l, u⟩ := listMin_spec h2
    exact .inl ⟨a, is, rfl, .inl (.inl hs), l, fun m' h3 h4 => by rw [u m' h3 h4]; exact q _ rfl⟩
  · obtain ⟨m, ⟨is, h1, h2⟩, rfl⟩ := hb
    obtain ⟨a, vs, rfl, hs, hr⟩ := lst_view h
    rw [hK, vw_ints hr h1] at hs
    obtain ⟨l, u⟩ := listMin_spec h2
    exact .inr ⟨a, is, rfl, hs, l, fun m' h3 h4 => by rw [u m' h3 h4]; exact q _ rfl⟩
theorem cb_all {rp} (hK : W.K = X.K) (hc : X.calm = true) : CallR X (.builtin "all") (rB1 W rp .all) := by
  refine CallR.imp (cr_all hc) fun xs H Q ⟨x, L, d, r, e, h, hb, q⟩ => ?_
  subst e
  cases d <;> simp only [b1D, reduceCtorEq, Option.map_eq_some_iff] at hb
  obtain ⟨is, h1, rfl⟩ := hb
  obtain ⟨a, vs, rfl, hs, hr⟩ := lst_view h
  rw [hK, vw_bls hr h1] at hs
  exact ⟨a, is, rfl, hs, q _ rfl⟩
theorem cb_any {rp} (hK : W.K = X.K) (hc : X.calm = true) : CallR X (.builtin "any") (rB1 W rp .any) := by
  refine CallR.imp (cr_any hc) fun xs H Q ⟨x, L, d, r, e, h, hb, q⟩ => ?_
  subst e
  cases d <;> simp only [b1D, reduceCtorEq, Option.map_eq_some_iff] at hb
  obtain ⟨is, h1, rfl⟩ := hb
  obtain ⟨a, vs, rfl, hs, hr⟩ := lst_view h
  rw [hK, vw_bls hr h1] at hs
  exact ⟨a, is, rfl, hs, q _ rfl⟩
theorem cb_abs {rp} : CallR X (.builtin "abs") (rB1 W rp .abs) := by
  refine CallR.imp call_abs fun xs H Q ⟨x, L, d, r, e, h, hb, q⟩ => ?_
  subst e
  cases d <;> simp only [b1D, reduceCtorEq] at hb
  cases hb
  rw [vw_int h]
  exact ⟨_, rfl, q _ rfl⟩
theorem cb_int {rp} : CallR X (.type "int") (rB1 W rp .int) := by
  refine CallR.imp call_int1 fun xs H Q ⟨x, L, d, r, e, h, hb, q⟩ => ?_
  subst e
  cases d <;> simp only [b1D, reduceCtorEq] at hb <;> cases hb
  · rw [vw_bl h]
    exact .inr ⟨_, rfl, q _ rfl⟩
  · rw [vw_int h]
    exact .inl ⟨_, rfl, q _ rfl⟩
mutual
theorem Rep.dp {L : List Addr} {B : Addr → Prop} {H : Hp} {K : PySem.W.Frag} : ∀ {k d v O}, Rep W L B H k d v O → (toPy d).canLay0 = true → Dp K H v (toPy d)
  | _, _, _, _, .non k, _ => .non
  | _, _, _, _, .bl k b, _ => .bl b
  | _, _, _, _, .int k b, _ => .int b
  | _, _, _, _, .str k b, _ => .str b
  | _, _, _, _, .junk k b, z => by simp [toPy, PySem.PyData.canLay0] at z
  | _, _, _, _, .loc k h, z => by simp [toPy, PySem.PyData.canLay0] at z
  | _, _, _, _, .lst0 h n hs, z => .lst (.inl (.inl h)) (Reps.dp hs (by simpa [toPy, PySem.PyData.canLay0] using z))
  | _, _, _, _, .fz k h hs, z => by simp [toPy, PySem.PyData.canLay0] at z
  | _, _, _, _, .ins0 o h n e l hs, z => by simp [toPy, PySem.PyData.canLay0] at z
  | _, _, _, _, .insS o h e l hs, z => by simp [toPy, PySem.PyData.canLay0] at z
  | _, _, _, _, .dct0 h n e l hs, z => by simp [toPy, PySem.PyData.canLay0] at z
  | _, _, _, _, .dctS h e l hs, z => by simp [toPy, PySem.PyData.canLay0] at z
  | _, _, _, _, .tup h hs, z => .tup (.inl (.inl h)) (Reps.dp hs (by simpa [toPy, PySem.PyData.canLay0] using z))
  | _, _, _, _, .lstS h hs, z => .lst (.inl (.inl h)) (Reps.dp hs (by simpa [toPy, PySem.PyData.canLay0] using z))
theorem Reps.dp {L : List Addr} {B : Addr → Prop} {H : Hp} {K : PySem.W.Frag} : ∀ {k ds vs O}, Reps W L B H k ds vs O → PySem.PyData.canLayAll0 (toPys ds) = true → DpAll K H vs (toPys ds)
  | _, _, _, _, .nil k, _ => .nil
  | _, _, _, _, .cons h hs, z => by
    simp only [toPys, PySem.PyData.canLayAll0, Bool.and_eq_true] at z
    exact .cons (Rep.dp h z.1) (Reps.dp hs z.2)
end
theorem vals1' {x : V} {us : List PySem.Value} (r : Vals [x] us) : ∃ u, us = [u] ∧ RelV x u := by
  cases r with
  | cons h t => cases t; exact ⟨_, rfl, h⟩
theorem log_small {i : Int} (h : small64 i = true) : i.natAbs.log2 < 1920 := by
  have h2 := small64_iff h
  have : i.natAbs < 2 ^ 64 := by omega
  by_cases z : i.natAbs = 0
  · rw [z]; decide
  · have := (Nat.log2_lt z).mpr this
    omega
theorem cb_repr {rp} (hg : X.A.guards = some []) (hu : X.A.units + 80 < PySem.cLine) : CallR X (.builtin "repr") (rB1 W rp .repr) := by
  intro pins s σ H xs us Q I r ⟨x, L, d, z, e, h, hb, q⟩
  subst e
  obtain ⟨u, rfl, ru⟩ := vals1' r
  have shw : ∀ {d : D}, Rep W L no H 0 d x [] → okShow d = true → (∃ xs, d = .lst xs ∨ d = .tup xs) → (∀ w, flatV' (.str (toPy d).shown) = some w → Q w H) → PySem.wpAny (PySem.model X.prog X.w) X.A (PySem.call (.builtin "repr") [u]) (EP X pins σ Q) X.xe s := by
    intro d h ho hd q
    simp only [okShow, Bool.and_eq_true, Bool.not_eq_true', decide_eq_true_eq] at ho
    obtain ⟨h1, h2, h3, h4, h5⟩ := ho
    obtain ⟨as, r1⟩ := Dp.reads I (toPy d) x u (h.dp h1) ru
    obtain ⟨a, rfl⟩ := isRef_of_reads r1 (by obtain ⟨xs, rfl | rfl⟩ := hd <;> rfl)
    exact PySem.repr_of_reads' r1 h2 (PySem.PyData.noDict_hsm h3) hg (by omega) (fun _ _ e => e) (fun h' u tk hk => ⟨.str _, H, I.call (t' := tk) (ch := []) (Un.kept hk) (I.hok.kept hk) I.bare (fun b z => absurd z (by simp)), ⟨u, rfl⟩, q _ rfl⟩) h5
  cases d <;> simp only [b1D, reduceCtorEq] at hb
  · cases hb
    have ex := vw_bl h
    subst ex
    obtain rfl := ru
    exact PySem.P.repr_of_bool ⟨.str _, H, I.tok _, ⟨_, rfl⟩, q _ rfl⟩
  · split at hb
    · rename_i hs
      cases hb
      have ex := vw_int h
      subst ex
      exact SkE.call_repr_int pins s σ H _ _ Q I r ⟨_, rfl, log_small hs, q _ rfl⟩
    · cases hb
  · split at hb
    · rename_i hs
      cases hb
      exact shw h hs ⟨_, .inr rfl⟩ q
    · cases hb
  · split at hb
    · rename_i hs
      cases hb
      exact shw h hs ⟨_, .inl rfl⟩ q
    · cases hb
theorem b1_flat {rp op d r} (h : b1D rp op d = some r) (hop : op ≠ .list ∧ op ≠ .tuple ∧ op ≠ .sorted) : ∃ v, flatV' r = some v := by
  cases op <;> first | (exact absurd rfl hop.1) | (exact absurd rfl hop.2.1) | (exact absurd rfl hop.2.2) | skip
  all_goals (cases d <;> simp only [b1D, reduceCtorEq, Option.map_eq_some_iff] at h)
  all_goals first
    | (obtain ⟨z, _, rfl⟩ := h; exact ⟨_, rfl⟩)
    | (cases h; exact ⟨_, rfl⟩)
    | (split at h <;> cases h; exact ⟨_, rfl⟩)
/-- a reading built-in -/
theorem snd_b1 {e a : Expr} {m : E} {op : B1} {t : TA → TE} (hop : op ≠ .list ∧ op ≠ .tuple ∧ op ≠ .sorted) (hp : PE X e (tCB (rB1 W C.rp op) (tCons (tO W C m) tNil))) : PE X e (tE W C (.b1 op m)) := by
  refine PE.imp hp fun τ H Q ⟨F, L, s, O, g, r, hr, q⟩ => ?_
  simp only [ev] at hr
  obtain ⟨⟨p, s1⟩, h1, hr⟩ := bind_ok hr
  obtain ⟨d, hd, hr⟩ := bind_ok hr
  obtain ⟨z, hz, hr⟩ := bind_ok hr
  have hz := ofO_ok hz
  have er : r = ((z, 0), s1) := by
    cases op <;> first | (exact absurd rfl hop.1) | (exact absurd rfl hop.2.1) | (exact absurd rfl hop.2.2) | (cases hr; rfl)
  subst er
  refine ⟨F, L, s, O, g, p, s1, h1, fun v H1 hv => ?_⟩
  obtain ⟨F1, L1, O1, g1, k⟩ := hv.hold
  obtain ⟨pn, oi⟩ := k (.refl g1)
  exact ⟨v, L1, d, z, rfl, oi.view pn.g hd, hz, fun w hw => q w H1 ⟨L1, O1, [], PE'.flat pn.st pn.g (flatV_rep hw)⟩⟩
end
end MP
end
-- MPSn7
section
set_option maxRecDepth 100000
set_option maxHeartbeats 1000000
/-! list(), tuple(), two arguments, isinstance, list methods. -/
namespace MP
open PySem (Addr Expr Stmt Str Pos)
open PySem.Spec
open L2
open PyProof.Rows hiding St
section
variable {W : Wd} {C : Cfg} {X : Cx}
/-- a temporary list's children by themselves -/
theorem PE'.kids {F L H O τ s' v L' H' O' Ov ds k} (p : PE' W F L H O τ (.lst ds, k) s' v L' H' O' Ov) (hk : k ≠ 0) :
    ∃ k' a vs Oc, k = k' + 1 ∧ v = .ref a ∧ H' a = some (.lst vs) ∧ Stp L H O L' H' O' Oc ∧ Gd W L' (FU F Oc) H' s' τ O' ∧ Reps W L' (BB (FU F Oc) L' O') H' k' ds vs Oc ∧ Oc.Nodup ∧ ∀ a ∈ Oc, ¬ F a := by
  rcases Rep.lst_inv (show Rep W L' (BB (FU F Ov) L' O') H' k (.lst ds) v Ov from p.r) with ⟨z, _⟩ | ⟨k', a, vs, Oc, rfl, rfl, rfl, ha, hs⟩
  · exact absurd z hk
  · refine ⟨k', a, vs, Oc, rfl, rfl, ha, p.st.less fun x m => m.elim .inl fun m => .inr (List.mem_cons_of_mem _ m), p.g.weak fun x f => f.elim .inl fun m => .inr (List.mem_cons_of_mem _ m), hs.mono fun x _ b => ?_, (List.nodup_cons.mp p.nd).2, fun x m => p.ap x (List.mem_cons_of_mem _ m)⟩
    exact b.elim (fun b => .inl (b.elim .inl fun m => .inr (List.mem_cons_of_mem _ m))) .inr
theorem PE'.newT {F L H O τ L1 H1 O1 s1 ds vs k Ov p} (st : Stp L H O L1 H1 O1 Ov) (g : Gd W L1 (FU F Ov) H1 s1 τ O1) (rs : Reps W L1 (BB (FU F Ov) L1 O1) H1 k ds vs Ov) (nd : Ov.Nodup) (ap : ∀ a ∈ Ov, ¬ F a) (hp : H1 p = none) :
    PE' W F L H O τ (.tup ds, k) s1 (.ref p) L1 (upd H1 p (.tup vs)) O1 Ov := by
  have kp : Keep (fun _ => False) H1 (upd H1 p (.tup vs)) := Keep.upd hp
  have s2 : Stp L1 H1 O1 L1 (upd H1 p (.tup vs)) O1 [] := ⟨List.prefix_refl _, fun _ h => .inl h, fun a m => .inl (by simpa using m), Keep.upd hp, fun a h => there_upd h⟩
  exact ⟨st.trans s2 fun x m => .inl m, g.grow kp fun a h => there_upd h, .tup upd_same (rs.keep kp (fun _ f => f.elim) (fun _ _ b => b) (fun _ _ e => e) fun _ _ f => f), nd, ap⟩
theorem sh_seq {L B H d x xs} (h : Sh W L B H d x) (e : seqD d = some xs) : ∃ a vs, x = .ref a ∧ (SqL W.K H a vs ∨ SqT W.K H a vs) ∧ Reps W L B H 0 xs vs [] := by
  cases d <;> simp only [seqD, reduceCtorEq] at e <;> cases e
  · obtain ⟨a, vs, rfl, ha, hs⟩ := sh_tup h
    exact ⟨a, vs, rfl, .inr (.inl (.inl ha)), hs⟩
  · obtain ⟨a, vs, rfl, ha, hs⟩ := sh_lst h
    exact ⟨a, vs, rfl, .inl (.inl (.inl ha)), hs⟩
  · obtain ⟨a, vs, rfl, ha, hs⟩ := Rep.fz_inv h
    exact ⟨a, vs, rfl, .inl ha, hs⟩
theorem snd_list {e : Expr} {m : E} (hK : W.K = X.K) (hp : PE X e (tCB (fun xs H Q => ∃ p ys, xs = [.ref p] ∧ (SqL X.K H p ys ∨ SqT X.K H p ys) ∧ ∀ l, H l = none → Q (.ref l) (upd H l (.lst ys))) (tCons (tO W C m) tNil))) : PE X e (tE W C (.b1 .list m)) := by
  refine PE.imp hp fun τ H Q ⟨F, L, s, O, g, r, hr, q⟩ => ?_
  simp only [ev] at hr
  obtain ⟨⟨p, s1⟩, h1, hr⟩ := bind_ok hr
  obtain ⟨d, hd, hr⟩ := bind_ok hr
  obtain ⟨z, hz, hr⟩ := bind_ok hr
  have hz := ofO_ok hz
  simp only [b1D, Option.map_eq_some_iff] at hz
  obtain ⟨xs, hx, rfl⟩ := hz
  refine ⟨F, L, s, O, g, p, s1, h1, fun v H1 hv => ?_⟩
  by_cases hkids : ∃ ds k, p = .t (.lst ds) k ∧ k ≠ 0
  · obtain ⟨ds, k, rfl, hk⟩ := hkids
    cases hd
    cases hx
    obtain ⟨L1, O1, Ov, pe⟩ := hv
    obtain ⟨k', a, vs, Oc, rfl, rfl, ha, st, g1, rs, nd, ap⟩ := PE'.kids pe hk
    refine ⟨a, vs, rfl, .inl (.inl (.inl ha)), fun l hl => ?_⟩
    have e : r = ((.lst xs, k' + 1), s1) := by
      cases hr
      simp only [Od.own, Od.share]
      rw [Nat.max_eq_right (by omega)]
    subst e
    exact q _ _ ⟨L1, O1, _, PE'.newK st g1 rs nd ap hl⟩
  · obtain ⟨F1, L1, O1, g1, k⟩ := hv.hold
    obtain ⟨pn, oi⟩ := k (.refl g1)
    obtain ⟨O2, sub, g2, sh⟩ := oi.share pn.g hd
    obtain ⟨a, vs, rfl, hs, rs⟩ := sh_seq sh hx
    rw [hK] at hs
    refine ⟨a, vs, rfl, hs, fun l hl => ?_⟩
    have e : r = ((.lst xs, 1), p.share s1) := by
      cases hr
      cases d with
      | lst ds =>
        cases p with
        | s i => rfl
        | t d kd =>
          cases hd
          have : kd = 0 := Classical.byContradiction fun h => hkids ⟨_, _, rfl, h⟩
          subst this
          rfl
      | _ => rfl
    subst e
    exact q _ _ (PostE.new (pn.sub g2 sub) (.lst hl rs))
theorem snd_tuple {e : Expr} {m : E} (hK : W.K = X.K) (hp : PE X e (tCB (fun xs H Q => ∃ p ys, xs = [.ref p] ∧ ((SqL X.K H p ys ∧ ∀ l, H l = none → Q (.ref l) (upd H l (.tup ys))) ∨ (SqT X.K H p ys ∧ Q (.ref p) H))) (tCons (tO W C m) tNil))) : PE X e (tE W C (.b1 .tuple m)) := by
  refine PE.imp hp fun τ H Q ⟨F, L, s, O, g, r, hr, q⟩ => ?_
  simp only [ev] at hr
  obtain ⟨⟨p, s1⟩, h1, hr⟩ := bind_ok hr
  obtain ⟨d, hd, hr⟩ := bind_ok hr
  obtain ⟨z, hz, hr⟩ := bind_ok hr
  have hz := ofO_ok hz
  simp only [b1D, Option.map_eq_some_iff] at hz
  obtain ⟨xs, hx, rfl⟩ := hz
  refine ⟨F, L, s, O, g, p, s1, h1, fun v H1 hv => ?_⟩
  by_cases hkids : ∃ ds k, p = .t (.lst ds) k ∧ k ≠ 0
  · obtain ⟨ds, k, rfl, hk⟩ := hkids
    cases hd
    cases hx
    obtain ⟨L1, O1, Ov, pe⟩ := hv
    obtain ⟨k', a, vs, Oc, rfl, rfl, ha, st, g1, rs, nd, ap⟩ := PE'.kids pe hk
    refine ⟨a, vs, rfl, .inl ⟨.inl (.inl ha), fun l hl => ?_⟩⟩
    cases hr
    exact q _ _ ⟨L1, O1, _, PE'.newT st g1 rs nd ap hl⟩
  · obtain ⟨F1, L1, O1, g1, k⟩ := hv.hold
    obtain ⟨pn, oi⟩ := k (.refl g1)
    obtain ⟨O2, sub, g2, sh⟩ := oi.share pn.g hd
    have e : r = ((.tup xs, 0), p.share s1) := by
      cases hr
      cases d with
      | lst ds =>
        cases p with
        | s i => rfl
        | t d kd =>
          cases hd
          have : kd = 0 := Classical.byContradiction fun h => hkids ⟨_, _, rfl, h⟩
          subst this
          rfl
      | _ => rfl
    subst e
    have pn2 := pn.sub g2 sub
    cases d <;> simp only [seqD, reduceCtorEq] at hx <;> cases hx
    · obtain ⟨a, vs, rfl, ha, hs⟩ := sh_tup sh
      exact ⟨a, vs, rfl, .inr ⟨.inl (.inl ha), q _ _ (PostE.new pn2 (.same 0 (.tup ha hs) (.inl rfl)))⟩⟩
    · obtain ⟨a, vs, rfl, ha, hs⟩ := sh_lst sh
      exact ⟨a, vs, rfl, .inl ⟨.inl (.inl ha), fun l hl => q _ _ (PostE.new pn2 (.tup hl hs))⟩⟩
    · obtain ⟨a, vs, rfl, ha, hs⟩ := Rep.fz_inv sh
      rw [hK] at ha
      exact ⟨a, vs, rfl, .inl ⟨ha, fun l hl => q _ _ (PostE.new pn2 (.tup hl hs))⟩⟩

/-! ### two arguments -/
def rB2 (op : B2) : List V → Hp → VK → Prop := fun xs H Q => ∃ i j r, xs = [.int i, .int j] ∧ b2D op (.int i) (.int j) = some r ∧ ∀ v H', NewD (⟨[], fun _ => 0, fun _ => [], fun _ => false⟩ : Wd) [] no H r v H' → Q v H'
theorem cb_max2 (hc : X.calm = true) : CallR X (.builtin "max") (rB2 .max) := by
  refine CallR.imp (call_max2 hc) fun xs H Q ⟨i, j, r, e, hb, q⟩ => ?_
  cases hb
  exact ⟨i, j, e, q _ _ new_int⟩
theorem cb_min2 (hc : X.calm = true) : CallR X (.builtin "min") (rB2 .min) := by
  refine CallR.imp (call_min2 hc) fun xs H Q ⟨i, j, r, e, hb, q⟩ => ?_
  cases hb
  exact ⟨i, j, e, q _ _ new_int⟩
theorem cb_divmod : CallR X (.builtin "divmod") (rB2 .divmod) := by
  refine CallR.imp call_divmod fun xs H Q ⟨i, j, r, e, hb, q⟩ => ?_
  simp only [b2D] at hb
  split at hb <;> cases hb
  rename_i hl
  exact ⟨i, j, e, hl, fun p hp => q _ _ (.tup hp (.mk0 (.int 0 _) (.mk0 (.int 0 _) (.nil 0))))⟩
theorem b2_int {op : B2} {x y : D} {r} (h : b2D op x y = some r) : ∃ i j, x = .int i ∧ y = .int j := by
  cases op <;> cases x <;> cases y <;> simp only [b2D, reduceCtorEq] at h <;> exact ⟨_, _, rfl, rfl⟩
theorem new_any {W0 : Wd} {L0 L B B0 H v H'} : ∀ {r : D × Nat}, NewD W0 L0 B0 H r v H' → (∃ op i j, b2D op (.int i) (.int j) = some r) → NewD W L B H r v H' := by
  intro r h ⟨op, i, j, e⟩
  cases op <;> simp only [b2D, reduceCtorEq] at e
  · cases e
    cases h with
    | same k r _ => rw [vw_int r]; exact new_int
  · cases e
    cases h with
    | same k r _ => rw [vw_int r]; exact new_int
  · split at e <;> cases e
    cases h with
    | same k r _ =>
      obtain ⟨a, vs, rfl, ha, hs⟩ := r.tup_inv
      obtain ⟨v1, vs1, rfl, r1, hs1⟩ := hs.cons0
      obtain ⟨v2, vs2, rfl, r2, hs2⟩ := hs1.cons0
      have := hs2.nil_inv; subst this
      rw [vw_int r1, vw_int r2] at ha
      exact .same 0 (.tup ha (.mk0 (.int 0 _) (.mk0 (.int 0 _) (.nil 0)))) (.inl rfl)
    | tup hp hs =>
      obtain ⟨v1, vs1, rfl, r1, hs1⟩ := hs.cons0
      obtain ⟨v2, vs2, rfl, r2, hs2⟩ := hs1.cons0
      have := hs2.nil_inv; subst this
      rw [vw_int r1, vw_int r2]
      exact .tup hp (.mk0 (.int 0 _) (.mk0 (.int 0 _) (.nil 0)))
theorem snd_b2 {e : Expr} {m n : E} {op : B2} (hp : PE X e (tCB (rB2 op) (tCons (tE W C m) (tCons (tE W C n) tNil)))) : PE X e (tE W C (.b2 op m n)) := by
  refine PE.imp hp fun τ H Q ⟨F, L, s, O, g, r, hr, q⟩ => ?_
  simp only [ev] at hr
  obtain ⟨⟨⟨d, k⟩, s1⟩, h1, hr⟩ := bind_ok hr
  obtain ⟨⟨⟨d2, k2⟩, s2⟩, h2, hr⟩ := bind_ok hr
  obtain ⟨z, hz, hr⟩ := bind_ok hr
  cases hr
  have hz := ofO_ok hz
  obtain ⟨i, j, e1, e2⟩ := b2_int hz
  cases e1; cases e2
  refine ⟨F, L, s, O, g, _, h1, fun v H1 ⟨L1, O1, Ov, p⟩ => ?_⟩
  have pn := p.drop
  refine ⟨F, L1, s1, O1, pn.g, _, h2, fun u H2 ⟨L2, O2, Ov2, p2⟩ => ?_⟩
  have pn2 := pn.trans p2.drop
  exact ⟨i, j, z, by rw [vw_int p.r, vw_int p2.r], hz, fun w H' nw => q w H' (PostE.new pn2 (new_any nw ⟨op, i, j, hz⟩))⟩

/-! ### isinstance -/
/-- what is known of the classes -/
structure CF (K : PySem.W.Frag) (W : Wd) : Prop where
  hK : W.K = K
  cls : ∀ c, W.ok c = true → Cls K (W.cls c)
  ha : ∀ c, W.ok c = true → PySem.W.findIn K (.ref (W.cls c)) "__class__" = some (some (.builtin "object.__class__"))
  hn : PySem.W.specialIn K (.builtin "object.__class__") "__get__" = some (some (.builtin "getset_descriptor.__get__"))
  htk : PySem.W.takesIn K (.builtin "object.__class__") = some true
  hm : ∀ c, W.ok c = true → PySem.W.mroIn K (W.cls c) (.type "object") = some true
  kT : ∀ c, W.ok c = true → ∀ T ∈ ["int", "bool", "str", "list", "tuple"], PySem.W.kitOne K (.ref (W.cls c)) (.type T) = some false
  kC : ∀ c, W.ok c = true → ∀ T ∈ ["NoneType", "int", "bool", "str", "list", "tuple"], PySem.W.kitOne K (.type T) (.ref (W.cls c)) = some false
  kk : ∀ c c', W.ok c = true → W.ok c' = true → PySem.W.kitOne K (.ref (W.cls c)) (.ref (W.cls c')) = some (decide (c = c'))
  fld : ∀ c f, W.ok c = true → f ∈ W.flds c → NoAttr K (W.cls c) f
  fnd : ∀ c, W.ok c = true → (W.flds c).Nodup ∧ (W.flds c).length < 1000
def kindD : D → Option PySem.Value
  | .non => some (.type "NoneType") | .bl _ => some (.type "bool") | .int _ => some (.type "int") | .str _ => some (.type "str")
  | .tup _ => some (.type "tuple") | .lst _ | .loc _ | .fz _ => some (.type "list") | _ => none
theorem tyx_of {K : PySem.W.Frag} (T : CF K W) {L : List Addr} {H d x} (h : Rep W L no H 0 d x []) (hL : ∀ (j : Nat) (a : Addr), L[j]? = some a → ∃ vs, H a = some (.lst vs)) :
    (∀ t, kindD d = some t → TyX K H x t) ∧ (∀ c fs, d = .ins c fs → W.ok c = true ∧ TyX K H x (.ref (W.cls c))) := by
  have hK := T.hK
  constructor
  · intro t ht
    cases d <;> simp only [kindD, reduceCtorEq] at ht <;> cases ht
    · rw [vw_non h]; exact .base .non
    · rw [vw_bl h]; exact .base (.bl _)
    · rw [vw_int h]; exact .base (.int _)
    · rw [vw_str h]; exact .base (.str _)
    · obtain ⟨a, vs, rfl, ha, hs⟩ := h.tup_inv
      exact .base (.tup ha)
    · obtain ⟨a, vs, e, ha, hs⟩ := sh_lst (Sh.of h)
      subst e
      exact .base (.lst ha)
    · cases h with
      | loc k hl =>
        obtain ⟨vs, e⟩ := hL _ _ hl
        exact .base (.lst e)
    · obtain ⟨a, vs, rfl, ha, hs⟩ := h.fz_inv
      rw [hK] at ha
      rcases ha with (ha | ⟨o, ha⟩) | ⟨o, its, n, h1, h2, _⟩
      · exact .base (.lst ha)
      · exact .base (.frz ha)
      · exact .kList h1 h2
  · rintro c fs rfl
    obtain ⟨ok, a, dx, fs', vs, rfl, ha, _⟩ := h.ins_inv
    exact ⟨ok, .base (.ins ha (T.cls c ok) (T.ha c ok) T.hn T.htk (T.hm c ok))⟩
def tyV1 : Ty → Option V | .int => some (.ty "int") | .bool => some (.ty "bool") | .str => some (.ty "str") | .list => some (.ty "list") | .tuple => some (.ty "tuple") | _ => none
theorem kit_bool : ∀ a ∈ ["NoneType", "bool", "int", "str", "tuple", "list"], ∀ b ∈ ["int", "bool", "str", "list", "tuple"], kitB a b = some (a == b || (a == "bool" && b == "int")) := by decide +kernel
def kindOf (W : Wd) : D → PySem.Value
  | .ins c _ => .ref (W.cls c)
  | d => (kindD d).getD .none
theorem kindOf_eq {W : Wd} {d : D} {n : String} (h : kindD d = some (.type n)) : kindOf W d = .type n := by
  cases d <;> simp only [kindD, reduceCtorEq] at h <;> (unfold kindOf; simp only [kindD]; cases h; rfl)
/-- isinstance with one type -/
theorem cb_isi {K : PySem.W.Frag} (T : CF K W) (t : Ty) {L : List Addr} {H d x r} (h : Rep W L no H 0 d x []) (hL : ∀ (j : Nat) (a : Addr), L[j]? = some a → ∃ vs, H a = some (.lst vs)) (hr : tyD t d = some r) (ht : t ≠ .seq) (hc : ∀ c, t = .cls c → W.ok c = true) :
    ∃ (c : V) (u : PySem.Value), ClsV c u ∧ TyX K H x (kindOf W d) ∧ PySem.W.kitOne K (kindOf W d) u = some r ∧ (∀ y, tyV1 t = some y → c = y) ∧ ∀ c', t = .cls c' → c = .ref (W.cls c') := by
  obtain ⟨h1, h2⟩ := tyx_of T h hL
  by_cases hi : ∃ c fs, d = .ins c fs
  · obtain ⟨c, fs, rfl⟩ := hi
    obtain ⟨ok, ty⟩ := h2 c fs rfl
    cases t with
    | seq => exact absurd rfl ht
    | cls c' =>
      cases hr
      refine ⟨_, _, .own _, ty, ?_, by simp [tyV1], fun c'' e => by cases e; rfl⟩
      show PySem.W.kitOne K (.ref (W.cls c)) (.ref (W.cls c')) = _
      rw [T.kk c c' ok (hc c' rfl)]
      congr 1
      simp only [decide_eq_decide]
      exact ⟨fun e => e.symm, fun e => e.symm⟩
    | int => cases hr; exact ⟨.ty "int", _, .ty "int", ty, T.kT c ok "int" (by simp), fun y e => by cases e; rfl, by simp⟩
    | bool => cases hr; exact ⟨.ty "bool", _, .ty "bool", ty, T.kT c ok "bool" (by simp), fun y e => by cases e; rfl, by simp⟩
    | str => cases hr; exact ⟨.ty "str", _, .ty "str", ty, T.kT c ok "str" (by simp), fun y e => by cases e; rfl, by simp⟩
    | list => cases hr; exact ⟨.ty "list", _, .ty "list", ty, T.kT c ok "list" (by simp), fun y e => by cases e; rfl, by simp⟩
    | tuple => cases hr; exact ⟨.ty "tuple", _, .ty "tuple", ty, T.kT c ok "tuple" (by simp), fun y e => by cases e; rfl, by simp⟩
  · have hk : ∃ n : String, n ∈ ["NoneType", "bool", "int", "str", "tuple", "list"] ∧ kindD d = some (.type n) ∧ (∀ b ∈ ["int", "bool", "str", "list", "tuple"], tyD (match b with | "int" => Ty.int | "bool" => .bool | "str" => .str | "list" => .list | _ => .tuple) d = some (n == b || (n == "bool" && b == "int"))) ∧ (∀ c, tyD (.cls c) d = some false) := by
      cases d <;> first
        | (cases t <;> cases hr; done)
        | exact absurd ⟨_, _, rfl⟩ hi
        | exact ⟨"NoneType", by simp, rfl, by intro b hb; simp at hb; rcases hb with rfl | rfl | rfl | rfl | rfl <;> rfl, fun _ => rfl⟩
        | exact ⟨"bool", by simp, rfl, by intro b hb; simp at hb; rcases hb with rfl | rfl | rfl | rfl | rfl <;> rfl, fun _ => rfl⟩
        | exact ⟨"int", by simp, rfl, by intro b hb; simp at hb; rcases hb with rfl | rfl | rfl | rfl | rfl <;> rfl, fun _ => rfl⟩
        | exact ⟨"str", by simp, rfl, by intro b hb; simp at hb; rcases hb with rfl | rfl | rfl | rfl | rfl <;> rfl, fun _ => rfl⟩
        | exact ⟨"tuple", by simp, rfl, by intro b hb; simp at hb; rcases hb with rfl | rfl | rfl | rfl | rfl <;> rfl, fun _ => rfl⟩
        | exact ⟨"list", by simp, rfl, by intro b hb; simp at hb; rcases hb with rfl | rfl | rfl | rfl | rfl <;> rfl, fun _ => rfl⟩
    obtain ⟨n, hn, hd, hb, hcl⟩ := hk
    have ty := h1 _ hd
    have ek := kindOf_eq (W := W) hd
    rw [ek]
    cases t with
    | seq => exact absurd rfl ht
    | cls c' =>
      rw [hcl] at hr; cases hr
      refine ⟨_, _, .own _, ty, T.kC c' (hc c' rfl) n (by
        simp only [List.mem_cons, List.not_mem_nil, or_false] at hn ⊢
        rcases hn with h | h | h | h | h | h <;> simp [h]), by simp [tyV1], fun c'' e => by cases e; rfl⟩
    | int => rw [show tyD .int d = _ from hb "int" (by simp)] at hr; exact ⟨.ty "int", _, .ty "int", ty, kit_ty (by rw [kit_bool n hn "int" (by simp)]; exact hr), fun y e => by cases e; rfl, by simp⟩
    | bool => rw [show tyD .bool d = _ from hb "bool" (by simp)] at hr; exact ⟨.ty "bool", _, .ty "bool", ty, kit_ty (by rw [kit_bool n hn "bool" (by simp)]; exact hr), fun y e => by cases e; rfl, by simp⟩
    | str => rw [show tyD .str d = _ from hb "str" (by simp)] at hr; exact ⟨.ty "str", _, .ty "str", ty, kit_ty (by rw [kit_bool n hn "str" (by simp)]; exact hr), fun y e => by cases e; rfl, by simp⟩
    | list => rw [show tyD .list d = _ from hb "list" (by simp)] at hr; exact ⟨.ty "list", _, .ty "list", ty, kit_ty (by rw [kit_bool n hn "list" (by simp)]; exact hr), fun y e => by cases e; rfl, by simp⟩
    | tuple => rw [show tyD .tuple d = _ from hb "tuple" (by simp)] at hr; exact ⟨.ty "tuple", _, .ty "tuple", ty, kit_ty (by rw [kit_bool n hn "tuple" (by simp)]; exact hr), fun y e => by cases e; rfl, by simp⟩
theorem Gd.locs {L F H s τ O} (g : Gd W L F H s τ O) : ∀ (j : Nat) (a : Addr), L[j]? = some a → ∃ vs, H a = some (.lst vs) := fun j a e => by
  have hj : j < L.length := by
    rcases Nat.lt_or_ge j L.length with q | q
    · exact q
    · rw [List.getElem?_eq_none q] at e; cases e
  obtain ⟨a', vs, e1, e2, _⟩ := g.mu.at_ j _ (List.getElem?_eq_getElem (by rw [← g.mu.len]; exact hj))
  rw [e] at e1
  cases e1
  exact ⟨vs, e2⟩
theorem snd_isi {e : Expr} {m : E} {t : Ty} {c : V} (T : CF X.K W) (ht : t ≠ .seq) (hc : ∀ c, t = .cls c → W.ok c = true) (h1 : ∀ y, tyV1 t = some y → c = y) (h2 : ∀ c', t = .cls c' → c = .ref (W.cls c'))
    (hp : PE X e (tCB (rIsi X.K) (tCons (tO W C m) (tCons (tC c) tNil)))) : PE X e (tE W C (.isi t m)) := by
  refine PE.imp hp fun τ H Q ⟨F, L, s, O, g, r, hr, q⟩ => ?_
  simp only [ev] at hr
  obtain ⟨⟨p, s1⟩, h1', hr⟩ := bind_ok hr
  obtain ⟨d, hd, hr⟩ := bind_ok hr
  obtain ⟨z, hz, hr⟩ := bind_ok hr
  cases hr
  have hz := ofO_ok hz
  refine ⟨F, L, s, O, g, p, s1, h1', fun v H1 hv => ?_⟩
  obtain ⟨F1, L1, O1, g1, k⟩ := hv.hold
  obtain ⟨pn, oi⟩ := k (.refl g1)
  obtain ⟨c', u, k1, k2, k3, k4, k5⟩ := cb_isi T t (oi.view pn.g hd) pn.g.locs hz ht hc
  have ec : c' = c := by
    cases t with
    | seq => exact absurd rfl ht
    | cls c0 => rw [k5 c0 rfl, h2 c0 rfl]
    | _ => rw [k4 _ rfl, h1 _ rfl]
  subst ec
  exact ⟨v, c', _, u, z, rfl, k1, k2, k3, q _ _ ⟨L1, O1, [], PE'.flat pn.st pn.g (.bl 0 z)⟩⟩
theorem seq_ty {d : D} {r : Bool} (h : tyD .seq d = some r) : ∃ a b, tyD .list d = some a ∧ tyD .tuple d = some b ∧ r = (a || b) := by
  cases d <;> simp only [tyD, reduceCtorEq] at h <;> cases h <;> exact ⟨_, _, rfl, rfl, rfl⟩
/-- isinstance(x, (list, tuple)) -/
theorem snd_isq {e : Expr} {m : E} (T : CF X.K W)
    (hp : PE X e (tCB (rIsiT X.K) (tCons (tO W C m) (tCons (tTup (tCons (tC (.ty "list")) (tCons (tC (.ty "tuple")) tNil))) tNil)))) : PE X e (tE W C (.isi .seq m)) := by
  refine PE.imp hp fun τ H Q ⟨F, L, s, O, g, r, hr, q⟩ => ?_
  simp only [ev] at hr
  obtain ⟨⟨p, s1⟩, h1', hr⟩ := bind_ok hr
  obtain ⟨d, hd, hr⟩ := bind_ok hr
  obtain ⟨z, hz, hr⟩ := bind_ok hr
  cases hr
  have hz := ofO_ok hz
  obtain ⟨a, b, ha, hb, rfl⟩ := seq_ty hz
  refine ⟨F, L, s, O, g, p, s1, h1', fun v H1 hv => ?_⟩
  obtain ⟨F1, L1, O1, g1, k⟩ := hv.hold
  obtain ⟨pn, oi⟩ := k (.refl g1)
  refine ⟨by show 2 ≤ PySem.sizeLine; rw [PySem.sizeLine_eq]; decide, fun tp htp => ?_⟩
  have kp : Keep (fun _ => False) H1 (upd H1 tp (.tup [.ty "list", .ty "tuple"])) := Keep.upd htp
  have g2 := pn.g.grow kp fun a h => there_upd h
  have vw : Rep W L1 no (upd H1 tp (.tup [.ty "list", .ty "tuple"])) 0 d v [] := (oi.view pn.g hd).keep kp (fun _ f => f.elim) (fun _ _ b => b) (fun _ _ e => e) fun _ _ f => f
  obtain ⟨c1, u1, k1, k2, k3, k4, _⟩ := cb_isi T .list vw g2.locs ha (by simp) (by simp)
  obtain ⟨c2, u2, l1, l2, l3, l4, _⟩ := cb_isi T .tuple vw g2.locs hb (by simp) (by simp)
  have e1 := k4 _ rfl; subst e1
  have e2 := l4 _ rfl; subst e2
  refine ⟨v, tp, _, kindOf W d, [u1, u2], a || b, rfl, upd_same, .cons k1 (.cons l1 .nil), k2, ?_, q _ _ ?_⟩
  · refine kitAny_cons k3 (r := a || b) (fun e => ?_) (fun e => by rw [e]; rfl)
    subst e
    refine kitAny_cons l3 (r := false || b) (fun e => ?_) (fun e => by rw [e]; rfl)
    subst e
    rfl
  · refine ⟨L1, O1, [], PE'.flat (pn.st.trans (P := []) (O1 := O1) (P1 := []) (P2 := []) ⟨List.prefix_refl _, fun _ h => .inl h, fun a m => .inl (m.elim id (by simp)), Keep.upd htp, fun a h => there_upd h⟩ (by simp)) g2 (.bl 0 _)⟩
end
end MP
end
-- MPSn8
section
set_option maxRecDepth 100000
set_option maxHeartbeats 1000000
/-! Calls. -/
namespace MP
open PySem (Addr Expr Stmt Str Pos)
open PySem.Spec
open L2
open PyProof.Rows hiding St
section
variable {W : Wd} {C : Cfg} {X : Cx}
/-- what a call leaves -/
structure PF' (W : Wd) (F : Addr → Prop) (L : List Addr) (H : Hp) (O : List Addr) (r : D × Nat) (μ' : List (List D)) (v : V) (H' : Hp) (L' Ov : List Addr) : Prop where
  st : Stp L H O L' H' [] Ov
  mu : RepM W L' H' μ'
  r : Rep W L' (BB (FU F Ov) L' []) H' r.2 r.1 v Ov
  nd : (L' ++ Ov).Nodup
  ap : ∀ a ∈ Ov, ¬ F a
def PostF (W : Wd) (F : Addr → Prop) (L : List Addr) (H : Hp) (O : List Addr) (r : D × Nat) (μ' : List (List D)) (v : V) (H' : Hp) : Prop := ∃ L' Ov, PF' W F L H O r μ' v H' L' Ov
/-- what a call wants of its arguments -/
structure EnF (W : Wd) (F : Addr → Prop) (L : List Addr) (H : Hp) (O : List Addr) (ps : List (D × Nat)) (μ : List (List D)) (vs : List V) : Prop where
  r : RepP W L (BB F L O) H ps vs O
  mu : RepM W L H μ
  nd : (L ++ O).Nodup
  ap : ∀ a, F a → a ∉ L ∧ a ∉ O
  ft : ∀ a, F a → H a ≠ none
abbrev Gf := List (D × Nat) → List (List D) → R ((D × Nat) × List (List D))
def spF (W : Wd) (f : Gf) : Sp := fun vs H Q _ => ∃ F L O μ ps, EnF W F L H O ps μ vs ∧ ∃ r μ', f ps μ = .ok (r, μ') ∧ ∀ v H', PostF W F L H O r μ' v H' → Q v H'
/-- an __init__: what comes stands at its first argument -/
def spI (W : Wd) (f : Gf) : Sp := fun vs H Q _ => ∃ F L O μ ps x vs', vs = x :: vs' ∧ EnF W F L H O ps μ vs ∧ ∃ r μ', f ps μ = .ok (r, μ') ∧ ∀ H', PostF W F L H O r μ' x H' → Q .non H'

/-! ### arguments -/
inductive RepA (W : Wd) (L : List Addr) (B : Addr → Prop) (H : Hp) (τ : L2.St) : List Od → List V → List Addr → Prop
  | nil : RepA W L B H τ [] [] []
  | slot {i v os vs O} : τ[i]? = some (some v) → RepA W L B H τ os vs O → RepA W L B H τ (.s i :: os) (v :: vs) O
  | tmp {d k v os vs O O'} : Rep W L B H k d v O → RepA W L B H τ os vs O' → RepA W L B H τ (.t d k :: os) (v :: vs) (O ++ O')
structure PA' (W : Wd) (F : Addr → Prop) (L : List Addr) (H : Hp) (O : List Addr) (τ : L2.St) (os : List Od) (s' : Sta) (vs : List V) (L' : List Addr) (H' : Hp) (O' Ov : List Addr) : Prop where
  st : Stp L H O L' H' O' Ov
  g : Gd W L' (FU F Ov) H' s' τ O'
  r : RepA W L' (BB (FU F Ov) L' O') H' τ os vs Ov
  nd : Ov.Nodup
  ap : ∀ a ∈ Ov, ¬ F a
def PostA (W : Wd) (F : Addr → Prop) (L : List Addr) (H : Hp) (O : List Addr) (τ : L2.St) (os : List Od) (s' : Sta) (vs : List V) (H' : Hp) : Prop := ∃ L' O' Ov, PA' W F L H O τ os s' vs L' H' O' Ov
def tAr (W : Wd) (C : Cfg) (es : Es) : TA := fun τ H Q => ∃ F L s O, Gd W L F H s τ O ∧ ∃ os s', args C es s = .ok (os, s') ∧ ∀ vs H', PostA W F L H O τ os s' vs H' → Q vs H'
theorem RepA.step {L F H O L' H' O' Ov} {s : Sta} {τ : L2.St} (g : Gd W L F H s τ O) (st : Stp L H O L' H' O' Ov) : ∀ {os vs P}, RepA W L (BB F L O) H τ os vs P → (∀ a ∈ P, F a) → RepA W L' (BB (FU F Ov) L' O') H' τ os vs P
  | _, _, _, .nil, _ => .nil
  | _, _, _, .slot e h, hP => .slot e (h.step g st hP)
  | _, _, _, .tmp r h, hP => .tmp (r.step g st fun a m => hP a (List.mem_append_left _ m)) (h.step g st fun a m => hP a (List.mem_append_right _ m))
theorem RepA.mono {L : List Addr} {B B' : Addr → Prop} {H : Hp} {τ : L2.St} (hb : ∀ a, H a ≠ none → B' a → B a) : ∀ {os vs O}, RepA W L B H τ os vs O → RepA W L B' H τ os vs O
  | _, _, _, .nil => .nil
  | _, _, _, .slot e h => .slot e (h.mono hb)
  | _, _, _, .tmp r h => .tmp (r.mono hb) (h.mono hb)
theorem arg_nil : PA X [] (tAr W C .nil) := by
  refine PA.imp pa_nil fun τ H Q ⟨F, L, s, O, g, ps, s', hr, q⟩ => ?_
  simp only [args] at hr
  cases hr
  exact q _ _ ⟨L, O, [], .refl, g.weak fun a h => h.elim id (by simp), .nil, .nil, by simp⟩
theorem arg_cons {e : Expr} {es : List Expr} {m : E} {ms : Es} (he : PE X e (tE W C m)) (hv : ∀ i, m = .ln i → PE X e (tVar i)) (hs : PA X es (tAr W C ms)) (hst : PySem.starEach (e :: es) X.env = (false, PySem.eval e X.env) :: PySem.starEach es X.env) : PA X (e :: es) (tAr W C (.cons m ms)) := by
  by_cases hl : ∃ i, m = .ln i
  · obtain ⟨i, rfl⟩ := hl
    refine PA.imp (pa_cons (hv i rfl) hs hst) fun τ H Q ⟨F, L, s, O, g, os, s', hr, q⟩ => ?_
    simp only [args] at hr
    obtain ⟨⟨o, s1⟩, h1, hr⟩ := bind_ok hr
    obtain ⟨⟨os2, s2⟩, h2, hr⟩ := bind_ok hr
    cases hr
    simp only [arg1] at h1
    obtain ⟨⟨d, k⟩, h3, h4⟩ := bind_ok h1
    cases h4
    obtain ⟨v, P, R, e1, _⟩ := g.slot (get_ok h3)
    refine ⟨v, e1, F, L, _, O, g, os2, s2, h2, fun vs H2 ⟨L2, O2, Ov2, p⟩ => ?_⟩
    exact q _ _ ⟨L2, O2, Ov2, p.st, p.g, .slot e1 p.r, p.nd, p.ap⟩
  · refine PA.imp (pa_cons he hs hst) fun τ H Q ⟨F, L, s, O, g, os, s', hr, q⟩ => ?_
    simp only [args] at hr
    obtain ⟨⟨o, s1⟩, h1, hr⟩ := bind_ok hr
    obtain ⟨⟨os2, s2⟩, h2, hr⟩ := bind_ok hr
    cases hr
    have h1' : (ev C m s).bind (fun (p, s) => .ok (Od.t p.1 p.2, s)) = .ok (o, s1) := by
      unfold arg1 at h1
      split at h1
      · exact absurd ⟨_, rfl⟩ hl
      · exact h1
    obtain ⟨⟨⟨d, k⟩, s3⟩, h3, h4⟩ := bind_ok h1'
    cases h4
    refine ⟨F, L, s, O, g, _, h3, fun v H1 ⟨L1, O1, Ov, p⟩ => ?_⟩
    refine ⟨FU F Ov, L1, _, O1, p.g, os2, s2, h2, fun vs H2 ⟨L2, O2, Ov2, p2⟩ => ?_⟩
    refine q _ _ ⟨L2, O2, Ov ++ Ov2, p.st.trans p2.st (fun x m => List.mem_append.mp m), p2.g.weak fun a h => FU_assoc.mpr h, .tmp ?_ ?_, ?_, ?_⟩
    · exact (p.r.step p.g p2.st fun a m => .inr m).mono fun a _ b => b.elim (fun z => .inl (FU_assoc.mpr z)) .inr
    · exact p2.r.mono fun a _ b => b.elim (fun z => .inl (FU_assoc.mpr z)) .inr
    · exact List.nodup_append.mpr ⟨p.nd, p2.nd, fun a ha b hb e => p2.ap b hb (by subst e; exact .inr ha)⟩
    · intro a m f
      rcases List.mem_append.mp m with m | m
      · exact p.ap a m f
      · exact p2.ap a m (.inl f)
mutual
/-- without an instance in it all that is its own is lists -/
theorem Rep.ownL {L : List Addr} {B : Addr → Prop} {H : Hp} : ∀ {k d v O}, Rep W L B H k d v O → noIns d = true → ∀ a ∈ O, ∃ vs, H a = some (.lst vs)
  | _, _, _, _, .non k, _, a, m => by cases m
  | _, _, _, _, .bl k b, _, a, m => by cases m
  | _, _, _, _, .int k b, _, a, m => by cases m
  | _, _, _, _, .str k b, _, a, m => by cases m
  | _, _, _, _, .junk k b, _, a, m => by cases m
  | _, _, _, _, .loc k h, _, a, m => by cases m
  | _, _, _, _, .lst0 h n hs, _, a, m => by cases m
  | _, _, _, _, .fz k h hs, _, a, m => by cases m
  | _, _, _, _, .ins0 o h n e l hs, z, a, m => by cases m
  | _, _, _, _, .tup h hs, z, a, m => Reps.ownL hs (by simpa [noIns] using z) a m
  | _, _, _, _, .lstS h hs, z, a, m => by
    rcases List.mem_cons.mp m with e | m
    · subst e; exact ⟨_, h⟩
    · exact Reps.ownL hs (by simpa [noIns] using z) a m
  | _, _, _, _, .insS o h e l hs, z, a, m => by simp [noIns] at z
theorem Reps.ownL {L : List Addr} {B : Addr → Prop} {H : Hp} : ∀ {k ds vs O}, Reps W L B H k ds vs O → noInss ds = true → ∀ a ∈ O, ∃ vs, H a = some (.lst vs)
  | _, _, _, _, .nil k, _, a, m => by cases m
  | _, _, _, _, .cons h hs, z, a, m => by
    simp only [noInss, Bool.and_eq_true] at z
    rcases List.mem_append.mp m with m | m
    · exact Rep.ownL h z.1 a m
    · exact Reps.ownL hs z.2 a m
end
mutual
/-- what holds no list is frozen by its instances alone -/
theorem Rep.flatM {L : List Addr} {B B' : Addr → Prop} {H : Hp} (hb : ∀ a C dx fs, H a = some (.ins C dx fs) → B' a → B a) : ∀ {k d v O}, Rep W L B H k d v O → flat d = true → Rep W L B' H k d v O
  | _, _, _, _, .non k, _ => .non k
  | _, _, _, _, .bl k b, _ => .bl k b
  | _, _, _, _, .int k b, _ => .int k b
  | _, _, _, _, .str k b, _ => .str k b
  | _, _, _, _, .junk k b, z => by simp [flat] at z
  | _, _, _, _, .loc k h, z => by simp [flat] at z
  | _, _, _, _, .lst0 h n hs, z => by simp [flat] at z
  | _, _, _, _, .fz k h hs, z => by simp [flat] at z
  | _, _, _, _, .lstS h hs, z => by simp [flat] at z
  | _, _, _, _, .ins0 o h n e l hs, z => .ins0 o h (fun b => n (hb _ _ _ _ h b)) e l (Reps.flatM hb hs (by simpa [flat] using z))
  | _, _, _, _, .insS o h e l hs, z => .insS o h e l (Reps.flatM hb hs (by simpa [flat] using z))
  | _, _, _, _, .tup h hs, z => .tup h (Reps.flatM hb hs (by simpa [flat] using z))
theorem Reps.flatM {L : List Addr} {B B' : Addr → Prop} {H : Hp} (hb : ∀ a C dx fs, H a = some (.ins C dx fs) → B' a → B a) : ∀ {k ds vs O}, Reps W L B H k ds vs O → flats ds = true → Reps W L B' H k ds vs O
  | _, _, _, _, .nil k, _ => .nil k
  | _, _, _, _, .cons h hs, z => by
    simp only [flats, Bool.and_eq_true] at z
    exact .cons (Rep.flatM hb h z.1) (Reps.flatM hb hs z.2)
end
/-- from arguments to what the callee gets -/
theorem RepA.vals {L : List Addr} {F : Addr → Prop} {H : Hp} {s : Sta} {τ : L2.St} {O Ov : List Addr} {lt : Bool} (g : Gd W L (FU F Ov) H s τ O) :
    ∀ {os vs P ps}, RepA W L (BB (FU F Ov) L O) H τ os vs P → MP.vals os s = .ok ps → (lent os = true → lt = true) →
      RepP W L (BB (fun a => F a ∨ (a ∈ O ∧ (lt = true → ∀ vs, H a ≠ some (.lst vs)))) L Ov) H ps vs P
  | _, _, _, ps, .nil, e, _ => by cases e; exact .nil
  | _, _, _, ps, .slot hv h, e, hl => by
    simp only [MP.vals] at e
    obtain ⟨⟨d, k⟩, h1, e⟩ := bind_ok e
    split at e
    · rename_i hn
      obtain ⟨ps2, h2, e⟩ := bind_ok e
      cases e
      have hlt : lt = true := hl (by simp [lent])
      obtain ⟨v', P, R, e1, r, hp, _⟩ := g.slot (get_ok h1)
      rw [hv] at e1
      cases e1
      refine RepP.cons (O := []) ?_ (h.vals g h2 fun _ => hlt)
      refine r.frz (fun a b => ?_) fun a m b => ?_
      · rcases b with (b | b) | b | b
        · exact .inl (.inl b)
        · exact .inr (.inr b.1)
        · exact .inr (.inl b)
        · exact .inl (.inr b)
      · obtain ⟨vs, ea⟩ := r.ownL hn a m
        have mO : a ∈ O := hp.mem_iff.mpr (List.mem_append_left _ m)
        rcases b with (b | b) | b | b
        · exact (g.ap a (.inl b)).2 mO
        · exact b.2 hlt vs ea
        · exact g.LO a b mO
        · exact (g.ap a (.inr b)).2 mO
    · cases e
  | _, _, _, ps, .tmp r h, e, hl => by
    simp only [MP.vals] at e
    obtain ⟨ps2, h2, e⟩ := bind_ok e
    cases e
    refine .cons (r.mono fun a _ b => ?_) (h.vals g h2 fun z => hl (by simpa [lent] using z))
    rcases b with (b | b) | b | b
    · exact .inl (.inl b)
    · exact .inr (.inr b.1)
    · exact .inr (.inl b)
    · exact .inl (.inr b)
/-- THE CALL, from the caller's side -/
theorem call_ok {F L H O τ os s' vs ps H1} {f : Gf} {r : (D × Nat) × Sta} (pa : PostA W F L H O τ os s' vs H1) (hv : MP.vals os s' = .ok ps) (hr : after os s' (f ps s'.μ) = .ok r) :
    ∃ F' L' O' μ, EnF W F' L' H1 O' ps μ vs ∧ ∃ r' μ', f ps μ = .ok (r', μ') ∧ ∀ v H2, PostF W F' L' H1 O' r' μ' v H2 → PostE W F L H O τ r v H2 := by
  obtain ⟨L', O', Ov, p⟩ := pa
  have g := p.g
  unfold after at hr
  obtain ⟨⟨r', μ'⟩, h1, hr⟩ := bind_ok hr
  simp only at hr
  have ndv : (L' ++ Ov).Nodup := List.nodup_append.mpr ⟨g.ndL, p.nd, fun a ha b hb e => (g.ap b (.inr hb)).1 (by subst e; exact ha)⟩
  refine ⟨fun a => F a ∨ (a ∈ O' ∧ (lent os = true → ∀ vs, H1 a ≠ some (.lst vs))), L', Ov, s'.μ, ⟨p.r.vals g hv fun z => z, g.mu, ndv, fun a f => ?_, fun a f => ?_⟩, r', μ', h1, fun v H2 ⟨L2, Ov2, q⟩ => ?_⟩
  · rcases f with f | ⟨f, _⟩
    · exact ⟨(g.ap a (.inl f)).1, fun m => p.ap a m f⟩
    · exact ⟨fun m => g.LO a m f, fun m => (g.ap a (.inr m)).2 f⟩
  · rcases f with f | ⟨f, _⟩
    · exact g.ft a (.inl f)
    · exact (g.sl.there a f).1
  · have er : r = (r', { s' with μ := μ' }) := by
      split at hr <;> cases hr
      rfl
    have hfl : lent os = true → flat r'.1 = true := by
      intro z
      split at hr
      · cases hr
      · rename_i hn
        simp only [z, Bool.true_and, Bool.not_eq_true', Bool.not_eq_false] at hn
        exact hn
    subst er
    have nd2 := List.nodup_append.mp q.nd
    have hB : ∀ a, H1 a ≠ none → BB (FU F Ov2) L2 O' a → BB (FU F Ov) L' O' a := fun a n b => by
      rcases b with (b | b) | b | b
      · exact .inl (.inl b)
      · rcases q.st.newO a (.inr b) with z | z
        · exact .inl (.inr z)
        · exact absurd z n
      · rcases q.st.newL a b with z | z
        · exact .inr (.inl z)
        · exact absurd z n
      · exact .inr (.inr b)
    have tr : ∀ a ∈ O', H1 a ≠ none := fun a m => (g.sl.there a m).1
    refine ⟨L2, O', Ov2, ⟨?_, ⟨?_, q.mu, ?_, ?_, ?_⟩, ?_, nd2.2.1, fun a m f => q.ap a m (.inl f)⟩⟩
    · -- the step
      refine ⟨p.st.pre.trans q.st.pre, fun a m => (q.st.newL a m).elim (p.st.newL a) fun z => .inr (Classical.byContradiction fun w => p.st.st a w z), fun a m => ?_, ?_, fun a h => q.st.st a (p.st.st a h)⟩
      · rcases m with m | m
        · exact p.st.newO a (.inl m)
        · rcases q.st.newO a (.inr m) with z | z
          · exact p.st.newO a (.inr z)
          · exact .inr (Classical.byContradiction fun w => p.st.st a w z)
      · exact p.st.kp.trans q.st.kp (fun _ h => h) fun x h => h.elim (fun m => (p.st.newL x m).elim (fun z => .inl (.inl z)) .inr) fun m => (p.st.newO x (.inr m)).elim (fun z => .inl (.inr z)) .inr
    · refine g.sl.keep q.st.kp (fun a m => m.elim (fun z => .inr (.inl z)) fun z => .inl (.inr z)) hB (pre_get q.st.pre) fun a m z => z.elim (fun z => g.LO a z m) fun z => (g.ap a (.inr z)).2 m
    · refine List.nodup_append.mpr ⟨nd2.1, g.ndO, fun a ha b hb e => ?_⟩
      subst e
      rcases q.st.newL a ha with z | z
      · exact g.LO a z hb
      · exact tr a hb z
    · intro a f
      rcases f with f | f
      · refine ⟨fun m => ?_, (g.ap a (.inl f)).2⟩
        rcases q.st.newL a m with z | z
        · exact (g.ap a (.inl f)).1 z
        · exact g.ft a (.inl f) z
      · refine ⟨fun m => nd2.2.2 a m a f rfl, fun m => ?_⟩
        rcases q.st.newO a (.inr f) with z | z
        · exact (g.ap a (.inr z)).2 m
        · exact tr a m z
    · intro a f
      rcases f with f | f
      · exact q.st.st a (g.ft a (.inl f))
      · exact (q.r.there a f).1
    · by_cases hl : lent os = true
      · refine q.r.flatM (fun a C dx fs e b => ?_) (hfl hl)
        rcases b with (b | b) | b | b
        · exact .inl (.inl (.inl b))
        · exact .inl (.inr b)
        · exact .inr (.inl b)
        · refine .inl (.inl (.inr ⟨b, fun _ vs e2 => ?_⟩))
          have := q.st.kp.any a _ e2 fun z => z.elim (fun z => g.LO a z b) fun z => (g.ap a (.inr z)).2 b
          rw [this] at e
          cases e
      · refine q.r.mono fun a _ b => ?_
        rcases b with (b | b) | b | b
        · exact .inl (.inl (.inl b))
        · exact .inl (.inr b)
        · exact .inr (.inl b)
        · exact .inl (.inl (.inr ⟨b, fun z => absurd z hl⟩))
end
end MP
end
-- MPG
section
set_option maxRecDepth 100000
set_option maxHeartbeats 1000000
/-! Promises that also know that nothing is under way (no repr): FnOk and its calls, with the guards known. -/
namespace MP
open PySem (Addr Expr Stmt Str Pos Keyword Around Value Shared FuncData Env Heap Args Program World Scope Obj)
open PySem.Spec
open L2
open PyProof.Rows hiding St
structure Room (k : Nat) (A : Around) : Prop where
  rm : L2.Room k A
  gd : A.guards = some []
theorem Room.mono {j k : Nat} {A : Around} (r : Room k A) (h : j ≤ k) : Room j A := ⟨r.rm.mono h, r.gd⟩
theorem Room.deeper {k : Nat} {A : Around} (r : Room (k + 1) A) (env : Env) : Room k (A.deeper env) := ⟨r.rm.deeper env, r.gd⟩
theorem Room.in1 {k : Nat} {A : Around} (r : Room (k + 1) A) : Room k A.in1 := ⟨r.rm.in1, r.gd⟩
theorem Room.make {k : Nat} {A : Around} (r : Room (k + 1) A) (C : Addr) (us : List Value) (kw : List (Str × Value)) : Room k (A.under (.builtin "type.__call__" ⟨.ref C :: us, kw⟩)) :=
  ⟨r.rm.make C us kw, by
    have h := r.gd
    simp [PySem.Around.under, h, PySem.pushGuards, PySem.Code.guards, PySem.Code.isGuard, PySem.guardIds]⟩
theorem Room.units {k : Nat} {A : Around} (r : Room k A) : A.units + 64 < PySem.cLine := r.rm.units
theorem Room.un {k : Nat} {A : Around} (r : Room k A) : A.units + 16 * k + 200 < PySem.cLine := r.rm.un
structure FnOk (P : Program) (w : World) (K : PySem.W.Frag) (mg : Str → Option Value) (base : Heap) (CX : CXT) (k : Nat) (f : Addr) (fd : FuncData) (ps : List Str) (sp : Sp) : Prop where
  len : ∀ vs H Q E, sp vs H Q E → vs.length = ps.length
  run : ∀ (A : Around) (outer : List Env) (s : Shared) (H : Hp) (args : Args) (us : List Value) (vs : List V) (Q : VK) (E : XK), Room k A → Env0 P w K mg base A outer s H → PySem.BindsTo s fd args (ps.zip us) → Vals vs us → sp vs H Q E →
    PySem.codeAny (PySem.model P w) A (.call (.ref f) args) (CR CX outer P w H s Q E) s
section
variable {X : Cx} {CX : CXT} {k : Nat} {f C g p0 : Addr} {fd : FuncData} {ps : List Str} {sp : Sp} {E : XK} {x m : Str} {p pos apos : Pos} {e o : Expr} {es : List Expr} {ta : TE} {t : TA}
theorem cr_end {pins : List (Addr × Obj)} {σ : L2.St} {H : Hp} {s : Shared} {Q : VK} (hx : Passes CX X E) (I : Inv X pins σ H s) (r : PySem.Result) (s' : Shared) :
    CR CX X.stack X.prog X.w H s Q E r s' → match r with | .ok (.ret v) => EP X pins σ Q v s' | .ok _ => False | .error e => X.xe e s' := by
  intro h
  cases r with
  | error e => exact hx pins σ H s e s' I h
  | ok fl => cases fl <;> first | exact I.after h | exact False.elim h
theorem run_fn {pins : List (Addr × Obj)} {σ : L2.St} {H : Hp} {s : Shared} {Q : VK} {us : List Value} {vs : List V} (F : FnOk X.prog X.w X.K X.mg X.base CX k f fd ps sp) (hr : Room k X.A) (hb : Binds X.K fd ps []) (hx : Passes CX X E)
    (I : Inv X pins σ H s) (r : Vals vs us) (h : sp (vs ++ []) H Q E) : PySem.wpAny (PySem.model X.prog X.w) X.A (PySem.call (.ref f) us) (EP X pins σ Q) X.xe s := by
  have r2 : Vals (vs ++ []) (us ++ []) := r.append .nil
  exact PySem.wpAny_call (PySem.codeAny_mono (F.run X.A X.stack s H ⟨us, []⟩ (us ++ []) (vs ++ []) Q E hr I.env0 (hb s us I.kIn (by rw [← r2.length]; exact F.len _ _ _ _ h)) r2 h) (cr_end hx I))
theorem pe_call (F : FnOk X.prog X.w X.K X.mg X.base CX k f fd ps sp) (hr : Room k X.A) (hg : Gl X x) (hm : X.mg x = some (.ref f)) (hk : PySem.W.keepIn X.K (.ref f) = true) (hb : Binds X.K fd ps []) (_ : Vals [] []) (hx : Passes CX X E)
    (ha : PA X (e :: es) t) (hdb : (x == ("__debug__" : Str)) = false) (he : PySem.starEach (e :: es) X.env = (false, PySem.eval e X.env) :: PySem.starEach es X.env) (hpl : (PySem.backTo pos (PySem.starEach es X.env)).any (·.1) = false) :
    PE X (.Call (.Name x p) (e :: es) [] pos) (tCall sp [] E t) :=
  ⟨fun pins s σ H Q I h => PySem.wpAny_Call_Name_kw (ld_glob I hg hm (PySem.W.callWith_K (h₀ := X.base) I.ok.mod.kin hk (thn (ha.run pos pins s σ H _ I h) fun us s1 ⟨vs, H1, I1, r, q⟩ => ⟨I1.kIn, run_fn F hr hb hx I1 r q⟩) he hpl) hdb)⟩
theorem pe_call0 (F : FnOk X.prog X.w X.K X.mg X.base CX k f fd ps sp) (hr : Room k X.A) (hg : Gl X x) (hm : X.mg x = some (.ref f)) (hk : PySem.W.keepIn X.K (.ref f) = true) (hb : Binds X.K fd ps []) (_ : Vals [] []) (hx : Passes CX X E)
    (hdb : (x == ("__debug__" : Str)) = false) : PE X (.Call (.Name x p) [] [] pos) (tCall sp [] E tNil) :=
  ⟨fun pins s σ H Q I h => PySem.wpAny_Call_Name_kw (ld_glob I hg hm (PySem.W.callWith_K0 I.kIn hk (run_fn (us := []) F hr hb hx I .nil h)) hdb)⟩
theorem pe_meth {pl : PySem.Sem Bool} (he : PE X o ta) (c : Cls X.K C) (hm : Meth X.K C m f) (F : FnOk X.prog X.w X.K X.mg X.base CX k f fd ps sp) (hr : Room k X.A) (hb : Binds X.K fd ps []) (_ : Vals [] []) (hx : Passes CX X E) (ha : PA X (e :: es) t)
    (hst : PySem.starEach (e :: es) X.env = (false, PySem.eval e X.env) :: PySem.starEach es X.env) (hpl : (PySem.backTo pos (PySem.starEach es X.env)).any (·.1) = false)
    (ht : PySem.eval (.Call (.Attribute o m apos) (e :: es) [] pos) X.env = (do
      let ov ← PySem.eval o X.env
      PySem.standAt apos.atName
      let (f, first) ← PySem.holding [ov] (PySem.getMethod ov m pl)
      PySem.callWith pos f first (PySem.backTo pos (PySem.starEach (e :: es) X.env)) (PySem.backToKw pos (PySem.keywordEach [] X.env)))) :
    PE X (.Call (.Attribute o m apos) (e :: es) [] pos) (tMeth C m sp [] E ta t) := by
  refine ⟨fun pins s σ H Q I h => PySem.W.methodCall_KW (pl := pl) (thn (he.run pins s σ H _ I h) fun u s1 ⟨x, H1, I1, rx, a, dx, fs, ex, ea, l, q⟩ => ?_) ht⟩
  subst ex
  obtain rfl : u = Value.ref a := rx
  exact getmeth_ok I1 ea c hm l (PySem.W.callWith_K (first := [.ref a]) (h₀ := X.base) I.ok.mod.kin hm.kp (thn (ha.run pos pins s1 σ H1 _ I1 q) fun us s2 ⟨vs, H2, I2, r, q2⟩ => ⟨I2.kIn, run_fn (us := .ref a :: us) (vs := .ref a :: vs) F hr hb hx I2 (.cons rfl r) q2⟩) hst hpl)
theorem pe_meth0 {pl : PySem.Sem Bool} (he : PE X o ta) (c : Cls X.K C) (hm : Meth X.K C m f) (F : FnOk X.prog X.w X.K X.mg X.base CX k f fd ps sp) (hr : Room k X.A) (hb : Binds X.K fd ps []) (_ : Vals [] []) (hx : Passes CX X E)
    (ht : PySem.eval (.Call (.Attribute o m apos) [] [] pos) X.env = (do
      let ov ← PySem.eval o X.env
      PySem.standAt apos.atName
      let (f, first) ← PySem.holding [ov] (PySem.getMethod ov m pl)
      PySem.callWith pos f first (PySem.backTo pos (PySem.starEach [] X.env)) (PySem.backToKw pos (PySem.keywordEach [] X.env)))) :
    PE X (.Call (.Attribute o m apos) [] [] pos) (tMeth C m sp [] E ta tNil) := by
  refine ⟨fun pins s σ H Q I h => PySem.W.methodCall_KW (pl := pl) (thn (he.run pins s σ H _ I h) fun u s1 ⟨x, H1, I1, rx, a, dx, fs, ex, ea, l, q⟩ => ?_) ht⟩
  subst ex
  obtain rfl : u = Value.ref a := rx
  exact getmeth_ok I1 ea c hm l (PySem.W.callWith_K0 (first := [.ref a]) I1.kIn hm.kp (run_fn (us := [.ref a]) (vs := [.ref a]) F hr hb hx I1 (.cons rfl .nil) q))
theorem run_make {pins : List (Addr × Obj)} {σ : L2.St} {H : Hp} {s : Shared} {Q : VK} {us : List Value} {vs : List V} (M : Mk X.K C f) (F : FnOk X.prog X.w X.K X.mg X.base CX k f fd ps sp) (hr : Room (k + 1) X.A) (hb : Binds X.K fd ps [])
    (hx : Passes CX X E) (I : Inv X pins σ H s) (r : Vals vs us)
    (h : ∀ x dx, H x = none → H dx = none → dx ≠ x → sp (.ref x :: (vs ++ [])) (upd (upd H dx (.own x)) x (.ins C dx [])) (fun v H2 => v = .non ∧ Q (.ref x) H2) E) :
    PySem.wpAny (PySem.model X.prog X.w) X.A (PySem.call (.ref C) us) (EP X pins σ Q) X.xe s := by
  have hq := h (s.heap.objs.size + 1) s.heap.objs.size (I.hok.fresh (Nat.le_succ _)) (I.hok.fresh (Nat.le_refl _)) (Nat.ne_of_lt (Nat.lt_succ_self _))
  have I2 := Inv.made (C := C) I
  have r2 : Vals (V.ref (s.heap.objs.size + 1) :: (vs ++ [])) (Value.ref (s.heap.objs.size + 1) :: us ++ []) := .cons rfl (r.append .nil)
  refine PySem.wpAny_call (make_map (f := f) I.kIn M.makes M.init (beq_iff_eq.mp M.fn) (PySem.codeAny_mono (F.run _ X.stack _ _ ⟨Value.ref (s.heap.objs.size + 1) :: us, []⟩ _ _ _ E (hr.make C us [])
    (I2.env0.make C us []) (hb _ (Value.ref (s.heap.objs.size + 1) :: us) I2.kIn (by rw [← r2.length]; exact F.len _ _ _ _ hq)) r2 hq) fun r s' hq' => ?_))
  cases r with
  | error e => exact hx pins σ _ _ e s' I2 hq'
  | ok fl =>
    cases fl with
    | ret u =>
      obtain ⟨v, H', I3, rv, ev, q3⟩ := I2.after hq'
      subst ev
      exact ⟨rv, V.ref (s.heap.objs.size + 1), H', I3, rfl, q3⟩
    | _ => exact False.elim hq'
theorem pe_make (M : Mk X.K C f) (F : FnOk X.prog X.w X.K X.mg X.base CX k f fd ps sp) (hr : Room (k + 1) X.A) (hg : Gl X x) (hm : X.mg x = some (.ref C)) (hb : Binds X.K fd ps []) (_ : Vals [] []) (hx : Passes CX X E)
    (ha : PA X (e :: es) t) (hdb : (x == ("__debug__" : Str)) = false) (he : PySem.starEach (e :: es) X.env = (false, PySem.eval e X.env) :: PySem.starEach es X.env) (hpl : (PySem.backTo pos (PySem.starEach es X.env)).any (·.1) = false) :
    PE X (.Call (.Name x p) (e :: es) [] pos) (tMake C sp [] E t) :=
  ⟨fun pins s σ H Q I h => PySem.wpAny_Call_Name_kw (ld_glob I hg hm (PySem.W.callWith_K (h₀ := X.base) I.ok.mod.kin M.kp (thn (ha.run pos pins s σ H _ I h) fun us s1 ⟨vs, H1, I1, r, q⟩ => ⟨I1.kIn, run_make M F hr hb hx I1 r q⟩) he hpl) hdb)⟩
theorem pe_make0 (M : Mk X.K C f) (F : FnOk X.prog X.w X.K X.mg X.base CX k f fd ps sp) (hr : Room (k + 1) X.A) (hg : Gl X x) (hm : X.mg x = some (.ref C)) (hb : Binds X.K fd ps []) (_ : Vals [] []) (hx : Passes CX X E)
    (hdb : (x == ("__debug__" : Str)) = false) : PE X (.Call (.Name x p) [] [] pos) (tMake C sp [] E tNil) :=
  ⟨fun pins s σ H Q I h => PySem.wpAny_Call_Name_kw (ld_glob I hg hm (PySem.W.callWith_K0 I.kIn M.kp (run_make (us := []) M F hr hb hx I .nil h)) hdb)⟩
/-- a property's value -/
theorem pe_prop (he : PE X e ta) (c : Cls X.K C) (hp : PropOf X.K C x p0 g) (F : FnOk X.prog X.w X.K X.mg X.base CX k g fd ps sp) (hr : Room (k + 1) X.A) (hb : Binds X.K fd ps []) (_ : Vals [] []) (hx : Passes CX X.nox E)
    (hab : PySem.attributeBase e x X.env (PySem.eval e X.env) = PySem.eval e X.env) : PE X (.Attribute e x pos) (tProp C sp [] E ta) := by
  refine ⟨fun pins s σ H Q I h => attr_of hab (thn (he.run pins s σ H _ I h) fun u s1 ⟨y, H1, I1, rx, a, dx, fs, ex, ea, q⟩ => ?_)⟩
  subst ex
  obtain rfl : u = Value.ref a := rx
  obtain ⟨mA, O, _, _, _, _⟩ := ins_get I1.hok ea
  obtain ⟨od, J, _⟩ := O.look
  obtain ⟨rest, hrec⟩ := hp.rec_
  have I2 := I1.tok (s1.toks + 1)
  have hc : (PySem.W.clsIn X.K C).isSome = true := by
    obtain ⟨cd, hc, _⟩ := PySem.W.any_some c.hd
    rw [hc]; rfl
  refine PySem.W.get_bind I1.kIn J (PySem.W.plainGet_of (c.get x)).1 (PySem.W.findObj_data hc hp.at_ hp.get hp.tak) (PySem.W.plainGet_of (c.get x)).2 (PySem.wpAny_call (PySem.W.prop_get (s := { s1 with toks := s1.toks + 1 }) I1.kIn hrec ?_))
  refine PySem.codeAny_mono (F.run X.A.in1 X.stack { s1 with toks := s1.toks + 1 } H1 ⟨[.ref a], []⟩ [.ref a] [.ref a] Q E hr.in1 I2.env0.in1 (by simpa using hb _ [.ref a] I2.kIn (by rw [← F.len _ _ _ _ q]; rfl)) (.cons rfl .nil) q) fun r s' hq => ?_
  cases r with
  | error er => exact False.elim (hx pins σ H1 { s1 with toks := s1.toks + 1 } er s' (I2.wish _) hq)
  | ok fl =>
    cases fl with
    | ret u =>
      obtain ⟨v, H', I3, rv, q3⟩ := I2.after hq
      show PySem.wpAny _ _ (PySem.handedOut u) _ _ _
      rw [PySem.W.handedOut_of (handed_of rv)]
      exact PySem.wpAny_pure ⟨v, H', I3, rv, q3⟩
    | _ => exact False.elim hq
end
/-- a def by its tree -/
theorem def_ok {CX : CXT} {P : Program} {w : World} {K : PySem.W.Frag} {mg : Str → Option Value} {base : Heap} {k : Nat} {f : Addr} {x qual : Str} {params : PySem.Arguments} {body : List Stmt} {scope : Scope} {dvs : List V} {kws : List (Str × V)} {fd : FuncData} {N ps : List Str} {sp : Sp}
    (FD : FunD K x qual params body scope dvs kws f fd) (S : FnScope N ps scope) (len : ∀ vs H Q E, sp vs H Q E → vs.length = ps.length)
    (hbody : ∀ (cdv : Value) (A : Around) (outer : List Env) (s : Shared) (H : Hp) (vs : List V) (Q : VK) (E : XK), Room k (A.deeper (envOfC qual scope s.heap.objs.size f cdv)) → sp vs H Q E →
      ∃ t, PSs (cxOf CX P w K mg base N qual scope f cdv A outer s H E) body t ∧ t { nx := fun _ H' => Q .non H', rt := Q } (L2.start N vs) H) : FnOk P w K mg base CX (k + 1) f fd ps sp := by
  obtain ⟨oc, od, dV, kV, doc, pm, an, cdv, ct, osl, rfl, lk, hcd, _, _⟩ := FD.ex
  refine ⟨len, fun A outer s H args us vs Q E hr e0 hb r hsp => ?_⟩
  have KX : K.In s.heap := e0.mod.kin.keeps fun b o e => (e0.bs b o e).1
  have lim : s.heap.NoLimit := e0.mod.nolimit.keeps fun b o e => (e0.bs b o e).1
  refine PySem.codeAny_call_function hr.rm.depth (KX _ _ lk) rfl S.co S.gen rfl (PySem.W.codeRec_of KX hcd) (hb _ _ _ _ (PySem.wpAny_newFunctionEnv_cells S.kind (fun y hy => ?_) fun env he s1 z => ?_))
  · rcases S.par y.1 (List.of_mem_zip (show (y.1, y.2) ∈ _ from hy)).1 with q | q
    · exact .inl q
    · exact .inr ⟨q, PySem.W.cellsFrom_some _ _ _ (.inl q)⟩
  · subst he
    refine ⟨lim.keeps z.toInCall.keep, PySem.codeAny_func ?_⟩
    obtain ⟨t, ht, hq⟩ := hbody cdv A outer s H vs Q E (hr.deeper _) hsp
    have I : Inv (cxOf CX P w K mg base N qual scope f cdv A outer s H E) [] (L2.start N vs) H s1 := inv_start S hr.rm.hd e0 (len _ _ _ _ hsp) r z
    refine PySem.wpAny_mono (ht.run [] s1 (L2.start N vs) H _ I hq) (fun fl s' hs => ?_) fun e s' hs => hs
    cases fl with
    | ret u =>
      obtain ⟨v, σ', H', J, rv, q⟩ := hs
      exact ⟨v, H', J.os, J.bare, J.base, J.hok, rv, q⟩
    | next =>
      obtain ⟨σ', H', J, q⟩ := hs
      exact ⟨.non, H', J.os, J.bare, J.base, J.hok, rfl, q⟩
    | brk => exact hs.elim fun _ h => h.elim fun _ h => h.2.elim
    | cont => exact hs.elim fun _ h => h.elim fun _ h => h.2.elim
end MP
end
-- MPSn9
section
set_option maxRecDepth 100000
set_option maxHeartbeats 1000000
/-! Calls as expressions. -/
namespace MP
open PySem (Addr Expr Stmt Str Pos Keyword)
open PySem.Spec
open L2
open PyProof.Rows hiding St
section
variable {W : Wd} {C : Cfg} {X : Cx}
def plainE : Expr → Bool | .Starred .. => false | _ => true
theorem star_cons {e : Expr} {es : List Expr} {env : PySem.Env} (h : plainE e = true) : PySem.starEach (e :: es) env = (false, PySem.eval e env) :: PySem.starEach es env := by
  cases e <;> first | rfl | cases h
theorem star_any {pos : Pos} {env : PySem.Env} : ∀ {es : List Expr}, (∀ e ∈ es, plainE e = true) → (PySem.backTo pos (PySem.starEach es env)).any (·.1) = false
  | [], _ => rfl
  | e :: es, h => by
    rw [star_cons (h e (List.mem_cons_self ..))]
    have := star_any (pos := pos) (env := env) (es := es) fun e m => h e (List.mem_cons_of_mem _ m)
    show (false || (PySem.backTo pos (PySem.starEach es env)).any (·.1)) = false
    rw [this]; rfl
theorem star_len {env : PySem.Env} : ∀ {es : List Expr}, (∀ e ∈ es, plainE e = true) → (PySem.starEach es env).all (fun x => !x.1) = true
  | [], _ => rfl
  | e :: es, h => by
    rw [star_cons (h e (List.mem_cons_self ..))]
    show (!false && (PySem.starEach es env).all (fun x => !x.1)) = true
    rw [star_len fun e m => h e (List.mem_cons_of_mem _ m)]; rfl
theorem back_all {pos : Pos} {l : List (Bool × PySem.Sem PySem.Value)} (h : l.all (fun x => !x.1) = true) : (PySem.backTo pos l).all (fun x => !x.1) = true := by
  unfold PySem.backTo
  rw [List.all_map]
  exact h
theorem kw_all {pos : Pos} {env : PySem.Env} : ∀ {kws : List Keyword}, (∀ k ∈ kws, k.arg.isSome = true) → (PySem.backToKw pos (PySem.keywordEach kws env)).all (·.1.isSome) = true
  | [], _ => rfl
  | ⟨n, v, p⟩ :: kws, h => by
    have h1 := h ⟨n, v, p⟩ (List.mem_cons_self ..)
    have := kw_all (pos := pos) (env := env) (kws := kws) fun e m => h e (List.mem_cons_of_mem _ m)
    show (n.isSome && (PySem.backToKw pos (PySem.keywordEach kws env)).all (·.1.isSome)) = true
    rw [this, show n.isSome = true from h1]; rfl
theorem kw_none {pos : Pos} {env : PySem.Env} {kws : List Keyword} (h : ∀ k ∈ kws, k.arg.isSome = true) : (PySem.backToKw pos (PySem.keywordEach kws env)).any (·.1.isNone) = false := by
  have := kw_all (pos := pos) (env := env) h
  rw [List.any_eq_false]
  intro x hx
  have := List.all_eq_true.mp this x hx
  cases hq : x.1 <;> simp_all
theorem kw_names {pos : Pos} {env : PySem.Env} : ∀ {kws : List Keyword} {ks : List Str}, kws.map (·.arg) = ks.map some → (PySem.backToKw pos (PySem.keywordEach kws env)).filterMap (·.1) = ks
  | [], [], _ => rfl
  | [], _ :: _, h => by cases h
  | _ :: _, [], h => by cases h
  | ⟨n, v, p⟩ :: kws, k :: ks, h => by
    simp only [List.map_cons, List.cons.injEq] at h
    have := kw_names (pos := pos) (env := env) (kws := kws) (ks := ks) h.2
    have e : n = some k := h.1
    subst e
    show k :: (PySem.backToKw pos (PySem.keywordEach kws env)).filterMap (·.1) = k :: ks
    rw [this]
theorem meth_eval {o : Expr} {m : Str} {apos pos : Pos} {es : List Expr} {kws : List Keyword} {env : PySem.Env} (hb : PySem.attributeBase o m env (PySem.eval o env) = PySem.eval o env) (hs : ∀ e ∈ es, plainE e = true) (hk : ∀ k ∈ kws, k.arg.isSome = true)
    (hn : es.length + kws.length < 29) (hl : (apos.endLine == pos.line) = true) :
    PySem.eval (.Call (.Attribute o m apos) es kws pos) env = (do
      let ov ← PySem.eval o env
      PySem.standAt apos.atName
      let (f, first) ← PySem.holding [ov] (PySem.getMethod ov m (do return (← PySem.importBound o env).getD true))
      PySem.callWith pos f first (PySem.backTo pos (PySem.starEach es env)) (PySem.backToKw pos (PySem.keywordEach kws env))) := by
  have hf : PySem.methodCallForm (es.length + kws.length) (PySem.backTo pos (PySem.starEach es env)) (PySem.backToKw pos (PySem.keywordEach kws env)) = true := by
    unfold PySem.methodCallForm
    rw [back_all (star_len hs), kw_all hk]
    simp only [Bool.true_and, decide_eq_true_eq]
    split <;> omega
  have e0 : PySem.eval (.Call (.Attribute o m apos) es kws pos) env = (do
      let ov ← PySem.attributeBase o m env (PySem.eval o env)
      PySem.standAt apos.atName
      PySem.methodCall o m apos pos env ov (es.length + kws.length) (PySem.backTo pos (PySem.starEach es env)) (PySem.backToKw pos (PySem.keywordEach kws env))) := by
    first | rfl | rw [PySem.eval]
  rw [e0, hb]
  have e1 : ∀ ov, PySem.methodCall o m apos pos env ov (es.length + kws.length) (PySem.backTo pos (PySem.starEach es env)) (PySem.backToKw pos (PySem.keywordEach kws env)) = (do
      let (f, first) ← PySem.holding [ov] (PySem.getMethod ov m (do return (← PySem.importBound o env).getD true))
      PySem.callWith pos f first (PySem.backTo pos (PySem.starEach es env)) (PySem.backToKw pos (PySem.keywordEach kws env))) := by
    intro ov
    have c1 : PySem.methodCallPos (PySem.methodCallForm (es.length + kws.length) (PySem.backTo pos (PySem.starEach es env)) (PySem.backToKw pos (PySem.keywordEach kws env))) o env apos pos = pure pos := by
      unfold PySem.methodCallPos
      rw [hf, hl]
      rfl
    unfold PySem.methodCall
    rw [c1, hf]
    first | rfl | simp only [pure_bind, PySem.calleeOf]; rfl
  simp only [e1]

/-! ### what is known of a def that is called -/
structure FI (X : Cx) (W : Wd) (k f : Nat) (fa : Nat → Addr) (fd : Nat → PySem.FuncData) (ps : Nat → List Str) (sp : Sp) : Prop where
  ok : FnOk X.prog X.w X.K X.mg X.base CX0 k (fa f) (fd f) (ps f) sp
  bd : Binds X.K (fd f) (ps f) []
theorem star_nil {env : PySem.Env} : PySem.starEach [] env = [] := rfl
theorem tAr_nil {τ H} {Q : List V → Hp → Prop} (h : tAr W C .nil τ H Q) : Q [] H := by
  obtain ⟨F, L, s, O, g, os, s', hr, q⟩ := h
  simp only [args] at hr
  cases hr
  exact q _ _ ⟨L, O, [], .refl, g.weak fun a h => h.elim id (by simp), .nil, .nil, by simp⟩
/-- f(..) -/
theorem snd_call {x : Str} {p pos : Pos} {es : List Expr} {ms : Es} {k f : Nat} {fa : Addr} {fd : PySem.FuncData} {ps : List Str} (hF : FnOk X.prog X.w X.K X.mg X.base CX0 k fa fd ps (spF W (C.call f))) (hb : Binds X.K fd ps []) (hr : Room k X.A) (hg : Gl X x)
    (hm : X.mg x = some (.ref fa)) (hk : PySem.W.keepIn X.K (.ref fa) = true) (hd : (x == ("__debug__" : Str)) = false) (ha : PA X es (tAr W C ms)) (hes : ∀ e ∈ es, plainE e = true) (hnil : es = [] → ms = .nil) : PE X (.Call (.Name x p) es [] pos) (tE W C (.call f [] ms)) := by
  have key : PE X (.Call (.Name x p) es [] pos) (tCall (spF W (C.call f)) [] E0 (tAr W C ms)) := by
    cases es with
    | nil =>
      obtain rfl := hnil rfl
      exact PE.imp (pe_call0 hF hr hg hm hk hb .nil pass0 hd) fun τ H Q h => tAr_nil h
    | cons e es => exact pe_call hF hr hg hm hk hb .nil pass0 ha hd (star_cons (hes e (List.mem_cons_self ..))) (star_any fun e m => hes e (List.mem_cons_of_mem _ m))
  refine PE.imp key fun τ H Q ⟨F, L, s, O, g, r, hr, q⟩ => ?_
  simp only [ev] at hr
  obtain ⟨⟨os, s1⟩, h1, hr⟩ := bind_ok hr
  obtain ⟨ps, h2, hr⟩ := bind_ok hr
  obtain ⟨ps2, h3, hr⟩ := bind_ok hr
  have h3 := ofO_ok h3
  cases h3
  refine ⟨F, L, s, O, g, os, s1, h1, fun vs H1 pa => ?_⟩
  obtain ⟨F', L', O', μ, en, r', μ', e1, q2⟩ := call_ok pa h2 hr
  show spF W (C.call f) (vs ++ []) H1 Q E0
  rw [List.append_nil]
  exact ⟨F', L', O', μ, ps, en, r', μ', e1, fun v H2 p => q v H2 (q2 v H2 p)⟩
theorem Reps.to0 {L B H ds vs} (h : Reps W L B H 0 ds vs []) : Reps W L B H 0 ds vs [] := h
/-- an instance that may be read -/
theorem ins_view {L H c fs x} (h : Rep W L no H 0 (.ins c fs) x []) : W.ok c = true ∧ ∃ a dx vs, x = .ref a ∧ H a = some (.ins (W.cls c) dx (((W.flds c).take fs.length).zip vs)) ∧ fs.length ≤ (W.flds c).length ∧ Reps W L no H 0 fs vs [] := by
  obtain ⟨ok, a, dx, fs', vs, h1, h2, h3, h4, h5, _⟩ := h.ins_inv
  subst h3
  exact ⟨ok, a, dx, vs, h1, h2, h4, h5⟩
theorem lookup_zip {ks : List Str} {vs : List V} {i : Nat} {k : Str} {v : V} (nd : ks.Nodup) (h1 : ks[i]? = some k) (h2 : vs[i]? = some v) : (ks.zip vs).lookup k = some v := by
  induction ks generalizing vs i with
  | nil => simp at h1
  | cons a ks ih =>
    cases vs with
    | nil => simp at h2
    | cons b vs =>
      cases i with
      | zero =>
        simp at h1 h2
        subst h1; subst h2
        simp [List.lookup]
      | succ i =>
        simp at h1 h2
        have hne : (k == a) = false := by
          have := (List.nodup_cons.mp nd).1
          refine beq_eq_false_iff_ne.mpr ?_
          intro e; subst e
          exact this (List.mem_of_getElem? h1)
        simp only [List.zip_cons_cons, List.lookup_cons, hne]
        exact ih (List.nodup_cons.mp nd).2 h1 h2
theorem lookup_zip_none {ks : List Str} {vs : List V} {k : Str} (h : k ∉ ks) : (ks.zip vs).lookup k = none := by
  induction ks generalizing vs with
  | nil => simp
  | cons a ks ih =>
    cases vs with
    | nil => simp
    | cons b vs =>
      simp only [List.mem_cons, not_or] at h
      have hne : (k == a) = false := beq_eq_false_iff_ne.mpr h.1
      simp only [List.zip_cons_cons, List.lookup_cons, hne]
      exact ih h.2
theorem OI.ins {L F H s τ O o v c fs} (g : Gd W L F H s τ O) (h : OI W L F H O τ o v) (e : o.val s = .ok (.ins c fs)) :
    W.ok c = true ∧ ∃ a dx vs, v = .ref a ∧ H a = some (.ins (W.cls c) dx (((W.flds c).take fs.length).zip vs)) ∧ fs.length ≤ (W.flds c).length ∧ Reps W L (BB F L O) H 0 fs vs [] := by
  cases o with
  | t d' k =>
    cases e
    obtain ⟨ok, a, dx, fs', vs, h1, h2, h3, h4, h5, _⟩ := Rep.ins_inv h
    subst h3
    exact ⟨ok, a, dx, vs, h1, h2, h4, h5⟩
  | s i =>
    obtain ⟨k, e⟩ := val_s.mp e
    obtain ⟨v', P, R, h1, h2, h3, _⟩ := g.slot e
    rw [show τ[i]? = some (some v) from h] at h1
    cases h1
    obtain ⟨ok, a, dx, fs', vs, h1, h2, h3, h4, h5, _⟩ := Rep.ins_inv h2
    subst h3
    exact ⟨ok, a, dx, vs, h1, h2, h4, h5⟩
/-- e.f -/
theorem snd_fld {a : Expr} {m : E} {c f : Nat} {x : Str} {pos : Pos} (T : CF X.K W) (hc : W.ok c = true) (hx : (W.flds c)[f]? = some x) (ha : PE X a (tO W C m)) (hb : PySem.attributeBase a x X.env (PySem.eval a X.env) = PySem.eval a X.env) : PE X (.Attribute a x pos) (tE W C (.fld m c f)) := by
  refine PE.imp (pe_fld ha hb) fun τ H Q ⟨F, L, s, O, g, r, hr, q⟩ => ?_
  simp only [ev] at hr
  obtain ⟨⟨p, s1⟩, h1, hr⟩ := bind_ok hr
  obtain ⟨d, hd, hr⟩ := bind_ok hr
  cases d <;> simp only [reduceCtorEq] at hr
  rename_i c' fs
  have ec : c = c' := Classical.byContradiction fun z => by rw [if_neg z] at hr; cases hr
  subst ec
  rw [if_pos rfl] at hr
  obtain ⟨e, he, hr⟩ := bind_ok hr
  cases hr
  have he := ofO_ok he
  refine ⟨F, L, s, O, g, p, s1, h1, fun v H1 hv => ?_⟩
  obtain ⟨F1, L1, O1, g1, k⟩ := hv.hold
  obtain ⟨pn, oi⟩ := k (.refl g1)
  obtain ⟨ok, a', dx, vs, rfl, ha', hl, hs⟩ := oi.ins pn.g hd
  obtain ⟨w, hw, rw'⟩ := hs.get0 he
  refine ⟨a', _, dx, _, w, rfl, ha', T.cls c ok, T.fld c x ok (List.mem_of_getElem? hx), ?_, q w H1 ⟨L1, O1, [], PE'.flat pn.st pn.g rw'⟩⟩
  have hf : f < fs.length := by
    rcases Nat.lt_or_ge f fs.length with z | z
    · exact z
    · rw [List.getElem?_eq_none z] at he; cases he
  exact lookup_zip (i := f) ((T.fnd c ok).1.sublist (List.take_sublist _ _)) (by rw [List.getElem?_take_of_lt hf]; exact hx) hw
/-- e.f, a property -/
theorem snd_prop {a : Expr} {m : E} {c f k : Nat} {x : Str} {pos : Pos} {pr fa : Addr} {fd : PySem.FuncData} {ps : List Str} (T : CF X.K W) (hp : PropOf X.K (W.cls c) x pr fa) (hF : FnOk X.prog X.w X.K X.mg X.base CX0 k fa fd ps (spF W (C.call (C.meth c f))))
    (hb : Binds X.K fd ps []) (hr : Room (k + 1) X.A) (hc : W.ok c = true) (ha : PE X a (tE W C m)) (hab : PySem.attributeBase a x X.env (PySem.eval a X.env) = PySem.eval a X.env) : PE X (.Attribute a x pos) (tE W C (.prop m c f)) := by
  refine PE.imp (pe_prop ha (T.cls c hc) hp hF hr hb .nil (X := X) (E := E0) (fun _ _ _ _ _ _ _ h => h.elim) hab) fun τ H Q ⟨F, L, s, O, g, r, hr, q⟩ => ?_
  simp only [ev] at hr
  obtain ⟨⟨⟨d, kk⟩, s1⟩, h1, hr⟩ := bind_ok hr
  cases d <;> simp only [reduceCtorEq] at hr
  rename_i c' fs
  have ec : c = c' := Classical.byContradiction fun z => by rw [if_neg z] at hr; cases hr
  subst ec
  rw [if_pos rfl] at hr
  refine ⟨F, L, s, O, g, _, h1, fun v H1 ⟨L1, O1, Ov, p⟩ => ?_⟩
  have pn := p.drop
  have r0 : Rep W L1 (BB F L1 O1) H1 0 (.ins c fs) v [] := p.r.frz (fun a b => b.elim (fun z => .inl (.inl z)) .inr) fun a m b => by
    rcases b with b | b | b
    · exact p.ap a m b
    · exact (p.g.ap a (.inr m)).1 b
    · exact (p.g.ap a (.inr m)).2 b
  obtain ⟨ok, a', dx, fs', vs, rfl, ha', _⟩ := r0.ins_inv
  have pa : PostA W F L H O τ [.t (.ins c fs) 0] s1 [.ref a'] H1 := ⟨L1, O1, [], pn.st, pn.g.weak fun a f => f.elim id (by simp), by
    refine RepA.tmp (O := []) (O' := []) (r0.mono fun a _ b => ?_) .nil
    rcases b with (b | b) | b
    · exact .inl b
    · cases b
    · exact .inr b, .nil, by simp⟩
  obtain ⟨F', L', O', μ, en, r', μ', e1, q2⟩ := call_ok (os := [.t (.ins c fs) 0]) pa (ps := [(.ins c fs, 0)]) rfl hr
  exact ⟨a', dx, fs', rfl, ha', F', L', O', μ, _, en, r', μ', e1, fun v H2 p => q v H2 (q2 v H2 p)⟩
end
end MP
end
-- MPCeq
section
set_option maxRecDepth 100000
set_option maxHeartbeats 1000000
/-! x == y, x != y of two instances, by the own __eq__, whatever it answers. -/
namespace MP
open PySem (Addr Expr Stmt Str Pos Keyword CmpOp)
open PySem.Spec
open PySem.W (InstAt findIn isFn)
open L2
open PyProof.Rows hiding St
section
variable {prog : PySem.Program} {w : PySem.World} {A : PySem.Around} {E : PySem.Value → PySem.Shared → Prop} {s : PySem.Shared} {K : PySem.W.Frag} {x y f C : Addr} {ox : PySem.Obj} {od : Option PySem.Obj}
open PySem
theorem ne_entry (X : K.In s.heap) (I : InstAt s.heap x ox C od) (hs : findIn K (.ref C) "__eq__" = some (some (.ref f))) (hf : isFn K (.ref f) = true) (hu : A.units < cLine) {Q : Fin → Shared → Prop}
    (hcall : wpAny (model prog w) A (call (.ref f) [.ref x, .ref y]) (fun v s' => ∃ b, v = .bool b ∧ Q (.done (.ret (.bool (!b)))) s') E s) :
    wpAny (model prog w) A (Builtin.«object.__ne__» ⟨[.ref x, .ref y], []⟩) Q E s := by
  unfold Builtin.«object.__ne__»
  repeat (first
    | with_reducible refine wpAny_cRoomFor hu ?_
    | (refine wpAny_bind (m := callSpecialIfBound? (.ref x) (Str.ofString "__eq__") [.ref y])
        (PySem.W.ifBound_K X I hs hf (wpAny_mono hcall (fun r s' hr => by
          obtain ⟨b, rfl, hq⟩ := hr
          repeat (first | exact hq | exact wpAny_pure hq | exact wpAny_truthy_bool hq | (refine wpAny_bind (m := truthy (.bool _)) (wpAny_truthy_bool ?_)) | wp_step)) fun _ _ e => e)))
    | wp_step)
theorem ne_call (X : K.In s.heap) (I : InstAt s.heap x ox C od) (hm : PySem.W.mroIn K C (.type "object") = some true) (hs : findIn K (.ref C) "__eq__" = some (some (.ref f))) (hf : isFn K (.ref f) = true) (hu : A.units + 1 < cLine) {Q : Value → Shared → Prop}
    (hcall : wpAny (model prog w) A.in1 (call (.ref f) [.ref x, .ref y]) (fun v s' => ∃ b, v = .bool b ∧ Q (.bool (!b)) s') E s) :
    wpAny (model prog w) A (call (.builtin "object.__ne__") [.ref x, .ref y]) Q E s := by
  refine wpAny_call (codeAny_call_builtin PySem.F.cmp_object.ne.plain PySem.F.cmpEntry_ne (PySem.W.check_slot PySem.F.cmpKind_ne PySem.F.cmpSplit_ne (I.type.andThen (PySem.W.looks_mroIn X hm)) (PySem.F.cmpArgs_ne _ _)
    (ne_entry (A := A.in1) X I hs hf hu (wpAny_mono hcall (fun v s' hv => ?_) fun _ _ e => e))))
  obtain ⟨b, rfl, hq⟩ := hv
  exact ⟨b, rfl, hq⟩
theorem ne_special (X : K.In s.heap) (I : InstAt s.heap x ox C od) (hn : findIn K (.ref C) "__ne__" = some (some (.builtin "object.__ne__"))) {args : List Value} {Q : Option Value → Shared → Prop}
    (h : wpAny (model prog w) A (call (.builtin "object.__ne__") (.ref x :: args)) (fun v => Q (some v)) E s) : wpAny (model prog w) A (callSpecialIfBound? (.ref x) "__ne__" args) Q E s := by
  simp only [callSpecialIfBound?, bindSpecialIfBound?]
  refine wpAny_holding (wpAny_bind (wpAny_bind (wpAny_bind (I.type.here ((PySem.W.looks_findIn X hn).here ?_)))))
  refine wpAny_bind (wpAny_askSetting (wpAny_ite ?_))
  have fin : wpAny (model prog w) A (call (.builtin "object.__ne__") ([.ref x] ++ args) >>= fun v => pure (some v)) Q E s := wpAny_bind (wpAny_mono h (fun v s' h' => wpAny_pure h') fun _ _ h' => h')
  split
  · exact wpAny_bind (wpAny_of_eq (PySem.F.cmp_object.ne.bind _) (wpAny_pure (by exact fin)))
  · exact wpAny_tryCatch (wpAny_bind (wpAny_of_eq (PySem.F.cmp_object.ne.bind _) (wpAny_pure (by exact fin))))
theorem ne_rc {oy : Obj} {od' : Option Obj} (X : K.In s.heap) (I : InstAt s.heap x ox C od) (J : InstAt s.heap y oy C od') (hm : PySem.W.mroIn K C (.type "object") = some true) (hn : findIn K (.ref C) "__ne__" = some (some (.builtin "object.__ne__")))
    (hs : findIn K (.ref C) "__eq__" = some (some (.ref f))) (hf : isFn K (.ref f) = true) (hu : A.units + 1 < cLine) {Q : Value → Shared → Prop}
    (hcall : wpAny (model prog w) A.in1 (call (.ref f) [.ref x, .ref y]) (fun v s' => ∃ b, v = .bool b ∧ Q (.bool (!b)) s') E s) :
    wpAny (model prog w) A (richCompare .NotEq (.ref x) (.ref y)) Q E s := by
  have one : wpAny (model prog w) A (tryCompare (.ref x) "__ne__" (.ref y)) (fun r s' => ∃ v, r = some v ∧ Q v s') E s := by
    unfold tryCompare
    refine wpAny_bind (ne_special X I hn (ne_call X I hm hs hf hu (wpAny_mono hcall (fun v s' hv => ?_) fun _ _ e => e)))
    obtain ⟨b, rfl, hq⟩ := hv
    exact ⟨b, rfl, wpAny_pure ⟨_, rfl, hq⟩⟩
  unfold richCompare
  simp only [oneThing_ref]
  refine wpAny_holding (wpAny_bind (wpAny_cRoomFor (by omega) ?_))
  refine wpAny_bind (I.type.here (wpAny_bind (J.type.here ?_)))
  split
  · rename_i q
    simp at q
  · refine wpAny_bind (wpAny_pure ?_)
    simp only [Bool.false_eq_true, if_false]
    refine wpAny_bind (wpAny_mono one (fun r s' z => ?_) fun _ _ e => e)
    obtain ⟨v, rfl, hq⟩ := z
    exact wpAny_pure hq
end
section
variable {W : Wd} {C : Cfg} {X : Cx}
def ceqOp (ng : Bool) : CmpOp := if ng then .NotEq else .Eq
def rCeq (ng : Bool) (CA : Addr) (sp : Sp) : R2 := fun x y H Q => ∃ a b dx dy fs gs, x = .ref a ∧ y = .ref b ∧ H a = some (.ins CA dx fs) ∧ H b = some (.ins CA dy gs) ∧ sp [.ref a, .ref b] H (fun v H' => ∃ r, v = .bl r ∧ Q (.bl (r != ng)) H') E0
theorem op_ceq {ng : Bool} {k : Nat} {CA fa : Addr} {fd : PySem.FuncData} {ps : List Str} {sp : Sp} (hF : FnOk X.prog X.w X.K X.mg X.base CX0 k fa fd ps sp) (hr : Room (k + 1) X.A) (hb : Binds X.K fd ps [])
    (hs : findIn X.K (.ref CA) "__eq__" = some (some (.ref fa))) (hf : isFn X.K (.ref fa) = true) (hn : ng = true → PySem.W.mroIn X.K CA (.type "object") = some true ∧ findIn X.K (.ref CA) "__ne__" = some (some (.builtin "object.__ne__"))) :
    OpR X (PySem.compareOp (ceqOp ng)) (rCeq ng CA sp) := by
  intro pins s σ H x y v u Q I rx ry ⟨a, b, dx, dy, fs, gs, ex, ey, ha, hb', q⟩
  subst ex ey
  cases rx
  cases ry
  obtain ⟨mA, J, _⟩ := ins_get I.hok ha
  obtain ⟨mB, J', _⟩ := ins_get I.hok hb'
  obtain ⟨od, J, _⟩ := J.look
  obtain ⟨od', J', _⟩ := J'.look
  obtain ⟨m, hFr⟩ := I.fr
  have hu := hr.units
  have call : ∀ A : PySem.Around, Room k A → (A.frames = X.A.frames) → PySem.wpAny (PySem.model X.prog X.w) A (PySem.call (.ref fa) [.ref a, .ref b]) (EP X pins σ fun v H' => ∃ r, v = .bl r ∧ Q (.bl (r != ng)) H') X.xe s := by
    intro A hrA hfr
    have e0 : Env0 X.prog X.w X.K X.mg X.base A X.stack s H := by
      have e := I.env0
      exact ⟨by rw [hfr]; exact e.frames, e.mod, e.bs, e.bsz, e.funs, e.frf, e.hok, e.bare⟩
    have hl := hF.len _ _ _ _ q
    have r2 : Vals [V.ref a, V.ref b] [PySem.Value.ref a, PySem.Value.ref b] := .cons rfl (.cons rfl .nil)
    refine PySem.wpAny_call (PySem.codeAny_mono (hF.run A X.stack s H ⟨[.ref a, .ref b], []⟩ [.ref a, .ref b] [.ref a, .ref b] _ E0 hrA e0 (by
      have := hb s [.ref a, .ref b] I.kIn (by simpa using hl)
      simpa using this) r2 q) (cr_end pass0 I))
  cases ng with
  | false =>
    show PySem.wpAny (PySem.model X.prog X.w) X.A (PySem.richCompare .Eq (.ref a) (.ref b)) (EP X pins σ Q) X.xe s
    refine PySem.W.cmp_K (op := .Eq) (tb := .ref CA) (by omega) hFr I.ok.mod.kin J J'.type (by simp [PySem.W.notFirst]) hs hf ?_
    refine PySem.wpAny_mono (call X.A (hr.mono (by omega)) rfl) (fun v s' z => ?_) fun _ _ x => x
    obtain ⟨x, H', I', rz, r, rfl, q2⟩ := z
    cases rz
    exact ⟨.bl r, H', I', rfl, by simpa using q2⟩
  | true =>
    obtain ⟨h1, h2⟩ := hn rfl
    show PySem.wpAny (PySem.model X.prog X.w) X.A (PySem.richCompare .NotEq (.ref a) (.ref b)) (EP X pins σ Q) X.xe s
    refine ne_rc I.kIn J J' h1 h2 hs hf (by omega) ?_
    refine PySem.wpAny_mono (call X.A.in1 hr.in1 rfl) (fun v s' z => ?_) fun _ _ x => x
    obtain ⟨x, H', I', rz, r, rfl, q2⟩ := z
    cases rz
    exact ⟨r, rfl, .bl (!r), H', I', rfl, by simpa using q2⟩
/-- a == b, a != b -/
theorem snd_ceq {a b : Expr} {m n : E} {ng : Bool} {c f k : Nat} {fa : Addr} {fd : PySem.FuncData} {ps : List Str} {pos : Pos} (hF : FnOk X.prog X.w X.K X.mg X.base CX0 k fa fd ps (spF W (C.call (C.meth c f)))) (hr : Room (k + 1) X.A) (hb : Binds X.K fd ps [])
    (hs : findIn X.K (.ref (W.cls c)) "__eq__" = some (some (.ref fa))) (hf : isFn X.K (.ref fa) = true) (hn : ng = true → PySem.W.mroIn X.K (W.cls c) (.type "object") = some true ∧ findIn X.K (.ref (W.cls c)) "__ne__" = some (some (.builtin "object.__ne__")))
    (hm : PySem.behindInMarks (ceqOp ng) b = false) (ha : PE X a (tE W C m)) (hbb : PE X b (tE W C n)) :
    PE X (.Compare a [ceqOp ng] [b] pos) (tE W C (.ceq ng c f m n)) ∧ PT X (.Compare a [ceqOp ng] [b] pos) (tBo W C (.ceq ng c f m n)) := by
  have ho := op_ceq (ng := ng) hF hr hb hs hf hn
  have isb : ∀ {s r}, ev C (.ceq ng c f m n) s = .ok r → ∃ b s', r = ((.bl b, 0), s') := by
    intro s r hr
    simp only [ev] at hr
    obtain ⟨⟨p, s1⟩, h1, hr⟩ := bind_ok hr
    obtain ⟨⟨p2, s2⟩, h2, hr⟩ := bind_ok hr
    simp only at hr
    split at hr
    · split at hr
      · obtain ⟨⟨r2, s3⟩, h3, hr⟩ := bind_ok hr
        simp only at hr
        split at hr
        · cases hr; exact ⟨_, _, rfl⟩
        · cases hr
      · cases hr
    · cases hr
  have key : ∀ {τ H} {Q : V → Hp → Prop} {F L s O} {s' : Sta} {r : Bool}, Gd W L F H s τ O → ev C (.ceq ng c f m n) s = .ok ((.bl r, 0), s') → (∀ H', PostN W F L H O τ s' H' → Q (.bl r) H') →
      tOp (rCeq ng (W.cls c) (spF W (C.call (C.meth c f)))) (tE W C m) (tE W C n) τ H Q := by
    intro τ H Q F L s O s' r g hr q
    simp only [ev] at hr
    obtain ⟨⟨⟨d1, k1⟩, s1⟩, h1, hr⟩ := bind_ok hr
    obtain ⟨⟨⟨d2, k2⟩, s2⟩, h2, hr⟩ := bind_ok hr
    obtain ⟨c1, fs, e1⟩ : ∃ c1 fs, d1 = .ins c1 fs := by cases d1 <;> first | exact ⟨_, _, rfl⟩ | (simp only [reduceCtorEq] at hr)
    subst e1
    obtain ⟨c2, gs, e2⟩ : ∃ c2 gs, d2 = .ins c2 gs := by cases d2 <;> first | exact ⟨_, _, rfl⟩ | (simp only [reduceCtorEq] at hr)
    subst e2
    simp only at hr
    split at hr
    · rename_i hc
      obtain ⟨rfl, rfl⟩ := hc
      obtain ⟨⟨⟨r2, k3⟩, s3⟩, h3, hr⟩ := bind_ok hr
      obtain ⟨x, e3⟩ : ∃ x, r2 = .bl x := by cases r2 <;> first | exact ⟨_, rfl⟩ | (simp only [reduceCtorEq] at hr)
      subst e3
      simp only at hr
      cases hr
      refine ⟨F, L, s, O, g, _, h1, fun v H1 ⟨L1, O1, Ov1, p1⟩ => ?_⟩
      refine ⟨FU F Ov1, L1, s1, O1, p1.g, _, h2, fun u H2 ⟨L2, O2, Ov2, p2⟩ => ?_⟩
      have pn := p2.drop
      have q1 := p1.r.step p1.g pn.st fun a m => .inr m
      have r1 : Rep W L2 (BB F L2 O2) H2 0 (.ins c fs) v [] := by
        refine q1.frz (fun a b => b.elim (fun z => .inl (.inl (.inl z))) .inr) fun a m b => ?_
        rcases b with b | b | b
        · exact p1.ap a m b
        · exact (pn.g.ap a (.inr m)).1 b
        · exact (pn.g.ap a (.inr m)).2 b
      have r2 : Rep W L2 (BB F L2 O2) H2 0 (.ins c gs) u [] := p2.r.frz (fun a b => b.elim (fun z => .inl (.inl (.inl z))) .inr) fun a m b => by
        rcases b with b | b | b
        · exact p2.ap a m (.inl b)
        · exact (p2.g.ap a (.inr m)).1 b
        · exact (p2.g.ap a (.inr m)).2 b
      obtain ⟨_, a', dx, fs', vs, rfl, ha', _⟩ := r1.ins_inv
      obtain ⟨_, b', dy, gs', ws, rfl, hb', _⟩ := r2.ins_inv
      have st : Stp L H O L2 H2 O2 [] := p1.st.trans pn.st (by simp)
      have gw : Gd W L2 F H2 s2 τ O2 := pn.g.weak fun a z => .inl z
      have pa : PostA W F L H O τ [.t (.ins c fs) 0, .t (.ins c gs) 0] s2 [.ref a', .ref b'] H2 := ⟨L2, O2, [], st, gw.weak fun a f => f.elim id (by simp), by
        refine RepA.tmp (O := []) (O' := []) (r1.mono fun a _ b => ?_) (RepA.tmp (O := []) (O' := []) (r2.mono fun a _ b => ?_) .nil)
        · rcases b with (b | b) | b
          · exact .inl b
          · cases b
          · exact .inr b
        · rcases b with (b | b) | b
          · exact .inl b
          · cases b
          · exact .inr b, .nil, by simp⟩
      obtain ⟨F', L', O', μ, en, r', μ', e1, q3⟩ := call_ok (os := [.t (.ins c fs) 0, .t (.ins c gs) 0]) pa (ps := [(.ins c fs, 0), (.ins c gs, 0)]) rfl h3
      refine ⟨a', b', dx, dy, _, _, rfl, rfl, ha', hb', F', L', O', μ, _, en, r', μ', e1, fun v H3 p => ?_⟩
      obtain ⟨L3, O3, Ov3, p3⟩ := q3 v H3 p
      have hv : v = .bl x := by
        have z := p3.r
        cases z
        rfl
      subst hv
      exact ⟨x, rfl, q H3 ⟨L3, O3, p3.drop⟩⟩
    · cases hr
  constructor
  · refine PE.imp (pe_cmpR ho ha hbb hm) fun τ H Q ⟨F, L, s, O, g, r, hr, q⟩ => ?_
    obtain ⟨b, s', rfl⟩ := isb hr
    exact key g hr fun H' ⟨L', O', p⟩ => q _ H' ⟨L', O', [], PE'.flat p.st p.g (.bl 0 b)⟩
  · refine PT.imp (pt_cmpR ho ha hbb hm) fun τ H Q ⟨F, L, s, O, g, b, s', hr, q⟩ => ?_
    obtain ⟨⟨p, s2⟩, h1, h2⟩ := bind_ok hr
    obtain ⟨b', s3, e⟩ := isb h1
    cases e
    cases h2
    exact key g h1 fun H' p => ⟨_, rfl, q H' p⟩
end
end MP
end
-- MPNi
section
set_option maxRecDepth 100000
set_option maxHeartbeats 1000000
/-! x == y of an instance and a thing of another kind: the own __eq__ tells NotImplemented, the other's does, too. -/
namespace MP
open PySem (Addr Expr Stmt Str Pos Keyword CmpOp Scope)
open PySem.Spec
open PySem.W (InstAt findIn isFn subIn kitOne instObj Looks)
open L2
open PyProof.Rows hiding St
section
open PySem.SeqAt
variable {prog : PySem.Program} {w : PySem.World} {A : PySem.Around} {E : PySem.Value → PySem.Shared → Prop} {s : PySem.Shared} {K : PySem.W.Frag} {x y f C dx : Addr} {od : Option PySem.Obj}
open PySem
theorem kit_subT {T : String} (h : kitOne K (.ref C) (.type T) = some false) : subIn K (.ref C) (.type T) = some false := by
  unfold kitOne at h
  rw [if_neg (by simp)] at h
  unfold PySem.W.kitCls at h
  simp only at h
  split at h
  · exact h
  · cases h
theorem kit_subC {T : String} (h : kitOne K (.type T) (.ref C) = some false) : subIn K (.type T) (.ref C) = some false := by
  unfold kitOne at h
  rw [if_neg (by simp)] at h
  unfold PySem.W.kitCls at h
  simp only at h
  split at h
  · exact h
  · cases h
theorem not_inst {T : String} (X : K.In s.heap) (I : InstAt s.heap x (instObj C dx) C od) (hs : subIn K (.ref C) (.type T) = some false) : Looks (model prog w) s.heap (isInstance (.ref x) (.type T)) false :=
  I.type.andThen (PySem.W.looks_subIn X hs)
theorem list_decl {l : Addr} {Q : Option Value → Shared → Prop} (X : K.In s.heap) (I : InstAt s.heap x (instObj C dx) C od) (hs : subIn K (.ref C) (.type "list") = some false) (hT : s.TypeIs (.ref l) "list") (hq : Q none s) :
    wpAny (model prog w) A (tryCompare (.ref l) "__eq__" (.ref x)) Q E s := by
  refine wpAny_tryCompare_declines hT PySem.F.slot_list_eq_refl (GQ.call_here PySem.F.slot_list_eq_refl hT PySem.F.entry_list_eq (PySem.F.args_list_eq_2 _ _) ?_)
  have hi : Looks (model prog w) s.heap (isInstance (.ref x) (.type "list")) false := not_inst X I hs
  unfold Builtin.«list.__eq__»
  show wpAny _ _ (isInstance (.ref x) (.type "list") >>= _) _ _ s
  refine wpAny_bind (hi.here ?_)
  simp only [Bool.not_false, if_true]
  exact wpAny_pure ⟨rfl, hq⟩
theorem tuple_decl {l : Addr} {Q : Option Value → Shared → Prop} (X : K.In s.heap) (I : InstAt s.heap x (instObj C dx) C od) (hs : subIn K (.ref C) (.type "tuple") = some false) (hT : s.TypeIs (.ref l) "tuple") (hq : Q none s) :
    wpAny (model prog w) A (tryCompare (.ref l) "__eq__" (.ref x)) Q E s := by
  refine wpAny_tryCompare_declines hT PySem.F.slot_tuple_eq_refl (GQ.call_here PySem.F.slot_tuple_eq_refl hT PySem.F.entry_tuple_eq (PySem.F.args_tuple_eq_2 _ _) ?_)
  have hi : Looks (model prog w) s.heap (isInstance (.ref x) (.type "tuple")) false := not_inst X I hs
  unfold Builtin.«tuple.__eq__»
  show wpAny _ _ (isInstance (.ref x) (.type "tuple") >>= _) _ _ s
  refine wpAny_bind (hi.here ?_)
  simp only [Bool.not_false, if_true]
  exact wpAny_pure ⟨rfl, hq⟩
theorem int_decl {i : Int} {t : Tok} {Q : Option Value → Shared → Prop} (I : InstAt s.heap x (instObj C dx) C od) (hq : Q none s) :
    wpAny (model prog w) A (tryCompare (.int i t) "__eq__" (.ref x)) Q E s := by
  have hT : s.TypeIs (.int i t) "int" := typeIs_int s i t
  refine wpAny_tryCompare_declines hT PySem.F.slot_int_eq_refl (GQ.call_here PySem.F.slot_int_eq_refl hT PySem.F.entry_int_eq (PySem.F.args_int_eq_2 _ _) ?_)
  unfold Builtin.«int.__eq__»
  show wpAny _ _ (asInt? (.ref x) >>= _) _ _ s
  refine wpAny_bind ?_
  unfold asInt?
  refine wpAny_bind (wpAny_load I.at_ ?_)
  show wpAny _ _ (pure none) _ _ s
  refine wpAny_pure ?_
  exact wpAny_bind (wpAny_rule (wpAny_pure ⟨rfl, hq⟩))
theorem none_decl {Q : Option Value → Shared → Prop} (hq : Q none s) : wpAny (model prog w) A (tryCompare .none "__eq__" (.ref x)) Q E s :=
  wpAny_tryCompare_declines (show s.TypeIs .none "NoneType" from rfl) F.slot_NoneType_eq_refl (call_gives F.slot_NoneType_eq_refl rfl F.entry_NoneType_eq (F.args_NoneType_eq_2 _ _) (NoneType___eq___none_ref_0 x) ⟨rfl, hq⟩)
/-- what both heaps know: the instance, the other thing -/
inductive OKind (s : Shared) : Value → String → Prop
  | non : OKind s .none "NoneType"
  | int (i t) : OKind s (.int i t) "int"
  | lst {l} : s.TypeIs (.ref l) "list" → OKind s (.ref l) "list"
  | tup {l} : s.TypeIs (.ref l) "tuple" → OKind s (.ref l) "tuple"
theorem OKind.ty {u : Value} {T : String} (h : OKind s u T) : s.TypeIs u T := by
  cases h with
  | non => rfl
  | int => exact typeIs_int _ _ _
  | lst h => exact h
  | tup h => exact h
theorem ceo_rc {u : Value} {T : String} {Q : Value → Shared → Prop} (X : K.In s.heap) (I : InstAt s.heap x (instObj C dx) C od) (hk : OKind s u T) (hC : subIn K (.type T) (.ref C) = some false)
    (hs : findIn K (.ref C) "__eq__" = some (some (.ref f))) (hf : isFn K (.ref f) = true) (hu : A.units < cLine)
    (hT : ∀ T ∈ ["list", "tuple"], subIn K (.ref C) (.type T) = some false)
    (hcall : wpAny (model prog w) A (call (.ref f) [.ref x, u]) (fun v s' => v = .notImplemented ∧ K.In s'.heap ∧ (∃ dx od, InstAt s'.heap x (instObj C dx) C od) ∧ OKind s' u T ∧ Q (.bool false) s') E s) :
    wpAny (model prog w) A (richCompare .Eq (.ref x) u) Q E s := by
  have one : wpAny (model prog w) A (tryCompare (.ref x) "__eq__" u) (fun r s' => r = none ∧ K.In s'.heap ∧ (∃ dx od, InstAt s'.heap x (instObj C dx) C od) ∧ OKind s' u T ∧ Q (.bool false) s') E s := by
    unfold tryCompare
    refine wpAny_bind (PySem.W.ifBound_K X I hs hf (wpAny_mono hcall (fun v s' hv => ?_) fun _ _ e => e))
    obtain ⟨rfl, hv⟩ := hv
    exact wpAny_pure ⟨rfl, hv⟩
  unfold richCompare
  rw [show oneThing? .Eq (.ref x) u = none from by cases u <;> rfl]
  refine wpAny_holding (wpAny_bind (wpAny_cRoomFor hu ?_))
  simp only [cmpInfo_Eq]
  refine wpAny_bind (I.type.here ?_)
  refine wpAny_bind (wpAny_typeOf hk.ty ?_)
  split
  · refine wpAny_bind ((PySem.W.looks_subIn X hC).here ?_)
    simp only [Bool.false_eq_true, if_false, Bool.not_false, if_true]
    refine wpAny_bind (m := tryCompare (.ref x) _ u) (wpAny_mono one (fun r s1 z => ?_) fun _ _ e => e)
    obtain ⟨rfl, X1, ⟨dx1, od1, I1⟩, k1, hq⟩ := z
    have two : ∀ Q2 : Option Value → Shared → Prop, Q2 none s1 → wpAny (model prog w) A (tryCompare u "__eq__" (.ref x)) Q2 E s1 := by
      intro Q2 h2
      cases k1 with
      | non => exact none_decl h2
      | int i t => exact int_decl I1 h2
      | lst h => exact list_decl X1 I1 (hT _ (by simp)) h h2
      | tup h => exact tuple_decl X1 I1 (hT _ (by simp)) h h2
    refine wpAny_bind (m := tryCompare u _ (.ref x)) (two _ ?_)
    refine wpAny_bind (wpAny_rule (wpAny_bind ?_))
    cases k1 with
    | non => exact wpAny_of_eq (rfl : isSame (.ref x) .none = pure false) (wpAny_pure hq)
    | int i t => exact wpAny_of_eq (rfl : isSame (.ref x) (.int i t) = pure false) (wpAny_pure hq)
    | lst h =>
      obtain ⟨o, ho, hc⟩ := h
      refine wpAny_isSame_ref_other (fun e => ?_) I1.at_ ho (by simp) (wpAny_pure hq)
      subst e
      rw [I1.at_] at ho
      cases ho
      cases hc
    | tup h =>
      obtain ⟨o, ho, hc⟩ := h
      refine wpAny_isSame_ref_other (fun e => ?_) I1.at_ ho (by simp) (wpAny_pure hq)
      subst e
      rw [I1.at_] at ho
      cases ho
      cases hc
  · rename_i q
    exact absurd (by simp) q
end
section
variable {W : Wd} {C : Cfg} {X : Cx}
def spNi (W : Wd) (c : Nat) (vs : List V) (H : Hp) (Q : Hp → Prop) : Prop := ∃ F L O μ p d, EnF W F L H O [p, d] μ vs ∧ tyD (.cls c) d.1 = some false ∧ ∀ H', PostF W F L H O (.non, 0) μ .non H' → Q H'
/-- a def that tells NotImplemented -/
structure NiOk (P : PySem.Program) (w : PySem.World) (K : PySem.W.Frag) (mg : Str → Option PySem.Value) (base : PySem.Heap) (k : Nat) (W : Wd) (c : Nat) (f : Addr) (fd : PySem.FuncData) (ps : List Str) : Prop where
  len : ps.length = 2
  run : ∀ (A : PySem.Around) (outer : List PySem.Env) (s : PySem.Shared) (H : Hp) (args : PySem.Args) (us : List PySem.Value) (vs : List V) (Q : Hp → Prop), Room k A → Env0 P w K mg base A outer s H → PySem.BindsTo s fd args (ps.zip us) → Vals vs us → spNi W c vs H Q →
    PySem.codeAny (PySem.model P w) A (.call (.ref f) args) (fun r s' => r = .ok (.ret .notImplemented) ∧ CE outer P w H s (fun z H' => z = .non ∧ Q H') .none s') s
/-- the kinds, with the name -/
inductive OK1 (K : PySem.W.Frag) (H : Hp) : V → String → Prop
  | non : OK1 K H .non "NoneType"
  | int (i) : OK1 K H (.int i) "int"
  | lst {b vs} : SqL K H b vs → OK1 K H (.ref b) "list"
  | tup {b vs} : SqT K H b vs → OK1 K H (.ref b) "tuple"
theorem OK1.kind {pins : List (Addr × PySem.Obj)} {σ : L2.St} {H : Hp} {s : PySem.Shared} {y : V} {u : PySem.Value} {T : String} (I : Inv X pins σ H s) (h : OK1 X.K H y T) (r : RelV y u) : OKind s u T := by
  cases h with
  | non => cases r; exact .non
  | int i => obtain ⟨t, rfl⟩ := r; exact .int i t
  | lst h =>
    cases r
    obtain ⟨its, _, hl, _⟩ := I.list h
    exact .lst hl.isList.typeIs
  | tup h =>
    cases r
    obtain ⟨its, _, hl, _⟩ := I.tuple h
    exact .tup hl.typeIs
theorem OK1.mem {K : PySem.W.Frag} {H : Hp} {y : V} {T : String} (h : OK1 K H y T) : T ∈ ["NoneType", "int", "bool", "str", "list", "tuple"] := by cases h <;> simp
def rCeo (K : PySem.W.Frag) (W : Wd) (c : Nat) : R2 := fun x y H Q => ∃ a dx fs T, x = .ref a ∧ H a = some (.ins (W.cls c) dx fs) ∧ OK1 K H y T ∧ spNi W c [x, y] H fun H' => (∃ dx fs, H' a = some (.ins (W.cls c) dx fs)) ∧ OK1 K H' y T ∧ Q (.bl false) H'
theorem op_ceo {k c : Nat} {fa : Addr} {fd : PySem.FuncData} {ps : List Str} (T : CF X.K W) (hc : W.ok c = true) (hN : NiOk X.prog X.w X.K X.mg X.base k W c fa fd ps) (hr : Room k X.A) (hb : Binds X.K fd ps [])
    (hs : findIn X.K (.ref (W.cls c)) "__eq__" = some (some (.ref fa))) (hf : isFn X.K (.ref fa) = true) : OpR X (PySem.compareOp .Eq) (rCeo X.K W c) := by
  intro pins s σ H x y v u Q I rx ry ⟨a, dx, fs, TT, ex, ha, hk, q⟩
  subst ex
  cases rx
  obtain ⟨mA, J, _⟩ := ins_get I.hok ha
  obtain ⟨od, J, _⟩ := J.look
  have hu := hr.units
  show PySem.wpAny (PySem.model X.prog X.w) X.A (PySem.richCompare .Eq (.ref a) u) (EP X pins σ Q) X.xe s
  refine ceo_rc I.kIn J (hk.kind I ry) (kit_subC (T.kC c hc TT hk.mem)) hs hf (by omega) (fun S m => kit_subT (T.kT c hc S (by simp at m; rcases m with rfl | rfl <;> simp))) ?_
  have r2 : Vals [V.ref a, y] [PySem.Value.ref a, u] := .cons rfl (.cons ry .nil)
  refine PySem.wpAny_call (PySem.codeAny_mono (hN.run X.A X.stack s H ⟨[.ref a, u], []⟩ [.ref a, u] [.ref a, y] _ hr I.env0 (by
      have := hb s [.ref a, u] I.kIn (by simpa using hN.len.symm)
      simpa using this) r2 q) fun r s' hq => ?_)
  obtain ⟨rfl, hce⟩ := hq
  obtain ⟨z, H', I', rz, ez, ⟨dx2, fs2, h1⟩, h2, h3⟩ := I.after hce
  obtain ⟨mB, J', _⟩ := ins_get I'.hok h1
  obtain ⟨od', J', _⟩ := J'.look
  exact ⟨rfl, I'.kIn, ⟨dx2, some od', J'⟩, h2.kind I' ry, .bl false, H', I', rfl, h3⟩
def kindO : D → String | .non => "NoneType" | .int _ => "int" | .lst _ => "list" | .tup _ => "tuple" | _ => ""
theorem Rep.ok1 {L : List Addr} {B : Addr → Prop} {H : Hp} {d : D} {v : V} (h : otherK d = true) (r : Rep W L B H 0 d v []) : OK1 X.K H v (kindO d) := by
  cases d <;> simp only [otherK, Bool.false_eq_true] at h
  · cases r; exact .non
  · cases r; exact .int _
  · obtain ⟨a, vs, rfl, ha, _⟩ := r.tup_inv
    exact .tup (.inl (.inl ha))
  · rcases r.lst_inv with ⟨_, _, a, vs, rfl, ha, _⟩ | ⟨k', a', vs', O', z, _⟩
    · exact .lst (.inl (.inl ha))
    · cases z
theorem other_ty {c : Nat} {d : D} (h : otherK d = true) : tyD (.cls c) d = some false := by
  cases d <;> simp only [otherK, Bool.false_eq_true] at h <;> rfl
/-- a == b, b of another kind -/
theorem snd_ceo {a b : Expr} {m n : E} {c f k : Nat} {fa : Addr} {fd : PySem.FuncData} {ps : List Str} {pos : Pos} (T : CF X.K W) (hc : W.ok c = true) (hN : (∃ ps μ r, C.call (C.meth c f) ps μ = .ok r) → NiOk X.prog X.w X.K X.mg X.base k W c fa fd ps) (hr : Room k X.A) (hb : Binds X.K fd ps [])
    (hs : findIn X.K (.ref (W.cls c)) "__eq__" = some (some (.ref fa))) (hf : isFn X.K (.ref fa) = true)
    (hm : PySem.behindInMarks .Eq b = false) (ha : PE X a (tE W C m)) (hbb : PE X b (tE W C n)) :
    PE X (.Compare a [.Eq] [b] pos) (tE W C (.ceo c f m n)) ∧ PT X (.Compare a [.Eq] [b] pos) (tBo W C (.ceo c f m n)) := by
  by_cases hg : ∃ ps μ r, C.call (C.meth c f) ps μ = .ok r
  case neg =>
    have no : ∀ {s r}, ev C (.ceo c f m n) s ≠ .ok r := by
      intro s r hr
      simp only [ev] at hr
      obtain ⟨⟨⟨d1, k1⟩, s1⟩, h1, hr⟩ := bind_ok hr
      obtain ⟨⟨⟨d2, k2⟩, s2⟩, h2, hr⟩ := bind_ok hr
      obtain ⟨c1, fs, e1⟩ : ∃ c1 fs, d1 = .ins c1 fs := by cases d1 <;> first | exact ⟨_, _, rfl⟩ | (simp only [reduceCtorEq] at hr)
      subst e1
      simp only at hr
      split at hr
      · obtain ⟨r2, h3, _⟩ := bind_ok hr
        exact hg ⟨_, _, _, h3⟩
      · cases hr
    exact ⟨⟨fun _ _ _ _ _ _ ⟨_, _, _, _, _, _, h, _⟩ => absurd h no⟩, ⟨fun _ _ _ _ _ _ ⟨_, _, _, _, _, _, _, h, _⟩ => by
      obtain ⟨x, h1, _⟩ := bind_ok h
      exact absurd h1 no⟩⟩
  have ho := op_ceo T hc (hN hg) hr hb hs hf
  have isb : ∀ {s r}, ev C (.ceo c f m n) s = .ok r → ∃ s', r = ((.bl false, 0), s') := by
    intro s r hr
    simp only [ev] at hr
    obtain ⟨⟨⟨d1, k1⟩, s1⟩, h1, hr⟩ := bind_ok hr
    obtain ⟨⟨⟨d2, k2⟩, s2⟩, h2, hr⟩ := bind_ok hr
    obtain ⟨c1, fs, e1⟩ : ∃ c1 fs, d1 = .ins c1 fs := by cases d1 <;> first | exact ⟨_, _, rfl⟩ | (simp only [reduceCtorEq] at hr)
    subst e1
    simp only at hr
    split at hr
    · obtain ⟨r2, h3, hr⟩ := bind_ok hr
      cases hr
      exact ⟨_, rfl⟩
    · cases hr
  have key : ∀ {τ H} {Q : V → Hp → Prop} {F L s O} {s' : Sta}, Gd W L F H s τ O → ev C (.ceo c f m n) s = .ok ((.bl false, 0), s') → (∀ H', PostN W F L H O τ s' H' → Q (.bl false) H') →
      tOp (rCeo X.K W c) (tE W C m) (tE W C n) τ H Q := by
    intro τ H Q F L s O s' g hr q
    simp only [ev] at hr
    obtain ⟨⟨⟨d1, k1⟩, s1⟩, h1, hr⟩ := bind_ok hr
    obtain ⟨⟨⟨d2, k2⟩, s2⟩, h2, hr⟩ := bind_ok hr
    obtain ⟨c1, fs, e1⟩ : ∃ c1 fs, d1 = .ins c1 fs := by cases d1 <;> first | exact ⟨_, _, rfl⟩ | (simp only [reduceCtorEq] at hr)
    subst e1
    simp only at hr
    split at hr
    · rename_i hcc
      obtain ⟨rfl, hd⟩ := hcc
      obtain ⟨r2, h3, hr⟩ := bind_ok hr
      cases hr
      refine ⟨F, L, s, O, g, _, h1, fun v H1 ⟨L1, O1, Ov1, p1⟩ => ?_⟩
      refine ⟨FU F Ov1, L1, s1, O1, p1.g, _, h2, fun u H2 ⟨L2, O2, Ov2, p2⟩ => ?_⟩
      have pn := p2.drop
      have q1 := p1.r.step p1.g pn.st fun a m => .inr m
      have r1 : Rep W L2 (BB F L2 O2) H2 0 (.ins c fs) v [] := by
        refine q1.frz (fun a b => b.elim (fun z => .inl (.inl (.inl z))) .inr) fun a m b => ?_
        rcases b with b | b | b
        · exact p1.ap a m b
        · exact (pn.g.ap a (.inr m)).1 b
        · exact (pn.g.ap a (.inr m)).2 b
      have r2 : Rep W L2 (BB F L2 O2) H2 0 d2 u [] := p2.r.frz (fun a b => b.elim (fun z => .inl (.inl (.inl z))) .inr) fun a m b => by
        rcases b with b | b | b
        · exact p2.ap a m (.inl b)
        · exact (p2.g.ap a (.inr m)).1 b
        · exact (p2.g.ap a (.inr m)).2 b
      obtain ⟨_, a', dx, fs', vs, e1, ha', _⟩ := id r1.ins_inv
      subst e1
      have st : Stp L H O L2 H2 O2 [] := p1.st.trans pn.st (by simp)
      have gw : Gd W L2 F H2 s' τ O2 := pn.g.weak fun a z => .inl z
      have pa : PostA W F L2 H2 O2 τ [.t (.ins c fs) 0, .t d2 0] s' [.ref a', u] H2 := ⟨L2, O2, [], .refl, gw.weak fun a f => f.elim id (by simp), by
        refine RepA.tmp (O := []) (O' := []) (r1.mono fun a _ b => ?_) (RepA.tmp (O := []) (O' := []) (r2.mono fun a _ b => ?_) .nil)
        · rcases b with (b | b) | b
          · exact .inl b
          · cases b
          · exact .inr b
        · rcases b with (b | b) | b
          · exact .inl b
          · cases b
          · exact .inr b, .nil, by simp⟩
      obtain ⟨F', L', O', μ, en, r', μ', e1, q3⟩ := call_ok (f := fun _ μ => .ok ((.non, 0), μ)) (os := [.t (.ins c fs) 0, .t d2 0]) (r := ((.non, 0), s')) pa (ps := [(.ins c fs, 0), (d2, 0)]) rfl rfl
      cases e1
      refine ⟨a', dx, _, kindO d2, rfl, ha', Rep.ok1 hd r2, F', L', O', μ, _, _, en, other_ty hd, fun H3 pf => ?_⟩
      obtain ⟨L3, O3, Ov3, p3⟩ := q3 .non H3 pf
      have pn3 := p3.drop
      have t1 := r1.step gw pn3.st (fun a m => by cases m)
      have t2 := r2.step gw pn3.st (fun a m => by cases m)
      obtain ⟨_, b', dy, gs', ws, e2, hb', _⟩ := t1.ins_inv
      cases e2
      exact ⟨⟨dy, _, hb'⟩, Rep.ok1 hd t2, q H3 ⟨L3, O3, PN'.trans ⟨st, gw⟩ pn3⟩⟩
    · cases hr
  constructor
  · refine PE.imp (pe_cmpR ho ha hbb hm) fun τ H Q ⟨F, L, s, O, g, r, hr, q⟩ => ?_
    obtain ⟨s', rfl⟩ := isb hr
    exact key g hr fun H' ⟨L', O', p⟩ => q _ H' ⟨L', O', [], PE'.flat p.st p.g (.bl 0 false)⟩
  · refine PT.imp (pt_cmpR ho ha hbb hm) fun τ H Q ⟨F, L, s, O, g, b, s', hr, q⟩ => ?_
    obtain ⟨⟨p, s2⟩, h1, h2⟩ := bind_ok hr
    obtain ⟨s3, e⟩ := isb h1
    cases e
    cases h2
    exact key g h1 fun H' p => ⟨_, rfl, q H' p⟩
end
end MP
end
-- MPSn10
section
set_option maxRecDepth 100000
set_option maxHeartbeats 1000000
/-! Methods, new instances, keywords. -/
namespace MP
open PySem (Addr Expr Stmt Str Pos Keyword)
open PySem.Spec
open L2
open PyProof.Rows hiding St
section
variable {W : Wd} {C : Cfg} {X : Cx}
def Es.app : Es → Es → Es | .nil, b => b | .cons e es, b => .cons e (es.app b)
theorem args_app (C : Cfg) (b : Es) : ∀ (a : Es) (s : Sta), args C (a.app b) s = (args C a s).bind fun (os, s) => (args C b s).bind fun (os2, s) => .ok (os ++ os2, s)
  | .nil, s => by
    simp only [Es.app, args, R.bind]
    cases args C b s with
    | ok r => rfl
    | exc => rfl
    | bad => rfl
  | .cons e es, s => by
    simp only [Es.app, args, args_app C b es]
    cases arg1 e (ev C e s) s with
    | ok r =>
      simp only [R.bind]
      cases args C es r.2 with
      | ok r2 =>
        simp only
        cases args C b r2.2 with
        | ok r3 => rfl
        | exc => rfl
        | bad => rfl
      | exc => rfl
      | bad => rfl
    | exc => rfl
    | bad => rfl
theorem pk_of {kws : List Keyword} : ∀ {es : List Expr} {t : TA}, kws.map (·.value) = es → True := fun _ => trivial
theorem PK.imp {kws : List Keyword} {t t' : TA} (h : PK X kws t) (i : ∀ τ H Q, t' τ H Q → t τ H Q) : PK X kws t' := ⟨fun p q s σ H Q I z => h.run p q s σ H Q I (i σ H Q z)⟩
theorem kw_nil : PK X [] (tAr W C .nil) := PK.imp pk_nil fun τ H Q h => tAr_nil h
theorem RepA.app {L : List Addr} {B : Addr → Prop} {H : Hp} {τ : L2.St} : ∀ {os vs O os2 vs2 O2}, RepA W L B H τ os vs O → RepA W L B H τ os2 vs2 O2 → RepA W L B H τ (os ++ os2) (vs ++ vs2) (O ++ O2)
  | _, _, _, _, _, _, .nil, h => h
  | _, _, _, _, _, _, .slot e h, h2 => .slot e (h.app h2)
  | _, _, _, _, _, _, .tmp r h, h2 => by rw [List.append_assoc]; exact .tmp r (h.app h2)
/-- arguments, and more arguments -/
theorem PostA.app {F L H O τ os s1 vs H1 os2 s2 vs2 H2 L1 O1 Ov} (p : PA' W F L H O τ os s1 vs L1 H1 O1 Ov) (q : PostA W (FU F Ov) L1 H1 O1 τ os2 s2 vs2 H2) : PostA W F L H O τ (os ++ os2) s2 (vs ++ vs2) H2 := by
  obtain ⟨L2, O2, Ov2, p2⟩ := q
  refine ⟨L2, O2, Ov ++ Ov2, p.st.trans p2.st (fun x m => List.mem_append.mp m), p2.g.weak fun a h => FU_assoc.mpr h, RepA.app ?_ ?_, ?_, ?_⟩
  · exact (p.r.step p.g p2.st fun a m => .inr m).mono fun a _ b => b.elim (fun z => .inl (FU_assoc.mpr z)) .inr
  · exact p2.r.mono fun a _ b => b.elim (fun z => .inl (FU_assoc.mpr z)) .inr
  · exact List.nodup_append.mpr ⟨p.nd, p2.nd, fun a ha b hb e => p2.ap b hb (by subst e; exact .inr ha)⟩
  · intro a m f
    rcases List.mem_append.mp m with m | m
    · exact p.ap a m f
    · exact p2.ap a m (.inl f)
theorem kw_cons {nm : Option Str} {e : Expr} {kp : Pos} {kws : List Keyword} {m : E} {ms : Es} (he : PE X e (tE W C m)) (hv : ∀ i, m = .ln i → PE X e (tVar i)) (hs : PK X kws (tAr W C ms)) : PK X (⟨nm, e, kp⟩ :: kws) (tAr W C (.cons m ms)) := by
  have one : ∀ {F L s O τ H o s1} {Q : V → Hp → Prop}, Gd W L F H s τ O → arg1 m (ev C m s) s = .ok (o, s1) → (∀ v H', PostA W F L H O τ [o] s1 [v] H' → Q v H') → ((∀ i, m ≠ .ln i) → tE W C m τ H Q) ∧ (∀ i, m = .ln i → tVar i τ H Q) := by
    intro F L s O τ H o s1 Q g h1 q
    constructor
    · intro hl
      have h1' : (ev C m s).bind (fun (p, s) => .ok (Od.t p.1 p.2, s)) = .ok (o, s1) := by
        unfold arg1 at h1
        split at h1
        · exact absurd rfl (hl _)
        · exact h1
      obtain ⟨⟨⟨d, k⟩, s3⟩, h3, h4⟩ := bind_ok h1'
      cases h4
      refine ⟨F, L, s, O, g, _, h3, fun v H1 ⟨L1, O1, Ov, p⟩ => q v H1 ⟨L1, O1, Ov, p.st, p.g, ?_, p.nd, p.ap⟩⟩
      have := RepA.tmp (O' := []) p.r (.nil (τ := τ))
      rwa [List.append_nil] at this
    · rintro i rfl
      simp only [arg1] at h1
      obtain ⟨⟨d, k⟩, h3, h4⟩ := bind_ok h1
      cases h4
      obtain ⟨v, P, R, e1, _⟩ := g.slot (get_ok h3)
      exact ⟨v, e1, q v H ⟨L, O, [], .refl, g.weak fun a h => h.elim id (by simp), .slot e1 .nil, .nil, by simp⟩⟩
  by_cases hl : ∃ i, m = .ln i
  · obtain ⟨i, e⟩ := hl
    refine PK.imp (pk_cons (hv i e) hs) fun τ H Q ⟨F, L, s, O, g, os, s', hr, q⟩ => ?_
    simp only [args] at hr
    obtain ⟨⟨o, s1⟩, h1, hr⟩ := bind_ok hr
    obtain ⟨⟨os2, s2⟩, h2, hr⟩ := bind_ok hr
    cases hr
    refine (one (Q := fun v H1 => tAr W C ms τ H1 fun xs H2 => Q (v :: xs) H2) g h1 (fun v H1 ⟨L1, O1, Ov, p⟩ => ?_)).2 i e
    exact ⟨FU F Ov, L1, s1, O1, p.g, os2, s2, h2, fun vs H2 p2 => q (v :: vs) H2 (PostA.app p p2)⟩
  · refine PK.imp (pk_cons he hs) fun τ H Q ⟨F, L, s, O, g, os, s', hr, q⟩ => ?_
    simp only [args] at hr
    obtain ⟨⟨o, s1⟩, h1, hr⟩ := bind_ok hr
    obtain ⟨⟨os2, s2⟩, h2, hr⟩ := bind_ok hr
    cases hr
    refine (one (Q := fun v H1 => tAr W C ms τ H1 fun xs H2 => Q (v :: xs) H2) g h1 (fun v H1 ⟨L1, O1, Ov, p⟩ => ?_)).1 fun i z => hl ⟨i, z⟩
    exact ⟨FU F Ov, L1, s1, O1, p.g, os2, s2, h2, fun vs H2 p2 => q (v :: vs) H2 (PostA.app p p2)⟩

/-! ### arguments in another sequence -/
def permL {α : Type} (pm : List Nat) (xs : List α) : List α := pm.filterMap fun i => xs[i]?
theorem mapM_get {α : Type} : ∀ {pm : List Nat} {xs ys : List α}, pm.mapM (fun i => xs[i]?) = some ys → permL pm xs = ys ∧ ys.length = pm.length ∧ ∀ i ∈ pm, i < xs.length
  | [], xs, ys, h => by cases h; exact ⟨rfl, rfl, by simp⟩
  | i :: pm, xs, ys, h => by
    rw [List.mapM_cons] at h
    cases hi : xs[i]? with
    | none => rw [hi] at h; cases h
    | some y =>
      rw [hi] at h
      cases hm : pm.mapM (fun i => xs[i]?) with
      | none =>
        have h' : (pm.mapM (fun i => xs[i]?) >>= fun as => pure (y :: as)) = some ys := h
        rw [hm] at h'; cases h'
      | some zs =>
        have h' : (pm.mapM (fun i => xs[i]?) >>= fun as => pure (y :: as)) = some ys := h
        rw [hm] at h'; cases h'
        obtain ⟨h1, h2, h3⟩ := mapM_get hm
        refine ⟨?_, by simp [h2], fun j hj => ?_⟩
        · show (i :: pm).filterMap _ = _
          rw [List.filterMap_cons, hi]
          exact congrArg _ h1
        · rcases List.mem_cons.mp hj with e | hj
          · subst e
            rcases Nat.lt_or_ge j xs.length with q | q
            · exact q
            · rw [List.getElem?_eq_none q] at hi; cases hi
          · exact h3 j hj
/-- RepP as a list of triples -/
theorem RepP.triples {L : List Addr} {B : Addr → Prop} {H : Hp} : ∀ {ps vs O}, RepP W L B H ps vs O → ∃ l : List ((D × Nat) × V × List Addr), ps = l.map (·.1) ∧ vs = l.map (·.2.1) ∧ O = (l.map (·.2.2)).flatten ∧ ∀ t ∈ l, Rep W L B H t.1.2 t.1.1 t.2.1 t.2.2
  | _, _, _, .nil => ⟨[], rfl, rfl, rfl, by simp⟩
  | _, _, _, @RepP.cons _ _ _ _ d k v ps vs O O' r h => by
    obtain ⟨l, e1, e2, e3, e4⟩ := h.triples
    subst e1; subst e2; subst e3
    refine ⟨((d, k), v, O) :: l, rfl, rfl, rfl, fun t ht => ?_⟩
    rcases List.mem_cons.mp ht with e | ht
    · subst e; exact r
    · exact e4 t ht
theorem RepP.of_triples {L : List Addr} {B : Addr → Prop} {H : Hp} : ∀ (l : List ((D × Nat) × V × List Addr)), (∀ t ∈ l, Rep W L B H t.1.2 t.1.1 t.2.1 t.2.2) → RepP W L B H (l.map (·.1)) (l.map (·.2.1)) (l.map (·.2.2)).flatten
  | [], _ => .nil
  | ((d, k), v, O) :: l, h => .cons (h ((d, k), v, O) (List.mem_cons_self ..)) (of_triples l fun t ht => h t (List.mem_cons_of_mem _ ht))
theorem permL_map {α β : Type} (f : α → β) (pm : List Nat) (xs : List α) : permL pm (xs.map f) = (permL pm xs).map f := by
  unfold permL
  rw [List.map_filterMap]
  simp only [List.getElem?_map]
theorem permL_perm {α : Type} {pm : List Nat} {xs : List α} (h : pm.Perm (List.range xs.length)) : (permL pm xs).Perm xs := by
  have h1 : (permL pm xs).Perm (permL (List.range xs.length) xs) := h.filterMap _
  have h2 : permL (List.range xs.length) xs = xs := by
    unfold permL
    apply List.ext_getElem?
    intro i
    have : ∀ (n : Nat), n ≤ xs.length → (List.range n).filterMap (fun i => xs[i]?) = xs.take n := by
      intro n hn
      induction n with
      | zero => rfl
      | succ n ih =>
        rw [List.range_succ, List.filterMap_append, ih (by omega)]
        have : xs[n]? = some (xs[n]'(by omega)) := List.getElem?_eq_getElem (by omega)
        simp only [List.filterMap_cons, this, List.filterMap_nil]
        rw [List.take_add_one, this]; rfl
    rw [this xs.length (Nat.le_refl _), List.take_length]
  rwa [h2] at h1
theorem EnF.perm {F L H O ps μ vs} {pm : List Nat} (h : EnF W F L H O ps μ vs) (hp : pm.Perm (List.range vs.length)) : ∃ O', EnF W F L H O' (permL pm ps) μ (permL pm vs) ∧ O'.Perm O := by
  obtain ⟨l, e1, e2, e3, e4⟩ := h.r.triples
  subst e1; subst e2; subst e3
  have hp' : pm.Perm (List.range l.length) := by simpa using hp
  have hl := permL_perm hp'
  have hO : ((permL pm l).map (·.2.2)).flatten.Perm (l.map (·.2.2)).flatten := (hl.map _).flatten
  refine ⟨_, ⟨?_, h.mu, ?_, fun a f => ⟨(h.ap a f).1, fun m => (h.ap a f).2 (hO.mem_iff.mp m)⟩, h.ft⟩, hO⟩
  · rw [permL_map, permL_map]
    refine RepP.mono (B := BB F L (l.map (·.2.2)).flatten) (fun a _ b => b.elim .inl fun b => b.elim (fun z => .inr (.inl z)) fun z => .inr (.inr (hO.mem_iff.mp z))) (RepP.of_triples _ fun t ht => e4 t (hl.mem_iff.mp ht))
  · exact (List.Perm.append_left L hO).nodup_iff.mpr h.nd
theorem PostF.perm {F L H O O' r μ' v H'} (h : PostF W F L H O' r μ' v H') (hp : O'.Perm O) : PostF W F L H O r μ' v H' := by
  obtain ⟨L', Ov, p⟩ := h
  refine ⟨L', Ov, ⟨⟨p.st.pre, p.st.newL, fun a m => (p.st.newO a m).elim (fun z => .inl (hp.mem_iff.mp z)) .inr, p.st.kp.mono fun x z => z.elim .inl fun z => .inr (hp.mem_iff.mp z), p.st.st⟩, p.mu, p.r, p.nd, p.ap⟩⟩
/-- a value as the first argument -/
theorem PostA.cons1 {F L H O τ v d k s1 L1 H1 O1 Ov os s2 vs H2} (p : PE' W F L H O τ (d, k) s1 v L1 H1 O1 Ov) (q : PostA W (FU F Ov) L1 H1 O1 τ os s2 vs H2) : PostA W F L H O τ (.t d k :: os) s2 (v :: vs) H2 := by
  have p1 : PA' W F L H O τ [.t d k] s1 [v] L1 H1 O1 Ov := ⟨p.st, p.g, by
    have := RepA.tmp (O' := []) p.r (.nil (τ := τ))
    rwa [List.append_nil] at this, p.nd, p.ap⟩
  exact PostA.app p1 q
theorem PE'.fz {F L H O τ d k s1 v L1 H1 O1 Ov} (p : PE' W F L H O τ (d, k) s1 v L1 H1 O1 Ov) : PE' W F L H O τ (d, 0) s1 v L1 H1 O1 [] := by
  refine PE'.flat p.drop.st p.drop.g (p.r.frz (fun a b => b.elim (fun z => .inl (.inl z)) .inr) fun a m b => ?_)
  rcases b with b | b | b
  · exact p.ap a m b
  · exact (p.g.ap a (.inr m)).1 b
  · exact (p.g.ap a (.inr m)).2 b
theorem mem_zip_fst {ks : List Str} {vs : List V} {k : Str} (h : k ∉ ks) (n : Nat) : ((ks.take n).zip vs).lookup k = none := lookup_zip_none fun m => h (List.mem_of_mem_take m)
/-- o.m(..) -/
theorem snd_meth {o : Expr} {x : Str} {apos pos : Pos} {es : List Expr} {mo : E} {ms : Es} {c f k : Nat} {fa : Addr} {fd : PySem.FuncData} {ps : List Str} (T : CF X.K W) (hc : W.ok c = true) (hM : Meth X.K (W.cls c) x fa) (hnf : x ∉ W.flds c)
    (hF : FnOk X.prog X.w X.K X.mg X.base CX0 k fa fd ps (spF W (C.call (C.meth c f)))) (hb : Binds X.K fd ps []) (hr : Room k X.A) (ho : PE X o (tE W C mo)) (hbase : PySem.attributeBase o x X.env (PySem.eval o X.env) = PySem.eval o X.env)
    (ha : PA X es (tAr W C ms)) (hes : ∀ e ∈ es, plainE e = true) (hn : es.length < 29) (hl : (apos.endLine == pos.line) = true) (hnil : es = [] → ms = .nil) : PE X (.Call (.Attribute o x apos) es [] pos) (tE W C (.meth c f mo [] ms)) := by
  have key : PE X (.Call (.Attribute o x apos) es [] pos) (tMeth (W.cls c) x (spF W (C.call (C.meth c f))) [] E0 (tE W C mo) (tAr W C ms)) := by
    have ht := meth_eval (kws := []) hbase hes (by simp) (by simpa using hn) hl
    cases es with
    | nil =>
      obtain rfl := hnil rfl
      exact PE.imp (pe_meth0 ho (T.cls c hc) hM hF hr hb .nil pass0 ht) fun τ H Q ⟨F, L, s, O, g, r, h1, h2⟩ => ⟨F, L, s, O, g, r, h1, fun v H' h3 => by
        obtain ⟨a, dx, fs, e1, e2, e3, h4⟩ := h2 v H' h3
        exact ⟨a, dx, fs, e1, e2, e3, tAr_nil h4⟩⟩
    | cons e es => exact pe_meth ho (T.cls c hc) hM hF hr hb .nil pass0 ha (star_cons (hes e (List.mem_cons_self ..))) (star_any fun e m => hes e (List.mem_cons_of_mem _ m)) ht
  refine PE.imp key fun τ H Q ⟨F, L, s, O, g, r, hr, q⟩ => ?_
  simp only [ev] at hr
  obtain ⟨⟨⟨d, kk⟩, s1⟩, h1, hr⟩ := bind_ok hr
  cases d <;> simp only [reduceCtorEq] at hr
  rename_i c' fs
  have ec : c = c' := Classical.byContradiction fun z => by rw [if_neg z] at hr; cases hr
  subst ec
  rw [if_pos rfl] at hr
  obtain ⟨⟨os, s2⟩, h2, hr⟩ := bind_ok hr
  obtain ⟨ps1, h3, hr⟩ := bind_ok hr
  obtain ⟨ps2, h4, hr⟩ := bind_ok hr
  have h4 := ofO_ok h4
  cases h4
  refine ⟨F, L, s, O, g, _, h1, fun v H1 ⟨L1, O1, Ov, p⟩ => ?_⟩
  have p0 := p.fz
  obtain ⟨ok, a', dx, fs', vs', rfl, ha', hfs, hle, _⟩ := Rep.ins_inv (show Rep W L1 _ H1 0 (.ins c fs) v [] from p0.r)
  subst hfs
  refine ⟨a', dx, _, rfl, ha', mem_zip_fst hnf _, FU F [], L1, s1, O1, p0.g, os, s2, h2, fun vs H2 pa => ?_⟩
  have pa2 := PostA.cons1 p0 pa
  obtain ⟨F', L', O', μ, en, r', μ', e1, q2⟩ := call_ok (os := .t (.ins c fs) 0 :: os) pa2 (ps := (.ins c fs, 0) :: ps1) (by
    show (vals os s2).bind _ = _
    rw [h3]; rfl) hr
  show spF W (C.call (C.meth c f)) (.ref a' :: (vs ++ [])) H2 Q E0
  rw [List.append_nil]
  exact ⟨F', L', O', μ, _, en, r', μ', e1, fun v H2 p => q v H2 (q2 v H2 p)⟩
/-- the new instance ahead of its __init__ -/
theorem PostA.made {F L H O τ os s' vs H1 c x dx} (p : PostA W F L H O τ os s' vs H1) (ok : W.ok c = true) (h1 : H1 x = none) (h2 : H1 dx = none) (hne : dx ≠ x) :
    PostA W F L H O τ (.t (.ins c []) 1 :: os) s' (.ref x :: vs) (upd (upd H1 dx (.own x)) x (.ins (W.cls c) dx [])) := by
  obtain ⟨L', O', Ov, p⟩ := p
  have g := p.g
  have hx : upd H1 dx (.own x) x = none := by rw [upd_ne (Ne.symm hne)]; exact h1
  have kp : ∀ M : Addr → Prop, Keep M H1 (upd (upd H1 dx (.own x)) x (.ins (W.cls c) dx [])) := fun M => (Keep.upd (M := M) h2).trans (Keep.upd (M := M) hx) (fun _ h => h) fun _ h => .inl h
  have st' : ∀ a, H1 a ≠ none → upd (upd H1 dx (.own x)) x (.ins (W.cls c) dx []) a ≠ none := fun a h => there_upd (there_upd h)
  have xL : x ∉ L' := fun m => (g.thereL x m).1 h1
  have xO : x ∉ O' := fun m => (g.sl.there x m).1 h1
  have xF : ¬ F x := fun f => g.ft x (.inl f) h1
  have xv : x ∉ Ov := fun m => g.ft x (.inr m) h1
  have hB : ∀ a, H1 a ≠ none → BB (FU F (x :: Ov)) L' O' a → BB (FU F Ov) L' O' a := fun a n b => by
    rcases b with (b | b) | b
    · exact .inl (.inl b)
    · rcases List.mem_cons.mp b with b | b
      · subst b; exact absurd h1 n
      · exact .inl (.inr b)
    · exact .inr b
  have s2 : Stp L' H1 O' L' (upd (upd H1 dx (.own x)) x (.ins (W.cls c) dx [])) O' [x] := ⟨List.prefix_refl _, fun _ h => .inl h, fun a m => m.elim .inl fun m => by simp at m; subst m; exact .inr h1, kp _, st'⟩
  refine ⟨L', O', x :: Ov, p.st.trans s2 (fun y m => (List.mem_cons.mp m).elim (fun e => .inr (by simp [e])) .inl), ⟨g.sl.keep (kp fun _ => False) (fun _ f => f.elim) hB (fun _ _ e => e) fun _ _ f => f, (g.grow (kp _) st').mu, g.nd, fun a f => ?_, fun a f => ?_⟩, ?_, List.nodup_cons.mpr ⟨xv, p.nd⟩, fun a m => (List.mem_cons.mp m).elim (fun e => by subst e; exact xF) (p.ap a)⟩
  · rcases f with f | f
    · exact g.ap a (.inl f)
    · rcases List.mem_cons.mp f with e | m
      · subst e; exact ⟨xL, xO⟩
      · exact g.ap a (.inr m)
  · rcases f with f | f
    · exact st' a (g.ft a (.inl f))
    · rcases List.mem_cons.mp f with e | m
      · subst e; rw [upd_same]; simp
      · exact st' a (g.ft a (.inr m))
  · refine RepA.tmp (O := [x]) (.insS ok upd_same (by simp) (by simp) (.nil 0)) ?_
    have : ∀ {os vs P}, RepA W L' (BB (FU F Ov) L' O') H1 τ os vs P → RepA W L' (BB (FU F (x :: Ov)) L' O') (upd (upd H1 dx (.own x)) x (.ins (W.cls c) dx [])) τ os vs P := by
      intro os vs P h
      induction h with
      | nil => exact .nil
      | slot e h ih => exact .slot e ih
      | tmp r h ih => exact .tmp (r.keep (kp fun _ => False) (fun _ f => f.elim) hB (fun _ _ e => e) fun _ _ f => f) ih
    exact this p.r
theorem spI_of {F L H O τ os s' vs ps H1 c x dx} {r : (D × Nat) × Sta} {Q : VK} (f : Gf) (p : PostA W F L H O τ os s' vs H1) (ok : W.ok c = true) (h1 : H1 x = none) (h2 : H1 dx = none) (hne : dx ≠ x) (hv : MP.vals os s' = .ok ps) (hr : after os s' (f ((.ins c [], 1) :: ps) s'.μ) = .ok r)
    (q : ∀ v H', PostE W F L H O τ r v H' → Q v H') : spI W f (.ref x :: vs) (upd (upd H1 dx (.own x)) x (.ins (W.cls c) dx [])) (fun v H2 => v = .non ∧ Q (.ref x) H2) E0 := by
  have pa2 := p.made ok h1 h2 hne
  obtain ⟨F', L', O', μ, en, r', μ', e1, q2⟩ := call_ok (os := .t (.ins c []) 1 :: os) pa2 (ps := (.ins c [], 1) :: ps) (by
    show (vals os s').bind _ = _
    rw [hv]; rfl) hr
  exact ⟨F', L', O', μ, _, .ref x, vs, rfl, en, r', μ', e1, fun H' p => ⟨rfl, q _ H' (q2 _ H' p)⟩⟩
/-- C(..) -/
theorem snd_new {x : Str} {p pos : Pos} {es : List Expr} {ms : Es} {k c : Nat} {fa : Addr} {fd : PySem.FuncData} {ps : List Str} (hc : W.ok c = true) (M : Mk X.K (W.cls c) fa) (hF : FnOk X.prog X.w X.K X.mg X.base CX0 k fa fd ps (spI W (C.call (C.init c)))) (hb : Binds X.K fd ps [])
    (hr : Room (k + 1) X.A) (hg : Gl X x) (hm : X.mg x = some (.ref (W.cls c))) (hd : (x == ("__debug__" : Str)) = false) (ha : PA X es (tAr W C ms)) (hes : ∀ e ∈ es, plainE e = true) (hnil : es = [] → ms = .nil) : PE X (.Call (.Name x p) es [] pos) (tE W C (.new c [] ms)) := by
  have key : PE X (.Call (.Name x p) es [] pos) (tMake (W.cls c) (spI W (C.call (C.init c))) [] E0 (tAr W C ms)) := by
    cases es with
    | nil =>
      obtain rfl := hnil rfl
      exact PE.imp (pe_make0 M hF hr hg hm hb .nil pass0 hd) fun τ H Q h => tAr_nil h
    | cons e es => exact pe_make M hF hr hg hm hb .nil pass0 ha hd (star_cons (hes e (List.mem_cons_self ..))) (star_any fun e m => hes e (List.mem_cons_of_mem _ m))
  refine PE.imp key fun τ H Q ⟨F, L, s, O, g, r, hr, q⟩ => ?_
  simp only [ev] at hr
  obtain ⟨⟨os, s1⟩, h1, hr⟩ := bind_ok hr
  obtain ⟨ps1, h2, hr⟩ := bind_ok hr
  obtain ⟨ps2, h3, hr⟩ := bind_ok hr
  have h3 := ofO_ok h3
  cases h3
  refine ⟨F, L, s, O, g, os, s1, h1, fun vs H1 pa x dx e1 e2 e3 => ?_⟩
  rw [List.append_nil]
  exact spI_of _ pa hc e1 e2 e3 h2 hr q
end
end MP
end
-- MPZip
section
set_option maxRecDepth 100000
set_option maxHeartbeats 1000000
/-! zip of a tuple and a list: each turn makes a new pair. -/
namespace MP
open PySem PySem.Spec PyProof.Rows L2
/-- turn i: what the tuple at a and the list at b hold there -/
def ItMix (K : PySem.W.Frag) (a b : Addr) : It where
  go := fun i H => ∃ (vs us : List V) (v u : V), SqT K H a vs ∧ SqL K H b us ∧ vs[i]? = some v ∧ us[i]? = some u
  yld := fun i H r H2 => ∃ T v u, r = .ref T ∧ H T = none ∧ H2 = upd H T (.tup [v, u]) ∧ (∀ l, SqT K H a l → l[i]? = some v) ∧ ∀ l, SqL K H b l → l[i]? = some u
  stop := fun i H => ∃ vs us : List V, SqT K H a vs ∧ SqL K H b us ∧ (i = vs.length ∨ i = us.length) ∧ i ≤ vs.length ∧ i ≤ us.length
/-- the cells of the zip object -/
def MixSt (a b z p q c d : Addr) (i : Nat) (h : Heap) : Prop :=
  IsZip h z p q .none ∧ IsTupOf2 h p (.ref c) (.ref d) ∧ (∃ x y, IsTupOf2 h q x y) ∧ h.IsTupleIter c a i ∧ h.IsListIter d b i
theorem mixSep {a b z p q c d : Addr} (D : ZipApart z p q c d a b) : ZipSep2 z p q c d [c, a] [d, b] where
  TIz := D.TIz
  TOz := D.TOz
  TITO := D.TITO
  TIi1 := D.TIi1
  mem1 := List.mem_cons_self ..
  zf1 := fun m => by
    rcases List.mem_cons.mp m with e | m
    · exact D.i1z e.symm
    · exact D.l1z (List.mem_singleton.mp m).symm
  Tf1 := fun m => by
    rcases List.mem_cons.mp m with e | m
    · exact D.TOi1 e
    · exact D.l1TO (List.mem_singleton.mp m).symm
  TIi2 := D.TIi2
  mem2 := List.mem_cons_self ..
  zf2 := fun m => by
    rcases List.mem_cons.mp m with e | m
    · exact D.i2z e.symm
    · exact D.l2z (List.mem_singleton.mp m).symm
  Tf2 := fun m => by
    rcases List.mem_cons.mp m with e | m
    · exact D.TOi2 e
    · exact D.l2TO (List.mem_singleton.mp m).symm
  sep1_2 := fun m => by
    rcases List.mem_cons.mp m with e | m
    · exact D.i12 e
    · exact D.l2i1 (List.mem_singleton.mp m).symm
  sep2_1 := fun m => by
    rcases List.mem_cons.mp m with e | m
    · exact D.i12 e.symm
    · exact D.l1i2 (List.mem_singleton.mp m).symm
section
variable {P : Program} {w : World} {K : PySem.W.Frag} {elts : List Expr} {kk : Nat} {tpos : Pos} {a b z p q c d : Addr}
theorem mix_cells {i : Nat} {h : Heap} (st : MixSt a b z p q c d i h) {x : Addr} (m : x ∈ [z, p, q, c, d]) : ∃ o, h.get? x = some o ∧ ∀ v, o.data ≠ .cell v := by
  obtain ⟨hz, hp, ⟨u, v, hq⟩, ⟨oc, ec, _, dc⟩, od, ed, _, dd⟩ := st
  simp only [List.mem_cons, List.not_mem_nil, or_false] at m
  rcases m with e | e | e | e | e <;> subst e
  · exact ⟨_, hz, fun _ n => nomatch n⟩
  · exact ⟨_, hp, fun _ n => nomatch n⟩
  · exact ⟨_, hq, fun _ n => nomatch n⟩
  · exact ⟨oc, ec, fun _ n => by rw [dc] at n; cases n⟩
  · exact ⟨od, ed, fun _ n => by rw [dd] at n; cases n⟩
theorem turn_mix (D : ZipApart z p q c d a b) : Turn P w K (.Tuple elts kk tpos) (ItMix K a b) [z, p, q, c, d] z (MixSt a b z p q c d) where
  mem := List.mem_cons_self ..
  obj := fun i h st x m => mix_cells st m
  keep := fun i h h' ⟨hz, hp, ⟨u, v, hq⟩, hc, hd⟩ k => ⟨k z (by simp) _ hz, k p (by simp) _ hp, ⟨u, v, k q (by simp) _ hq⟩, hc.at fun o e => k c (by simp) o e, hd.at fun o e => k d (by simp) o e⟩
  item := by
    intro X eP ew eK calm i pins s σ H E I free st ⟨vs, us, v, u, qa, qb, ev, eu⟩
    subst eP ew eK
    obtain ⟨as, ra, pa, _⟩ := I.tuple qa
    obtain ⟨bs, rb, pb, _⟩ := I.list qb
    obtain ⟨v', ev', rv⟩ := ra.get ev
    obtain ⟨u', eu', ru⟩ := rb.get eu
    have la : i < as.toArray.size := by simpa using (List.getElem?_eq_some_iff.mp ev').1
    have lb : i < bs.toArray.size := by simpa using (List.getElem?_eq_some_iff.mp eu').1
    have lts : ∀ x ∈ [z, p, q, c, d], x < s.heap.objs.size := fun x m => by
      obtain ⟨o, e, _⟩ := mix_cells st m
      exact Heap.lt_size e
    obtain ⟨hz, hp, ⟨x0, y0, hq⟩, hc, hd⟩ := st
    have hh : X.A.in1.handled = none := I.ok.hd calm
    refine wpAny_pyNext_zipD2_item (mixSep D) (Draws.tuple hh c a D.l1i1 as.toArray) (Draws.list hh d b D.l2i2 bs.toArray) hz hp hq ⟨hc, pa⟩ ⟨hd, pb.isList⟩ la lb fun w1 w2 h' tk e1 e2 z' q' c' d' hT hsz hk => ?_
    have e1 : as[i]? = some w1 := by simpa using e1
    have e2 : bs[i]? = some w2 := by simpa using e2
    rw [ev'] at e1; rw [eu'] at e2
    cases e1; cases e2
    refine ⟨_, rfl, wpAny_letOwnedTupleGo_zip (s := { s with heap := h', toks := tk }) z' fun h2 z2 sb => ?_⟩
    have zne : s.heap.objs.size ≠ z := Nat.ne_of_gt (lts z (by simp))
    have hT2 : h2.get? s.heap.objs.size = some { cls := .type "tuple", data := .seq #[v', u'] } := by rw [sb.2 _ zne]; exact hT
    have ok : ObjOk X.prog X.w (upd H s.heap.objs.size (.tup [v, u])) h2 s.heap.objs.size (.tup [v, u]) :=
      ⟨(by decide : 2 ≤ sizeLine), [v', u'], .cons rv (.cons ru .nil), ⟨_, hT2, rfl, _, rfl⟩⟩
    have I2 : Inv X pins σ (upd H s.heap.objs.size (.tup [v, u])) { s with heap := h2, toks := tk } := by
      refine I.turnedNew (ch := [z, p, q, c, d]) (fun x o n e => ?_) free (Nat.le_refl _) ok
      simp only [List.mem_cons, List.not_mem_nil, or_false, not_or] at n
      rw [sb.2 _ n.1]
      exact hk x o n.1 n.2.2.1 n.2.2.2.1 n.2.2.2.2 e
    refine ⟨.ref s.heap.objs.size, _, I2, rfl, ⟨_, v, u, rfl, I.hok.fresh (Nat.le_refl _), rfl, fun l hl => by rw [I.tuple_inj hl qa]; exact ev, fun l hl => by rw [I.list_inj hl qb]; exact eu⟩, ⟨z2, ?_, ⟨_, _, (sb.2 _ D.TOz).trans q'⟩, c'.1.at fun o e => (sb.2 _ D.i1z).trans e, d'.1.at fun o e => (sb.2 _ D.i2z).trans e⟩, fun x m => ?_⟩
    · exact (sb.2 _ D.TIz).trans (hk _ _ D.TIz D.TITO D.TIi1 D.TIi2 hp)
    · rw [upd_ne (Nat.ne_of_lt (lts x m))]
      exact (free x m).1
  done := by
    intro X eP ew eK calm i pins s σ H E I free ⟨hz, hp, ⟨x0, y0, hq⟩, hc, hd⟩ ⟨vs, us, qa, qb, hend, le1, le2⟩
    subst eP ew eK
    obtain ⟨as, ra, pa, _⟩ := I.tuple qa
    obtain ⟨bs, rb, pb, _⟩ := I.list qb
    have l1 := ra.length
    have l2 := rb.length
    have hh : X.A.in1.handled = none := I.ok.hd calm
    refine wpAny_pyNext_zipD2_end (mixSep D) (Draws.tuple hh c a D.l1i1 as.toArray) (Draws.list hh d b D.l2i2 bs.toArray) hz hp hq ⟨hc, pa⟩ ⟨hd, pb.isList⟩ (by simp; omega) (by simp; omega) (by simp; omega) fun h' tk hk => ?_
    refine ⟨rfl, I.turnedL (ch := [z, p, q, c, d]) (fun x o n e => ?_) free⟩
    simp only [List.mem_cons, List.not_mem_nil, or_false, not_or] at n
    exact hk x o n.1 n.2.2.1 n.2.2.2.1 n.2.2.2.2 e
  self := fun A i s Q E st k => wpAny_pyIter_zip st.1 k
end
/-- zip(x, y): both lists, both tuples, or a tuple and a list -/
def iMix (K : PySem.W.Frag) (ta : TA) : TI := fun σ H R => ta σ H fun ws H1 => ∃ a b vs us, ws = [.ref a, .ref b] ∧ SqT K H1 a vs ∧ SqL K H1 b us ∧ R (ItMix K a b) H1
theorem pi_mix {X : Cx} {e e2 : Expr} {ta : TA} {p pos tpos : Pos} {elts : List Expr} {kk : Nat} (hg : Gl X "zip") (hm : X.mg "zip" = none) (ha : PA X [e, e2] ta)
    (hs : starEach [e, e2] X.env = (false, eval e X.env) :: starEach [e2] X.env) (hpl : (backTo pos (starEach [e2] X.env)).any (·.1) = false) :
    PI X (.Tuple elts kk tpos) (.Call (.Name "zip" p) [e, e2] [] pos) (iMix X.K ta) := by
  refine ⟨fun pins s σ H R I h => Call_ (ld_blt I hg hm boot_zip (callWith_type1 (thn (ha.run pos pins s σ H _ I h) fun ws s1 ⟨vals, H1, I1, rs, a, b, vs, us, ex, qa, qb, r⟩ => ?_) hs hpl))⟩
  subst ex
  obtain ⟨as, ra, pa, _⟩ := I1.tuple qa
  obtain ⟨bs, rb, pb, _⟩ := I1.list qb
  obtain ⟨w1, w2, ew, r1, r2⟩ : ∃ w1 w2, ws = [w1, w2] ∧ w1 = .ref a ∧ w2 = .ref b := by
    cases rs with
    | cons r rr =>
      cases rr with
      | cons r' rr =>
        cases rr
        exact ⟨_, _, rfl, r, r'⟩
  subst ew r1 r2
  have fin : wpAny (model X.prog X.w) X.A (call (.type "zip") [.ref a, .ref b]) (fun r s2 => wpAny (model X.prog X.w) X.A (pyIter r) (PIE X pins σ (.Tuple elts kk tpos) R) X.xe s2) X.xe s1 := by
    have la : a < s1.heap.objs.size := let ⟨_, e, _⟩ := pa; Heap.lt_size e
    have lb : b < s1.heap.objs.size := pb.lt
    have D := PySem.W.ktu_apart s1.heap.objs.size a b la lb
    refine zip_begins2 (Q := fun r s2 => wpAny (model X.prog X.w) X.A (pyIter r) (PIE X pins σ (.Tuple elts kk tpos) R) X.xe s2) (begins_tuple a as.toArray) (begins_list b bs.toArray) pa pb.isList fun h' hz hp hq h1 h2 hsz hk => ?_
    refine wpAny_pyIter_zip hz ?_
    have st : MixSt a b (s1.heap.objs.size + 4) (s1.heap.objs.size + 2) (s1.heap.objs.size + 3) s1.heap.objs.size (s1.heap.objs.size + 1) 0 h' := ⟨hz, hp, ⟨_, _, hq⟩, ⟨_, h1, rfl, rfl⟩, ⟨_, h2, rfl, rfl⟩⟩
    have I2 : Inv X pins σ H1 { s1 with heap := h' } := I1.kept (t' := s1.toks) hk
    refine ⟨_, [s1.heap.objs.size + 4, s1.heap.objs.size + 2, s1.heap.objs.size + 3, s1.heap.objs.size, s1.heap.objs.size + 1], _, _, H1, rfl, I2, turn_mix D, st, fun x m => ?_, r⟩
    have hle : s1.heap.objs.size ≤ x := by
      simp only [List.mem_cons, List.not_mem_nil, or_false] at m
      rcases m with e | e | e | e | e <;> rw [e] <;> first | exact Nat.le_add_right _ _ | exact Nat.le_refl _
    exact I1.fpOk hle (I1.hok.fresh hle)
  exact fin
end MP
end
-- MPZip2
section
set_option maxRecDepth 100000
set_option maxHeartbeats 1000000
/-! zip of a list and a tuple: each turn makes a new pair. -/
namespace MP
open PySem PySem.Spec PyProof.Rows L2
/-- turn i: what the tuple at a and the list at b hold there -/
def ItMix2 (K : PySem.W.Frag) (a b : Addr) : It where
  go := fun i H => ∃ (vs us : List V) (v u : V), SqL K H a vs ∧ SqT K H b us ∧ vs[i]? = some v ∧ us[i]? = some u
  yld := fun i H r H2 => ∃ T v u, r = .ref T ∧ H T = none ∧ H2 = upd H T (.tup [v, u]) ∧ (∀ l, SqL K H a l → l[i]? = some v) ∧ ∀ l, SqT K H b l → l[i]? = some u
  stop := fun i H => ∃ vs us : List V, SqL K H a vs ∧ SqT K H b us ∧ (i = vs.length ∨ i = us.length) ∧ i ≤ vs.length ∧ i ≤ us.length
/-- the cells of the zip object -/
def MixSt2 (a b z p q c d : Addr) (i : Nat) (h : Heap) : Prop :=
  IsZip h z p q .none ∧ IsTupOf2 h p (.ref c) (.ref d) ∧ (∃ x y, IsTupOf2 h q x y) ∧ h.IsListIter c a i ∧ h.IsTupleIter d b i
theorem mixSep2 {a b z p q c d : Addr} (D : ZipApart z p q c d a b) : ZipSep2 z p q c d [c, a] [d, b] where
  TIz := D.TIz
  TOz := D.TOz
  TITO := D.TITO
  TIi1 := D.TIi1
  mem1 := List.mem_cons_self ..
  zf1 := fun m => by
    rcases List.mem_cons.mp m with e | m
    · exact D.i1z e.symm
    · exact D.l1z (List.mem_singleton.mp m).symm
  Tf1 := fun m => by
    rcases List.mem_cons.mp m with e | m
    · exact D.TOi1 e
    · exact D.l1TO (List.mem_singleton.mp m).symm
  TIi2 := D.TIi2
  mem2 := List.mem_cons_self ..
  zf2 := fun m => by
    rcases List.mem_cons.mp m with e | m
    · exact D.i2z e.symm
    · exact D.l2z (List.mem_singleton.mp m).symm
  Tf2 := fun m => by
    rcases List.mem_cons.mp m with e | m
    · exact D.TOi2 e
    · exact D.l2TO (List.mem_singleton.mp m).symm
  sep1_2 := fun m => by
    rcases List.mem_cons.mp m with e | m
    · exact D.i12 e
    · exact D.l2i1 (List.mem_singleton.mp m).symm
  sep2_1 := fun m => by
    rcases List.mem_cons.mp m with e | m
    · exact D.i12 e.symm
    · exact D.l1i2 (List.mem_singleton.mp m).symm
section
variable {P : Program} {w : World} {K : PySem.W.Frag} {elts : List Expr} {kk : Nat} {tpos : Pos} {a b z p q c d : Addr}
theorem mix_cells2 {i : Nat} {h : Heap} (st : MixSt2 a b z p q c d i h) {x : Addr} (m : x ∈ [z, p, q, c, d]) : ∃ o, h.get? x = some o ∧ ∀ v, o.data ≠ .cell v := by
  obtain ⟨hz, hp, ⟨u, v, hq⟩, ⟨oc, ec, _, dc⟩, od, ed, _, dd⟩ := st
  simp only [List.mem_cons, List.not_mem_nil, or_false] at m
  rcases m with e | e | e | e | e <;> subst e
  · exact ⟨_, hz, fun _ n => nomatch n⟩
  · exact ⟨_, hp, fun _ n => nomatch n⟩
  · exact ⟨_, hq, fun _ n => nomatch n⟩
  · exact ⟨oc, ec, fun _ n => by rw [dc] at n; cases n⟩
  · exact ⟨od, ed, fun _ n => by rw [dd] at n; cases n⟩
theorem turn_mix2 (D : ZipApart z p q c d a b) : Turn P w K (.Tuple elts kk tpos) (ItMix2 K a b) [z, p, q, c, d] z (MixSt2 a b z p q c d) where
  mem := List.mem_cons_self ..
  obj := fun i h st x m => mix_cells2 st m
  keep := fun i h h' ⟨hz, hp, ⟨u, v, hq⟩, hc, hd⟩ k => ⟨k z (by simp) _ hz, k p (by simp) _ hp, ⟨u, v, k q (by simp) _ hq⟩, hc.at fun o e => k c (by simp) o e, hd.at fun o e => k d (by simp) o e⟩
  item := by
    intro X eP ew eK calm i pins s σ H E I free st ⟨vs, us, v, u, qa, qb, ev, eu⟩
    subst eP ew eK
    obtain ⟨as, ra, pa, _⟩ := I.list qa
    obtain ⟨bs, rb, pb, _⟩ := I.tuple qb
    obtain ⟨v', ev', rv⟩ := ra.get ev
    obtain ⟨u', eu', ru⟩ := rb.get eu
    have la : i < as.toArray.size := by simpa using (List.getElem?_eq_some_iff.mp ev').1
    have lb : i < bs.toArray.size := by simpa using (List.getElem?_eq_some_iff.mp eu').1
    have lts : ∀ x ∈ [z, p, q, c, d], x < s.heap.objs.size := fun x m => by
      obtain ⟨o, e, _⟩ := mix_cells2 st m
      exact Heap.lt_size e
    obtain ⟨hz, hp, ⟨x0, y0, hq⟩, hc, hd⟩ := st
    have hh : X.A.in1.handled = none := I.ok.hd calm
    refine wpAny_pyNext_zipD2_item (mixSep2 D) (Draws.list hh c a D.l1i1 as.toArray) (Draws.tuple hh d b D.l2i2 bs.toArray) hz hp hq ⟨hc, pa.isList⟩ ⟨hd, pb⟩ la lb fun w1 w2 h' tk e1 e2 z' q' c' d' hT hsz hk => ?_
    have e1 : as[i]? = some w1 := by simpa using e1
    have e2 : bs[i]? = some w2 := by simpa using e2
    rw [ev'] at e1; rw [eu'] at e2
    cases e1; cases e2
    refine ⟨_, rfl, wpAny_letOwnedTupleGo_zip (s := { s with heap := h', toks := tk }) z' fun h2 z2 sb => ?_⟩
    have zne : s.heap.objs.size ≠ z := Nat.ne_of_gt (lts z (by simp))
    have hT2 : h2.get? s.heap.objs.size = some { cls := .type "tuple", data := .seq #[v', u'] } := by rw [sb.2 _ zne]; exact hT
    have ok : ObjOk X.prog X.w (upd H s.heap.objs.size (.tup [v, u])) h2 s.heap.objs.size (.tup [v, u]) :=
      ⟨(by decide : 2 ≤ sizeLine), [v', u'], .cons rv (.cons ru .nil), ⟨_, hT2, rfl, _, rfl⟩⟩
    have I2 : Inv X pins σ (upd H s.heap.objs.size (.tup [v, u])) { s with heap := h2, toks := tk } := by
      refine I.turnedNew (ch := [z, p, q, c, d]) (fun x o n e => ?_) free (Nat.le_refl _) ok
      simp only [List.mem_cons, List.not_mem_nil, or_false, not_or] at n
      rw [sb.2 _ n.1]
      exact hk x o n.1 n.2.2.1 n.2.2.2.1 n.2.2.2.2 e
    refine ⟨.ref s.heap.objs.size, _, I2, rfl, ⟨_, v, u, rfl, I.hok.fresh (Nat.le_refl _), rfl, fun l hl => by rw [I.list_inj hl qa]; exact ev, fun l hl => by rw [I.tuple_inj hl qb]; exact eu⟩, ⟨z2, ?_, ⟨_, _, (sb.2 _ D.TOz).trans q'⟩, c'.1.at fun o e => (sb.2 _ D.i1z).trans e, d'.1.at fun o e => (sb.2 _ D.i2z).trans e⟩, fun x m => ?_⟩
    · exact (sb.2 _ D.TIz).trans (hk _ _ D.TIz D.TITO D.TIi1 D.TIi2 hp)
    · rw [upd_ne (Nat.ne_of_lt (lts x m))]
      exact (free x m).1
  done := by
    intro X eP ew eK calm i pins s σ H E I free ⟨hz, hp, ⟨x0, y0, hq⟩, hc, hd⟩ ⟨vs, us, qa, qb, hend, le1, le2⟩
    subst eP ew eK
    obtain ⟨as, ra, pa, _⟩ := I.list qa
    obtain ⟨bs, rb, pb, _⟩ := I.tuple qb
    have l1 := ra.length
    have l2 := rb.length
    have hh : X.A.in1.handled = none := I.ok.hd calm
    refine wpAny_pyNext_zipD2_end (mixSep2 D) (Draws.list hh c a D.l1i1 as.toArray) (Draws.tuple hh d b D.l2i2 bs.toArray) hz hp hq ⟨hc, pa.isList⟩ ⟨hd, pb⟩ (by simp; omega) (by simp; omega) (by simp; omega) fun h' tk hk => ?_
    refine ⟨rfl, I.turnedL (ch := [z, p, q, c, d]) (fun x o n e => ?_) free⟩
    simp only [List.mem_cons, List.not_mem_nil, or_false, not_or] at n
    exact hk x o n.1 n.2.2.1 n.2.2.2.1 n.2.2.2.2 e
  self := fun A i s Q E st k => wpAny_pyIter_zip st.1 k
end
/-- zip(x, y): both lists, both tuples, or a tuple and a list -/
def iMix2 (K : PySem.W.Frag) (ta : TA) : TI := fun σ H R => ta σ H fun ws H1 => ∃ a b vs us, ws = [.ref a, .ref b] ∧ SqL K H1 a vs ∧ SqT K H1 b us ∧ R (ItMix2 K a b) H1
theorem pi_mix2 {X : Cx} {e e2 : Expr} {ta : TA} {p pos tpos : Pos} {elts : List Expr} {kk : Nat} (hg : Gl X "zip") (hm : X.mg "zip" = none) (ha : PA X [e, e2] ta)
    (hs : starEach [e, e2] X.env = (false, eval e X.env) :: starEach [e2] X.env) (hpl : (backTo pos (starEach [e2] X.env)).any (·.1) = false) :
    PI X (.Tuple elts kk tpos) (.Call (.Name "zip" p) [e, e2] [] pos) (iMix2 X.K ta) := by
  refine ⟨fun pins s σ H R I h => Call_ (ld_blt I hg hm boot_zip (callWith_type1 (thn (ha.run pos pins s σ H _ I h) fun ws s1 ⟨vals, H1, I1, rs, a, b, vs, us, ex, qa, qb, r⟩ => ?_) hs hpl))⟩
  subst ex
  obtain ⟨as, ra, pa, _⟩ := I1.list qa
  obtain ⟨bs, rb, pb, _⟩ := I1.tuple qb
  obtain ⟨w1, w2, ew, r1, r2⟩ : ∃ w1 w2, ws = [w1, w2] ∧ w1 = .ref a ∧ w2 = .ref b := by
    cases rs with
    | cons r rr =>
      cases rr with
      | cons r' rr =>
        cases rr
        exact ⟨_, _, rfl, r, r'⟩
  subst ew r1 r2
  have fin : wpAny (model X.prog X.w) X.A (call (.type "zip") [.ref a, .ref b]) (fun r s2 => wpAny (model X.prog X.w) X.A (pyIter r) (PIE X pins σ (.Tuple elts kk tpos) R) X.xe s2) X.xe s1 := by
    have la : a < s1.heap.objs.size := pa.lt
    have lb : b < s1.heap.objs.size := let ⟨_, e, _⟩ := pb; Heap.lt_size e
    have D := PySem.W.ktu_apart s1.heap.objs.size a b la lb
    refine zip_begins2 (Q := fun r s2 => wpAny (model X.prog X.w) X.A (pyIter r) (PIE X pins σ (.Tuple elts kk tpos) R) X.xe s2) (begins_list a as.toArray) (begins_tuple b bs.toArray) pa.isList pb fun h' hz hp hq h1 h2 hsz hk => ?_
    refine wpAny_pyIter_zip hz ?_
    have st : MixSt2 a b (s1.heap.objs.size + 4) (s1.heap.objs.size + 2) (s1.heap.objs.size + 3) s1.heap.objs.size (s1.heap.objs.size + 1) 0 h' := ⟨hz, hp, ⟨_, _, hq⟩, ⟨_, h1, rfl, rfl⟩, ⟨_, h2, rfl, rfl⟩⟩
    have I2 : Inv X pins σ H1 { s1 with heap := h' } := I1.kept (t' := s1.toks) hk
    refine ⟨_, [s1.heap.objs.size + 4, s1.heap.objs.size + 2, s1.heap.objs.size + 3, s1.heap.objs.size, s1.heap.objs.size + 1], _, _, H1, rfl, I2, turn_mix2 D, st, fun x m => ?_, r⟩
    have hle : s1.heap.objs.size ≤ x := by
      simp only [List.mem_cons, List.not_mem_nil, or_false] at m
      rcases m with e | e | e | e | e <;> rw [e] <;> first | exact Nat.le_add_right _ _ | exact Nat.le_refl _
    exact I1.fpOk hle (I1.hok.fresh hle)
  exact fin
end MP
end
-- MPSn11
section
set_option maxRecDepth 100000
set_option maxHeartbeats 1000000
/-! What is walked. -/
namespace MP
open PySem (Addr Expr Stmt Str Pos Keyword)
open PySem.Spec
open L2
open PyProof.Rows hiding St
section
variable {W : Wd} {C : Cfg} {X : Cx}
/-- J gives the things xs, whatever steps are made meanwhile -/
def IT (W : Wd) (L : List Addr) (F : Addr → Prop) (O : List Addr) (H : Hp) (J : It) (xs : List D) : Prop :=
  ∀ L2 H2 O2 Ov, Stp L H O L2 H2 O2 Ov → (∀ (i : Nat) (d : D), xs[i]? = some d → J.go i H2 ∧ ∀ x H3, J.yld i H2 x H3 → Keep (fun _ => False) H2 H3 ∧ (∀ a, H2 a ≠ none → H3 a ≠ none) ∧
    ∀ (L' : List Addr) (B' : Addr → Prop), L <+: L' → (∀ a, H a ≠ none → B' a → BB F L O a) → Rep W L' B' H3 0 d x []) ∧ J.stop xs.length H2
def tI (W : Wd) (C : Cfg) (it : I) : TI := fun τ H R => ∃ F L s O, Gd W L F H s τ O ∧ ∃ xs s', evI C it s = .ok (xs, s') ∧ ∀ J H' L' O', PN' W F L H O τ s' L' H' O' → IT W L' F O' H' J xs → R J H'
theorem PI.imp {tg it : Expr} {t t' : TI} (h : PI X tg it t) (i : ∀ τ H R, t' τ H R → t τ H R) : PI X tg it t' := ⟨fun p s σ H R I z => h.run p s σ H R I (i σ H R z)⟩
theorem frz0 {L F O H k d v Ov} (r : Rep W L (BB (FU F Ov) L O) H k d v Ov) (ap : ∀ a ∈ Ov, ¬ F a) (g : ∀ a ∈ Ov, a ∉ L ∧ a ∉ O) : Rep W L (BB F L O) H 0 d v [] := by
  refine r.frz (fun a b => b.elim (fun z => .inl (.inl z)) .inr) fun a m b => ?_
  rcases b with b | b | b
  · exact ap a m b
  · exact (g a m).1 b
  · exact (g a m).2 b
theorem PE'.fz0 {F L H O τ p s1 v L1 H1 O1 Ov} (e : PE' W F L H O τ p s1 v L1 H1 O1 Ov) : Rep W L1 (BB F L1 O1) H1 0 p.1 v [] :=
  frz0 e.r e.ap fun a m => e.g.ap a (.inr m)
/-- a list, a tuple that is frozen stays to be read -/
theorem seq_stays {L F O H d v xs} (hK : W.K = X.K) (r : Rep W L (BB F L O) H 0 d v []) (e : seqD d = some xs) : ∃ a vs, v = .ref a ∧ Reps W L (BB F L O) H 0 xs vs [] ∧
    (((∀ L2 H2 O2 Ov, Stp L H O L2 H2 O2 Ov → SqL X.K H2 a vs) ∧ ((∃ ys, d = .lst ys) ∨ ∃ ys, d = .fz ys)) ∨ ((∀ L2 H2 O2 Ov, Stp L H O L2 H2 O2 Ov → SqT X.K H2 a vs) ∧ ∃ ys, d = .tup ys)) := by
  cases d <;> simp only [seqD, reduceCtorEq] at e <;> cases e
  · obtain ⟨a, vs, rfl, ha, hs⟩ := r.tup_inv
    exact ⟨a, vs, rfl, hs, .inr ⟨fun L2 H2 O2 Ov st => .inl (.inl (st.kp.tup _ _ ha)), _, rfl⟩⟩
  · cases r with
    | lst0 h n hs => exact ⟨_, _, rfl, hs, .inl ⟨fun L2 H2 O2 Ov st => .inl (.inl (st.kp.any _ _ h fun m => n (.inr m))), .inl ⟨_, rfl⟩⟩⟩
  · cases r with
    | fz k h hs =>
      refine ⟨_, _, rfl, hs, .inl ⟨fun L2 H2 O2 Ov st => ?_, .inr ⟨_, rfl⟩⟩⟩
      rcases h with ⟨o, h⟩ | h
      · exact .inl (.inr ⟨o, st.kp.frz _ _ _ h⟩)
      · rw [hK] at h; exact h H2
theorem Reps.later {L F O H ds vs L2 H2 O2 Ov L' B'} (hs : Reps W L (BB F L O) H 0 ds vs []) (st : Stp L H O L2 H2 O2 Ov) (hL : L <+: L') (hB : ∀ a, H a ≠ none → B' a → BB F L O a) : Reps W L' B' H2 0 ds vs [] :=
  hs.keep st.kp (fun a m => .inr m) hB (pre_get hL) (by simp)
theorem Rep.grow {L L' : List Addr} {B H H' k d v} (r : Rep W L B H k d v []) (kp : Keep (fun _ => False) H H') : Rep W L B H' k d v [] := r.keep kp (fun _ f => f.elim) (fun _ _ b => b) (fun _ _ e => e) fun _ _ f => f
theorem IT.list {L F O H a vs xs} (hs : Reps W L (BB F L O) H 0 xs vs []) (h : ∀ L2 H2 O2 Ov, Stp L H O L2 H2 O2 Ov → SqL X.K H2 a vs) : IT W L F O H (Itl X.K a) xs := by
  intro L2 H2 O2 Ov st
  have hq := h L2 H2 O2 Ov st
  refine ⟨fun i d e => ?_, vs, hq, by rw [hs.length]; exact Nat.le_refl _⟩
  obtain ⟨v, hv, _⟩ := hs.get0 e
  refine ⟨⟨vs, v, hq, hv⟩, fun x H3 ⟨e1, e2⟩ => ?_⟩
  subst e1
  refine ⟨.refl, fun _ h => h, fun L' B' hL hB => ?_⟩
  obtain ⟨v', hv', r⟩ := (hs.later st hL hB).get0 e
  have := e2 vs hq
  rw [hv'] at this
  cases this
  exact r
theorem IT.tup {L F O H a vs xs} (hs : Reps W L (BB F L O) H 0 xs vs []) (h : ∀ L2 H2 O2 Ov, Stp L H O L2 H2 O2 Ov → SqT X.K H2 a vs) : IT W L F O H (Itt X.K a) xs := by
  intro L2 H2 O2 Ov st
  have hq := h L2 H2 O2 Ov st
  refine ⟨fun i d e => ?_, vs, hq, by rw [hs.length]; exact Nat.le_refl _⟩
  obtain ⟨v, hv, _⟩ := hs.get0 e
  refine ⟨⟨vs, v, hq, hv⟩, fun x H3 ⟨e1, e2⟩ => ?_⟩
  subst e1
  refine ⟨.refl, fun _ h => h, fun L' B' hL hB => ?_⟩
  obtain ⟨v', hv', r⟩ := (hs.later st hL hB).get0 e
  have := e2 vs hq
  rw [hv'] at this
  cases this
  exact r
/-- which of the two a walked thing is -/
def isSeqL : D → Bool | .tup _ => false | _ => true
/-- for x in xs: the thing is a list (or the script), or a tuple -/
theorem pi_seq {tg e : Expr} {tl : TE} (he : PE X e tl) : PI X tg e (fun σ H R => tl σ H fun x H1 => ∃ a, x = .ref a ∧ (((∃ xs, SqL X.K H1 a xs) ∧ R (Itl X.K a) H1) ∨ ((∃ xs, SqT X.K H1 a xs) ∧ R (Itt X.K a) H1))) := by
  refine ⟨fun pins s σ H R I h => ?_⟩
  refine thn (he.run pins s σ H _ I h) fun v s1 ⟨x, H1, I1, r1, a, ex, q⟩ => ?_
  subst ex
  rcases q with ⟨hq, q⟩ | ⟨hq, q⟩
  · have one : PE X e (fun _ _ _ => False) := ⟨fun _ _ _ _ _ _ f => f.elim⟩
    cases r1
    obtain ⟨xs, hq⟩ := hq
    obtain ⟨its, rv, p, hz⟩ := I1.list hq
    refine PySem.wpAny_pyIter_list p.isList ?_
    refine ⟨s1.heap.objs.size, [s1.heap.objs.size], _, _, H1, rfl, I1.kept (t' := s1.toks) fun b o e => PySem.Heap.get?_push_of_some _ e, turn_list a _, ⟨_, PySem.Heap.get?_push_size _ rfl, rfl, rfl⟩, fun b hb => ?_, q⟩
    obtain rfl : b = s1.heap.objs.size := by simpa using hb
    exact I1.fpOk (Nat.le_refl _) (I1.hok.fresh (Nat.le_refl _))
  · cases r1
    obtain ⟨xs, hq⟩ := hq
    obtain ⟨its, rv, p, hz⟩ := I1.tuple hq
    refine PySem.wpAny_pyIter_tuple (show s1.heap.IsTuple a its.toArray from p) ?_
    refine ⟨s1.heap.objs.size, [s1.heap.objs.size], _, _, H1, rfl, I1.kept (t' := s1.toks) fun b o e => PySem.Heap.get?_push_of_some _ e, turn_tuple a _, ⟨_, PySem.Heap.get?_push_size _ rfl, rfl, rfl⟩, fun b hb => ?_, q⟩
    obtain rfl : b = s1.heap.objs.size := by simpa using hb
    exact I1.fpOk (Nat.le_refl _) (I1.hok.fresh (Nat.le_refl _))
theorem it_seq {tg e : Expr} {m : E} (hK : W.K = X.K) (he : PE X e (tE W C m)) : PI X tg e (tI W C (.seq m)) := by
  refine PI.imp (pi_seq he) fun τ H R ⟨F, L, s, O, g, xs, s', hr, q⟩ => ?_
  simp only [evI] at hr
  obtain ⟨⟨⟨d, k⟩, s1⟩, h1, hr⟩ := bind_ok hr
  obtain ⟨ys, h2, hr⟩ := bind_ok hr
  cases hr
  have h2 := ofO_ok h2
  refine ⟨F, L, s, O, g, _, h1, fun v H1 ⟨L1, O1, Ov, p⟩ => ?_⟩
  obtain ⟨a, vs, rfl, hs, h | h⟩ := seq_stays (X := X) hK p.fz0 h2
  · exact ⟨a, rfl, .inl ⟨⟨vs, h.1 _ _ _ _ .refl⟩, q _ _ _ _ p.drop (IT.list hs h.1)⟩⟩
  · exact ⟨a, rfl, .inr ⟨⟨vs, h.1 _ _ _ _ .refl⟩, q _ _ _ _ p.drop (IT.tup hs h.1)⟩⟩
theorem IT.rng {L F O H lo} {n : Nat} : IT W L F O H (Itr lo n) ((List.range n).map fun i => .int (lo + (i : Nat))) := by
  intro L2 H2 O2 Ov st
  refine ⟨fun i d e => ?_, by show n ≤ _; simp⟩
  have hi : i < n := by
    rcases Nat.lt_or_ge i n with z | z
    · exact z
    · rw [List.getElem?_eq_none (by simpa using z)] at e; cases e
  rw [List.getElem?_map, List.getElem?_range hi] at e
  cases e
  refine ⟨hi, fun x H3 ⟨e1, e2⟩ => ?_⟩
  subst e1; subst e2
  exact ⟨.refl, fun _ h => h, fun L' B' hL hB => .int 0 _⟩
theorem rngD_ok {lo hi : Int} {n : Nat} {xs : List D} (h : rngD lo hi n = some xs) : (-(2 ^ 62) ≤ lo ∧ lo < 2 ^ 62 ∧ -(2 ^ 62) ≤ hi ∧ hi < 2 ^ 62 ∧ n ≤ lim) ∧ xs = (List.range n).map fun i => .int (lo + (i : Nat)) := by
  unfold rngD at h
  split at h
  · rename_i hl; cases h; exact ⟨hl, rfl⟩
  · cases h
theorem it_rng1 {tg a : Expr} {m : E} {p pos : Pos} (hg : Gl X "range") (hm : X.mg "range" = none) (hp : plainE a = true) (ha : PE X a (tE W C m)) : PI X tg (.Call (.Name "range" p) [a] [] pos) (tI W C (.rng1 m)) := by
  refine PI.imp (pi_range1 hg hm (pa_cons ha pa_nil (star_cons hp)) (star_cons hp)) fun τ H R ⟨F, L, s, O, g, xs, s', hr, q⟩ => ?_
  simp only [evI] at hr
  obtain ⟨⟨⟨d, k⟩, s1⟩, h1, hr⟩ := bind_ok hr
  obtain ⟨j, h2, hr⟩ := bind_ok hr
  obtain ⟨ys, h3, hr⟩ := bind_ok hr
  cases hr
  have h2 := ofO_ok h2
  cases d <;> simp only [toInt, reduceCtorEq] at h2
  cases h2
  obtain ⟨hl, e3⟩ := rngD_ok (ofO_ok h3)
  subst e3
  refine ⟨F, L, s, O, g, _, h1, fun v H1 ⟨L1, O1, Ov, p⟩ => ?_⟩
  have e := vw_int p.r
  subst e
  exact ⟨_, rfl, hl.2.2.1, hl.2.2.2.1, q _ _ _ _ p.drop IT.rng⟩
theorem it_rng2 {tg a b : Expr} {m n : E} {p pos : Pos} (hg : Gl X "range") (hm : X.mg "range" = none) (hp : plainE a = true) (hp2 : plainE b = true) (ha : PE X a (tE W C m)) (hb : PE X b (tE W C n)) : PI X tg (.Call (.Name "range" p) [a, b] [] pos) (tI W C (.rng2 m n)) := by
  refine PI.imp (pi_range2 hg hm (pa_cons ha (pa_cons hb pa_nil (star_cons hp2)) (star_cons hp)) (by rw [star_cons hp, star_cons hp2]; rfl) (by rw [star_cons hp2]; rfl)) fun τ H R ⟨F, L, s, O, g, xs, s', hr, q⟩ => ?_
  simp only [evI] at hr
  obtain ⟨⟨⟨d, k⟩, s1⟩, h1, hr⟩ := bind_ok hr
  obtain ⟨⟨⟨d2, k2⟩, s2⟩, h1', hr⟩ := bind_ok hr
  obtain ⟨i, h2, hr⟩ := bind_ok hr
  obtain ⟨j, h2', hr⟩ := bind_ok hr
  obtain ⟨ys, h3, hr⟩ := bind_ok hr
  cases hr
  have h2 := ofO_ok h2
  have h2' := ofO_ok h2'
  cases d <;> simp only [toInt, reduceCtorEq] at h2
  cases h2
  cases d2 <;> simp only [toInt, reduceCtorEq] at h2'
  cases h2'
  obtain ⟨hl, e3⟩ := rngD_ok (ofO_ok h3)
  subst e3
  refine ⟨F, L, s, O, g, _, h1, fun v H1 ⟨L1, O1, Ov, p⟩ => ?_⟩
  have e := vw_int p.r
  subst e
  refine ⟨F, L1, s1, O1, p.drop.g, _, h1', fun v H2 ⟨L2, O2, Ov2, p2⟩ => ?_⟩
  have e := vw_int p2.r
  subst e
  exact ⟨_, _, rfl, ⟨hl.1, hl.2.1, hl.2.2.1, hl.2.2.2.1⟩, q _ _ _ _ (p.drop.trans p2.drop) IT.rng⟩
/-- two things in a new pair -/
theorem pair_rep {L' B' H2 T x y d e} (hT : H2 T = none) (r1 : Rep W L' B' H2 0 d x []) (r2 : Rep W L' B' H2 0 e y []) : Keep (fun _ => False) H2 (upd H2 T (.tup [x, y])) ∧ (∀ a, H2 a ≠ none → upd H2 T (.tup [x, y]) a ≠ none) ∧ Rep W L' B' (upd H2 T (.tup [x, y])) 0 (.tup [d, e]) (.ref T) [] := by
  have kp : Keep (fun _ => False) H2 (upd H2 T (.tup [x, y])) := Keep.upd hT
  exact ⟨kp, fun a h => there_upd h, .tup upd_same (.mk0 (r1.grow (L' := []) kp) (.mk0 (r2.grow (L' := []) kp) (.nil 0)))⟩
theorem enumD_get : ∀ (xs : List D) (n i : Nat), (enumD n xs)[i]? = (xs[i]?).map fun d => .tup [.int ((n + i : Nat) : Int), d]
  | [], n, i => by simp [enumD]
  | x :: xs, n, 0 => by simp [enumD]
  | x :: xs, n, i + 1 => by
    have := enumD_get xs (n + 1) i
    simp only [enumD, List.getElem?_cons_succ]
    rw [this]
    congr 1
    funext d
    have : n + 1 + i = n + (i + 1) := by omega
    rw [this]
theorem enumD_len : ∀ (xs : List D) (n : Nat), (enumD n xs).length = xs.length
  | [], n => rfl
  | x :: xs, n => by simp [enumD, enumD_len xs]
theorem zipD_get : ∀ (xs ys : List D) (i : Nat) (d : D), (zipD xs ys)[i]? = some d → ∃ a b, xs[i]? = some a ∧ ys[i]? = some b ∧ d = .tup [a, b]
  | [], ys, i, d, h => by simp [zipD] at h
  | x :: xs, [], i, d, h => by simp [zipD] at h
  | x :: xs, y :: ys, 0, d, h => by simp [zipD] at h; exact ⟨x, y, rfl, rfl, h.symm⟩
  | x :: xs, y :: ys, i + 1, d, h => by
    obtain ⟨a, b, h1, h2, h3⟩ := zipD_get xs ys i d (by simpa [zipD] using h)
    exact ⟨a, b, by simpa using h1, by simpa using h2, h3⟩
theorem zipD_len : ∀ (xs ys : List D), (zipD xs ys).length = min xs.length ys.length
  | [], ys => by simp [zipD]
  | x :: xs, [] => by simp [zipD]
  | x :: xs, y :: ys => by simp [zipD, zipD_len xs ys]
theorem IT.enum {L F O H a vs xs} (hs : Reps W L (BB F L O) H 0 xs vs []) (h : ∀ L2 H2 O2 Ov, Stp L H O L2 H2 O2 Ov → SqL X.K H2 a vs) : IT W L F O H (Ite X.K a) (enumD 0 xs) := by
  intro L2 H2 O2 Ov st
  have hq := h L2 H2 O2 Ov st
  refine ⟨fun i d e => ?_, vs, hq, by rw [enumD_len, hs.length]; exact Nat.le_refl _⟩
  rw [enumD_get] at e
  obtain ⟨d', e', rfl⟩ := Option.map_eq_some_iff.mp e
  obtain ⟨v, hv, _⟩ := hs.get0 e'
  refine ⟨⟨vs, v, hq, hv⟩, fun x H3 ⟨T, x', e1, e2, e3, e4⟩ => ?_⟩
  subst e1; subst e3
  have ex := e4 vs hq
  have base : ∀ (L' : List Addr) (B' : Addr → Prop), L <+: L' → (∀ a, H a ≠ none → B' a → BB F L O a) → Rep W L' B' H2 0 d' x' [] := fun L' B' hL hB => by
    obtain ⟨v', hv', r⟩ := (hs.later st hL hB).get0 e'
    rw [ex] at hv'
    cases hv'
    exact r
  refine ⟨Keep.upd e2, fun a h => there_upd h, fun L' B' hL hB => ?_⟩
  have := (pair_rep (x := .int ((i : Nat) : Int)) e2 (.int 0 ((i : Nat) : Int)) (base L' B' hL hB)).2.2
  simpa using this
theorem IT.zipL {L F O H a b vs us xs ys} (hs : Reps W L (BB F L O) H 0 xs vs []) (ht : Reps W L (BB F L O) H 0 ys us []) (h : ∀ L2 H2 O2 Ov, Stp L H O L2 H2 O2 Ov → SqL X.K H2 a vs ∧ SqL X.K H2 b us) : IT W L F O H (Itz X.K a b) (zipD xs ys) := by
  intro L2 H2 O2 Ov st
  obtain ⟨hq, hq2⟩ := h L2 H2 O2 Ov st
  refine ⟨fun i d e => ?_, vs, us, hq, hq2, by rw [zipD_len, hs.length, ht.length]; omega⟩
  obtain ⟨d1, d2, e1, e2, rfl⟩ := zipD_get xs ys i d e
  obtain ⟨v, hv, _⟩ := hs.get0 e1
  obtain ⟨u, hu, _⟩ := ht.get0 e2
  refine ⟨⟨vs, us, v, u, hq, hq2, hv, hu⟩, fun x H3 ⟨T, x', y', f1, f2, f3, f4, f5⟩ => ?_⟩
  subst f1; subst f3
  refine ⟨Keep.upd f2, fun a h => there_upd h, fun L' B' hL hB => ?_⟩
  obtain ⟨v', hv', r1⟩ := (hs.later st hL hB).get0 e1
  obtain ⟨u', hu', r2⟩ := (ht.later st hL hB).get0 e2
  have z1 := f4 vs hq
  have z2 := f5 us hq2
  rw [hv'] at z1
  rw [hu'] at z2
  cases z1; cases z2
  exact (pair_rep f2 r1 r2).2.2
theorem IT.zipT {L F O H a b vs us xs ys} (hs : Reps W L (BB F L O) H 0 xs vs []) (ht : Reps W L (BB F L O) H 0 ys us []) (h : ∀ L2 H2 O2 Ov, Stp L H O L2 H2 O2 Ov → SqT X.K H2 a vs ∧ SqT X.K H2 b us) : IT W L F O H (RZ.ItzT X.K a b) (zipD xs ys) := by
  intro L2 H2 O2 Ov st
  obtain ⟨hq, hq2⟩ := h L2 H2 O2 Ov st
  refine ⟨fun i d e => ?_, vs, us, hq, hq2, by rw [zipD_len, hs.length, ht.length]; omega⟩
  obtain ⟨d1, d2, e1, e2, rfl⟩ := zipD_get xs ys i d e
  obtain ⟨v, hv, _⟩ := hs.get0 e1
  obtain ⟨u, hu, _⟩ := ht.get0 e2
  refine ⟨⟨vs, us, v, u, hq, hq2, hv, hu⟩, fun x H3 ⟨T, x', y', f1, f2, f3, f4, f5⟩ => ?_⟩
  subst f1; subst f3
  refine ⟨Keep.upd f2, fun a h => there_upd h, fun L' B' hL hB => ?_⟩
  obtain ⟨v', hv', r1⟩ := (hs.later st hL hB).get0 e1
  obtain ⟨u', hu', r2⟩ := (ht.later st hL hB).get0 e2
  have z1 := f4 vs hq
  have z2 := f5 us hq2
  rw [hv'] at z1
  rw [hu'] at z2
  cases z1; cases z2
  exact (pair_rep f2 r1 r2).2.2
theorem it_enum {a : Expr} {m : E} {p pos tpos : Pos} {elts : List Expr} {kk : _} (hK : W.K = X.K) (hg : Gl X "enumerate") (hm : X.mg "enumerate" = none) (hp : plainE a = true) (ha : PE X a (tE W C m)) : PI X (.Tuple elts kk tpos) (.Call (.Name "enumerate" p) [a] [] pos) (tI W C (.enum m)) := by
  refine PI.imp (pi_enum hg hm (pa_cons ha pa_nil (star_cons hp)) (star_cons hp)) fun τ H R ⟨F, L, s, O, g, xs, s', hr, q⟩ => ?_
  simp only [evI] at hr
  obtain ⟨⟨⟨d, k⟩, s1⟩, h1, hr⟩ := bind_ok hr
  cases d <;> simp only [reduceCtorEq] at hr
  cases hr
  refine ⟨F, L, s, O, g, _, h1, fun v H1 ⟨L1, O1, Ov, p⟩ => ?_⟩
  obtain ⟨a', vs, rfl, hs, h | ⟨_, ys, z⟩⟩ := seq_stays (X := X) hK p.fz0 rfl
  · exact ⟨a', vs, rfl, h.1 _ _ _ _ .refl, q _ _ _ _ p.drop (IT.enum hs h.1)⟩
  · cases z
theorem PI.or {tg it : Expr} {t t' : TI} (h : PI X tg it t) (h' : PI X tg it t') : PI X tg it (fun τ H R => t τ H R ∨ t' τ H R) :=
  ⟨fun p s σ H R I z => z.elim (h.run p s σ H R I) (h'.run p s σ H R I)⟩
theorem IT.mix {L F O H a b vs us xs ys} (hs : Reps W L (BB F L O) H 0 xs vs []) (ht : Reps W L (BB F L O) H 0 ys us []) (h : ∀ L2 H2 O2 Ov, Stp L H O L2 H2 O2 Ov → SqT X.K H2 a vs ∧ SqL X.K H2 b us) : IT W L F O H (ItMix X.K a b) (zipD xs ys) := by
  intro L2 H2 O2 Ov st
  obtain ⟨hq, hq2⟩ := h L2 H2 O2 Ov st
  refine ⟨fun i d e => ?_, vs, us, hq, hq2, by rw [zipD_len, hs.length, ht.length]; omega, by rw [zipD_len, hs.length]; omega, by rw [zipD_len, ht.length]; omega⟩
  obtain ⟨d1, d2, e1, e2, rfl⟩ := zipD_get xs ys i d e
  obtain ⟨v, hv, _⟩ := hs.get0 e1
  obtain ⟨u, hu, _⟩ := ht.get0 e2
  refine ⟨⟨vs, us, v, u, hq, hq2, hv, hu⟩, fun x H3 ⟨T, x', y', f1, f2, f3, f4, f5⟩ => ?_⟩
  subst f1; subst f3
  refine ⟨Keep.upd f2, fun a h => there_upd h, fun L' B' hL hB => ?_⟩
  obtain ⟨v', hv', r1⟩ := (hs.later st hL hB).get0 e1
  obtain ⟨u', hu', r2⟩ := (ht.later st hL hB).get0 e2
  have z1 := f4 vs hq
  have z2 := f5 us hq2
  rw [hv'] at z1
  rw [hu'] at z2
  cases z1; cases z2
  exact (pair_rep f2 r1 r2).2.2
theorem IT.mix2 {L F O H a b vs us xs ys} (hs : Reps W L (BB F L O) H 0 xs vs []) (ht : Reps W L (BB F L O) H 0 ys us []) (h : ∀ L2 H2 O2 Ov, Stp L H O L2 H2 O2 Ov → SqL X.K H2 a vs ∧ SqT X.K H2 b us) : IT W L F O H (ItMix2 X.K a b) (zipD xs ys) := by
  intro L2 H2 O2 Ov st
  obtain ⟨hq, hq2⟩ := h L2 H2 O2 Ov st
  refine ⟨fun i d e => ?_, vs, us, hq, hq2, by rw [zipD_len, hs.length, ht.length]; omega, by rw [zipD_len, hs.length]; omega, by rw [zipD_len, ht.length]; omega⟩
  obtain ⟨d1, d2, e1, e2, rfl⟩ := zipD_get xs ys i d e
  obtain ⟨v, hv, _⟩ := hs.get0 e1
  obtain ⟨u, hu, _⟩ := ht.get0 e2
  refine ⟨⟨vs, us, v, u, hq, hq2, hv, hu⟩, fun x H3 ⟨T, x', y', f1, f2, f3, f4, f5⟩ => ?_⟩
  subst f1; subst f3
  refine ⟨Keep.upd f2, fun a h => there_upd h, fun L' B' hL hB => ?_⟩
  obtain ⟨v', hv', r1⟩ := (hs.later st hL hB).get0 e1
  obtain ⟨u', hu', r2⟩ := (ht.later st hL hB).get0 e2
  have z1 := f4 vs hq
  have z2 := f5 us hq2
  rw [hv'] at z1
  rw [hu'] at z2
  cases z1; cases z2
  exact (pair_rep f2 r1 r2).2.2
theorem it_zip {a b : Expr} {m n : E} {p pos tpos : Pos} {elts : List Expr} {kk : _} (hK : W.K = X.K) (hg : Gl X "zip") (hm : X.mg "zip" = none) (hp : plainE a = true) (hp2 : plainE b = true) (ha : PE X a (tE W C m)) (hb : PE X b (tE W C n)) : PI X (.Tuple elts kk tpos) (.Call (.Name "zip" p) [a, b] [] pos) (tI W C (.zip m n)) := by
  have pa := pa_cons ha (pa_cons hb pa_nil (star_cons hp2)) (star_cons hp)
  refine PI.imp (PI.or (RZ.pi_zipA hg hm pa (star_cons hp) (star_any (by simpa using hp2))) (PI.or (pi_mix hg hm pa (star_cons hp) (star_any (by simpa using hp2))) (pi_mix2 hg hm pa (star_cons hp) (star_any (by simpa using hp2))))) fun τ H R ⟨F, L, s, O, g, xs, s', hr, q⟩ => ?_
  simp only [evI] at hr
  obtain ⟨⟨⟨d, k⟩, s1⟩, h1, hr⟩ := bind_ok hr
  obtain ⟨⟨⟨d2, k2⟩, s2⟩, h2, hr⟩ := bind_ok hr
  have go : ∀ G : List V → Hp → Prop, (∀ v u H2 L2 O2, Rep W L2 (BB F L2 O2) H2 0 d v [] → Rep W L2 (BB F L2 O2) H2 0 d2 u [] → PN' W F L H O τ s2 L2 H2 O2 → G [v, u] H2) → (tCons (tE W C m) (tCons (tE W C n) tNil)) τ H G := by
    intro G hG
    refine ⟨F, L, s, O, g, _, h1, fun v H1 ⟨L1, O1, Ov, p⟩ => ?_⟩
    refine ⟨FU F Ov, L1, s1, O1, p.g, _, h2, fun u H2 ⟨L2, O2, Ov2, p2⟩ => ?_⟩
    have pn := p2.drop
    have r1 := p.r.step p.g pn.st fun a m => .inr m
    have gw : Gd W L2 F H2 s2 τ O2 := pn.g.weak fun a z => .inl z
    have r1' : Rep W L2 (BB F L2 O2) H2 0 d v [] := by
      refine r1.frz (fun a b => b.elim (fun z => .inl (.inl (.inl z))) .inr) fun a m b => ?_
      rcases b with b | b | b
      · exact p.ap a m b
      · exact (pn.g.ap a (.inr m)).1 b
      · exact (pn.g.ap a (.inr m)).2 b
    exact hG v u H2 L2 O2 r1' (p2.fz0.mono fun a _ b => b.elim (fun z => .inl (.inl z)) .inr) ⟨p.st.trans pn.st (by simp), gw⟩
  cases d <;> cases d2 <;> simp only [reduceCtorEq] at hr <;> cases hr
  · refine .inl (go _ fun v u H2 L2 O2 r1' r2' st => ?_)
    obtain ⟨a1, vs, rfl, hs, ⟨_, ⟨_, z⟩ | ⟨_, z⟩⟩ | ⟨h, _⟩⟩ := seq_stays (X := X) hK r1' rfl <;> first | (cases z; done) | skip
    obtain ⟨a2, us, rfl, hs2, ⟨_, ⟨_, z⟩ | ⟨_, z⟩⟩ | ⟨h', _⟩⟩ := seq_stays (X := X) hK r2' rfl <;> first | (cases z; done) | skip
    exact ⟨a1, a2, vs, us, rfl, .inr ⟨h _ _ _ _ .refl, h' _ _ _ _ .refl, q _ _ _ _ st (IT.zipT hs hs2 fun _ _ _ _ z => ⟨h _ _ _ _ z, h' _ _ _ _ z⟩)⟩⟩
  · refine .inr (.inl (go _ fun v u H2 L2 O2 r1' r2' st => ?_))
    obtain ⟨a1, vs, rfl, hs, ⟨_, ⟨_, z⟩ | ⟨_, z⟩⟩ | ⟨h, _⟩⟩ := seq_stays (X := X) hK r1' rfl <;> first | (cases z; done) | skip
    obtain ⟨a2, us, rfl, hs2, ⟨h', _⟩ | ⟨_, _, z⟩⟩ := seq_stays (X := X) hK r2' rfl <;> first | (cases z; done) | skip
    exact ⟨a1, a2, vs, us, rfl, h _ _ _ _ .refl, h' _ _ _ _ .refl, q _ _ _ _ st (IT.mix hs hs2 fun _ _ _ _ z => ⟨h _ _ _ _ z, h' _ _ _ _ z⟩)⟩
  · refine .inr (.inr (go _ fun v u H2 L2 O2 r1' r2' st => ?_))
    obtain ⟨a1, vs, rfl, hs, ⟨h, _⟩ | ⟨_, _, z⟩⟩ := seq_stays (X := X) hK r1' rfl <;> first | (cases z; done) | skip
    obtain ⟨a2, us, rfl, hs2, ⟨_, ⟨_, z⟩ | ⟨_, z⟩⟩ | ⟨h', _⟩⟩ := seq_stays (X := X) hK r2' rfl <;> first | (cases z; done) | skip
    exact ⟨a1, a2, vs, us, rfl, h _ _ _ _ .refl, h' _ _ _ _ .refl, q _ _ _ _ st (IT.mix2 hs hs2 fun _ _ _ _ z => ⟨h _ _ _ _ z, h' _ _ _ _ z⟩)⟩
  · refine .inl (go _ fun v u H2 L2 O2 r1' r2' st => ?_)
    obtain ⟨a1, vs, rfl, hs, ⟨h, _⟩ | ⟨_, _, z⟩⟩ := seq_stays (X := X) hK r1' rfl <;> first | (cases z; done) | skip
    obtain ⟨a2, us, rfl, hs2, ⟨h', _⟩ | ⟨_, _, z⟩⟩ := seq_stays (X := X) hK r2' rfl <;> first | (cases z; done) | skip
    exact ⟨a1, a2, vs, us, rfl, .inl ⟨h _ _ _ _ .refl, h' _ _ _ _ .refl, q _ _ _ _ st (IT.zipL hs hs2 fun _ _ _ _ z => ⟨h _ _ _ _ z, h' _ _ _ _ z⟩)⟩⟩
end
end MP
end
-- MPUnp
section
set_option maxRecDepth 100000
set_option maxHeartbeats 1000000
/-! a, b = a list. -/
namespace MP
open PySem PySem.Spec PyProof.Rows L2
section
variable {prog : Program} {w : World} {A : Around} {E : Value → Shared → Prop} {s : Shared}
theorem draw_list {it t : Addr} {items : Array Value} (hne : t ≠ it) : ∀ (n i : Nat) (s : Shared) (Q : List Value → Shared → Prop), s.heap.IsListIter it t i → s.heap.IsList t items → i + n ≤ items.size →
    (∀ h' : Heap, h'.IsListIter it t (i + n) → Heap.SameBut it s.heap h' → Q ((items.toList.drop i).take n) { s with heap := h' }) → wpAny (model prog w) A (draw (.ref it) n) Q E s
  | 0, i, s, Q, hit, _, _, hQ => by
    show wpAny _ _ (pure []) Q E s
    exact wpAny_pure (by simpa using hQ s.heap hit (Heap.SameBut.refl ..))
  | n + 1, i, s, Q, hit, ht, hle, hQ => by
    have hlt : i < items.size := by omega
    show wpAny _ _ (pyNext (.ref it) >>= _) Q E s
    refine wpAny_bind (wpAny_pyNext_list_item hit ht (x := items[i]) (by simp [hlt]) fun h₁ hit₁ hs₁ => ?_)
    refine wpAny_bind (wpAny_holding (draw_list hne n (i + 1) _ _ hit₁ (ht.extBut hs₁.extBut hne) (by omega) fun h₂ hit₂ hs₂ => wpAny_pure ?_))
    have hd : items.toList.drop i = items[i] :: items.toList.drop (i + 1) := by simp [List.drop_eq_getElem_cons, hlt]
    have := hQ h₂ (by rw [show i + (n + 1) = i + 1 + n by omega]; exact hit₂) (hs₁.trans hs₂)
    rw [hd, List.take_succ_cons] at this
    exact this
theorem unpackItems_list {t : Addr} {items : Array Value} {Q : List Value → Shared → Prop} (hh : A.handled = none) (ht : s.heap.IsList t items)
    (hQ : ∀ h', Heap.ExtBut s.heap.objs.size s.heap h' → Q items.toList { s with heap := h' }) : wpAny (model prog w) A (unpackItems (.ref t) items.size none) Q E s := by
  have hlt : t ≠ s.heap.objs.size := by obtain ⟨o, ho, _⟩ := ht; exact Nat.ne_of_lt (Heap.lt_size ho)
  unfold unpackItems
  refine wpAny_bind ?_
  · unfold notIterableAtAll
    refine wpAny_bind (wpAny_specialOf ht.typeIs PySem.F.slot_list_iter.lookup ?_)
    refine wpAny_pure ?_
    simp only [Bool.false_eq_true, if_false]
    refine wpAny_bind (wpAny_holding (wpAny_pyIter_list ht ?_))
    refine wpAny_bind (wpAny_holding (draw_list hlt items.size 0 _ _ ⟨_, Heap.get?_push_size _ rfl, rfl, rfl⟩ (ht.push _) (by omega) fun h₁ hit₁ hs₁ => ?_))
    have hall : List.take items.size (List.drop 0 items.toList) = items.toList := by
      rw [List.drop_zero]; exact List.take_of_length_le (by simp)
    rw [hall]
    rw [if_neg (by simp)]
    have ht₁ : h₁.IsList t items := (ht.push _).extBut hs₁.extBut hlt
    refine wpAny_bind (wpAny_holding (wpAny_pyNext_list_end hh hit₁ ht₁ (by simp) fun h₂ he₂ => ?_))
    simp only [Option.isSome_none, Bool.false_eq_true, if_false]
    refine wpAny_pure (hQ h₂ fun b o hb e => he₂ b o hb (hs₁.extBut b o hb (Heap.get?_push_of_some _ e)))
theorem assign_Tuple_list {env : Env} {elts : List Expr} {x1} {pos : Pos} {t : Addr} {items : Array Value} {Q : Unit → Shared → Prop} (hh : A.handled = none) (ht : s.heap.IsList t items)
    (hn : (assignEach elts env).length = items.size) (hstar : (assignEach elts env).findIdx? (·.1) = none)
    (h : ∀ h', Heap.ExtBut s.heap.objs.size s.heap h' → wpAny (model prog w) A (assignInOrder ((assignEach elts env).map (·.2)) items.toList) Q E { s with heap := h' }) :
    wpAny (model prog w) A (assign (.Tuple elts x1 pos) env (.ref t)) Q E s := by
  rw [assign_Tuple]
  refine wpAny_bind (wpAny_standAt ?_)
  unfold unpack
  rw [hn, hstar]
  exact wpAny_bind (wpAny_holding (unpackItems_list hh ht h))
end
section
variable {X : Cx} {pos : Pos}
def gLst (K : PySem.W.Frag) (n : Nat) (t : TGs) : TG := fun v σ H Q => ∃ a xs, v = .ref a ∧ SqL K H a xs ∧ xs.length = n ∧ t xs σ H Q
theorem pg_lst {es : List Expr} {k : Nat} {t : TGs} {n : Nat} (hc : X.calm = true) (h : PGs X es t)
    (hn : (assignEach es X.env).length = n) (hst : (assignEach es X.env).findIdx? (·.1) = none) : PG X (.Tuple es k pos) (gLst X.K n t) := by
  refine ⟨fun pins s σ H v u Q I r hw => ?_⟩
  obtain ⟨a, xs, e1, hq, hl, hw⟩ := hw
  subst e1
  cases r
  obtain ⟨its, rv, ht, hz⟩ := I.list hq
  refine assign_Tuple_list (I.ok.hd hc) ht.isList (by simp [hn, ← hl, rv.length]) hst fun h' hx => ?_
  have I1 : Inv X pins σ H { s with heap := h' } := I.kept (t' := s.toks) fun b o e => hx b o (Nat.ne_of_lt (Heap.lt_size e)) e
  exact h.run pins _ σ H xs _ Q I1 (by simpa using rv) hw
theorem PG.or {tg : Expr} {t t' : TG} (h : PG X tg t) (h' : PG X tg t') : PG X tg (fun v σ H Q => t v σ H Q ∨ t' v σ H Q) :=
  ⟨fun pins s σ H v u Q I r z => z.elim (h.run pins s σ H v u Q I r) (h'.run pins s σ H v u Q I r)⟩
end
end MP
end
-- MPSn12
section
set_option maxRecDepth 100000
set_option maxHeartbeats 1000000
/-! Targets. -/
namespace MP
open PySem (Addr Expr Stmt Str Pos Keyword)
open PySem.Spec
open L2
open PyProof.Rows hiding St
section
variable {W : Wd} {C : Cfg} {X : Cx}
/-- behind a store -/
structure PG' (W : Wd) (F : Addr → Prop) (L : List Addr) (H : Hp) (O Ov : List Addr) (τ : L2.St) (is : List Nat) (s' : Sta) (τ' : L2.St) (L' : List Addr) (H' : Hp) (O' : List Addr) : Prop where
  st : Stp L H (O ++ Ov) L' H' O' []
  g : Gd W L' F H' s' τ' O'
  same : ∀ i, i ∉ is → τ'[i]? = τ[i]?
  len : τ'.length = τ.length
def PostG (W : Wd) (F : Addr → Prop) (L : List Addr) (H : Hp) (O Ov : List Addr) (τ : L2.St) (is : List Nat) (s' : Sta) (τ' : L2.St) (H' : Hp) : Prop := ∃ L' O', PG' W F L H O Ov τ is s' τ' L' H' O'
/-- ahead of a store -/
structure Pre (W : Wd) (F : Addr → Prop) (L : List Addr) (H : Hp) (O Ov : List Addr) (τ : L2.St) (s : Sta) : Prop where
  g : Gd W L (FU F Ov) H s τ O
  nd : Ov.Nodup
  ap : ∀ a ∈ Ov, ¬ F a
def tG (W : Wd) (C : Cfg) (t : T) : TG := fun v τ H Q => ∃ p F L s O Ov, Pre W F L H O Ov τ s ∧ Rep W L (BB (FU F Ov) L O) H p.2 p.1 v Ov ∧ ∃ s', asT C t p s = .ok s' ∧ ∀ τ' H', PostG W F L H O Ov τ (tgs t) s' τ' H' → Q τ' H'
def tGs (W : Wd) (C : Cfg) (ts : Ts) : TGs := fun vs τ H Q => ∃ ps F L s O Ov, Pre W F L H O Ov τ s ∧ RepP W L (BB (FU F Ov) L O) H ps vs Ov ∧ ∃ s', asTs C ts ps s = .ok s' ∧ ∀ τ' H', PostG W F L H O Ov τ (tgss ts) s' τ' H' → Q τ' H'
theorem PG.imp {tg : Expr} {t t' : TG} (h : PG X tg t) (i : ∀ v τ H Q, t' v τ H Q → t v τ H Q) : PG X tg t' := ⟨fun p s σ H v u Q I r z => h.run p s σ H v u Q I r (i v σ H Q z)⟩
theorem PGs.imp {tg : List Expr} {t t' : TGs} (h : PGs X tg t) (i : ∀ v τ H Q, t' v τ H Q → t v τ H Q) : PGs X tg t' := ⟨fun p s σ H v u Q I r z => h.run p s σ H v u Q I r (i v σ H Q z)⟩
/-- a slot stored -/
theorem Gd.store {F L H O Ov τ s d k v i} (p : Pre W F L H O Ov τ s) (r : Rep W L (BB (FU F Ov) L O) H k d v Ov) (hi : i < s.σ.length) : PostG W F L H O Ov τ [i] (s.put i (d, k)) (τ.set i (some v)) H := by
  have g := p.g
  have dj : ∀ a ∈ Ov, a ∉ L ∧ a ∉ O := fun a m => g.ap a (.inr m)
  obtain ⟨O1, O2, hp, O', hs, hp2⟩ := RepS.store (B := BB (FU F Ov) L O) r g.sl hi
  have nO := List.nodup_append.mp (hp.nodup_iff.mp g.ndO)
  have m2 : ∀ a ∈ O2, a ∈ O := fun a m => hp.mem_iff.mpr (List.mem_append_right _ m)
  have mem : ∀ a, a ∈ O' → a ∈ Ov ∨ a ∈ O := fun a m => (List.mem_append.mp (hp2.mem_iff.mp m)).elim .inl fun z => .inr (m2 a z)
  have nd' : O'.Nodup := hp2.nodup_iff.mpr (List.nodup_append.mpr ⟨p.nd, nO.2.1, fun a ha b hb e => (dj a ha).2 (by subst e; exact m2 a hb)⟩)
  refine ⟨L, O', ⟨.sub fun a m => m.elim (fun m => (mem a m).elim (fun z => List.mem_append_right _ z) fun z => List.mem_append_left _ z) (by simp), ⟨?_, g.mu, ?_, fun a f => ⟨(g.ap a (.inl f)).1, fun m => ?_⟩, fun a f => g.ft a (.inl f)⟩, fun j hj => ?_, by simp⟩⟩
  · refine RepS.mono hs fun a _ b => ?_
    rcases b with b | b | b
    · exact .inl (.inl b)
    · exact .inr (.inl b)
    · exact (mem a b).elim (fun z => .inl (.inr z)) fun z => .inr (.inr z)
  · exact List.nodup_append.mpr ⟨g.ndL, nd', fun a ha b hb e => by
      subst e
      exact (mem a hb).elim (fun z => (dj a z).1 ha) fun z => g.LO a ha z⟩
  · exact (mem a m).elim (fun z => p.ap a z f) fun z => (g.ap a (.inl f)).2 z
  · rw [List.getElem?_set_ne (fun e => hj (by simp [e]))]
theorem tg_sl {x : Str} {i : Nat} {pos : Pos} (hp : PG X (.Name x pos) (gName i)) : PG X (.Name x pos) (tG W C (.sl i)) := by
  refine PG.imp hp fun v τ H Q ⟨⟨d, k⟩, F, L, s, O, Ov, p, r, s', hr, q⟩ => ?_
  simp only [asT] at hr
  split at hr
  · rename_i hi
    cases hr
    exact q _ _ (Gd.store p r hi)
  · cases hr
theorem PostG.trans {F L H O Ov Ov1 Ov2 τ is is2 s1 τ1 H1 L1 O1 s2 τ2 H2} (p : PG' W (FU F Ov2) L H O Ov1 τ is s1 τ1 L1 H1 O1) (q : PostG W F L1 H1 O1 Ov2 τ1 is2 s2 τ2 H2) (h1 : ∀ a ∈ Ov1, a ∈ Ov) (h2 : ∀ a ∈ Ov2, a ∈ Ov) (tr : ∀ a ∈ Ov2, H a ≠ none) : PostG W F L H O Ov τ (is ++ is2) s2 τ2 H2 := by
  obtain ⟨L2, O2, q⟩ := q
  refine ⟨L2, O2, ⟨⟨p.st.pre.trans q.st.pre, fun a m => (q.st.newL a m).elim (p.st.newL a) fun z => .inr (Classical.byContradiction fun w => p.st.st a w z), fun a m => ?_, ?_, fun a h => q.st.st a (p.st.st a h)⟩, q.g, fun i hi => ?_, q.len.trans p.len⟩⟩
  · have fin : ∀ a, a ∈ O ++ Ov1 ∨ H a = none → a ∈ O ++ Ov ∨ H a = none := fun a z => z.elim (fun z => (List.mem_append.mp z).elim (fun z => .inl (List.mem_append_left _ z)) fun z => .inl (List.mem_append_right _ (h1 a z))) .inr
    rcases q.st.newO a m with z | z
    · rcases List.mem_append.mp z with z | z
      · exact fin a (p.st.newO a (.inl z))
      · exact .inl (List.mem_append_right _ (h2 a z))
    · exact .inr (Classical.byContradiction fun w => p.st.st a w z)
  · refine p.st.kp.trans q.st.kp (fun x h => h.elim .inl fun z => .inr ((List.mem_append.mp z).elim (fun z => List.mem_append_left _ z) fun z => List.mem_append_right _ (h1 x z))) fun x h => ?_
    rcases h with m | m
    · exact (p.st.newL x m).elim (fun z => .inl (.inl z)) .inr
    · rcases List.mem_append.mp m with m | m
      · exact (p.st.newO x (.inl m)).elim (fun z => .inl (.inr ((List.mem_append.mp z).elim (fun z => List.mem_append_left _ z) fun z => List.mem_append_right _ (h1 x z)))) .inr
      · exact .inl (.inr (List.mem_append_right _ (h2 x m)))
  · simp only [List.mem_append, not_or] at hi
    rw [q.same i hi.2, p.same i hi.1]
theorem tgs_nil : PGs X [] (tGs W C .nil) := by
  refine PGs.imp pgs_nil fun vs τ H Q ⟨ps, F, L, s, O, Ov, p, r, s', hr, q⟩ => ?_
  cases ps with
  | nil =>
    simp only [asTs] at hr
    cases hr
    cases r
    refine ⟨rfl, q _ _ ⟨L, O, ⟨.sub fun a m => m.elim (fun m => List.mem_append_left _ m) (by simp), p.g.weak fun a f => .inl f, fun _ _ => rfl, rfl⟩⟩⟩
  | cons => simp only [asTs] at hr; cases hr
def plainT : Expr → Bool | .Starred _ _ => false | _ => true
theorem each_cons {e : Expr} (h : plainT e = true) (es : List Expr) (env : _) : PySem.assignEach (e :: es) env = (false, PySem.assign e env) :: PySem.assignEach es env := by
  cases e <;> first | rfl | cases h
theorem each_plain {es : List Expr} (h : es.all plainT = true) (env : _) : PySem.assignEach es env = es.map fun e => (false, PySem.assign e env) := by
  induction es with
  | nil => rfl
  | cons e es ih =>
    simp only [List.all_cons, Bool.and_eq_true] at h
    rw [each_cons h.1, ih h.2]; rfl
theorem tgs_cons {e : Expr} {es : List Expr} {t : T} {ts : Ts} (hpl : plainT e = true) (h1 : PG X e (tG W C t)) (h2 : PGs X es (tGs W C ts)) : PGs X (e :: es) (tGs W C (.cons t ts)) := by
  refine PGs.imp (pgs_cons h1 h2 (by rw [each_cons hpl]; rfl)) fun vs τ H Q ⟨ps, F, L, s, O, Ov, p, r, s', hr, q⟩ => ?_
  cases ps with
  | nil => simp only [asTs] at hr; cases hr
  | cons p1 ps =>
    simp only [asTs] at hr
    obtain ⟨s1, e1, hr2⟩ := bind_ok hr
    cases r with
    | @cons d k v ps vs O1 O2 r rs =>
      have nd := List.nodup_append.mp p.nd
      have tr2 : ∀ a ∈ O2, H a ≠ none := fun a m => p.g.ft a (.inr (List.mem_append_right _ m))
      have fu : ∀ a, FU (FU F O2) O1 a ↔ FU F (O1 ++ O2) a := fun a => by
        unfold FU
        rw [List.mem_append]
        constructor
        · rintro ((h | h) | h)
          · exact .inl h
          · exact .inr (.inr h)
          · exact .inr (.inl h)
        · rintro (h | h | h)
          · exact .inl (.inl h)
          · exact .inr h
          · exact .inl (.inr h)
      have pre1 : Pre W (FU F O2) L H O O1 τ s := ⟨p.g.weak fun a h => (fu a).mp h, nd.1, fun a m f => f.elim (p.ap a (List.mem_append_left _ m)) fun m2 => nd.2.2 a m a m2 rfl⟩
      refine ⟨v, vs, rfl, (d, k), FU F O2, L, s, O, O1, pre1, r.mono fun a _ b => b.elim (fun z => .inl ((fu a).mp z)) .inr, s1, e1, fun τ1 H1 ⟨L1, O1', g1⟩ => ?_⟩
      refine ⟨ps, F, L1, s1, O1', O2, ⟨g1.g, nd.2.1, fun a m => p.ap a (List.mem_append_right _ m)⟩, ?_, s', hr2, fun τ2 H2 g2 => q τ2 H2 (PostG.trans g1 g2 (fun a m => List.mem_append_left _ m) (fun a m => List.mem_append_right _ m) tr2)⟩
      -- the other values live on
      have : ∀ {ps vs P}, RepP W L (BB (FU F (O1 ++ O2)) L O) H ps vs P → (∀ a ∈ P, a ∈ O2) → RepP W L1 (BB (FU F O2) L1 O1') H1 ps vs P := by
        intro ps vs P h
        induction h with
        | nil => exact fun _ => .nil
        | @cons d k v ps vs A B r h ih =>
          intro hP
          refine .cons (r.keep g1.st.kp (fun a m => ?_) (fun a n b => ?_) (pre_get g1.st.pre) fun a m z => ?_) (ih fun a m => hP a (List.mem_append_right _ m))
          · rcases m with m | m
            · exact .inr (.inl m)
            · exact (List.mem_append.mp m).elim (fun z => .inr (.inr z)) fun z => .inl (.inr (List.mem_append_left _ z))
          · rcases b with (b | b) | b | b
            · exact .inl (.inl b)
            · exact .inl (.inr (List.mem_append_right _ b))
            · rcases g1.st.newL a b with z | z
              · exact .inr (.inl z)
              · exact absurd z n
            · rcases g1.st.newO a (.inl b) with z | z
              · exact (List.mem_append.mp z).elim (fun z => .inr (.inr z)) fun z => .inl (.inr (List.mem_append_left _ z))
              · exact absurd z n
          · have mo := hP a (List.mem_append_left _ m)
            rcases z with z | z
            · exact (p.g.ap a (.inr (List.mem_append_right _ mo))).1 z
            · rcases List.mem_append.mp z with z | z
              · exact (p.g.ap a (.inr (List.mem_append_right _ mo))).2 z
              · exact nd.2.2 a z a mo rfl
      exact this rs fun a m => m
theorem RepP.of_reps {L : List Addr} {B : Addr → Prop} {H : Hp} : ∀ {k ds vs O}, Reps W L B H k ds vs O → RepP W L B H (ds.map fun d => (d, k)) vs O
  | _, _, _, _, .nil k => .nil
  | _, _, _, _, .cons r h => .cons r (of_reps h)
theorem tg_tup {es : List Expr} {kk : _} {pos : Pos} {ts : Ts} (hK : W.K = X.K) (hc : X.calm = true) (hpl : es.all plainT = true) (h : PGs X es (tGs W C ts)) (hl : ∀ ps s s', asTs C ts ps s = .ok s' → ps.length = es.length) : PG X (.Tuple es kk pos) (tG W C (.tup ts)) := by
  have h1 : (PySem.assignEach es X.env).length = es.length := by rw [each_plain hpl, List.length_map]
  have h2 : (PySem.assignEach es X.env).findIdx? (·.1) = none := by rw [each_plain hpl, List.findIdx?_eq_none_iff]; simp
  refine PG.imp (PG.or (pg_tup (n := es.length) hc h h1 h2) (pg_lst (n := es.length) hc h h1 h2)) fun v τ H Q ⟨⟨d, k⟩, F, L, s, O, Ov, p, r, s', hr, q⟩ => ?_
  simp only [asT] at hr
  cases d <;> simp only [reduceCtorEq] at hr
  · rename_i ds
    obtain ⟨a, vs, rfl, ha, hs⟩ := Rep.tup_inv r
    refine .inl ⟨a, vs, rfl, .inl (.inl ha), ?_, _, F, L, s, O, Ov, p, RepP.of_reps hs, s', hr, q⟩
    have := hl _ _ _ hr
    rw [List.length_map] at this
    rw [← hs.length, this]
  · rename_i ds
    have hlen := hl _ _ _ hr
    rw [List.length_map] at hlen
    rcases Rep.lst_inv r with ⟨rfl, rfl, a, vs, rfl, ha, hs⟩ | ⟨k', a, vs, O', rfl, rfl, rfl, ha, hs⟩
    · exact .inr ⟨a, vs, rfl, .inl (.inl ha), by rw [← hs.length, hlen], _, F, L, s, O, [], p, RepP.of_reps hs, s', hr, q⟩
    · have sub : ∀ b, FU F O' b → FU F (a :: O') b := fun b z => z.elim .inl fun z => .inr (List.mem_cons_of_mem _ z)
      have p' : Pre W F L H O O' τ s := ⟨p.g.weak sub, (List.nodup_cons.mp p.nd).2, fun b m => p.ap b (List.mem_cons_of_mem _ m)⟩
      have hs' := hs.mono (B' := BB (FU F O') L O) fun b _ z => z.elim (fun z => .inl (sub b z)) .inr
      refine .inr ⟨a, vs, rfl, .inl (.inl ha), by rw [← hs.length, hlen], _, F, L, s, O, O', p', RepP.of_reps hs', s', hr, fun τ' H' ⟨L1, O1, g⟩ => q τ' H' ⟨L1, O1, { g with st := ?_ }⟩⟩
      exact ⟨g.st.pre, g.st.newL, fun x m => (g.st.newO x m).elim (fun z => .inl ((List.mem_append.mp z).elim (fun z => List.mem_append_left _ z) fun z => List.mem_append_right _ (List.mem_cons_of_mem _ z))) .inr, g.st.kp.mono fun x z => z.elim .inl fun z => .inr ((List.mem_append.mp z).elim (fun z => List.mem_append_left _ z) fun z => List.mem_append_right _ (List.mem_cons_of_mem _ z)), g.st.st⟩
end
end MP
end
-- MPSn13
section
set_option maxRecDepth 100000
set_option maxHeartbeats 1000000
/-! Lists that are changed where they stand. -/
namespace MP
open PySem (Addr Expr Stmt Str Pos Keyword)
open PySem.Spec
open L2
open PyProof.Rows hiding St
section
variable {W : Wd} {C : Cfg} {X : Cx}
theorem Reps.split {L : List Addr} {B : Addr → Prop} {H : Hp} : ∀ {k ds vs O} (n : Nat), Reps W L B H k ds vs O → ∃ O1 O2, O = O1 ++ O2 ∧ Reps W L B H k (ds.take n) (vs.take n) O1 ∧ Reps W L B H k (ds.drop n) (vs.drop n) O2
  | _, _, _, _, 0, h => ⟨[], _, rfl, .nil _, h⟩
  | _, _, _, _, n + 1, .nil k => ⟨[], [], rfl, .nil k, .nil k⟩
  | _, _, _, _, n + 1, .cons r h => by
    obtain ⟨O1, O2, e, a, b⟩ := Reps.split n h
    subst e
    exact ⟨_ ++ O1, O2, by rw [List.append_assoc], .cons r a, b⟩
theorem Reps.flats {L L' : List Addr} {B B' : Addr → Prop} {H H' : Hp} {k'} : ∀ {k ds vs O}, Reps W L B H k ds vs O → (∀ x ∈ ds, flatK x = true) → Reps W L' B' H' k' ds vs []
  | _, _, _, _, .nil k, _ => .nil k'
  | _, _, _, _, .cons r h, f => by
    have a := (r.flatK (L' := L') (B' := B') (H' := H') (k' := k') (f _ (List.mem_cons_self ..))).1
    exact .cons a (Reps.flats h fun x m => f x (List.mem_cons_of_mem _ m))
theorem RepM.keep {L : List Addr} {H H' : Hp} {M : Addr → Prop} {μ} (h : RepM W L H μ) (kp : Keep M H H') (n : ∀ a ∈ L, ¬ M a) : RepM W L H' μ :=
  ⟨h.len, fun j xs e => by
    obtain ⟨a, vs, h1, h2, h3, h4⟩ := h.at_ j xs e
    exact ⟨a, vs, h1, kp.any _ _ h2 (n a (List.mem_of_getElem? h1)), h3.flats h4, h4⟩⟩
theorem set_self {τ : L2.St} {i : Nat} {v : Option V} (h : τ[i]? = some v) : τ.set i v = τ := by
  obtain ⟨hi, e⟩ := List.getElem?_eq_some_iff.mp h
  subst e
  exact List.set_getElem_self hi
theorem Gd.rewrite {L F H s τ O i d k} (g : Gd W L F H s τ O) (h : s.σ[i]? = some (some (d, k))) :
    ∃ v P R, τ[i]? = some (some v) ∧ Rep W L (BB F L O) H k d v P ∧ O.Perm (P ++ R) ∧
      ∀ {F' : Addr → Prop} {H' d' k' P' M}, Keep M H H' → (∀ a, M a → a ∈ P) → (∀ a, H a ≠ none → H' a ≠ none) → (∀ a, F' a → F a ∨ (a ∈ P ∧ a ∉ P')) → P'.Nodup → (∀ a ∈ P', a ∈ P ∨ F a) → (∀ a ∈ P', ¬ F' a) →
        Rep W L (BB F' L (P' ++ R)) H' k' d' v P' → ∃ O', Gd W L F' H' { s with σ := s.σ.set i (some (d', k')) } τ O' ∧ ∀ a ∈ O', a ∈ P' ∨ a ∈ R := by
  obtain ⟨v, P, R, h1, h2, h3, h4, h5⟩ := g.slot h
  refine ⟨v, P, R, h1, h2, h3, ?_⟩
  intro F' H' d' k' P' M kp hM st hF nd hP dF r
  have dj := List.nodup_append.mp (h3.nodup_iff.mp g.ndO)
  have inP : ∀ a ∈ P, a ∈ O := fun a m => h3.mem_iff.mpr (List.mem_append_left _ m)
  have inR : ∀ a ∈ R, a ∈ O := fun a m => h3.mem_iff.mpr (List.mem_append_right _ m)
  have s1 : RepS W L (BB F' L (P' ++ R)) H' (s.σ.set i none) τ R := h5.keep kp (fun a m => .inr (.inr (inP a (hM a m)))) (fun a n b => by
    rcases b with b | b | b
    · exact (hF a b).elim .inl fun z => .inr (.inr (inP a z.1))
    · exact .inr (.inl b)
    · rcases List.mem_append.mp b with b | b
      · exact (hP a b).elim (fun z => .inr (.inr (inP a z))) .inl
      · exact .inr (.inr (inR a b))) (fun _ _ e => e) fun a m z => dj.2.2 a (hM a z) a m rfl
  have hi : i < s.σ.length := (List.getElem?_eq_some_iff.mp h).1
  obtain ⟨O1, O2, hp, O', hs, hp2⟩ := RepS.store r s1 (i := i) (by simpa using hi)
  rw [List.set_set, set_self h1] at hs
  have in2 : ∀ a ∈ O2, a ∈ R := fun a m => hp.mem_iff.mpr (List.mem_append_right _ m)
  have mem : ∀ a ∈ O', a ∈ P' ∨ a ∈ R := fun a m => (List.mem_append.mp (hp2.mem_iff.mp m)).elim .inl fun z => .inr (in2 a z)
  have noR : ∀ a ∈ P', a ∉ R := fun a m z => (hP a m).elim (fun q => dj.2.2 a q a z rfl) fun q => (g.ap a q).2 (inR a z)
  have ndO' : O'.Nodup := hp2.nodup_iff.mpr (List.nodup_append.mpr ⟨nd, (List.nodup_append.mp (hp.nodup_iff.mp dj.2.1)).2.1, fun a ha b hb e => noR a ha (by subst e; exact in2 a hb)⟩)
  refine ⟨O', ⟨hs.mono fun a _ b => ?_, g.mu.keep kp fun a m z => g.LO a m (inP a (hM a z)), ?_, fun a f => ?_, fun a f => ?_⟩, mem⟩
  · exact b.elim .inl fun b => b.elim (fun z => .inr (.inl z)) fun z => .inr (.inr (List.mem_append.mpr (mem a z)))
  · refine List.nodup_append.mpr ⟨g.ndL, ndO', fun a ha b hb e => ?_⟩
    subst e
    rcases mem a hb with z | z
    · exact (hP a z).elim (fun q => g.LO a ha (inP a q)) fun q => (g.ap a q).1 ha
    · exact g.LO a ha (inR a z)
  · rcases hF a f with z | ⟨z, z2⟩
    · exact ⟨(g.ap a z).1, fun m => (mem a m).elim (fun q => dF a q f) fun q => (g.ap a z).2 (inR a q)⟩
    · exact ⟨fun q => g.LO a q (inP a z), fun m => (mem a m).elim z2 fun q => dj.2.2 a z a q rfl⟩
  · rcases hF a f with z | ⟨z, _⟩
    · exact st a (g.ft a z)
    · exact st a (h2.there a z).1
/-- the store's list j is changed -/
theorem Gd.pot {L F H s τ O j xs ys a vs us} (g : Gd W L F H s τ O) (hx : s.μ[j]? = some xs) (hL : L[j]? = some a) (ha : H a = some (.lst vs)) (r : Reps W [] no H 0 ys us []) (f : ∀ y ∈ ys, flatK y = true) :
    Gd W L F (upd H a (.lst us)) { s with μ := s.μ.set j ys } τ O where
  sl := g.sl.keep (Keep.set (M := fun b => b = a) rfl ha (by simp) (by simp)) (fun b e => by subst e; exact .inr (.inl (List.mem_of_getElem? hL))) (fun _ _ b => b) (fun _ _ e => e) fun b m e => by subst e; exact g.LO b (List.mem_of_getElem? hL) m
  mu := ⟨by rw [List.length_set]; exact g.mu.len, fun i zs e => by
    by_cases hij : i = j
    · subst hij
      have : i < s.μ.length := (List.getElem?_eq_some_iff.mp hx).1
      rw [List.getElem?_set_self this] at e
      cases e
      exact ⟨a, us, hL, upd_same, r.flats f, f⟩
    · rw [List.getElem?_set_ne (Ne.symm hij)] at e
      obtain ⟨b, ws, h1, h2, h3, h4⟩ := g.mu.at_ i zs e
      have hb : b ≠ a := by
        intro z; subst z
        have hi := (List.getElem?_eq_some_iff.mp h1).1
        exact hij ((List.getElem?_inj hi g.ndL).mp (h1.trans hL.symm))
      exact ⟨b, ws, h1, by rw [upd_ne hb]; exact h2, h3.flats h4, h4⟩⟩
  nd := g.nd
  ap := g.ap
  ft := fun b z => there_upd (g.ft b z)
/-- what comes into a list whose children have depth k -/
theorem fit1 {L : List Addr} {F : Addr → Prop} {H : Hp} {O Ov : List Addr} {k : Nat} {p : D × Nat} {v : V} (r : Rep W L (BB (FU F Ov) L O) H p.2 p.1 v Ov) (h : fits k p = true) (nd : Ov.Nodup) (ap : ∀ a ∈ Ov, ¬ F a) (dj : ∀ a ∈ Ov, a ∉ L ∧ a ∉ O) :
    ∃ Od, (∀ a ∈ Od, a ∈ Ov) ∧ Od.Nodup ∧ ∀ {B' : Addr → Prop}, (∀ a, B' a → BB F L O a ∨ a ∈ Od) → Rep W L B' H k p.1 v Od := by
  unfold fits at h
  simp only [Bool.or_eq_true, beq_iff_eq] at h
  rcases h with (h | h) | h
  · subst h
    refine ⟨[], by simp, .nil, fun hb => r.frz (fun a b => (hb a b).elim (fun z => z.elim (fun z => .inl (.inl z)) .inr) (by simp)) fun a m b => ?_⟩
    rcases hb a b with (z | z | z) | z
    · exact ap a m z
    · exact (dj a m).1 z
    · exact (dj a m).2 z
    · cases z
  · subst h
    exact ⟨Ov, fun _ m => m, nd, fun hb => r.mono fun a _ b => (hb a b).elim (fun z => z.elim (fun z => .inl (.inl z)) .inr) fun z => .inl (.inr z)⟩
  · exact ⟨[], by simp, .nil, fun _ => (r.flatK h).1⟩
/-- a list in a slot, with its children changed -/
theorem Gd.chg {L F H s τ O i xs k} (g : Gd W L F H s τ O) (h : s.σ[i]? = some (some (.lst xs, k + 1))) :
    ∃ a vs P, τ[i]? = some (some (.ref a)) ∧ H a = some (.lst vs) ∧ Reps W L (BB F L O) H k xs vs P ∧ P.Nodup ∧ (∀ b ∈ P, b ∈ O ∧ b ≠ a) ∧
      ∀ {F' : Addr → Prop} {ys us P'}, (∀ b, F' b → F b ∨ (b ∈ P ∧ b ∉ P')) → P'.Nodup → (∀ b ∈ P', b ∈ P ∨ F b) → (∀ b ∈ P', ¬ F' b) →
        (∀ {B' : Addr → Prop}, (∀ b, B' b → F' b ∨ b ∈ L ∨ b ∈ O ∨ b ∈ P') → Reps W L B' (upd H a (.lst us)) k ys us P') →
        ∃ O', Gd W L F' (upd H a (.lst us)) (s.put i (.lst ys, k + 1)) τ O' ∧ (∀ b ∈ O', b ∈ O ∨ b ∈ P') ∧ Keep (fun b => b ∈ O) H (upd H a (.lst us)) := by
  obtain ⟨v, P, R, h1, h2, h3, h4⟩ := g.rewrite h
  rcases h2.lst_inv with ⟨q, _⟩ | ⟨k', a, vs, P1, e1, rfl, rfl, x, hs⟩
  · cases q
  · cases e1
    have nd := (List.nodup_append.mp (h3.nodup_iff.mp g.ndO))
    have na := List.nodup_cons.mp nd.1
    have aO : a ∈ O := h3.mem_iff.mpr (List.mem_append_left _ (List.mem_cons_self ..))
    refine ⟨a, vs, P1, h1, x, hs, na.2, fun b m => ⟨h3.mem_iff.mpr (List.mem_append_left _ (List.mem_cons_of_mem _ m)), fun e => na.1 (by subst e; exact m)⟩, ?_⟩
    intro F' ys us P' hF nd' hP dF hr
    have aP' : a ∉ P' := fun m => (hP a m).elim na.1 fun z => (g.ap a z).2 aO
    have aF' : ¬ F' a := fun z => (hF a z).elim (fun z => (g.ap a z).2 aO) fun z => na.1 z.1
    have kp : Keep (fun b => b = a) H (upd H a (.lst us)) := Keep.set rfl x (by simp) (by simp)
    obtain ⟨O', g', hm⟩ := h4 (F' := F') (d' := .lst ys) (k' := k + 1) (P' := a :: P') kp (fun b e => by subst e; exact List.mem_cons_self ..) (fun b z => there_upd z)
      (fun b z => (hF b z).elim .inl fun q => .inr ⟨List.mem_cons_of_mem _ q.1, fun m => (List.mem_cons.mp m).elim (fun e => na.1 (by subst e; exact q.1)) q.2⟩)
      (List.nodup_cons.mpr ⟨aP', nd'⟩) (fun b m => (List.mem_cons.mp m).elim (fun e => .inl (by subst e; exact List.mem_cons_self ..)) fun m => (hP b m).elim (fun z => .inl (List.mem_cons_of_mem _ z)) .inr)
      (fun b m => (List.mem_cons.mp m).elim (fun e => by subst e; exact aF') (dF b))
      (.lstS upd_same (hr fun b z => by
        rcases z with z | z | z
        · exact .inl z
        · exact .inr (.inl z)
        · rcases List.mem_append.mp z with z | z
          · exact (List.mem_cons.mp z).elim (fun e => by subst e; exact .inr (.inr (.inl aO))) fun z => .inr (.inr (.inr z))
          · exact .inr (.inr (.inl (h3.mem_iff.mpr (List.mem_append_right _ z))))))
    refine ⟨O', g', fun b m => ?_, kp.mono fun b e => by subst e; exact aO⟩
    rcases hm b m with z | z
    · exact (List.mem_cons.mp z).elim (fun e => .inl (by subst e; exact aO)) .inr
    · exact .inl (h3.mem_iff.mpr (List.mem_append_right _ z))
end
end MP
end
-- MPSn14
section
set_option maxRecDepth 100000
set_option maxHeartbeats 1000000
/-! x[i] = .., x.append(..) and such. -/
namespace MP
open PySem (Addr Expr Stmt Str Pos Keyword)
open PySem.Spec
open L2
open PyProof.Rows hiding St
section
variable {W : Wd} {C : Cfg} {X : Cx}
theorem assign_sub {x b : Expr} {pos : Pos} (hp : ∀ lo hi st p, b ≠ .Slice lo hi st p) (env : PySem.Env) (v : PySem.Value) : PySem.assign (.Subscript x b pos) env v = (do
      let ov ← PySem.holding [v] (PySem.eval x env)
      let iv ← PySem.holding [v, ov] (PySem.eval b env)
      PySem.standAt pos
      PySem.holding [v, ov, iv] (PySem.setItem ov iv v)
      PySem.release [v, ov, iv] []) := by
  cases b <;> first | rfl | exact absurd rfl (hp _ _ _ _)
/-- the children from n to m of a list in a slot give way to others -/
theorem Gd.cut {L F H s τ O i xs k} (g : Gd W L F H s τ O) (h : s.σ[i]? = some (some (.lst xs, k + 1))) (n m : Nat) (hn : n ≤ m) :
    ∃ a vs P2, τ[i]? = some (some (.ref a)) ∧ H a = some (.lst vs) ∧ xs.length = vs.length ∧ P2.Nodup ∧ (∀ b ∈ P2, b ∈ O) ∧ Reps W L (BB F L O) H k ((xs.drop n).take (m - n)) ((vs.drop n).take (m - n)) P2 ∧
      ∀ {F' : Addr → Prop} {mid us Od}, (∀ b, F' b → F b ∨ b ∈ P2) → Od.Nodup → (∀ b ∈ Od, F b) → (∀ b ∈ Od, ¬ F' b) → (∀ {B' : Addr → Prop}, (∀ b, B' b → F' b ∨ b ∈ L ∨ b ∈ O ∨ b ∈ Od) → Reps W L B' H k mid us Od) →
        ∃ O', Gd W L F' (upd H a (.lst (vs.take n ++ (us ++ vs.drop m)))) (s.put i (.lst (xs.take n ++ (mid ++ xs.drop m)), k + 1)) τ O' ∧ (∀ b ∈ O', b ∈ O ∨ b ∈ Od) ∧
          Keep (fun b => b ∈ O) H (upd H a (.lst (vs.take n ++ (us ++ vs.drop m)))) ∧
          (∀ {B' : Addr → Prop}, (∀ b, B' b → F' b ∨ b ∈ L ∨ b ∈ O') → Reps W L B' (upd H a (.lst (vs.take n ++ (us ++ vs.drop m)))) k ((xs.drop n).take (m - n)) ((vs.drop n).take (m - n)) P2) := by
  obtain ⟨a, vs, P, h1, h2, h3, ndP, hP, h4⟩ := g.chg h
  obtain ⟨P1, Q1, rfl, r1, q1⟩ := h3.split n
  obtain ⟨P2, P3, rfl, r2, r3⟩ := q1.split (m - n)
  rw [List.drop_drop, List.drop_drop, show n + (m - n) = m by omega] at r3
  have nd1 := List.nodup_append.mp ndP
  have nd2 := List.nodup_append.mp nd1.2.1
  have in1 : ∀ b ∈ P1, b ∈ P1 ++ (P2 ++ P3) := fun b z => List.mem_append_left _ z
  have in2 : ∀ b ∈ P2, b ∈ P1 ++ (P2 ++ P3) := fun b z => List.mem_append_right _ (List.mem_append_left _ z)
  have in3 : ∀ b ∈ P3, b ∈ P1 ++ (P2 ++ P3) := fun b z => List.mem_append_right _ (List.mem_append_right _ z)
  have aO : a ∈ O := by
    obtain ⟨v', P', R', e1, e2, e3, _⟩ := g.slot h
    rw [h1] at e1
    cases e1
    rcases e2.lst_inv with ⟨q, _⟩ | ⟨_, a', _, _, _, rfl, e4, _⟩
    · cases q
    · cases e4
      exact e3.mem_iff.mpr (List.mem_append_left _ (List.mem_cons_self ..))
  refine ⟨a, vs, P2, h1, h2, h3.length, nd2.1, fun b z => (hP b (in2 b z)).1, r2, ?_⟩
  intro F' mid us Od hF ndO hOF hOF' hmid
  have notP : ∀ b ∈ Od, ∀ c ∈ P1 ++ (P2 ++ P3), b ≠ c := fun b z c q e => (g.ap b (hOF b z)).2 (by subst e; exact (hP b q).1)
  obtain ⟨O', g', hO', kp⟩ := h4 (F' := F') (ys := xs.take n ++ (mid ++ xs.drop m)) (us := vs.take n ++ (us ++ vs.drop m)) (P' := P1 ++ (Od ++ P3))
    (fun b z => (hF b z).elim .inl fun q => .inr ⟨in2 b q, fun w => by
      rcases List.mem_append.mp w with w | w
      · exact nd1.2.2 b w b (List.mem_append_left _ q) rfl
      · rcases List.mem_append.mp w with w | w
        · exact notP b w b (in2 b q) rfl
        · exact nd2.2.2 b q b w rfl⟩)
    (List.nodup_append.mpr ⟨nd1.1, List.nodup_append.mpr ⟨ndO, nd2.2.1, fun b hb c hc => notP b hb c (in3 c hc)⟩, fun b hb c hc => by
      rcases List.mem_append.mp hc with q | q
      · exact fun e => notP c q b (in1 b hb) e.symm
      · exact nd1.2.2 b hb c (List.mem_append_right _ q)⟩)
    (fun b w => by
      rcases List.mem_append.mp w with w | w
      · exact .inl (in1 b w)
      · rcases List.mem_append.mp w with w | w
        · exact .inr (hOF b w)
        · exact .inl (in3 b w))
    (fun b w f => by
      rcases List.mem_append.mp w with w | w
      · exact (hF b f).elim (fun q => (g.ap b q).2 (hP b (in1 b w)).1) fun q => nd1.2.2 b w b (List.mem_append_left _ q) rfl
      · rcases List.mem_append.mp w with w | w
        · exact hOF' b w f
        · exact (hF b f).elim (fun q => (g.ap b q).2 (hP b (in3 b w)).1) fun q => nd2.2.2 b q b w rfl)
    (fun {B'} hb => by
      have kp : Keep (fun b => b = a) H (upd H a (.lst (vs.take n ++ (us ++ vs.drop m)))) := Keep.set rfl h2 (by simp) (by simp)
      have toB : ∀ b, B' b → BB F L O b := fun b z => by
        rcases hb b z with z | z | z | z
        · exact (hF b z).elim .inl fun q => .inr (.inr (hP b (in2 b q)).1)
        · exact .inr (.inl z)
        · exact .inr (.inr z)
        · rcases List.mem_append.mp z with z | z
          · exact .inr (.inr (hP b (in1 b z)).1)
          · rcases List.mem_append.mp z with z | z
            · exact .inl (hOF b z)
            · exact .inr (.inr (hP b (in3 b z)).1)
      refine (r1.keep kp (fun b e => by subst e; exact .inr (.inr aO)) (fun b _ => toB b) (fun _ _ e => e) fun b z => (hP b (in1 b z)).2).append
        (.append ?_ (r3.keep kp (fun b e => by subst e; exact .inr (.inr aO)) (fun b _ => toB b) (fun _ _ e => e) fun b z => (hP b (in3 b z)).2))
      refine (hmid (B' := fun b => F' b ∨ b ∈ L ∨ b ∈ O ∨ b ∈ Od) (fun _ z => z)).keep kp (fun b e => by subst e; exact .inr (.inr (.inl aO))) (fun b _ z => ?_) (fun _ _ e => e) fun b z e => (g.ap b (hOF b z)).2 (by subst e; exact aO)
      rcases hb b z with z | z | z | z
      · exact .inl z
      · exact .inr (.inl z)
      · exact .inr (.inr (.inl z))
      · rcases List.mem_append.mp z with z | z
        · exact .inr (.inr (.inl (hP b (in1 b z)).1))
        · rcases List.mem_append.mp z with z | z
          · exact .inr (.inr (.inr z))
          · exact .inr (.inr (.inl (hP b (in3 b z)).1)))
  refine ⟨O', g', ?_, kp, fun {B'} hb => ?_⟩
  · intro b z
    rcases hO' b z with z | z
    · exact .inl z
    · rcases List.mem_append.mp z with z | z
      · exact .inl (hP b (in1 b z)).1
      · rcases List.mem_append.mp z with z | z
        · exact .inr z
        · exact .inl (hP b (in3 b z)).1
  · have kp : Keep (fun b => b = a) H (upd H a (.lst (vs.take n ++ (us ++ vs.drop m)))) := Keep.set rfl h2 (by simp) (by simp)
    refine r2.keep kp (fun b e => by subst e; exact .inr (.inr aO)) (fun b _ z => ?_) (fun _ _ e => e) fun b z => (hP b (in2 b z)).2
    rcases hb b z with z | z | z
    · exact (hF b z).elim .inl fun q => .inr (.inr (hP b (in2 b q)).1)
    · exact .inr (.inl z)
    · rcases hO' b z with z | z
      · exact .inr (.inr z)
      · rcases List.mem_append.mp z with z | z
        · exact .inr (.inr (hP b (in1 b z)).1)
        · rcases List.mem_append.mp z with z | z
          · exact .inl (hOF b z)
          · exact .inr (.inr (hP b (in3 b z)).1)
end
end MP
end
-- MPSn15
section
set_option maxRecDepth 100000
set_option maxHeartbeats 1000000
/-! x[i] = .., x.append(..) and such. -/
namespace MP
open PySem (Addr Expr Stmt Str Pos Keyword)
open PySem.Spec
open L2
open PyProof.Rows hiding St
section
variable {W : Wd} {C : Cfg} {X : Cx}
theorem set_eq {α : Type} {xs : List α} {m : Nat} (d : α) (h : m < xs.length) : xs.set m d = xs.take m ++ ([d] ++ xs.drop (m + 1)) := by
  rw [List.set_eq_take_append_cons_drop, if_pos h]; rfl
theorem ixN_lt {n : Nat} {i : Int} {m : Nat} (h : MP.ixN n i = some m) : m < n := by
  unfold MP.ixN at h
  split at h
  · split at h
    · cases h; omega
    · cases h
  · split at h
    · cases h; omega
    · cases h
theorem Stp.put {L H O L2 H2 O2 O3 Ov H3} (a : Stp L H O L2 H2 O2 []) (kp : Keep (fun b => b ∈ O2 ∨ b ∈ L2) H2 H3) (st : ∀ a, H2 a ≠ none → H3 a ≠ none) (h : ∀ b ∈ O3, b ∈ O2 ∨ b ∈ Ov) : Stp L H (O ++ Ov) L2 H3 O3 [] where
  pre := a.pre
  newL := a.newL
  newO := fun b m => by
    rcases m with m | m
    · rcases h b m with z | z
      · exact (a.newO b (.inl z)).elim (fun z => .inl (List.mem_append_left _ z)) .inr
      · exact .inl (List.mem_append_right _ z)
    · cases m
  kp := a.kp.trans kp (fun b z => z.elim .inl fun z => .inr (List.mem_append_left _ z)) fun b z => by
    rcases z with z | z
    · exact (a.newO b (.inl z)).elim (fun z => .inl (.inr (List.mem_append_left _ z))) .inr
    · exact (a.newL b z).elim (fun z => .inl (.inl z)) .inr
  st := fun b z => st b (a.st b z)
theorem tg_pix {x : Expr} {b : Expr} {i : Nat} {n : E} {pos : Pos} (hx : PE X x (tVar i)) (hb : PE X b (tE W C n)) (hp : ∀ lo hi st p, b ≠ .Slice lo hi st p) : PG X (.Subscript x b pos) (tG W C (.pix i (.cons n .nil))) := by
  refine PG.imp (pg_sub hx hb set_list (assign_sub hp _)) fun v τ H Q ⟨⟨d, k⟩, F, L, s, O, Ov, p, r, s', hr, q⟩ => ?_
  simp only [asT] at hr
  obtain ⟨⟨d0, k0⟩, h0, hr⟩ := bind_ok hr
  obtain ⟨⟨ps, s1⟩, h1, hr⟩ := bind_ok hr
  simp only [evs] at h1
  obtain ⟨⟨⟨d2, k2⟩, s2⟩, h2, h1⟩ := bind_ok h1
  cases h1
  obtain ⟨js, hj, hr⟩ := bind_ok hr
  obtain ⟨j, rfl, rfl⟩ := toInts1 (ofO_ok hj)
  obtain ⟨⟨e, ke⟩, hd, hr⟩ := bind_ok hr
  have hd := get_ok hd
  obtain ⟨v0, P, R, e1, _⟩ := p.g.slot (get_ok h0)
  refine ⟨v0, e1, FU F Ov, L, s, O, p.g, _, h2, fun u H2 ⟨L2, O2, Ov2, p2⟩ => ?_⟩
  have eu := vw_int p2.r
  subst eu
  have pn := p2.drop
  have r2 := (r.step p.g pn.st fun a m => .inr m).mono (B' := BB (FU F Ov) L2 O2) fun a _ b => b.elim (fun z => .inl (.inl z)) .inr
  have dj : ∀ a ∈ Ov, a ∉ L2 ∧ a ∉ O2 := fun a m => pn.g.ap a (.inr m)
  cases e with
  | loc l =>
    simp only at hr
    obtain ⟨xs, hx1, hr⟩ := bind_ok hr
    have hx1 := ofO_ok hx1
    split at hr
    · rename_i m hm
      split at hr
      · rename_i hf
        cases hr
        obtain ⟨v', P', R', e2, r3, _⟩ := pn.g.slot hd
        rw [e1] at e2
        cases e2
        cases r3 with
        | loc k hL =>
          obtain ⟨a, vs, m1, m2, m3, m4⟩ := pn.g.mu.at_ l xs hx1
          rw [hL] at m1
          cases m1
          refine ⟨_, vs, j, m, rfl, rfl, m2, by rw [ixN_eq, ← m3.length]; exact hm, q _ _ ⟨L2, O2, ?_⟩⟩
          have mx := ixN_lt hm
          have rr : Reps W [] no H2 0 (xs.set m d) (vs.set m v) [] := by
            obtain ⟨A, B, z, za, zb⟩ := m3.split m
            obtain ⟨A2, B2, z2, za2, zb2⟩ := m3.split (m + 1)
            have zn := List.append_eq_nil_iff.mp z.symm
            have zn2 := List.append_eq_nil_iff.mp z2.symm
            rw [set_eq d mx, set_eq v (by rw [← m3.length]; exact mx)]
            have := za.append (Reps.append (.cons (r2.flatK (L' := []) (B' := no) (H' := H2) (k' := 0) hf).1 (.nil 0)) zb2)
            rw [zn.1, zn2.2] at this
            exact this
          have gg := (pn.g.weak (F' := F) fun a z => .inl z).pot hx1 hL m2 rr fun y hy => by
            rcases List.mem_or_eq_of_mem_set hy with z | z
            · exact m4 y z
            · subst z; exact hf
          exact ⟨pn.st.put (Keep.set (.inr (List.mem_of_getElem? hL)) m2 (by simp) (by simp)) (fun b z => there_upd z) fun b z => .inl z, gg, fun _ _ => rfl, rfl⟩
      · cases hr
    · cases hr
  | lst xs =>
    simp only at hr
    split at hr
    · rename_i m hm
      split at hr
      · rename_i hf
        cases hr
        have hk : ∃ k', ke = k' + 1 := ⟨ke - 1, by have := hf.1; omega⟩
        obtain ⟨k', rfl⟩ := hk
        have mx := ixN_lt hm
        obtain ⟨a, vs, P2, c1, c2, c3, c4, c5, c6, c7⟩ := pn.g.cut hd m (m + 1) (by omega)
        rw [e1] at c1
        cases c1
        obtain ⟨Od, d1, d2, d3⟩ := fit1 r2 hf.2 p.nd p.ap dj
        obtain ⟨O', g', o1, kp, _⟩ := c7 (F' := F) (mid := [d]) (us := [v]) (Od := Od) (fun b z => .inl (.inl z)) d2 (fun b z => .inr (d1 b z)) (fun b z => p.ap b (d1 b z)) (fun {B'} hb => by
          have := d3 (B' := B') fun b z => by
            rcases hb b z with z | z | z | z
            · exact .inl (.inl z)
            · exact .inl (.inr (.inl z))
            · exact .inl (.inr (.inr z))
            · exact .inr z
          simpa using Reps.cons this (.nil k'))
        refine ⟨a, vs, j, m, rfl, rfl, c2, by rw [ixN_eq, ← c3]; exact hm, q _ _ ⟨L2, O', ?_⟩⟩
        rw [← set_eq d mx, ← set_eq v (by rw [← c3]; exact mx)] at g'
        rw [← set_eq v (by rw [← c3]; exact mx)] at kp
        exact ⟨pn.st.put (kp.mono fun b z => .inl z) (fun b z => there_upd z) fun b z => (o1 b z).elim .inl fun z => .inr (d1 b z), g', fun _ _ => rfl, rfl⟩
      · cases hr
    · cases hr
  | _ => simp at hr
/-! ### methods of a list in a slot -/
def mName : Mt → Str | .app => "append" | .ext => "extend" | .ins => "insert" | .pop0 => "pop" | .pop => "pop"
def mId : Mt → String | .app => "list.append" | .ext => "list.extend" | .ins => "list.insert" | .pop0 => "list.pop" | .pop => "list.pop"
/-- what a method does to the values -/
def mtV (m : Mt) (H : Hp) (xs : List V) : List V → List V → V → Prop := fun args ys r => match m with
  | .app => ∃ y, args = [y] ∧ xs.length < PySem.sizeLine ∧ ys = xs ++ [y] ∧ r = .non
  | .ext => ∃ b zs, args = [.ref b] ∧ H b = some (.lst zs) ∧ xs.length + zs.length ≤ PySem.sizeLine ∧ ys = xs ++ zs ∧ r = .non
  | .ins => ∃ i y, args = [.int i, y] ∧ xs.length < PySem.sizeLine ∧ 0 ≤ i ∧ i < 2 ^ 63 ∧ ys = xs.take i.toNat ++ [y] ++ xs.drop i.toNat ∧ r = .non
  | .pop0 => args = [] ∧ xs[xs.length - 1]? = some r ∧ ys = xs.dropLast
  | .pop => ∃ i k, args = [.int i] ∧ -(2 ^ 63) ≤ i ∧ i < 2 ^ 63 ∧ MP.ixN xs.length i = some k ∧ xs[k]? = some r ∧ ys = xs.eraseIdx k
def rMt (m : Mt) : V → List V → Hp → VK → Prop := fun x args H Q => ∃ l xs ys r, x = .ref l ∧ H l = some (.lst xs) ∧ mtV m H xs args ys r ∧ Q r (upd H l (.lst ys))
theorem mt_any (m : Mt) : MtR X (mId m) (rMt m) := by
  intro pins s σ H x xs v us Q I rx rv ⟨l, zs, ys, r, e1, e2, e3, q⟩
  cases m with
  | app =>
    obtain ⟨y, rfl, h2, rfl, rfl⟩ := e3
    exact mt_append pins s σ H x _ v us Q I rx rv ⟨l, zs, y, e1, rfl, e2, h2, q⟩
  | ext =>
    obtain ⟨b, ws, rfl, h1, h2, rfl, rfl⟩ := e3
    exact mt_extend pins s σ H x _ v us Q I rx rv ⟨l, b, zs, ws, e1, rfl, e2, h1, h2, q⟩
  | ins =>
    obtain ⟨i, y, rfl, h1, h2, h3, rfl, rfl⟩ := e3
    exact mt_insert pins s σ H x _ v us Q I rx rv ⟨l, zs, i, y, e1, rfl, e2, h1, h2, h3, q⟩
  | pop0 =>
    obtain ⟨rfl, h1, rfl⟩ := e3
    exact mt_pop pins s σ H x _ v us Q I rx rv ⟨l, zs, r, e1, rfl, e2, h1, q⟩
  | pop =>
    obtain ⟨i, k, rfl, h1, h2, h3, h4, rfl⟩ := e3
    exact mt_popAt pins s σ H x _ v us Q I rx rv ⟨l, zs, i, k, r, e1, rfl, e2, h1, h2, (ixN_seq (by rw [ixN_eq]; exact h3)).1, h4, q⟩
theorem slot_any (m : Mt) : PySem.Slot "list" (mName m) (mId m) := by
  cases m
  · exact PySem.F.slot_list_append
  · exact PySem.F.slot_list_extend
  · exact PySem.F.slot_list_insert
  · exact PySem.F.slot_list_pop
  · exact PySem.F.slot_list_pop
theorem type_any (m : Mt) : PySem.typeOf (.builtin (mId m)) = pure (.type "method_descriptor") := by
  cases m
  · exact PySem.F.type_list_append
  · exact PySem.F.type_list_extend
  · exact PySem.F.type_list_insert
  · exact PySem.F.type_list_pop
  · exact PySem.F.type_list_pop
theorem Stp.behind {L H O L1 H1 O1 Ov H3 O' P} (st : Stp L H O L1 H1 O1 Ov) (kp : Keep (fun b => b ∈ O1) H1 H3) (there : ∀ a, H1 a ≠ none → H3 a ≠ none) (h : ∀ b, b ∈ O' ∨ b ∈ P → b ∈ O1 ∨ b ∈ Ov) : Stp L H O L1 H3 O' P where
  pre := st.pre
  newL := st.newL
  newO := fun b m => st.newO b (h b m)
  kp := st.kp.trans kp (fun _ z => z) fun b z => (st.newO b (.inl z)).elim (fun z => .inl (.inr z)) .inr
  st := fun b z => there b (st.st b z)
theorem mt_fin {F L H O τ L1 H1 O1 Ov s1 i xs k} (st : Stp L H O L1 H1 O1 Ov) (g : Gd W L1 (FU F Ov) H1 s1 τ O1) (h : s1.σ[i]? = some (some (.lst xs, k + 1))) (ap : ∀ b ∈ Ov, ¬ F b) :
    ∃ a vs, τ[i]? = some (some (.ref a)) ∧ H1 a = some (.lst vs) ∧ xs.length = vs.length ∧ ∀ n m, n ≤ m →
      (∀ {mid us Od}, (∀ b ∈ Od, b ∈ Ov) → Od.Nodup → (∀ {B' : Addr → Prop}, (∀ b, B' b → BB F L1 O1 b ∨ b ∈ Od) → Reps W L1 B' H1 k mid us Od) →
        PostE W F L H O τ ((.non, k), s1.put i (.lst (xs.take n ++ (mid ++ xs.drop m)), k + 1)) .non (upd H1 a (.lst (vs.take n ++ (us ++ vs.drop m))))) ∧
      (∀ {r}, (xs.drop n).take (m - n) = [r] → ∃ w, (vs.drop n).take (m - n) = [w] ∧
        PostE W F L H O τ ((r, k), s1.put i (.lst (xs.take n ++ xs.drop m), k + 1)) w (upd H1 a (.lst (vs.take n ++ vs.drop m)))) := by
  obtain ⟨a, vs, _, c1, c2, c3, _⟩ := g.cut h 0 0 (Nat.le_refl _)
  refine ⟨a, vs, c1, c2, c3, fun n m hn => ?_⟩
  obtain ⟨a', vs', P2, c1', c2', _, c4, c5, c6, c7⟩ := g.cut h n m hn
  rw [c1] at c1'
  cases c1'
  rw [c2] at c2'
  cases c2'
  constructor
  · intro mid us Od hO nd hr
    obtain ⟨O', g', o1, kp, _⟩ := c7 (F' := F) (mid := mid) (us := us) (Od := Od) (fun b z => .inl (.inl z)) nd (fun b z => .inr (hO b z)) (fun b z => ap b (hO b z)) (fun {B'} hb => hr fun b z => by
      rcases hb b z with z | z | z | z
      · exact .inl (.inl z)
      · exact .inl (.inr (.inl z))
      · exact .inl (.inr (.inr z))
      · exact .inr z)
    exact ⟨L1, O', [], PE'.flat (st.behind kp (fun b z => there_upd z) fun b z => z.elim (fun z => (o1 b z).elim .inl fun z => .inr (hO b z)) (by simp)) g' (.non k)⟩
  · intro r hr
    obtain ⟨O', g', o1, kp, rest⟩ := c7 (F' := FU F P2) (mid := []) (us := []) (Od := []) (fun b z => z.elim (fun z => .inl (.inl z)) .inr) .nil (by simp) (by simp) (fun {B'} hb => .nil k)
    have rr := rest (B' := BB (FU F P2) L1 O') fun b z => z
    rw [hr] at rr
    obtain ⟨w, ws, A, B, e1, e2, ra, rb⟩ := rr.cons_inv
    have en := rb.nil_inv
    subst en
    cases rb
    rw [List.append_nil] at e2
    subst e2
    refine ⟨w, e1, L1, O', P2, ⟨st.behind kp (fun b z => there_upd z) fun b z => z.elim (fun z => (o1 b z).elim .inl (by simp)) fun z => .inl (c5 b z), g', ra, c4, fun b z f => (g.ap b (.inl f)).2 (c5 b z)⟩⟩
theorem toInts_fits {ps : List (D × Nat)} {vs : List V} {L B H O} (r : RepP W L B H ps vs O) : ps.map Prod.fst = [] → ps = [] ∧ vs = [] := fun h => by
  cases r with
  | nil => exact ⟨rfl, rfl⟩
  | cons => cases h
theorem take1 {α : Type} {xs : List α} {n : Nat} {w : α} (h : (xs.drop n).take 1 = [w]) : xs[n]? = some w := by
  have : ((xs.drop n).take 1)[0]? = some w := by rw [h]; rfl
  rw [List.getElem?_take, List.getElem?_drop] at this
  simpa using this
/-- x.append(..), x.extend(..), x.insert(..), x.pop(..) -/
theorem snd_mtp {x : Expr} {m : Mt} {i : Nat} {es : List Expr} {ms : Es} {apos pos : Pos} (hx : PE X x (tVar i)) (ha : PA X es (tP W C ms)) (hbase : PySem.attributeBase x (mName m) X.env (PySem.eval x X.env) = PySem.eval x X.env) (hes : ∀ e ∈ es, plainE e = true) (hn : es.length < 29)
    (hl : (apos.endLine == pos.line) = true) (hnil : es = [] → ms = .nil) : PE X (.Call (.Attribute x (mName m) apos) es [] pos) (tE W C (.mtp m i .nil ms)) := by
  have key : PE X (.Call (.Attribute x (mName m) apos) es [] pos) (fun τ H Q => tVar i τ H fun x H1 => tyV X.K "list" x H1 ∧ tP W C ms τ H1 fun xs H2 => rMt m x xs H2 Q) := by
    cases es with
    | nil =>
      obtain rfl := hnil rfl
      refine PE.imp (pe_bm0 PySem.F.plainAttrs_list (slot_any m) (type_any m) (mt_any m) hx hbase hl) fun τ H Q ⟨v, h1, h2, F, L, s, O, g, ps, s', hr, q⟩ => ⟨v, h1, h2, ?_⟩
      simp only [evs] at hr
      cases hr
      exact q [] H ⟨L, O, [], .refl, g.weak fun a h => h.elim id (by simp), .nil, .nil, by simp⟩
    | cons e es =>
      refine pe_bm PySem.F.plainAttrs_list (slot_any m) (type_any m) (mt_any m) hx ha hbase ?_ hl (star_cons (hes e (List.mem_cons_self ..))) (star_any fun e m => hes e (List.mem_cons_of_mem _ m))
      rw [back_all (star_len hes)]
      simp only [List.length_cons] at hn
      simp [PySem.keywordEach, PySem.backToKw]
      omega
  refine PE.imp key fun τ H Q ⟨F, L, s, O, g, r, hr, q⟩ => ?_
  simp only [ev] at hr
  obtain ⟨⟨d0, k0⟩, h0, hr⟩ := bind_ok hr
  have h0 := get_ok h0
  cases d0 <;> simp only [reduceCtorEq] at hr
  rename_i xs0
  obtain ⟨v0, P0, R0, e1, e2, _⟩ := g.slot h0
  have ty : tyV X.K "list" v0 H := by
    rcases e2.lst_inv with ⟨_, _, a, vs, rfl, x, _⟩ | ⟨_, a, vs, _, _, _, rfl, x, _⟩ <;> exact .inl ⟨rfl, vs, .inl (.inl x)⟩
  obtain ⟨⟨ps, s1⟩, h1, hr⟩ := bind_ok hr
  obtain ⟨⟨d, kk⟩, h2, hr⟩ := bind_ok hr
  have h2 := get_ok h2
  obtain ⟨xs, rfl⟩ : ∃ xs, d = .lst xs := by cases d <;> first | exact ⟨_, rfl⟩ | (simp only [reduceCtorEq] at hr)
  cases kk with
  | zero => simp only [reduceCtorEq] at hr
  | succ k =>
    simp only at hr
    split at hr
    · rename_i hok
      obtain ⟨⟨ys, rr⟩, h3, hr⟩ := bind_ok hr
      cases hr
      have h3 := ofO_ok h3
      refine ⟨v0, e1, ty, F, L, s, O, g, ps, s1, h1, fun vs H1 ⟨L1, O1, Ov, st, g1, rp, nd, ap⟩ => ?_⟩
      obtain ⟨a, ws, c1, c2, c3, c4⟩ := mt_fin st g1 h2 ap
      rw [e1] at c1
      cases c1
      have dj : ∀ b ∈ Ov, b ∉ L1 ∧ b ∉ O1 := fun b m => g1.ap b (.inr m)
      cases m with
      | app =>
        cases rp with
        | nil => simp [mtD] at h3
        | @cons d kd v ps vs A B r rs =>
          cases rs with
          | cons => simp [mtD] at h3
          | nil =>
            simp only [mtD, List.map_cons, List.map_nil] at h3
            split at h3
            · rename_i hlt
              cases h3
              rw [List.append_nil] at r nd ap dj
              obtain ⟨Od, o1, o2, o3⟩ := fit1 (p := (d, kd)) (by simpa using r) (by simpa [okM] using hok) nd ap dj
              have := (c4 xs.length xs.length (Nat.le_refl _)).1 (mid := [d]) (us := [v]) (Od := Od) (by simpa using o1) o2 (fun {B'} hb => by simpa using Reps.cons (o3 hb) (.nil k))
              refine ⟨a, ws, ws ++ [v], .non, rfl, c2, ⟨v, rfl, by rw [← lim_eq, ← c3]; exact hlt, rfl, rfl⟩, q _ _ ?_⟩
              rw [List.take_length, List.drop_length, show ws.take xs.length = ws by rw [c3, List.take_length], show ws.drop xs.length = [] by rw [c3, List.drop_length], List.append_nil, List.append_nil] at this
              exact this
            · cases h3
      | ext =>
        cases rp with
        | nil => simp [mtD] at h3
        | @cons d kd v ps vs A B r rs =>
          cases rs with
          | cons => simp [mtD] at h3; (try (cases d <;> simp [mtD] at h3))
          | nil =>
            simp only [List.map_cons, List.map_nil] at h3
            obtain ⟨ys2, rfl⟩ : ∃ ys, d = .lst ys := by cases d <;> first | exact ⟨_, rfl⟩ | (simp [mtD] at h3)
            simp only [mtD] at h3
            split at h3
            · rename_i hlt
              cases h3
              rw [List.append_nil] at r nd ap dj
              have hk : k = 0 ∨ kd = k + 1 := by simpa [okM] using hok
              have parts : ∃ b us Od, v = .ref b ∧ H1 b = some (.lst us) ∧ ys2.length = us.length ∧ (∀ x ∈ Od, x ∈ A) ∧ Od.Nodup ∧ ∀ {B' : Addr → Prop}, (∀ x, B' x → BB F L1 O1 x ∨ x ∈ Od) → Reps W L1 B' H1 k ys2 us Od := by
                rcases hk with rfl | rfl
                · obtain ⟨Od, o1, o2, o3⟩ := fit1 (k := 0) (p := (.lst ys2, kd)) (by simpa using r) rfl nd ap dj
                  rcases (o3 (B' := fun b => BB F L1 O1 b ∨ b ∈ Od) fun b z => z).lst_inv with ⟨_, rfl, b, us, rfl, x, hs⟩ | ⟨_, _, _, _, z, _⟩
                  · exact ⟨b, us, [], rfl, x, hs.length, by simp, .nil, fun {B'} hb => hs.mono fun b _ z => hb b z⟩
                  · cases z
                · rcases (show Rep W L1 (BB (FU F A) L1 O1) H1 (k + 1) (.lst ys2) v A by simpa using r).lst_inv with ⟨z, _⟩ | ⟨k', b, us, Oc, e0, e1, rfl, x, hs⟩
                  · cases z
                  · cases e0
                    refine ⟨b, us, Oc, rfl, x, hs.length, fun y m => by rw [e1]; exact List.mem_cons_of_mem _ m, (by rw [e1] at nd; exact (List.nodup_cons.mp nd).2), fun {B'} hb => hs.mono fun y _ z => ?_⟩
                    exact (hb y z).elim (fun z => z.elim (fun z => .inl (.inl z)) .inr) fun z => .inl (.inr (by rw [e1]; exact List.mem_cons_of_mem _ z))
              obtain ⟨b, us, Od, rfl, x, hle, o1, o2, o3⟩ := parts
              have := (c4 xs.length xs.length (Nat.le_refl _)).1 (mid := ys2) (us := us) (Od := Od) (by simpa using o1) o2 o3
              refine ⟨a, ws, ws ++ us, .non, rfl, c2, ⟨b, us, rfl, x, by rw [← lim_eq, ← c3, ← hle]; exact hlt, rfl, rfl⟩, q _ _ ?_⟩
              rw [List.take_length, List.drop_length, show ws.take xs.length = ws by rw [c3, List.take_length], show ws.drop xs.length = [] by rw [c3, List.drop_length], List.append_nil, List.append_nil] at this
              exact this
            · cases h3
      | ins =>
        cases rp with
        | nil => simp [mtD] at h3
        | @cons d kd v ps vs A B r rs =>
          cases rs with
          | nil => simp [mtD] at h3; (try (cases d <;> simp [mtD] at h3))
          | @cons d2 kd2 v2 ps vs A2 B2 r2 rs =>
            cases rs with
            | cons => simp only [List.map_cons] at h3; cases d <;> simp [mtD] at h3
            | nil =>
              simp only [List.map_cons, List.map_nil] at h3
              obtain ⟨j, rfl⟩ : ∃ j, d = .int j := by cases d <;> first | exact ⟨_, rfl⟩ | (simp [mtD] at h3)
              simp only [mtD] at h3
              split at h3
              · rename_i hlt
                cases h3
                have e0 := vw_int r
                subst e0
                have eA : A = [] := by cases r; rfl
                subst eA
                rw [List.append_nil, List.nil_append] at r2 nd ap dj
                obtain ⟨Od, o1, o2, o3⟩ := fit1 (p := (d2, kd2)) (by simpa using r2) (by simp [okM] at hok; exact hok.2) nd ap dj
                have := (c4 j.toNat j.toNat (Nat.le_refl _)).1 (mid := [d2]) (us := [v2]) (Od := Od) (by simpa using o1) o2 (fun {B'} hb => by simpa using Reps.cons (o3 hb) (.nil k))
                refine ⟨a, ws, ws.take j.toNat ++ [v2] ++ ws.drop j.toNat, .non, rfl, c2, ⟨j, v2, rfl, by rw [← lim_eq, ← c3]; exact hlt.1, hlt.2.1, by have := hlt.2.2; omega, rfl, rfl⟩, q _ _ ?_⟩
                rw [List.append_assoc]
                exact this
              · cases h3
      | pop0 =>
        cases rp with
        | cons => simp [mtD] at h3
        | nil =>
          simp only [mtD, List.map_nil] at h3
          split at h3
          · rename_i d hd
            cases h3
            have hlen : xs.length - 1 < xs.length := (List.getElem?_eq_some_iff.mp hd).1
            obtain ⟨w, w1, w2⟩ := (c4 (xs.length - 1) xs.length (by omega)).2 (r := rr) (by
              rw [show xs.length - (xs.length - 1) = 1 by omega]
              rw [List.drop_eq_getElem_cons hlen]
              obtain ⟨_, e⟩ := List.getElem?_eq_some_iff.mp hd
              simp [e])
            refine ⟨a, ws, ws.dropLast, w, rfl, c2, ⟨rfl, ?_, rfl⟩, q _ _ ?_⟩
            · rw [c3, show ws.length - (ws.length - 1) = 1 by omega] at w1
              exact take1 w1
            · rw [List.drop_length, List.append_nil, show ws.drop xs.length = [] by rw [c3, List.drop_length], List.append_nil] at w2
              rw [List.dropLast_eq_take, List.dropLast_eq_take, ← c3]
              exact w2
          · cases h3
      | pop =>
        cases rp with
        | nil => simp [mtD] at h3
        | @cons d kd v ps vs A B r rs =>
          cases rs with
          | cons => simp only [List.map_cons] at h3; cases d <;> simp [mtD] at h3
          | nil =>
            simp only [List.map_cons, List.map_nil] at h3
            obtain ⟨j, rfl⟩ : ∃ j, d = .int j := by cases d <;> first | exact ⟨_, rfl⟩ | (simp [mtD] at h3)
            simp only [mtD] at h3
            split at h3
            · rename_i jj hjj
              split at h3
              · rename_i d hd
                split at h3
                · rename_i hb
                  cases h3
                  have e0 := vw_int r
                  subst e0
                  have hlen : jj < xs.length := (List.getElem?_eq_some_iff.mp hd).1
                  obtain ⟨w, w1, w2⟩ := (c4 jj (jj + 1) (by omega)).2 (r := rr) (by
                    rw [show jj + 1 - jj = 1 by omega, List.drop_eq_getElem_cons hlen]
                    obtain ⟨_, e⟩ := List.getElem?_eq_some_iff.mp hd
                    simp [e])
                  refine ⟨a, ws, ws.eraseIdx jj, w, rfl, c2, ⟨j, jj, rfl, hb.1, hb.2, by rw [← c3]; exact hjj, ?_, rfl⟩, q _ _ ?_⟩
                  · rw [show jj + 1 - jj = 1 by omega] at w1
                    exact take1 w1
                  · rw [List.eraseIdx_eq_take_drop_succ, List.eraseIdx_eq_take_drop_succ]
                    exact w2
                · cases h3
              · cases h3
            · cases h3
    · cases hr
end
end MP
end
-- MPSn16
section
set_option maxRecDepth 100000
set_option maxHeartbeats 1000000
/-! Comprehensions. -/
namespace MP
open PySem (Addr Expr Stmt Str Pos Keyword)
open PySem.Spec
open L2
open PyProof.Rows hiding St
section
variable {W : Wd} {C : Cfg} {X : Cx}
/-- the frame may differ where the slots know nothing -/
theorem RepS.alt {L B H} : ∀ {σ : List Sl} {τ τ' : L2.St} {O}, RepS W L B H σ τ O → τ'.length = τ.length → (∀ i : Nat, (∀ x : D × Nat, σ[i]? ≠ some (some x)) ∨ τ'[i]? = τ[i]?) → RepS W L B H σ τ' O
  | _, _, τ', _, .nil, hl, _ => by
    cases τ' with
    | nil => exact .nil
    | cons => simp at hl
  | _, _, τ', _, .emp x h, hl, ha => by
    cases τ' with
    | nil => simp at hl
    | cons y τ' => exact .emp y (RepS.alt h (by simpa using hl) fun i => by simpa using ha (i + 1))
  | _, _, τ', _, .val r h, hl, ha => by
    cases τ' with
    | nil => simp at hl
    | cons y τ' =>
      have h0 := ha 0
      simp at h0
      subst h0
      exact .val r (RepS.alt h (by simpa using hl) fun i => by simpa using ha (i + 1))
theorem Gd.alt {L F H s τ τ' O} (g : Gd W L F H s τ O) (hl : τ'.length = τ.length) (ha : ∀ i : Nat, (∀ x : D × Nat, s.σ[i]? ≠ some (some x)) ∨ τ'[i]? = τ[i]?) : Gd W L F H s τ' O := { g with sl := g.sl.alt hl ha }
theorem wipe_get {τ : L2.St} {i : Nat} : ∀ {vs : List Nat}, i ∉ vs → (wipe τ vs)[i]? = τ[i]?
  | [], _ => rfl
  | v :: vs, h => by
    simp only [List.mem_cons, not_or] at h
    unfold wipe
    rw [List.getElem?_set_ne (Ne.symm h.1)]
    exact wipe_get h.2
theorem wipe_in {τ : L2.St} {i : Nat} (hi : i < τ.length) : ∀ {vs : List Nat}, i ∈ vs → (wipe τ vs)[i]? = some none
  | [], h => by cases h
  | v :: vs, h => by
    unfold wipe
    by_cases e : v = i
    · subst e
      rw [List.getElem?_set_self (by rw [wipe_length]; exact hi)]
    · rw [List.getElem?_set_ne e]
      exact wipe_in hi ((List.mem_cons.mp h).elim (fun z => absurd z.symm e) id)
theorem wipe_same {τ τ' : L2.St} {vs is : List Nat} (hl : τ'.length = τ.length) (h : ∀ i : Nat, i ∉ is → τ'[i]? = τ[i]?) (sub : ∀ i ∈ is, i ∈ vs) : wipe τ' vs = wipe τ vs := by
  refine List.ext_getElem? fun i => ?_
  by_cases hi : i ∈ vs
  · by_cases hb : i < τ.length
    · rw [wipe_in hb hi, wipe_in (by omega) hi]
    · rw [List.getElem?_eq_none (by rw [wipe_length]; omega), List.getElem?_eq_none (by rw [wipe_length]; omega)]
  · rw [wipe_get hi, wipe_get hi]
    exact h i fun z => hi (sub i z)
theorem wipe_wipe {τ : L2.St} {vs : List Nat} : wipe (wipe τ vs) vs = wipe τ vs :=
  wipe_same (is := vs) (wipe_length _ _) (fun i hi => wipe_get hi) fun _ z => z
theorem swipe_get (s : Sta) (vs : List Nat) : (∀ v ∈ vs, ∀ x, (s.wipe vs).σ[v]? ≠ some (some x)) ∧ ∀ i, i ∉ vs → (s.wipe vs).σ[i]? = s.σ[i]? := by
  unfold Sta.wipe
  simp only
  generalize s.σ = σ
  induction vs generalizing σ with
  | nil => exact ⟨by simp, fun _ _ => rfl⟩
  | cons v vs ih =>
    simp only [List.foldl_cons]
    obtain ⟨h1, h2⟩ := ih (σ.set v none)
    refine ⟨fun w hw x => ?_, fun i hi => ?_⟩
    · by_cases hm : w ∈ vs
      · exact h1 w hm x
      · have e : w = v := (List.mem_cons.mp hw).elim id fun z => absurd z hm
        subst e
        rw [h2 w hm]
        intro z
        rw [List.getElem?_set] at z
        split at z
        · split at z <;> cases z
        · exact absurd rfl (by assumption)
    · simp only [List.mem_cons, not_or] at hi
      rw [h2 i hi.2, List.getElem?_set_ne (Ne.symm hi.1)]
theorem Gd.wipe1 {L F H s τ O} (g : Gd W L F H s τ O) (i : Nat) : ∃ O', (∀ a ∈ O', a ∈ O) ∧ Gd W L F H { s with σ := s.σ.set i none } τ O' := by
  obtain ⟨O', sub, h⟩ := RepS.wipe1 (i := i) g.sl
  have m : ∀ a ∈ O', a ∈ O := fun a z => sub.subset z
  refine ⟨O', m, ⟨h.mono fun a _ b => b.elim .inl fun b => b.elim (fun z => .inr (.inl z)) fun z => .inr (.inr (m a z)), g.mu, ?_, fun a f => ⟨(g.ap a f).1, fun z => (g.ap a f).2 (m a z)⟩, g.ft⟩⟩
  exact List.nodup_append.mpr ⟨g.ndL, sub.nodup g.ndO, fun a ha b hb e => g.LO a ha (by subst e; exact m a hb)⟩
theorem Gd.wipe {L F H τ} : ∀ (vs : List Nat) {s : Sta} {O : List Addr}, Gd W L F H s τ O → ∃ O', (∀ a ∈ O', a ∈ O) ∧ Gd W L F H (s.wipe vs) τ O'
  | [], s, O, g => ⟨O, fun _ z => z, g⟩
  | v :: vs, s, O, g => by
    obtain ⟨O1, h1, g1⟩ := g.wipe1 v
    obtain ⟨O2, h2, g2⟩ := Gd.wipe vs g1
    exact ⟨O2, fun a z => h1 a (h2 a z), g2⟩
/-- the conditions -/
def tCd (W : Wd) (C : Cfg) (c : Es) : TT := fun τ H Q => ∃ F L s O, Gd W L F H s τ O ∧ ∃ b s', cnd C c s = .ok (b, s') ∧ ∀ H', PostN W F L H O τ s' H' → Q b H'
theorem cnd_nil : PTs X [] (tCd W C .nil) := by
  refine ⟨fun pins s σ H Q I ⟨F, L, st, O, g, b, s', hr, q⟩ => pts_nil.run pins s σ H Q I ?_⟩
  simp only [cnd] at hr
  cases hr
  exact q H ⟨L, O, .refl g⟩
theorem cnd_one {c : Expr} {m : E} {ms : Es} (h : PT X c (tBo W C m)) : PTs X [c] (tCd W C (.cons m ms)) := by
  refine ⟨fun pins s σ H Q I ⟨F, L, st, O, g, b, s', hr, q⟩ => (pts_one h).run pins s σ H Q I ?_⟩
  simp only [cnd] at hr
  exact ⟨F, L, st, O, g, b, s', hr, q⟩

/-- between the turns -/
structure CI (W : Wd) (F : Addr → Prop) (L1 : List Addr) (H1 : Hp) (O1 : List Addr) (τw : L2.St) (own : List Nat) (k : Nat) (Dl : Addr) (ds : List D) (st : Sta) (H : Hp) (Li Oi P : List Addr) (vs : List V) : Prop where
  stp : Stp L1 H1 O1 Li H Oi (Dl :: P)
  g : Gd W Li (FU F (Dl :: P)) H st τw Oi
  hD : H Dl = some (.lst vs)
  hs : Reps W Li (BB (FU F (Dl :: P)) Li Oi) H k ds vs P
  nd : (Dl :: P).Nodup
  ap : ∀ a ∈ Dl :: P, ¬ F a
  nn : ∀ v ∈ own, ∀ x, st.σ[v]? ≠ some (some x)
/-- one turn of the interpreter -/
def turnC (C : Cfg) (own : List Nat) (tg : T) (cond : Es) (elt : E) : D → Sta → R (Option (D × Nat) × Sta) := fun d s => (asT C tg (d, 0) s).bind fun s => (cnd C cond s).bind fun (b, s) =>
      if b then (ev C elt s).bind fun (r, s) => .ok (some r, s.wipe own) else .ok (none, s.wipe own)
theorem FU_nil {F : Addr → Prop} {a : Addr} : FU F [] a ↔ F a := ⟨fun h => h.elim id (by simp), .inl⟩
theorem CI.start {F L1 H1 O1 τ s1 own k Dl} (g : Gd W L1 F H1 s1 τ O1) (hD : H1 Dl = none) :
    ∃ Oi, CI W F L1 H1 O1 (wipe τ own) own k Dl [] (s1.wipe own) (upd H1 Dl (.lst [])) L1 Oi [] [] := by
  obtain ⟨O', sub, g1⟩ := g.wipe own
  have kp : Keep (fun _ => False) H1 (upd H1 Dl (.lst [])) := Keep.upd hD
  have dL : Dl ∉ L1 := fun m => (g.thereL Dl m).1 hD
  have dO : Dl ∉ O1 := fun m => (g.sl.there Dl m).1 hD
  have dF : ¬ F Dl := fun f => g.ft Dl f hD
  have g2 := g1.grow kp fun a z => there_upd z
  have nn := (swipe_get s1 own).1
  have g3 := g2.alt (τ' := wipe τ own) (wipe_length _ _) fun i => by
    by_cases hi : i ∈ own
    · exact .inl (nn i hi)
    · exact .inr (wipe_get hi)
  refine ⟨O', ⟨⟨List.prefix_refl _, fun _ h => .inl h, fun a m => ?_, kp.mono fun _ f => f.elim, fun a z => there_upd z⟩, ?_, upd_same, .nil k, by simp, fun a m => ?_, nn⟩⟩
  · rcases m with m | m
    · exact .inl (sub a m)
    · obtain rfl : a = Dl := by simpa using m
      exact .inr hD
  · refine ⟨?_, g3.mu, g3.nd, fun a f => ?_, fun a f => ?_⟩
    · -- seen from the heap ahead nothing is at Dl
      have s1 := g1.sl.keep (B' := BB (FU F [Dl]) L1 O') kp (fun _ f => f.elim) (fun a n b => by
        rcases b with (b | b) | b
        · exact .inl b
        · obtain rfl : a = Dl := by simpa using b
          exact absurd hD n
        · exact .inr b) (fun _ _ e => e) fun _ _ f => f
      exact s1.alt (wipe_length _ _) fun i => by
        by_cases hi : i ∈ own
        · exact .inl (nn i hi)
        · exact .inr (wipe_get hi)
    · rcases f with f | f
      · exact g3.ap a f
      · obtain rfl : a = Dl := by simpa using f
        exact ⟨dL, fun z => dO (sub _ z)⟩
    · rcases f with f | f
      · exact g3.ft a f
      · obtain rfl : a = Dl := by simpa using f
        rw [upd_same]; simp
  · obtain rfl : a = Dl := by simpa using m
    exact dF
theorem Gd.frame {L F H H' s τ O} {M : Addr → Prop} (g : Gd W L F H s τ O) (kp : Keep M H H') (hM : ∀ a, M a → F a) (st : ∀ a, H a ≠ none → H' a ≠ none) : Gd W L F H' s τ O where
  sl := g.sl.keep kp (fun a m => .inl (hM a m)) (fun _ _ b => b) (fun _ _ e => e) fun a z m => (g.ap a (hM a m)).2 z
  mu := g.mu.keep kp fun a z m => (g.ap a (hM a m)).1 z
  nd := g.nd
  ap := g.ap
  ft := fun a f => st a (g.ft a f)
theorem Stp.behind2 {L H O L1 H1 O1 Ov H3 O' P} (st : Stp L H O L1 H1 O1 Ov) (kp : Keep (fun b => b ∈ O1 ∨ b ∈ Ov) H1 H3) (there : ∀ a, H1 a ≠ none → H3 a ≠ none) (h : ∀ b, b ∈ O' ∨ b ∈ P → b ∈ O1 ∨ b ∈ Ov) : Stp L H O L1 H3 O' P where
  pre := st.pre
  newL := st.newL
  newO := fun b m => st.newO b (h b m)
  kp := st.kp.trans kp (fun _ z => z) fun b z => (st.newO b z).elim (fun z => .inl (.inr z)) .inr
  st := fun b z => there b (st.st b z)
theorem CI.next {F L1 H1 O1 τ own k Dl ds st H Li Oi P vs L4 H4 O4 Ov2 s4 τ2 Od H5 ds' vs'} (c : CI W F L1 H1 O1 (wipe τ own) own k Dl ds st H Li Oi P vs)
    (sa : Stp Li H Oi L4 H4 O4 Ov2) (g4 : Gd W L4 (FU (FU F (Dl :: P)) Ov2) H4 s4 τ2 O4) (hw : wipe τ2 own = wipe τ own) (hO : ∀ b ∈ Od, b ∈ Ov2) (nd : Od.Nodup) (ap : ∀ b ∈ Ov2, ¬ FU F (Dl :: P) b)
    (kp5 : Keep (fun b => b = Dl) H4 H5) (th5 : ∀ a, H4 a ≠ none → H5 a ≠ none) (hD : H5 Dl = some (.lst vs'))
    (hs : ∀ {B' : Addr → Prop}, (∀ a, B' a → BB (FU (FU F (Dl :: P)) Od) L4 O4 a) → Reps W L4 B' H5 k ds' vs' (P ++ Od)) :
    ∃ O5, CI W F L1 H1 O1 (wipe τ own) own k Dl ds' (s4.wipe own) H5 L4 O5 (P ++ Od) vs' := by
  obtain ⟨O5, sub, g5⟩ := g4.wipe own
  have nn := (swipe_get s4 own).1
  have toF : ∀ a, FU F (Dl :: (P ++ Od)) a → FU (FU F (Dl :: P)) Od a := fun a z => by
    rcases z with z | z
    · exact .inl (.inl z)
    · rcases List.mem_cons.mp z with z | z
      · exact .inl (.inr (by subst z; exact List.mem_cons_self ..))
      · rcases List.mem_append.mp z with z | z
        · exact .inl (.inr (List.mem_cons_of_mem _ z))
        · exact .inr z
  have hl : (wipe τ own).length = τ2.length := by rw [← hw, wipe_length]
  have g6 := (g5.weak (F' := FU F (Dl :: (P ++ Od))) fun a z => (toF a z).elim .inl fun z => .inr (hO a z)).alt (τ' := wipe τ own) hl fun i => by
    by_cases hi : i ∈ own
    · exact .inl (nn i hi)
    · right
      rw [← hw]
      exact wipe_get hi
  refine ⟨O5, ?_, g6.frame kp5 (fun a e => by subst e; exact .inr (List.mem_cons_self ..)) th5, hD, hs fun a b => ?_, ?_, fun a m f => ?_, nn⟩
  · refine (c.stp.trans sa (P := Dl :: (P ++ Ov2)) fun x m => ?_).behind2 (kp5.mono fun b e => .inr (by subst e; exact List.mem_cons_self ..)) th5 fun b m => ?_
    · rcases List.mem_cons.mp m with z | z
      · exact .inl (by subst z; exact List.mem_cons_self ..)
      · exact (List.mem_append.mp z).elim (fun z => .inl (List.mem_cons_of_mem _ z)) .inr
    · rcases m with m | m
      · exact .inl (sub b m)
      · rcases List.mem_cons.mp m with z | z
        · exact .inr (by subst z; exact List.mem_cons_self ..)
        · exact .inr (List.mem_cons_of_mem _ ((List.mem_append.mp z).elim (fun z => List.mem_append_left _ z) fun z => List.mem_append_right _ (hO b z)))
  · exact b.elim (fun z => .inl (toF a z)) fun z => .inr (z.elim .inl fun z => .inr (sub a z))
  · have nP := List.nodup_cons.mp c.nd
    refine List.nodup_cons.mpr ⟨fun m => (List.mem_append.mp m).elim nP.1 fun z => ap _ (hO _ z) (.inr (List.mem_cons_self ..)), List.nodup_append.mpr ⟨nP.2, nd, fun a ha b hb e => ap b (hO b hb) (.inr (by subst e; exact List.mem_cons_of_mem _ ha))⟩⟩
  · rcases List.mem_cons.mp m with z | z
    · exact c.ap a (by subst z; exact List.mem_cons_self ..) f
    · rcases List.mem_append.mp z with z | z
      · exact c.ap a (List.mem_cons_of_mem _ z) f
      · exact ap a (hO a z) (.inl f)
theorem Stp.of_keep {L H O H'} (kp : Keep (fun _ => False) H H') (st : ∀ a, H a ≠ none → H' a ≠ none) : Stp L H O L H' O [] := ⟨List.prefix_refl _, fun _ h => .inl h, fun _ h => .inl (by simpa using h), kp.mono fun _ f => f.elim, st⟩
theorem CI.turn {F L1 H1 O1 τ own k Dl ds st H Li Oi P vs tg cond elt x0 r st' H3 x} {Nx : Hp → Prop} (hown : ∀ i ∈ tgs tg, i ∈ own) (c : CI W F L1 H1 O1 (wipe τ own) own k Dl ds st H Li Oi P vs)
    (hf : turnC C own tg cond elt x0 st = .ok (r, st')) (kp : Keep (fun _ => False) H H3) (th : ∀ a, H a ≠ none → H3 a ≠ none)
    (hx : ∀ (L' : List Addr) (B' : Addr → Prop), L1 <+: L' → (∀ a, H1 a ≠ none → B' a → BB F L1 O1 a) → Rep W L' B' H3 0 x0 x [])
    (hfit : ∀ p, r = some p → fits k p = true ∧ ds.length < lim)
    (hN : ∀ H5 ds', (r = none → ds' = ds) → (∀ p, r = some p → ds' = ds ++ [p.1]) → (∃ Li Oi P vs, CI W F L1 H1 O1 (wipe τ own) own k Dl ds' st' H5 Li Oi P vs) → Nx H5) :
    tG W C tg x (wipe τ own) H3 fun σ2 H2 => wipe σ2 own = wipe τ own ∧ tCd W C cond σ2 H2 fun b H3 =>
      if b = true then tE W C elt σ2 H3 fun y H4 => ∃ acc, H4 Dl = some (.lst acc) ∧ acc.length < PySem.sizeLine ∧ Nx (upd H4 Dl (.lst (acc ++ [y]))) else Nx H3 := by
  unfold turnC at hf
  obtain ⟨s2, h1, hf⟩ := bind_ok hf
  obtain ⟨⟨b, s3⟩, h2, hf⟩ := bind_ok hf
  have g3 := c.g.grow kp th
  have rx : Rep W Li (BB (FU (FU F (Dl :: P)) []) Li Oi) H3 0 x0 x [] := hx Li _ c.stp.pre fun a n z => by
    rcases z with ((z | z) | z) | z | z
    · exact .inl z
    · exact (c.stp.newO a (.inr z)).elim (fun z => .inr (.inr z)) fun z => absurd z n
    · cases z
    · exact (c.stp.newL a z).elim (fun z => .inr (.inl z)) fun z => absurd z n
    · exact (c.stp.newO a (.inl z)).elim (fun z => .inr (.inr z)) fun z => absurd z n
  refine ⟨(x0, 0), FU F (Dl :: P), Li, st, Oi, [], ⟨g3.weak fun a z => FU_nil.mp z, .nil, by simp⟩, rx, s2, h1, fun τ2 H2 ⟨L2, O2, pg⟩ => ?_⟩
  have hw : wipe τ2 own = wipe τ own := (wipe_same pg.len pg.same hown).trans wipe_wipe
  refine ⟨hw, FU F (Dl :: P), L2, s2, O2, pg.g, b, s3, h2, fun H4 ⟨L4, O4, pn⟩ => ?_⟩
  have st2 : Stp Li H3 Oi L2 H2 O2 [] := by simpa using pg.st
  have sa : Stp Li H Oi L4 H4 O4 [] := ((Stp.of_keep kp th).trans st2 (P := []) (by simp)).trans pn.st (by simp)
  cases b with
  | false =>
    simp only [Bool.false_eq_true, if_false] at hf ⊢
    cases hf
    refine hN H4 ds (fun _ => rfl) (fun p e => by cases e) ?_
    obtain ⟨O5, c5⟩ := c.next (Ov2 := []) (Od := []) sa (pn.g.weak fun a z => FU_nil.mp z) hw (by simp) .nil (by simp) (H5 := H4) (vs' := vs) (ds' := ds) ⟨fun _ _ e _ => e, fun _ _ e => e, fun _ _ _ e => e⟩ (fun _ z => z)
      (sa.kp.any _ _ c.hD fun z => z.elim (c.g.ap Dl (.inr (List.mem_cons_self ..))).1 (c.g.ap Dl (.inr (List.mem_cons_self ..))).2)
      (fun {B'} hb => by
        rw [List.append_nil]
        exact (Reps.step c.g sa c.hs fun a m => .inr (List.mem_cons_of_mem _ m)).mono fun a _ z => hb a z)
    exact ⟨_, _, _, _, c5⟩
  | true =>
    simp only [if_true] at hf ⊢
    obtain ⟨⟨⟨d, k'⟩, s4⟩, h3, hf⟩ := bind_ok hf
    cases hf
    refine ⟨FU F (Dl :: P), L4, s3, O4, pn.g, _, h3, fun y H5 ⟨L5, O5, Ov2, pe⟩ => ?_⟩
    have sb : Stp Li H Oi L5 H5 O5 Ov2 := sa.trans pe.st fun x m => .inr m
    have hD5 : H5 Dl = some (.lst vs) := sb.kp.any _ _ c.hD fun z => z.elim (c.g.ap Dl (.inr (List.mem_cons_self ..))).1 (c.g.ap Dl (.inr (List.mem_cons_self ..))).2
    obtain ⟨f1, f2⟩ := hfit _ rfl
    refine ⟨vs, hD5, by rw [← lim_eq, ← c.hs.length]; exact f2, hN _ (ds ++ [d]) (fun e => by cases e) (fun p e => by cases e; rfl) ?_⟩
    obtain ⟨Od, d1, d2, d3⟩ := fit1 (p := (d, k')) pe.r f1 pe.nd pe.ap fun a m => pe.g.ap a (.inr m)
    have kp5 : Keep (fun b => b = Dl) H5 (upd H5 Dl (.lst (vs ++ [y]))) := Keep.set rfl hD5 (by simp) (by simp)
    obtain ⟨O6, c5⟩ := c.next (Od := Od) sb pe.g hw d1 d2 pe.ap (H5 := upd H5 Dl (.lst (vs ++ [y]))) (vs' := vs ++ [y]) (ds' := ds ++ [d]) kp5 (fun _ z => there_upd z) upd_same
      (fun {B'} hb => by
        refine Reps.append ?_ ?_
        · refine (Reps.step c.g sb c.hs fun a m => .inr (List.mem_cons_of_mem _ m)).keep kp5 (fun a e => by subst e; exact .inl (.inl (.inr (List.mem_cons_self ..)))) (fun a _ z => ?_) (fun _ _ e => e) fun a m e => (List.nodup_cons.mp c.nd).1 (by subst e; exact m)
          exact (hb a z).elim (fun z => .inl (z.elim .inl fun z => .inr (d1 a z))) .inr
        · have r1 := (d3 (B' := fun a => BB (FU F (Dl :: P)) L5 O5 a ∨ a ∈ Od) fun a z => z).keep kp5 (B' := B') (fun a e => by subst e; exact .inl (.inl (.inr (List.mem_cons_self ..)))) (fun a _ z => by
            rcases hb a z with (z | z) | z
            · exact .inl (.inl z)
            · exact .inr z
            · exact .inl (.inr z)) (fun _ _ e => e) fun a m e => pe.ap a (d1 a m) (.inr (by subst e; exact List.mem_cons_self ..))
          simpa using Reps.cons r1 (.nil k))
    exact ⟨_, _, _, _, c5⟩
end
end MP
end
-- MPSn17
section
set_option maxRecDepth 100000
set_option maxHeartbeats 1000000
/-! Comprehensions as values. -/
namespace MP
open PySem (Addr Expr Stmt Str Pos Keyword Scope)
open PySem.Spec
open L2
open PyProof.Rows hiding St
section
variable {W : Wd} {C : Cfg} {X : Cx}
theorem CI.done {F L H O τ s1 L1 H1 O1 own k Dl ds st H' Li Oi P vs} (p : PN' W F L H O τ s1 L1 H1 O1) (c : CI W F L1 H1 O1 (wipe τ own) own k Dl ds st H' Li Oi P vs) : PostE W F L H O τ ((.lst ds, k + 1), st) (.ref Dl) H' := by
  refine ⟨Li, Oi, Dl :: P, ⟨p.st.trans c.stp fun x m => .inr m, c.g.alt (wipe_length _ _).symm fun i => ?_, .lstS c.hD c.hs, c.nd, c.ap⟩⟩
  by_cases hi : i ∈ own
  · exact .inl (c.nn i hi)
  · exact .inr (wipe_get hi).symm
theorem comp_red {k : Nat} {own : List Nat} {tg : T} {it : I} {cond : Es} {elt : E} (hown : ∀ i ∈ tgs tg, i ∈ own) {τ : L2.St} {H : Hp} {Q : VK} (h : tE W C (.comp k own tg it cond elt) τ H Q) :
    tLc (tI W C it) (tG W C tg) (tCd W C cond) (tE W C elt) own τ H Q := by
  obtain ⟨F, L, s, O, g, r, hr, q⟩ := h
  simp only [ev] at hr
  obtain ⟨⟨xs, s1⟩, h1, hr⟩ := bind_ok hr
  obtain ⟨⟨ys, s2⟩, h2, hr⟩ := bind_ok hr
  cases hr
  have h2 : loopC k (turnC C own tg cond elt) xs [] (s1.wipe own) = .ok (ys, s2) := h2
  refine ⟨F, L, s, O, g, xs, s1, h1, fun J H1 L1 O1 p hJ Dl hD => ?_⟩
  refine ⟨fun i m H => m = xs.length - i ∧ i ≤ xs.length ∧ ∃ ds st, loopC k (turnC C own tg cond elt) (xs.drop i) ds st = .ok (ys, s2) ∧ ∃ Li Oi P vs, CI W F L1 H1 O1 (wipe τ own) own k Dl ds st H Li Oi P vs, ⟨xs.length, by simp, Nat.zero_le _, [], s1.wipe own, h2, ?_⟩, ?_⟩
  · obtain ⟨Oi, c⟩ := CI.start (own := own) (k := k) p.g hD
    exact ⟨_, _, _, _, c⟩
  · rintro i m H2 ⟨rfl, hi, ds, st, hl, Li, Oi, P, vs, c⟩
    have hJ2 := hJ Li H2 Oi (Dl :: P) c.stp
    by_cases hlt : i < xs.length
    · refine .inr ?_
      have e : xs[i]? = some xs[i] := List.getElem?_eq_getElem hlt
      rw [List.drop_eq_getElem_cons hlt] at hl
      simp only [loopC] at hl
      obtain ⟨⟨r, st'⟩, ht, hl⟩ := bind_ok hl
      refine ⟨(hJ2.1 i _ e).1, fun H5 => ∃ ds', (r = none → ds' = ds) ∧ (∀ p, r = some p → ds' = ds ++ [p.1]) ∧ ∃ Li Oi P vs, CI W F L1 H1 O1 (wipe τ own) own k Dl ds' st' H5 Li Oi P vs, fun H5 ⟨ds', a1, a2, c5⟩ => ⟨xs.length - (i + 1), by omega, rfl, hlt, ds', st', ?_, c5⟩, fun x H3 hy => ?_⟩
      · cases r with
        | none => rw [a1 rfl]; exact hl
        | some p =>
          simp only at hl
          split at hl
          · rw [a2 p rfl]; exact hl
          · cases hl
      · obtain ⟨kp, th, hx⟩ := (hJ2.1 i _ e).2 x H3 hy
        refine c.turn hown ht kp th (fun L' B' hL hB => hx L' B' hL hB) (fun p e => ?_) fun H5 ds' a1 a2 c5 => ⟨ds', a1, a2, c5⟩
        subst e
        simp only at hl
        split at hl
        · rename_i hh; exact hh
        · cases hl
    · have e : i = xs.length := by omega
      subst e
      rw [List.drop_length] at hl
      simp only [loopC] at hl
      cases hl
      exact .inl ⟨hJ2.2, q _ _ (c.done p)⟩
/-- [elt for tg in it if cond] -/
theorem snd_comp {elt tg iter : Expr} {ifs : List Expr} {scope : Scope} {own : List (Str × Nat)} {pos : Pos} {k : Nat} {t : T} {it : I} {cond : Es} {m : E} (hc : X.calm = true) (hN : X.N.Nodup) (hi : PI X tg iter (tI W C it)) (ok : BlkOk X.N X.env.scope scope own)
    (hown : ∀ i ∈ tgs t, i ∈ own.map (·.2))
    (hg : ∀ (s : PySem.Shared) (H : Hp) (A : Addr) (cl : List (Str × Addr)) (fp : List Addr), PG (X.blk s H scope (PySem.compEnvC scope cl A X.env) fp) tg (tG W C t)) (ht : ∀ (s : PySem.Shared) (H : Hp) (A : Addr) (cl : List (Str × Addr)) (fp : List Addr), PTs (X.blk s H scope (PySem.compEnvC scope cl A X.env) fp) ifs (tCd W C cond))
    (he : ∀ (s : PySem.Shared) (H : Hp) (A : Addr) (cl : List (Str × Addr)) (fp : List Addr), PE (X.blk s H scope (PySem.compEnvC scope cl A X.env) fp) elt (tE W C m)) (hs : ∀ x, PySem.foldedSetIterable iter X.env x = pure x) :
    PE X (.ListComp elt [⟨tg, iter, ifs, 0⟩] scope pos) (tE W C (.comp k (own.map (·.2)) t it cond m)) :=
  PE.imp (pe_lc hc hN hi ok hg ht he hs) fun _ _ _ h => comp_red hown h
/-- y = [..] on one line -/
theorem snd_setc {i : Nat} {y : Str} {py : Pos} {elt tg iter : Expr} {ifs : List Expr} {scope : Scope} {own : List (Str × Nat)} {pos spos : Pos} {k : Nat} {t : T} {it : I} {cond : Es} {m : E} (hc : X.calm = true) (hN : X.N.Nodup) (hy : X.N[i]? = some y) (hyl : X.env.scope.names.lookup y = some .local)
    (hsw : PySem.swapsWith (.ListComp elt [⟨tg, iter, ifs, 0⟩] scope pos) (some (.Name y py)) spos.line X.env = pure true) (hi : PI X tg iter (tI W C it)) (ok : BlkOk X.N X.env.scope scope own)
    (hown : ∀ i ∈ tgs t, i ∈ own.map (·.2))
    (hg : ∀ (s : PySem.Shared) (H : Hp) (A : Addr) (cl : List (Str × Addr)) (fp : List Addr), PG (X.blk s H scope (PySem.compEnvC scope cl A X.env) fp) tg (tG W C t)) (ht : ∀ (s : PySem.Shared) (H : Hp) (A : Addr) (cl : List (Str × Addr)) (fp : List Addr), PTs (X.blk s H scope (PySem.compEnvC scope cl A X.env) fp) ifs (tCd W C cond))
    (he : ∀ (s : PySem.Shared) (H : Hp) (A : Addr) (cl : List (Str × Addr)) (fp : List Addr), PE (X.blk s H scope (PySem.compEnvC scope cl A X.env) fp) elt (tE W C m)) (hs : ∀ x, PySem.foldedSetIterable iter X.env x = pure x) :
    PS X (.Assign [.Name y py] (.ListComp elt [⟨tg, iter, ifs, 0⟩] scope pos) spos) (tAsg (tE W C (.comp k (own.map (·.2)) t it cond m)) (gName i)) :=
  PS.imp (ps_setLc hc hN hy hyl hsw hi ok hg ht he hs) fun _ _ _ h => comp_red hown h
end
end MP
end
-- MPSn18
section
set_option maxRecDepth 100000
set_option maxHeartbeats 1000000
/-! Statements. -/
namespace MP
open PySem (Addr Expr Stmt Str Pos Keyword Scope)
open PySem.Spec
open L2
open PyProof.Rows hiding St
section
variable {W : Wd} {C : Cfg} {X : Cx}
structure PZ' (W : Wd) (F : Addr → Prop) (L : List Addr) (H : Hp) (O : List Addr) (τ : L2.St) (is : List Nat) (s' : Sta) (τ' : L2.St) (L' : List Addr) (H' : Hp) (O' : List Addr) : Prop where
  st : Stp L H O L' H' O' []
  g : Gd W L' F H' s' τ' O'
  same : ∀ i, i ∉ is → τ'[i]? = τ[i]?
  len : τ'.length = τ.length
def PostZ (W : Wd) (F : Addr → Prop) (L : List Addr) (H : Hp) (O : List Addr) (τ : L2.St) (is : List Nat) (s' : Sta) (τ' : L2.St) (H' : Hp) : Prop := ∃ L' O', PZ' W F L H O τ is s' τ' L' H' O'
/-- what an end asks -/
def FlK (W : Wd) (F : Addr → Prop) (L : List Addr) (H : Hp) (O : List Addr) (τ : L2.St) (is : List Nat) (fl : Fl) (s' : Sta) (D : Ends) : Prop :=
  match fl with
  | .nx => ∀ τ' H', PostZ W F L H O τ is s' τ' H' → D.nx τ' H'
  | .br => ∀ τ' H', PostZ W F L H O τ is s' τ' H' → D.bk τ' H'
  | .ct => ∀ τ' H', PostZ W F L H O τ is s' τ' H' → D.ct τ' H'
  | .rt d k => ∀ v τ' H', PostE W F L H O τ' ((d, k), s') v H' → D.rt v H'
def tS (W : Wd) (C : Cfg) (m : S) : TS := fun D τ H => ∃ F L s O, Gd W L F H s τ O ∧ ∃ fl s', exec C m s = .ok (fl, s') ∧ FlK W F L H O τ (stS m) fl s' D
def tSs (W : Wd) (C : Cfg) (m : Ss) : TS := fun D τ H => ∃ F L s O, Gd W L F H s τ O ∧ ∃ fl s', execs C m s = .ok (fl, s') ∧ FlK W F L H O τ (stSs m) fl s' D
theorem PZ'.refl {F L H O τ s is} (g : Gd W L F H s τ O) : PZ' W F L H O τ is s τ L H O := ⟨.refl, g, fun _ _ => rfl, rfl⟩
theorem PZ'.of {F L H O τ s' L' H' O' is} (p : PN' W F L H O τ s' L' H' O') : PZ' W F L H O τ is s' τ L' H' O' := ⟨p.st, p.g, fun _ _ => rfl, rfl⟩
theorem PZ'.trans {F L H O τ s1 τ1 L1 H1 O1 s2 τ2 L2 H2 O2 is1 is2 is} (a : PZ' W F L H O τ is1 s1 τ1 L1 H1 O1) (b : PZ' W F L1 H1 O1 τ1 is2 s2 τ2 L2 H2 O2) (h1 : ∀ i ∈ is1, i ∈ is) (h2 : ∀ i ∈ is2, i ∈ is) : PZ' W F L H O τ is s2 τ2 L2 H2 O2 :=
  ⟨a.st.trans b.st (by simp), b.g, fun i hi => (b.same i fun z => hi (h2 i z)).trans (a.same i fun z => hi (h1 i z)), b.len.trans a.len⟩
theorem FlK.after {F L H O τ s1 τ1 L1 H1 O1 is1 is2 is fl s' D} (a : PZ' W F L H O τ is1 s1 τ1 L1 H1 O1) (h : FlK W F L H O τ is fl s' D) (h1 : ∀ i ∈ is1, i ∈ is) (h2 : ∀ i ∈ is2, i ∈ is) : FlK W F L1 H1 O1 τ1 is2 fl s' D := by
  cases fl with
  | nx => exact fun τ' H' ⟨L', O', p⟩ => h τ' H' ⟨L', O', a.trans p h1 h2⟩
  | br => exact fun τ' H' ⟨L', O', p⟩ => h τ' H' ⟨L', O', a.trans p h1 h2⟩
  | ct => exact fun τ' H' ⟨L', O', p⟩ => h τ' H' ⟨L', O', a.trans p h1 h2⟩
  | rt d k => exact fun v τ' H' ⟨L', O', Ov, p⟩ => h v τ' H' ⟨L', O', Ov, { p with st := a.st.trans p.st fun x m => .inr m }⟩
theorem FlK.ends {F L H O τ is fl s' D D'} (h : FlK W F L H O τ is fl s' D) (h1 : fl = .nx → ∀ τ' H', D.nx τ' H' → D'.nx τ' H') (h2 : fl = .br → ∀ τ' H', D.bk τ' H' → D'.bk τ' H') (h3 : fl = .ct → ∀ τ' H', D.ct τ' H' → D'.ct τ' H') (h4 : ∀ v H', D.rt v H' → D'.rt v H') : FlK W F L H O τ is fl s' D' := by
  cases fl with
  | nx => exact fun τ' H' p => h1 rfl _ _ (h τ' H' p)
  | br => exact fun τ' H' p => h2 rfl _ _ (h τ' H' p)
  | ct => exact fun τ' H' p => h3 rfl _ _ (h τ' H' p)
  | rt d k => exact fun v τ' H' p => h4 _ _ (h v τ' H' p)
theorem FlK.less {F L H O τ is is' fl s' D} (h : FlK W F L H O τ is fl s' D) (hs : ∀ i ∈ is', i ∈ is) : FlK W F L H O τ is' fl s' D := by
  have w : ∀ τ' H', PostZ W F L H O τ is' s' τ' H' → PostZ W F L H O τ is s' τ' H' := fun τ' H' ⟨L', O', p⟩ => ⟨L', O', { p with same := fun i hi => p.same i fun z => hi (hs i z) }⟩
  cases fl with
  | nx => exact fun τ' H' p => h τ' H' (w τ' H' p)
  | br => exact fun τ' H' p => h τ' H' (w τ' H' p)
  | ct => exact fun τ' H' p => h τ' H' (w τ' H' p)
  | rt d k => exact h
/-- a value, then a store of it -/
theorem PE'.stored {F L H O τ p s1 v L1 H1 O1 Ov is s2 τ2 H2} (a : PE' W F L H O τ p s1 v L1 H1 O1 Ov) (b : PostG W F L1 H1 O1 Ov τ is s2 τ2 H2) : PostZ W F L H O τ is s2 τ2 H2 := by
  obtain ⟨L2, O2, b⟩ := b
  have old : ∀ x, x ∈ O1 ++ Ov → x ∈ O ∨ H x = none := fun x m => a.st.newO x (List.mem_append.mp m)
  refine ⟨L2, O2, ⟨⟨a.st.pre.trans b.st.pre, fun x m => (b.st.newL x m).elim (a.st.newL x) fun z => .inr (Classical.byContradiction fun q => a.st.st x q z), fun x m => (b.st.newO x m).elim (old x) fun z => .inr (Classical.byContradiction fun q => a.st.st x q z), ?_, fun x z => b.st.st x (a.st.st x z)⟩, b.g, b.same, b.len⟩⟩
  refine a.st.kp.trans b.st.kp (fun _ z => z) fun x z => ?_
  rcases z with z | z
  · exact (a.st.newL x z).elim (fun z => .inl (.inl z)) .inr
  · exact (old x z).elim (fun z => .inl (.inr z)) .inr
theorem PS.of {e : Stmt} {t : TS} {m : S} (h : PS X e t) (i : ∀ D τ H, tS W C m D τ H → t D τ H) : PS X e (tS W C m) := PS.imp h i

/-! ### small statements -/
theorem snd_pass {pos : Pos} : PS X (.Pass pos) (tS W C .pss) := PS.of ps_pass fun D τ H ⟨F, L, s, O, g, fl, s', hr, q⟩ => by
  simp only [exec] at hr
  cases hr
  exact q τ H ⟨L, O, .refl g⟩
theorem snd_brk {pos : Pos} : PS X (.Break pos) (tS W C .brk) := PS.of ps_break fun D τ H ⟨F, L, s, O, g, fl, s', hr, q⟩ => by
  simp only [exec] at hr
  cases hr
  exact q τ H ⟨L, O, .refl g⟩
theorem snd_cnt {pos : Pos} : PS X (.Continue pos) (tS W C .cnt) := PS.of ps_continue fun D τ H ⟨F, L, s, O, g, fl, s', hr, q⟩ => by
  simp only [exec] at hr
  cases hr
  exact q τ H ⟨L, O, .refl g⟩
theorem snd_rse {st : Stmt} : PS X st (tS W C .rse) := PS.of ps_never fun D τ H ⟨F, L, s, O, g, fl, s', hr, q⟩ => by
  simp only [exec] at hr
  cases hr
theorem snd_doc {x j pos pos'} : PS X (.Expr (.Constant (.str x) j pos) pos') (tS W C .pss) := PS.of ps_doc fun D τ H ⟨F, L, s, O, g, fl, s', hr, q⟩ => by
  simp only [exec] at hr
  cases hr
  exact q τ H ⟨L, O, .refl g⟩
theorem snd_ex {e : Expr} {m : E} {pos : Pos} (he : PE X e (tE W C m)) (hs : PySem.swapsWith e none pos.line X.env = pure false) : PS X (.Expr e pos) (tS W C (.ex m)) := PS.of (ps_expr he hs) fun D τ H ⟨F, L, s, O, g, fl, s', hr, q⟩ => by
  simp only [exec] at hr
  obtain ⟨⟨p, s1⟩, h1, hr⟩ := bind_ok hr
  cases hr
  exact ⟨F, L, s, O, g, _, h1, fun v H1 ⟨L1, O1, Ov, pe⟩ => q τ H1 ⟨L1, O1, .of pe.drop⟩⟩
theorem snd_ret {e : Expr} {m : E} {pos : Pos} (he : PE X e (tE W C m)) : PS X (.Return (some e) pos) (tS W C (.ret m)) := PS.of (ps_ret he) fun D τ H ⟨F, L, s, O, g, fl, s', hr, q⟩ => by
  simp only [exec] at hr
  obtain ⟨⟨⟨d, k⟩, s1⟩, h1, hr⟩ := bind_ok hr
  cases hr
  exact ⟨F, L, s, O, g, _, h1, fun v H1 pe => q v τ H1 pe⟩
theorem snd_retN {pos : Pos} : PS X (.Return none pos) (tS W C .retN) := PS.of ps_retN fun D τ H ⟨F, L, s, O, g, fl, s', hr, q⟩ => by
  simp only [exec] at hr
  cases hr
  exact q .non τ H ⟨L, O, [], PE'.flat .refl g (.non 0)⟩
theorem snd_asg {tg e : Expr} {m : E} {t : T} {pos : Pos} (he : PE X e (tE W C m)) (hg : PG X tg (tG W C t)) (hs : PySem.swapsWithSole [tg] e pos.line X.env = pure false) (hw : PySem.swappedStores [tg] e X.env = pure none) (hp : plainT tg = true) : PS X (.Assign [tg] e pos) (tS W C (.asg t m)) :=
  PS.of (ps_asg he hg hs hw (by rw [each_cons hp]; rfl)) fun D τ H ⟨F, L, s, O, g, fl, s', hr, q⟩ => by
  simp only [exec] at hr
  obtain ⟨⟨p, s1⟩, h1, hr⟩ := bind_ok hr
  obtain ⟨s2, h2, hr⟩ := bind_ok hr
  cases hr
  exact ⟨F, L, s, O, g, _, h1, fun v H1 ⟨L1, O1, Ov, pe⟩ => ⟨p, F, L1, s1, O1, Ov, ⟨pe.g, pe.nd, pe.ap⟩, pe.r, _, h2, fun τ' H' pg => q τ' H' (pe.stored pg)⟩⟩
/-- y = [..] on one line -/
theorem snd_asgC {y : Expr} {e : Expr} {m : E} {i : Nat} {pos : Pos} (h : PS X (.Assign [y] e pos) (tAsg (tE W C m) (gName i))) : PS X (.Assign [y] e pos) (tS W C (.asg (.sl i) m)) := PS.of h fun D τ H ⟨F, L, s, O, g, fl, s', hr, q⟩ => by
  simp only [exec] at hr
  obtain ⟨⟨⟨d, k⟩, s1⟩, h1, hr⟩ := bind_ok hr
  obtain ⟨s2, h2, hr⟩ := bind_ok hr
  cases hr
  simp only [asT] at h2
  split at h2
  · rename_i hi
    cases h2
    exact ⟨F, L, s, O, g, _, h1, fun v H1 ⟨L1, O1, Ov, pe⟩ => q _ _ (pe.stored (Gd.store ⟨pe.g, pe.nd, pe.ap⟩ pe.r hi))⟩
  · cases h2
theorem snd_nilS : PSs X [] (tSs W C .nil) := PSs.imp pss_nil fun D τ H ⟨F, L, s, O, g, fl, s', hr, q⟩ => by
  simp only [execs] at hr
  cases hr
  exact q τ H ⟨L, O, .refl g⟩
theorem snd_consS {a : Stmt} {as : List Stmt} {m : S} {ms : Ss} (h1 : PS X a (tS W C m)) (h2 : PSs X as (tSs W C ms)) : PSs X (a :: as) (tSs W C (.cons m ms)) :=
  PSs.imp (pss_cons h1 h2) fun D τ H ⟨F, L, s, O, g, fl, s', hr, q⟩ => by
  simp only [execs] at hr
  obtain ⟨⟨r, s1⟩, h1, hr⟩ := bind_ok hr
  refine ⟨F, L, s, O, g, r, s1, h1, ?_⟩
  have in1 : ∀ i ∈ stS m, i ∈ stSs (.cons m ms) := fun i z => List.mem_append_left _ z
  have in2 : ∀ i ∈ stSs ms, i ∈ stSs (.cons m ms) := fun i z => List.mem_append_right _ z
  cases r with
  | nx => exact fun τ' H' ⟨L1, O1, p⟩ => ⟨F, L1, s1, O1, p.g, fl, s', hr, q.after p in1 in2⟩
  | br => cases hr; exact (q.less in1)
  | ct => cases hr; exact (q.less in1)
  | rt d k => cases hr; exact (q.less in1)
theorem wp_app {M : PySem.Model} {Γ : PySem.Ctx} {env : PySem.Env} {b : List Stmt} {Q : PySem.Flow → Pos → PySem.Shared → Prop} {E : PySem.Value → Pos → PySem.Shared → Prop} :
    ∀ (a : List Stmt) (p : Pos) (s : PySem.Shared), PySem.Sem.wp M Γ (PySem.execs a env) (fun f p' s' => match f with | .next => PySem.Sem.wp M Γ (PySem.execs b env) Q E p' s' | f => Q f p' s') E p s → PySem.Sem.wp M Γ (PySem.execs (a ++ b) env) Q E p s
  | [], p, s, h => h
  | st :: a, p, s, h => by
    rw [List.cons_append, PySem.execs_cons, PySem.Sem.wp_bind']
    rw [PySem.execs_cons, PySem.Sem.wp_bind'] at h
    refine PySem.Sem.wp_mono M Γ _ (fun f p' s' h' => ?_) (fun _ _ _ h' => h') _ _ h
    cases f with
    | next => exact wp_app a p' s' h'
    | ret v => exact h'
    | brk => exact h'
    | cont => exact h'
theorem pss_app {a b : List Stmt} {t u : TS} (h1 : PSs X a t) (h2 : PSs X b u) : PSs X (a ++ b) (fun D σ H => t { D with nx := u D } σ H) := by
  refine ⟨fun pins s σ H D I h => fun Γ p hΓ => wp_app a p s ?_⟩
  refine PySem.Sem.wp_mono _ Γ _ (fun f p' s' h' => ?_) (fun _ _ _ h' => h') _ _ (h1.run pins s σ H { D with nx := u D } I h Γ p hΓ)
  cases f with
  | next =>
    obtain ⟨σ', H', I', q⟩ := h'
    exact h2.run pins s' σ' H' D I' q Γ p' hΓ
  | ret v => exact h'
  | brk => exact h'
  | cont => exact h'
theorem RepS.froz {L : List Addr} {B B' : Addr → Prop} {H : Hp} (h1 : ∀ a, B' a → B a) : ∀ {σ τ O}, RepS W L B H σ τ O → (∀ a ∈ O, ¬ B' a) → RepS W L B' H (σ.map frz1) τ []
  | _, _, _, .nil, _ => .nil
  | _, _, _, .emp x h, hO => .emp x (RepS.froz h1 h hO)
  | _, _, _, .val h hs, hO => .val (h.frz h1 fun a m => hO a (List.mem_append_left _ m)) (RepS.froz h1 hs fun a m => hO a (List.mem_append_right _ m))
theorem Gd.froz {L F H s τ O} (g : Gd W L F H s τ O) : Gd W L F H s.froz τ [] where
  sl := RepS.froz (fun a b => b.elim .inl fun b => .inr (b.elim .inl (by simp))) g.sl fun a m b => by
    rcases b with b | b | b
    · exact (g.ap a b).2 m
    · exact g.LO a b m
    · cases b
  mu := g.mu
  nd := by simpa using g.ndL
  ap := fun a f => ⟨(g.ap a f).1, by simp⟩
  ft := g.ft
theorem bor_back {F L H O τ s is s1 τ1 L1 H1 O1} (g : Gd W L F H s τ O) (p : PZ' W F L H [] τ is s1 τ1 L1 H1 O1) : PostZ W F L H O τ is (s.back is s1.μ) τ1 H1 := by
  obtain ⟨O2, sub, gw⟩ := g.wipe is
  have old : ∀ a, a ∈ L1 → a ∈ L ∨ H a = none := p.st.newL
  have there : ∀ a ∈ O2, H a ≠ none := fun a m => (gw.sl.there a m).1
  have nL : ∀ a ∈ O2, a ∉ L := fun a m z => g.LO a z (sub a m)
  refine ⟨L1, O2, ⟨⟨p.st.pre, p.st.newL, fun a m => .inl (sub a (m.elim id (by simp))), p.st.kp.mono fun a m => .inl (m.elim id (by simp)), p.st.st⟩, ⟨?_, p.g.mu, ?_, fun a f => ⟨(p.g.ap a f).1, fun m => (g.ap a f).2 (sub a m)⟩, p.g.ft⟩, p.same, p.len⟩⟩
  · refine RepS.alt (τ := τ) ?_ p.len fun i => ?_
    · refine gw.sl.keep p.st.kp (fun a m => .inr (.inl (m.elim id (by simp)))) (fun a n b => ?_) (pre_get p.st.pre) fun a m z => nL a m (z.elim id (by simp))
      rcases b with b | b | b
      · exact .inl b
      · exact (old a b).elim (fun z => .inr (.inl z)) fun z => absurd z n
      · exact .inr (.inr b)
    · by_cases hi : i ∈ is
      · exact .inl ((swipe_get s is).1 i hi)
      · exact .inr (p.same i hi)
  · refine List.nodup_append.mpr ⟨p.g.ndL, gw.ndO, fun a ha b hb e => ?_⟩
    subst e
    exact (old a ha).elim (nL a hb) (there a hb)
theorem snd_bor {a as : List Stmt} {m ms : Ss} {n : Nat} (h1 : PSs X a (tSs W C m)) (h2 : PSs X as (tSs W C ms)) : PSs X (a ++ as) (tSs W C (.bor m n ms)) :=
  PSs.imp (pss_app h1 h2) fun D τ H ⟨F, L, s, O, g, fl, s', hr, q⟩ => by
  simp only [execs] at hr
  obtain ⟨⟨r, s1⟩, e1, hr⟩ := bind_ok hr
  refine ⟨F, L, s.froz, [], g.froz, r, s1, e1, ?_⟩
  have in1 : ∀ i ∈ stSs m, i ∈ stSs (.bor m n ms) := fun i z => List.mem_append_left _ z
  have in2 : ∀ i ∈ stSs ms, i ∈ stSs (.bor m n ms) := fun i z => List.mem_append_right _ z
  cases r with
  | nx =>
    intro τ' H' ⟨L1, O1, p⟩
    obtain ⟨L2, O2, p2⟩ := bor_back g p
    exact ⟨F, L2, _, O2, p2.g, fl, s', hr, q.after p2 in1 in2⟩
  | br =>
    cases hr
    intro τ' H' ⟨L1, O1, p⟩
    obtain ⟨L2, O2, p2⟩ := bor_back g p
    exact q τ' H' ⟨L2, O2, { p2 with same := fun i hi => p2.same i fun z => hi (in1 i z) }⟩
  | ct =>
    cases hr
    intro τ' H' ⟨L1, O1, p⟩
    obtain ⟨L2, O2, p2⟩ := bor_back g p
    exact q τ' H' ⟨L2, O2, { p2 with same := fun i hi => p2.same i fun z => hi (in1 i z) }⟩
  | rt d k =>
    cases hr
    intro v τ' H' ⟨L1, O1, Ov, p⟩
    exact q v τ' H' ⟨L1, O1, Ov, { p with st := ⟨p.st.pre, p.st.newL, fun a m => (p.st.newO a m).elim (by simp) .inr, p.st.kp.mono fun a m => .inl (m.elim id (by simp)), p.st.st⟩ }⟩
theorem snd_if {c : Expr} {a b : List Stmt} {k : E} {m n : Ss} {pos : Pos} (hc : PT X c (tBo W C k)) (ha : PSs X a (tSs W C m)) (hb : PSs X b (tSs W C n)) : PS X (.If c a b pos) (tS W C (.ifs k m n)) :=
  PS.of (ps_if hc ha hb) fun D τ H ⟨F, L, s, O, g, fl, s', hr, q⟩ => by
  simp only [exec] at hr
  obtain ⟨⟨x, s1⟩, h1, hr⟩ := bind_ok hr
  refine ⟨F, L, s, O, g, x, s1, h1, fun H1 ⟨L1, O1, p⟩ => ?_⟩
  cases x with
  | true =>
    simp only [if_true] at hr ⊢
    exact ⟨F, L1, s1, O1, p.g, fl, s', hr, q.after (is1 := []) (PZ'.of p) (by simp) fun i z => List.mem_append_left _ z⟩
  | false =>
    simp only [Bool.false_eq_true, if_false] at hr ⊢
    exact ⟨F, L1, s1, O1, p.g, fl, s', hr, q.after (is1 := []) (PZ'.of p) (by simp) fun i z => List.mem_append_right _ z⟩
/-! ### loops -/
theorem snd_for {tg iter : Expr} {body : List Stmt} {t : T} {it : I} {ms : Ss} {pos : Pos} (hp : PySem.PassesOwn (PySem.model X.prog X.w) X.A X.env X.xe) (hc : X.calm = true) (hi : PI X tg iter (tI W C it)) (hg : PG X tg (tG W C t)) (hb : PSs X body (tSs W C ms))
    (hs : ∀ x, PySem.foldedSetIterable iter X.env x = pure x) : PS X (.For tg iter body [] pos) (tS W C (.for_ t it ms)) :=
  PS.of (ps_for hp hc hi hg hb hs) fun D τ H ⟨F, L, s, O, g, fl, s', hr, q⟩ => by
  simp only [exec] at hr
  obtain ⟨⟨xs, s1⟩, h1, hr⟩ := bind_ok hr
  refine ⟨F, L, s, O, g, xs, s1, h1, fun J H1 L1 O1 p hJ => ?_⟩
  have is1 : ∀ i ∈ tgs t, i ∈ stS (.for_ t it ms) := fun i z => List.mem_append_left _ z
  have is2 : ∀ i ∈ stSs ms, i ∈ stS (.for_ t it ms) := fun i z => List.mem_append_right _ z
  refine ⟨fun i m τ2 H2 => m = xs.length - i ∧ i ≤ xs.length ∧ ∃ st L2 O2, loopF (fun d s => (asT C t (d, 0) s).bind fun s => execs C ms s) (xs.drop i) st = .ok (fl, s') ∧ PZ' W F L1 H1 O1 τ (stS (.for_ t it ms)) st τ2 L2 H2 O2,
    ⟨xs.length, by simp, Nat.zero_le _, s1, L1, O1, hr, .refl p.g⟩, ?_⟩
  rintro i m τ2 H2 ⟨rfl, hi, st, L2, O2, hl, z⟩
  have zz : PZ' W F L H O τ (stS (.for_ t it ms)) st τ2 L2 H2 O2 := (PZ'.of (is := []) p).trans z (by simp) fun _ m => m
  have hJ2 := hJ L2 H2 O2 [] z.st
  by_cases hlt : i < xs.length
  · refine .inr ?_
    have e : xs[i]? = some xs[i] := List.getElem?_eq_getElem hlt
    rw [List.drop_eq_getElem_cons hlt] at hl
    simp only [loopF] at hl
    obtain ⟨⟨r, s3⟩, ht, hl⟩ := bind_ok hl
    obtain ⟨s2, ht1, ht⟩ := bind_ok ht
    refine ⟨(hJ2.1 i _ e).1, fun τ3 H3 => (r = .nx ∨ r = .ct) ∧ ∃ L3 O3, PZ' W F L1 H1 O1 τ (stS (.for_ t it ms)) s3 τ3 L3 H3 O3, fun τ3 H3 ⟨e3, L3, O3, z3⟩ => ⟨xs.length - (i + 1), by omega, rfl, hlt, s3, L3, O3, ?_, z3⟩, fun x H3 hy => ?_⟩
    · rcases e3 with rfl | rfl <;> exact hl
    · obtain ⟨kp, th, hx⟩ := (hJ2.1 i _ e).2 x H3 hy
      have g3 := z.g.grow kp th
      refine ⟨(xs[i], 0), F, L2, st, O2, [], ⟨g3.weak fun a z => FU_nil.mp z, .nil, by simp⟩, hx L2 _ z.st.pre (fun a n y => ?_), s2, ht1, fun τ4 H4 pg => ?_⟩
      · rcases y with (y | y) | y | y
        · exact .inl y
        · cases y
        · exact (z.st.newL a y).elim (fun y => .inr (.inl y)) fun y => absurd y n
        · exact (z.st.newO a (.inl y)).elim (fun y => .inr (.inr y)) fun y => absurd y n
      · obtain ⟨L4, O4, pg⟩ := pg
        have z4 : PZ' W F L1 H1 O1 τ (stS (.for_ t it ms)) s2 τ4 L4 H4 O4 := by
          refine z.trans (is1 := stS (.for_ t it ms)) (is2 := tgs t) ⟨(Stp.of_keep kp th).trans (by simpa using pg.st) (by simp), pg.g, pg.same, pg.len⟩ (fun _ m => m) is1
        refine ⟨F, L4, s2, O4, z4.g, r, s3, ht, ?_⟩
        have zb : PZ' W F L H O τ (stS (.for_ t it ms)) s2 τ4 L4 H4 O4 := (PZ'.of (is := []) p).trans z4 (by simp) fun _ m => m
        cases r with
        | nx => exact fun τ5 H5 ⟨L5, O5, z5⟩ => ⟨.inl rfl, L5, O5, z4.trans z5 (fun _ m => m) is2⟩
        | ct => exact fun τ5 H5 ⟨L5, O5, z5⟩ => ⟨.inr rfl, L5, O5, z4.trans z5 (fun _ m => m) is2⟩
        | br => cases hl; exact fun τ5 H5 ⟨L5, O5, z5⟩ => q τ5 H5 ⟨L5, O5, zb.trans z5 (fun _ m => m) is2⟩
        | rt d k => cases hl; exact fun v τ5 H5 ⟨L5, O5, Ov, pe⟩ => q v τ5 H5 ⟨L5, O5, Ov, { pe with st := zb.st.trans pe.st fun x m => .inr m }⟩
  · have e : i = xs.length := by omega
    subst e
    rw [List.drop_length] at hl
    simp only [loopF] at hl
    cases hl
    exact .inl ⟨hJ2.2, q τ2 H2 ⟨L2, O2, zz⟩⟩
theorem snd_whl {c : Expr} {body : List Stmt} {k : E} {ms : Ss} {pos : Pos} (hp : PySem.PassesOwn (PySem.model X.prog X.w) X.A X.env X.xe) (hc : PT X c (tBo W C k)) (hb : PSs X body (tSs W C ms)) : PS X (.While c body [] pos) (tS W C (.whl k ms)) :=
  PS.of (ps_while hp hc hb) fun D τ H ⟨F, L, s, O, g, fl, s', hr, q⟩ => by
  simp only [exec] at hr
  refine ⟨fun m τ2 H2 => ∃ st L2 O2, loopW (fun s => bool1 (ev C k s)) (fun s => execs C ms s) m st = .ok (fl, s') ∧ PZ' W F L H O τ (stS (.whl k ms)) st τ2 L2 H2 O2, ⟨C.fu, s, L, O, hr, .refl g⟩, ?_⟩
  rintro m τ2 H2 ⟨st, L2, O2, hl, z⟩
  cases m with
  | zero => simp only [loopW] at hl; cases hl
  | succ n =>
    simp only [loopW] at hl
    obtain ⟨⟨b, s2⟩, h1, hl⟩ := bind_ok hl
    refine ⟨F, L2, st, O2, z.g, b, s2, h1, fun H3 ⟨L3, O3, pn⟩ => ?_⟩
    have z3 : PZ' W F L H O τ (stS (.whl k ms)) s2 τ2 L3 H3 O3 := z.trans (PZ'.of (is := []) pn) (fun _ m => m) (by simp)
    cases b with
    | true =>
      simp only [if_true] at hl ⊢
      obtain ⟨⟨r, s3⟩, h2, hl⟩ := bind_ok hl
      refine ⟨fun τ4 H4 => (r = .nx ∨ r = .ct) ∧ ∃ L4 O4, PZ' W F L H O τ (stS (.whl k ms)) s3 τ4 L4 H4 O4, fun τ4 H4 ⟨e4, L4, O4, z4⟩ => ⟨n, by omega, s3, L4, O4, ?_, z4⟩, F, L3, s2, O3, z3.g, r, s3, h2, ?_⟩
      · rcases e4 with rfl | rfl <;> exact hl
      · cases r with
        | nx => exact fun τ5 H5 ⟨L5, O5, z5⟩ => ⟨.inl rfl, L5, O5, z3.trans z5 (fun _ m => m) fun _ m => m⟩
        | ct => exact fun τ5 H5 ⟨L5, O5, z5⟩ => ⟨.inr rfl, L5, O5, z3.trans z5 (fun _ m => m) fun _ m => m⟩
        | br => cases hl; exact fun τ5 H5 ⟨L5, O5, z5⟩ => q τ5 H5 ⟨L5, O5, z3.trans z5 (fun _ m => m) fun _ m => m⟩
        | rt d k => cases hl; exact fun v τ5 H5 ⟨L5, O5, Ov, pe⟩ => q v τ5 H5 ⟨L5, O5, Ov, { pe with st := z3.st.trans pe.st fun x m => .inr m }⟩
    | false =>
      simp only [Bool.false_eq_true, if_false] at hl ⊢
      cases hl
      exact q τ2 H3 ⟨L3, O3, z3⟩
end
end MP
end
-- MPSn19
section
set_option maxRecDepth 100000
set_option maxHeartbeats 1000000
/-! Statements that store more; list(range(..)); a method of a temporary. -/
namespace MP
open PySem (Addr Expr Stmt Str Pos Keyword Scope)
open PySem.Spec
open L2
open PyProof.Rows hiding St
section
variable {W : Wd} {C : Cfg} {X : Cx}
theorem RepP.stepG {F : Addr → Prop} {L L1 : List Addr} {H H1 : Hp} {O O1 O1' O2 : List Addr} (st : Stp L H (O ++ O1) L1 H1 O1' []) (n1 : ∀ a ∈ O2, a ∉ L ∧ a ∉ O) (n2 : ∀ a ∈ O1, ∀ b ∈ O2, a ≠ b) :
    ∀ {ps vs P}, RepP W L (BB (FU F (O1 ++ O2)) L O) H ps vs P → (∀ a ∈ P, a ∈ O2) → RepP W L1 (BB (FU F O2) L1 O1') H1 ps vs P := by
  intro ps vs P h
  induction h with
  | nil => exact fun _ => .nil
  | @cons d k v ps vs A B r h ih =>
    intro hP
    refine .cons (r.keep st.kp (fun a m => ?_) (fun a n b => ?_) (pre_get st.pre) fun a m z => ?_) (ih fun a m => hP a (List.mem_append_right _ m))
    · rcases m with m | m
      · exact .inr (.inl m)
      · exact (List.mem_append.mp m).elim (fun z => .inr (.inr z)) fun z => .inl (.inr (List.mem_append_left _ z))
    · rcases b with (b | b) | b | b
      · exact .inl (.inl b)
      · exact .inl (.inr (List.mem_append_right _ b))
      · rcases st.newL a b with z | z
        · exact .inr (.inl z)
        · exact absurd z n
      · rcases st.newO a (.inl b) with z | z
        · exact (List.mem_append.mp z).elim (fun z => .inr (.inr z)) fun z => .inl (.inr (List.mem_append_left _ z))
        · exact absurd z n
    · have mo := hP a (List.mem_append_left _ m)
      rcases z with z | z
      · exact (n1 a mo).1 z
      · rcases List.mem_append.mp z with z | z
        · exact (n1 a mo).2 z
        · exact n2 a z a mo rfl
/-- several slots stored one behind the other -/
theorem Gd.stores {L : List Addr} {F : Addr → Prop} {H : Hp} : ∀ {is : List Nat} {ps : List (D × Nat)} {vs : List V} {O Ov : List Addr} {τ : L2.St} {s : Sta}, Pre W F L H O Ov τ s → RepP W L (BB (FU F Ov) L O) H ps vs Ov → is.length = ps.length → (∀ i ∈ is, i < s.σ.length) →
    PostG W F L H O Ov τ is ((is.zip ps).foldl (fun s q => s.put q.1 q.2) s) ((is.zip vs).foldl (fun τ q => τ.set q.1 (some q.2)) τ) H
  | [], [], vs, O, Ov, τ, s, p, r, _, _ => by
    cases r
    exact ⟨L, O, ⟨.sub fun a m => m.elim (fun m => List.mem_append_left _ m) (by simp), p.g.weak fun a f => .inl f, fun _ _ => rfl, rfl⟩⟩
  | [], _ :: _, _, _, _, _, _, _, _, hl, _ => by simp at hl
  | _ :: _, [], _, _, _, _, _, _, _, hl, _ => by simp at hl
  | i :: is, q :: ps, vs, O, Ov, τ, s, p, r, hl, hi => by
    cases r with
    | @cons d k v ps vs O1 O2 r rs =>
      have nd := List.nodup_append.mp p.nd
      have tr2 : ∀ a ∈ O2, H a ≠ none := fun a m => p.g.ft a (.inr (List.mem_append_right _ m))
      have fu : ∀ a, FU (FU F O2) O1 a ↔ FU F (O1 ++ O2) a := fun a => by
        unfold FU
        rw [List.mem_append]
        constructor
        · rintro ((h | h) | h)
          · exact .inl h
          · exact .inr (.inr h)
          · exact .inr (.inl h)
        · rintro (h | h | h)
          · exact .inl (.inl h)
          · exact .inr h
          · exact .inl (.inr h)
      have pre1 : Pre W (FU F O2) L H O O1 τ s := ⟨p.g.weak fun a h => (fu a).mp h, nd.1, fun a m f => f.elim (p.ap a (List.mem_append_left _ m)) fun m2 => nd.2.2 a m a m2 rfl⟩
      obtain ⟨L1, O1', g1⟩ := Gd.store pre1 (r.mono fun a _ b => b.elim (fun z => .inl ((fu a).mp z)) .inr) (hi i (List.mem_cons_self ..))
      have rs' := RepP.stepG (F := F) g1.st (fun a m => p.g.ap a (.inr (List.mem_append_right _ m))) nd.2.2 rs fun a m => m
      exact PostG.trans (is := [i]) (is2 := is) g1 (Gd.stores ⟨g1.g, nd.2.1, fun a m => p.ap a (List.mem_append_right _ m)⟩ rs' (by simpa using hl) fun j hj => by
        have := hi j (List.mem_cons_of_mem _ hj)
        simpa [Sta.put] using this) (fun a m => List.mem_append_left _ m) (fun a m => List.mem_append_right _ m) tr2
theorem Stp.stored {F L H O τ H1 L1 O1 Ov is s2 τ2 H2} (st : Stp L H O L1 H1 O1 Ov) (b : PostG W F L1 H1 O1 Ov τ is s2 τ2 H2) : PostZ W F L H O τ is s2 τ2 H2 := by
  obtain ⟨L2, O2, b⟩ := b
  have old : ∀ x, x ∈ O1 ++ Ov → x ∈ O ∨ H x = none := fun x m => st.newO x (List.mem_append.mp m)
  refine ⟨L2, O2, ⟨⟨st.pre.trans b.st.pre, fun x m => (b.st.newL x m).elim (st.newL x) fun z => .inr (Classical.byContradiction fun q => st.st x q z), fun x m => (b.st.newO x m).elim (old x) fun z => .inr (Classical.byContradiction fun q => st.st x q z), ?_, fun x z => b.st.st x (st.st x z)⟩, b.g, b.same, b.len⟩⟩
  refine st.kp.trans b.st.kp (fun _ z => z) fun x z => ?_
  rcases z with z | z
  · exact (st.newL x z).elim (fun z => .inl (.inl z)) .inr
  · exact (old x z).elim (fun z => .inl (.inr z)) .inr
/-- a, b = .. -/
theorem snd_par2 {x y : Str} {a b : Expr} {i j : Nat} {ms : Es} {px py pt pos : Pos} {kt k2 pt2} (hc : X.calm = true) (hN : X.N.Nodup) (hi : X.N[i]? = some x) (hj : X.N[j]? = some y) (hij : i ≠ j)
    (hx : X.env.scope.names.lookup x = some .local) (hy : X.env.scope.names.lookup y = some .local) (ha : PA X [a, b] (tP W C ms))
    (hw : PySem.swappedStores [.Tuple [.Name x px, .Name y py] kt pt] (.Tuple [a, b] k2 pt2) X.env = pure (some [x, y]))
    (hs : PySem.swapsWithSole [.Tuple [.Name x px, .Name y py] kt pt] (.Tuple [a, b] k2 pt2) pos.line X.env = pure false) :
    PS X (.Assign [.Tuple [.Name x px, .Name y py] kt pt] (.Tuple [a, b] k2 pt2) pos) (tS W C (.par [i, j] ms)) :=
  PS.of (ps_par hc hN hi hj hij hx hy ha hw hs) fun D τ H ⟨F, L, s, O, g, fl, s', hr, q⟩ => by
  simp only [exec] at hr
  obtain ⟨⟨ps, s1⟩, h1, hr⟩ := bind_ok hr
  split at hr
  · rename_i hh
    cases hr
    refine ⟨F, L, s, O, g, ps, s1, h1, fun vs H1 ⟨L1, O1, Ov, st, g1, rp, nd, ap⟩ => ?_⟩
    have pg := Gd.stores ⟨g1, nd, ap⟩ rp hh.1 (fun i m => by simpa using List.all_eq_true.mp hh.2.1 i m)
    have hl := rp.length
    have hq : _ = ps.length := hh.1
    match vs, hl with
    | [v, w], _ => exact ⟨v, w, rfl, q _ _ (Stp.stored st pg)⟩
    | [], hl => have z := hq.trans hl; simp at z
    | [_], hl => have z := hq.trans hl; simp at z
    | _ :: _ :: _ :: _, hl => have z := hq.trans hl; simp at z
  · cases hr
theorem snd_par3 {x y z : Str} {a b c : Expr} {i j l : Nat} {ms : Es} {px py pz pt pos : Pos} {kt k2 pt2} (hc : X.calm = true) (hN : X.N.Nodup) (hi : X.N[i]? = some x) (hj : X.N[j]? = some y) (hl : X.N[l]? = some z) (hij : i ≠ j) (hil : i ≠ l) (hjl : j ≠ l)
    (hx : X.env.scope.names.lookup x = some .local) (hy : X.env.scope.names.lookup y = some .local) (hz : X.env.scope.names.lookup z = some .local) (ha : PA X [a, b, c] (tP W C ms))
    (hw : PySem.swappedStores [.Tuple [.Name x px, .Name y py, .Name z pz] kt pt] (.Tuple [a, b, c] k2 pt2) X.env = pure (some [x, y, z]))
    (hs : PySem.swapsWithSole [.Tuple [.Name x px, .Name y py, .Name z pz] kt pt] (.Tuple [a, b, c] k2 pt2) pos.line X.env = pure false) :
    PS X (.Assign [.Tuple [.Name x px, .Name y py, .Name z pz] kt pt] (.Tuple [a, b, c] k2 pt2) pos) (tS W C (.par [i, j, l] ms)) :=
  PS.of (ps_par3 hc hN hi hj hl hij hil hjl hx hy hz ha hw hs) fun D τ H ⟨F, L, s, O, g, fl, s', hr, q⟩ => by
  simp only [exec] at hr
  obtain ⟨⟨ps, s1⟩, h1, hr⟩ := bind_ok hr
  split at hr
  · rename_i hh
    cases hr
    refine ⟨F, L, s, O, g, ps, s1, h1, fun vs H1 ⟨L1, O1, Ov, st, g1, rp, nd, ap⟩ => ?_⟩
    have pg := Gd.stores ⟨g1, nd, ap⟩ rp hh.1 (fun i m => by simpa using List.all_eq_true.mp hh.2.1 i m)
    have hl := rp.length
    have hq : _ = ps.length := hh.1
    match vs, hl with
    | [v, w, u], _ => exact ⟨v, w, u, rfl, q _ _ (Stp.stored st pg)⟩
    | [], hl => have z := hq.trans hl; simp at z
    | [_], hl => have z := hq.trans hl; simp at z
    | [_, _], hl => have z := hq.trans hl; simp at z
    | _ :: _ :: _ :: _ :: _, hl => have z := hq.trans hl; simp at z
  · cases hr
theorem PE'.toZ {F L H O τ p s1 v L1 H1 O1 Ov is} (a : PE' W F L H O τ p s1 v L1 H1 O1 Ov) : PZ' W F L H O τ is s1 τ L1 H1 O1 := .of a.drop
/-- x += .. -/
theorem snd_aug {x : Str} {e : Expr} {m : E} {i : Nat} {op : BO} {ppos pos : Pos} (hop : op = .add ∨ op = .sub) (hN : X.N.Nodup) (hi : X.N[i]? = some x) (hx : Loc X.env.scope x) (he : PE X e (tE W C m)) (hf : X.fn x = true ∨ X.env.scope.names.lookup x = some .local) :
    PS X (.AugAssign (.Name x ppos) (bop op) e pos) (tS W C (.aug i op m)) := by
  have key : ∀ {f : Int → Int → Int}, PIp X (bop op) (ipI f) → (∀ a b r, binD op (.int a) (.int b) = some r → r = (.int (f a b), 0)) → PS X (.AugAssign (.Name x ppos) (bop op) e pos) (tS W C (.aug i op m)) := fun {f} hp hb =>
    PS.of (ps_aug hN hi hx he hp hf) fun D τ H ⟨F, L, s, O, g, fl, s', hr, q⟩ => by
    simp only [exec] at hr
    obtain ⟨⟨d0, k0⟩, h0, hr⟩ := bind_ok hr
    obtain ⟨⟨⟨d, k⟩, s1⟩, h1, hr⟩ := bind_ok hr
    obtain ⟨⟨d2, k2⟩, h2, hr⟩ := bind_ok hr
    obtain ⟨r, h3, hr⟩ := bind_ok hr
    cases hr
    obtain ⟨v0, P0, R0, e1, _⟩ := g.slot (get_ok h0)
    have h2 := get_ok h2
    split at h3
    · rename_i a b ea eb
      simp only at ea eb
      subst ea; subst eb
      obtain rfl := hb _ _ _ (ofO_ok h3)
      refine ⟨v0, e1, F, L, s, O, g, _, h1, fun v H1 ⟨L1, O1, Ov, pe⟩ => ?_⟩
      have gw := pe.drop.g
      obtain ⟨v', P', R', e2, r2, _⟩ := gw.slot h2
      rw [e1] at e2
      cases e2
      have z1 := vw_int r2
      have z2 := vw_int pe.r
      subst z1; subst z2
      refine ⟨a, b, rfl, rfl, q _ _ ?_⟩
      have hlen : i < s1.σ.length := (List.getElem?_eq_some_iff.mp h2).1
      have pd := pe.drop
      have pe0 : PE' W F L H O τ (.int (f a b), 0) s1 (.int (f a b)) L1 H1 O1 [] := PE'.flat pd.st pd.g (.int 0 _)
      exact pe0.stored (Gd.store ⟨pe0.g, .nil, by simp⟩ pe0.r hlen)
    · cases h3
  rcases hop with rfl | rfl
  · exact key ip_add fun a b r h => by simp [binD] at h; exact h.symm
  · exact key ip_sub fun a b r h => by simp [binD] at h; exact h.symm
end
end MP
end
-- MPSn20
section
set_option maxRecDepth 100000
set_option maxHeartbeats 1000000
/-! self.f = .., a method of a temporary, list(range(..)). -/
namespace MP
open PySem (Addr Expr Stmt Str Pos Keyword Scope)
open PySem.Spec
open L2
open PyProof.Rows hiding St
section
variable {W : Wd} {C : Cfg} {X : Cx}
theorem putF_new {f : Str} {v : V} : ∀ {fs : List (Str × V)}, f ∉ fs.map (·.1) → putF f v fs = fs ++ [(f, v)]
  | [], _ => rfl
  | (g, x) :: r, h => by
    simp only [List.map_cons, List.mem_cons, not_or] at h
    unfold putF
    rw [if_neg (Ne.symm h.1), putF_new h.2]
    rfl
theorem zip_snoc {α β : Type} : ∀ {xs : List α} {ys : List β} (x : α) (y : β), xs.length = ys.length → (xs ++ [x]).zip (ys ++ [y]) = xs.zip ys ++ [(x, y)]
  | [], [], _, _, _ => rfl
  | [], _ :: _, _, _, h => by simp at h
  | _ :: _, [], _, _, h => by simp at h
  | a :: xs, b :: ys, x, y, h => by simp [zip_snoc x y (by simpa using h : xs.length = ys.length)]
theorem zip_fst {α β : Type} : ∀ {xs : List α} {ys : List β}, xs.length = ys.length → (xs.zip ys).map (·.1) = xs
  | [], [], _ => rfl
  | [], _ :: _, h => by simp at h
  | _ :: _, [], h => by simp at h
  | a :: xs, b :: ys, h => by simp [zip_fst (by simpa using h : xs.length = ys.length)]
/-- self.f = .. in an __init__ -/
theorem snd_setf {o e : Expr} {m : E} {c f : Nat} {fn : Str} {pos pos' : Pos} (T : CF X.K W) (hc : W.ok c = true) (hf : (W.flds c)[f]? = some fn) (ho : PE X o (tVar 0)) (he : PE X e (tE W C m)) (hs : PySem.swapsWith e (some (.Attribute o fn pos')) pos.line X.env = pure false) :
    PS X (.Assign [.Attribute o fn pos'] e pos) (tS W C (.setf c f m)) :=
  PS.of (ps_fld ho he hs) fun D τ H ⟨F, L, s, O, g, fl, s', hr, q⟩ => by
  simp only [exec] at hr
  obtain ⟨⟨⟨d, k⟩, s1⟩, h1, hra⟩ := bind_ok hr
  obtain ⟨⟨d0, k0⟩, h2, hrb⟩ := bind_ok hra
  clear hr hra
  have h2 := get_ok h2
  obtain ⟨c', fs, rfl⟩ : ∃ c fs, d0 = .ins c fs := by cases d0 <;> first | exact ⟨_, _, rfl⟩ | (simp only [reduceCtorEq] at hrb)
  cases k0 with
  | zero => simp only [reduceCtorEq] at hrb
  | succ k0 =>
    simp only at hrb
    split at hrb
    · rename_i hh
      obtain ⟨rfl, rfl, hlt⟩ := hh
      cases hrb
      refine ⟨F, L, s, O, g, _, h1, fun v H1 ⟨L1, O1, Ov, pe⟩ => ?_⟩
      have pd := pe.drop
      have rd := pe.fz0
      obtain ⟨w, P, R, e1, e2, e3, e4⟩ := pd.g.rewrite h2
      obtain ⟨_, a, dx, ps, vs, rfl, ha, hps, hle, hs0, z | ⟨_, rfl⟩⟩ := e2.ins_inv
      · exact absurd z.1 (by simp)
      have aO : a ∈ O1 := e3.mem_iff.mpr (List.mem_append_left _ (by simp))
      have hlen : fs.length < (W.flds c).length := (List.getElem?_eq_some_iff.mp hf).1
      have hzl : ((W.flds c).take fs.length).length = vs.length := by rw [List.length_take, ← hs0.length]; omega
      have hnew : putF fn v ps = ((W.flds c).take (fs.length + 1)).zip (vs ++ [v]) := by
        have ht : (W.flds c).take (fs.length + 1) = (W.flds c).take fs.length ++ [fn] := by
          rw [List.take_add_one, hf]; rfl
        rw [ht, zip_snoc _ _ hzl, ← hps]
        refine putF_new ?_
        rw [hps, zip_fst hzl]
        intro m
        have nd := (T.fnd c hc).1
        obtain ⟨j, hj, e⟩ := List.getElem_of_mem m
        rw [List.length_take] at hj
        rw [List.getElem_take] at e
        obtain ⟨hi, e'⟩ := List.getElem?_eq_some_iff.mp hf
        have := (List.getElem_inj nd).mp (e.trans e'.symm)
        omega
      refine ⟨_, e1, a, W.cls c, dx, ps, rfl, ha, T.cls c hc, T.fld c fn hc (List.mem_of_getElem? hf), ?_, ?_⟩
      · rw [hps, List.length_zip, hzl, Nat.min_self, ← hs0.length]; exact hlt
      · rw [hnew]
        have kp : Keep (fun b => b = a) H1 (upd H1 a (.ins (W.cls c) dx (((W.flds c).take (fs.length + 1)).zip (vs ++ [v])))) := Keep.set rfl ha (by simp) (by simp)
        have aF : ¬ F a := fun z => (pd.g.ap a z).2 aO
        have toB : ∀ b, BB F L1 ([a] ++ R) b → BB F L1 O1 b := fun b z => z.elim .inl fun z => z.elim (fun z => .inr (.inl z)) fun z => .inr (.inr (e3.mem_iff.mpr z))
        obtain ⟨O', g', hm⟩ := e4 (F' := F) (d' := .ins c (fs ++ [d])) (k' := 1) (P' := [a]) kp (fun b e => by subst e; simp) (fun b z => there_upd z) (fun b z => .inl z) (by simp) (fun b z => .inl z) (fun b z => by simp at z; subst z; exact aF)
          (.insS hc upd_same (by rw [List.length_append]; rfl) (by rw [List.length_append]; simp; omega) (Reps.append0 (hs0.keep kp (fun b e => by subst e; exact .inr (.inr aO)) (fun b _ z => toB b z) (fun _ _ e => e) (by simp))
            (.cons (rd.keep kp (fun b e => by subst e; exact .inr (.inr aO)) (fun b _ z => toB b z) (fun _ _ e => e) (by simp)) (.nil 0))))
        refine q _ _ ⟨L1, O', ⟨pd.st.behind (kp.mono fun b e => by subst e; exact aO) (fun b z => there_upd z) fun b z => .inl (z.elim (fun z => (hm b z).elim (fun z => by simp at z; subst z; exact aO) fun z => e3.mem_iff.mpr (List.mem_append_right _ z)) (by simp)), g', fun _ _ => rfl, rfl⟩⟩
    · cases hrb
/-- xs.append(..) of a list that nobody else has -/
theorem snd_mtt {x e : Expr} {a : E} {ms : Es} {apos pos : Pos} (hx : PE X x (tE W C a)) (ha : PA X [e] (tP W C ms)) (hbase : PySem.attributeBase x "append" X.env (PySem.eval x X.env) = PySem.eval x X.env) (hes : plainE e = true)
    (hl : (apos.endLine == pos.line) = true) : PE X (.Call (.Attribute x "append" apos) [e] [] pos) (tE W C (.mtt .app a ms)) := by
  have hes' : ∀ e' ∈ [e], plainE e' = true := by simpa using hes
  refine PE.imp (pe_bm PySem.F.plainAttrs_list (slot_any .app) (type_any .app) (mt_any .app) hx ha hbase (by rw [back_all (star_len hes')]; rfl) hl (star_cons hes) rfl) fun τ H Q ⟨F, L, s, O, g, r, hr, q⟩ => ?_
  simp only [ev] at hr
  obtain ⟨⟨⟨d, k⟩, s1⟩, h1, hr⟩ := bind_ok hr
  obtain ⟨xs, rfl⟩ : ∃ xs, d = .lst xs := by cases d <;> first | exact ⟨_, rfl⟩ | (simp only [reduceCtorEq] at hr)
  cases k with
  | zero => simp only [reduceCtorEq] at hr
  | succ k =>
    simp only at hr
    obtain ⟨⟨qs, s2⟩, h2, hr⟩ := bind_ok hr
    obtain ⟨p1, rfl⟩ : ∃ p, qs = [p] := by
      match qs, hr with
      | [p], _ => exact ⟨p, rfl⟩
      | [], hr => simp only [reduceCtorEq] at hr
      | _ :: _ :: _, hr => simp only [reduceCtorEq] at hr
    simp only at hr
    split at hr
    · rename_i hlt
      cases hr
      refine ⟨F, L, s, O, g, _, h1, fun v H1 ⟨L1, O1, Ov, pe⟩ => ?_⟩
      rcases pe.r.lst_inv with ⟨z, _⟩ | ⟨k', a', vs, O', e0, e1, rfl, ex, hs⟩
      · cases z
      refine ⟨.inl ⟨rfl, vs, .inl (.inl ex)⟩, FU F Ov, L1, s1, O1, pe.g, _, s2, h2, fun us H2 ⟨L2, O2, Ov2, st, g2, rp, nd, ap⟩ => ?_⟩
      have aOv : a' ∈ Ov := by rw [e1]; exact List.mem_cons_self ..
      have ex2 : H2 a' = some (.lst vs) := st.kp.any _ _ ex fun z => z.elim (pe.g.ap a' (.inr aOv)).1 (pe.g.ap a' (.inr aOv)).2
      cases rp with
      | @cons d k w ps vs2 A B r rs =>
        cases rs
        refine ⟨a', vs, vs ++ [w], .non, rfl, ex2, ⟨w, rfl, by rw [← lim_eq, ← hs.length]; exact hlt, rfl, rfl⟩, q _ _ ?_⟩
        have kp : Keep (fun b => b = a') H2 (upd H2 a' (.lst (vs ++ [w]))) := Keep.set rfl ex2 (by simp) (by simp)
        have g3 := (g2.frame kp (fun b e => by subst e; exact .inl (.inr aOv)) fun b z => there_upd z).weak (F' := F) fun b z => .inl (.inl z)
        have sa := pe.st.trans st (P := Ov) fun x m => .inl m
        refine ⟨L2, O2, [], PE'.flat (sa.behind2 (kp.mono fun b e => by subst e; exact .inr aOv) (fun b z => there_upd z) fun b z => z.elim .inl (by simp)) g3 (.non 0)⟩
    · cases hr
theorem rg_ok {a b : Int} {xs : List D} (h : rngD a b (b - a).toNat = some xs) : RgOk a b ∧ ∀ L B H, Reps W L B H 0 xs (rgV a b) [] := by
  obtain ⟨⟨h1, h2, h3, h4, h5⟩, rfl⟩ := rngD_ok h
  refine ⟨⟨h1, h2, h3, h4, h5⟩, fun L B H => ?_⟩
  unfold rgV
  generalize List.range (b - a).toNat = l
  induction l with
  | nil => exact .nil 0
  | cons n l ih => exact Reps.mk0 (.int 0 _) ih
/-- list(range(n)), tuple(range(n)) -/
theorem snd_itl1 {e : Expr} {m : E} {tp : Bool} {p p2 pos pos2 : Pos} (hc : X.calm = true) (hg : Gl X (if tp then "tuple" else "list")) (hm : X.mg (if tp then "tuple" else "list") = none) (hg2 : Gl X "range") (hm2 : X.mg "range" = none) (he : PE X e (tE W C m)) (hpl : plainE e = true) :
    PE X (.Call (.Name (if tp then "tuple" else "list") p) [.Call (.Name "range" p2) [e] [] pos2] [] pos) (tE W C (.itl tp (.rng1 m))) := by
  have pr := prg_1 (p := p2) (pos := pos2) hg2 hm2 he (star_cons hpl)
  cases tp with
  | false =>
    refine PE.imp (pe_listRg hc hg hm pr rfl) fun τ H Q ⟨F, L, s, O, g, r, hr, q⟩ => ?_
    simp only [ev, evI] at hr
    obtain ⟨⟨xs, s1⟩, h1, hr⟩ := bind_ok hr
    obtain ⟨⟨⟨d, k⟩, s2⟩, h2, h1⟩ := bind_ok h1
    obtain ⟨j, h3, h1⟩ := bind_ok h1
    obtain ⟨ys, h4, h1⟩ := bind_ok h1
    cases h1
    have h3 := ofO_ok h3
    have h4 := ofO_ok h4
    simp only at hr
    split at hr
    · cases hr
      cases d <;> simp only [toInt, reduceCtorEq] at h3
      cases h3
      refine ⟨F, L, s, O, g, _, h2, fun v H1 ⟨L1, O1, Ov, pe⟩ => ?_⟩
      have e := vw_int pe.r
      subst e
      obtain ⟨h5, h6⟩ := rg_ok (W := W) (a := 0) (by simpa using h4)
      exact ⟨_, rfl, h5, fun q' hq => q _ _ (PostE.new pe.drop (.lst hq (h6 _ _ _)))⟩
    · cases hr
  | true =>
    refine PE.imp (pe_tupRg hc hg hm pr rfl) fun τ H Q ⟨F, L, s, O, g, r, hr, q⟩ => ?_
    simp only [ev, evI] at hr
    obtain ⟨⟨xs, s1⟩, h1, hr⟩ := bind_ok hr
    obtain ⟨⟨⟨d, k⟩, s2⟩, h2, h1⟩ := bind_ok h1
    obtain ⟨j, h3, h1⟩ := bind_ok h1
    obtain ⟨ys, h4, h1⟩ := bind_ok h1
    cases h1
    have h3 := ofO_ok h3
    have h4 := ofO_ok h4
    simp only at hr
    split at hr
    · cases hr
      cases d <;> simp only [toInt, reduceCtorEq] at h3
      cases h3
      refine ⟨F, L, s, O, g, _, h2, fun v H1 ⟨L1, O1, Ov, pe⟩ => ?_⟩
      have e := vw_int pe.r
      subst e
      obtain ⟨h5, h6⟩ := rg_ok (W := W) (a := 0) (by simpa using h4)
      exact ⟨_, rfl, h5, fun q' hq => q _ _ (PostE.new pe.drop (.tup hq (h6 _ _ _)))⟩
    · cases hr
end
end MP
end
-- MPSn21
section
set_option maxRecDepth 100000
set_option maxHeartbeats 1000000
/-! ==, !=, is, in; a chain of two. -/
namespace MP
open PySem (Addr Expr Stmt Str Pos Keyword Scope PyData)
open PySem.Spec
open L2
open PyProof.Rows hiding St
section
variable {W : Wd} {C : Cfg} {X : Cx}
theorem cmp_eq {eqn : Nat → Nat} {d e : D} {r : Bool} (h : cmpD eqn .eq d e = some r) : (∃ a b, d = .str a ∧ e = .str b ∧ r = decide (a = b)) ∨ eqD eqn d e = some r := by
  cases d <;> cases e <;> simp only [MP.cmpD, Option.some.injEq] at h <;> first | exact .inr h | exact .inl ⟨_, _, rfl, rfl, h.symm⟩
theorem cmp_ne {eqn : Nat → Nat} {d e : D} {r : Bool} (h : cmpD eqn .ne d e = some r) : (∃ a b, d = .str a ∧ e = .str b ∧ r = !decide (a = b)) ∨ (eqD eqn d e).map (!·) = some r := by
  cases d <;> cases e <;> simp only [MP.cmpD, Option.some.injEq] at h <;> first | exact .inr h | exact .inl ⟨_, _, rfl, rfl, h.symm⟩
theorem vw_str' {L : List Addr} {B : Addr → Prop} {H : Hp} {k O} {a : Str} {v : V} (h : Rep W L B H k (.str a) v O) : v = .str a := by cases h; rfl
theorem op_eq_d {eqn : Nat → Nat} (hu : X.A.units + 64 < PySem.cLine) : OpR X (PySem.compareOp .Eq) (rCmp W eqn .eq) := by
  intro pins s σ H x y v u Q I rx ry ⟨L, d, e, r, hd, he, hb, q⟩
  rcases cmp_eq hb with ⟨a, b, rfl, rfl, rfl⟩ | hb
  · have e1 := vw_str' hd
    have e2 := vw_str' he
    subst e1 e2
    exact op_eq pins s σ H _ _ v u Q I rx ry ⟨rfl, by
      have : decide (V.str a = V.str b) = decide (a = b) := by simp
      rw [this]; exact q⟩
  · unfold eqD at hb
    split at hb
    · rename_i hh
      cases hb
      simp only [Bool.and_eq_true] at hh
      exact op_eqD hu pins s σ H x y v u Q I rx ry ⟨toPy d, toPy e, hd.dp (PySem.SeqAt.canLay_of_shaped hh.1), he.dp (PySem.SeqAt.canLay_of_shaped hh.2), hh.1, hh.2, q⟩
    · cases hb
theorem op_ne_d {eqn : Nat → Nat} (hu : X.A.units + 64 < PySem.cLine) : OpR X (PySem.compareOp .NotEq) (rCmp W eqn .ne) := by
  intro pins s σ H x y v u Q I rx ry ⟨L, d, e, r, hd, he, hb, q⟩
  rcases cmp_ne hb with ⟨a, b, rfl, rfl, rfl⟩ | hb
  · have e1 := vw_str' hd
    have e2 := vw_str' he
    subst e1 e2
    exact op_ne pins s σ H _ _ v u Q I rx ry ⟨rfl, by
      have : (!decide (V.str a = V.str b)) = !decide (a = b) := by simp
      rw [this]; exact q⟩
  · unfold eqD at hb
    split at hb
    · rename_i hh
      cases hb
      simp only [Bool.and_eq_true] at hh
      exact op_neD hu pins s σ H x y v u Q I rx ry ⟨toPy d, toPy e, hd.dp (PySem.SeqAt.canLay_of_shaped hh.1), he.dp (PySem.SeqAt.canLay_of_shaped hh.2), hh.1, hh.2, q⟩
    · cases hb
theorem Rep.ne_non {L : List Addr} {B : Addr → Prop} {H : Hp} {k d v O} (r : Rep W L B H k d v O) (h1 : d ≠ .non) (h2 : d ≠ .junk) : v ≠ .non := by
  cases r <;> first | exact absurd rfl h1 | exact absurd rfl h2 | simp
theorem is_cases {d e : D} {r : Bool} (h : isD d e = some r) : (e = .non ∧ d ≠ .junk ∧ (r = true ↔ d = .non)) ∨ ∃ a b, d = .bl a ∧ e = .bl b ∧ r = (a == b) := by
  cases d <;> cases e <;> simp only [isD, reduceCtorEq, Option.some.injEq] at h <;> first
    | exact .inr ⟨_, _, rfl, rfl, h.symm⟩
    | (subst h; exact .inl ⟨rfl, by simp, by simp⟩)
theorem op_is_d {eqn : Nat → Nat} : OpR X (PySem.compareOp .Is) (rCmp W eqn .is_) := by
  intro pins s σ H x y v u Q I rx ry ⟨L, d, e, r, hd, he, hb, q⟩
  simp only [MP.cmpD] at hb
  rcases is_cases hb with ⟨rfl, h1, h2⟩ | ⟨a, b, rfl, rfl, rfl⟩
  · have ey := vw_non he
    subst ey
    refine op_isN pins s σ H x .non v u Q I rx ry ⟨rfl, ?_⟩
    have er : decide (x = V.non) = r := by
      by_cases hn : d = .non
      · subst hn
        rw [vw_non hd, h2.mpr rfl]; rfl
      · rw [show (decide (x = V.non)) = false from decide_eq_false (hd.ne_non hn h1)]
        cases r with
        | false => rfl
        | true => exact absurd (h2.mp rfl) hn
    rw [er]; exact q
  · rw [vw_bl hd] at rx
    rw [vw_bl he] at ry
    exact op_is_bl pins s σ H _ _ v u Q I rx ry ⟨a, b, rfl, rfl, by
      have : decide (a = b) = (a == b) := by cases a <;> cases b <;> rfl
      rw [this]; exact q⟩
theorem op_isn_d {eqn : Nat → Nat} : OpR X (PySem.compareOp .IsNot) (rCmp W eqn .isn) := by
  intro pins s σ H x y v u Q I rx ry ⟨L, d, e, r, hd, he, hb, q⟩
  simp only [MP.cmpD, Option.map_eq_some_iff] at hb
  obtain ⟨r', hb, rfl⟩ := hb
  rcases is_cases hb with ⟨rfl, h1, h2⟩ | ⟨a, b, rfl, rfl, rfl⟩
  · have ey := vw_non he
    subst ey
    refine op_notN pins s σ H x .non v u Q I rx ry ⟨rfl, ?_⟩
    have er : decide (x = V.non) = r' := by
      by_cases hn : d = .non
      · subst hn
        rw [vw_non hd, h2.mpr rfl]; rfl
      · rw [show (decide (x = V.non)) = false from decide_eq_false (hd.ne_non hn h1)]
        cases r' with
        | false => rfl
        | true => exact absurd (h2.mp rfl) hn
    rw [er]; exact q
  · rw [vw_bl hd] at rx
    rw [vw_bl he] at ry
    exact op_isnot_bl pins s σ H _ _ v u Q I rx ry ⟨a, b, rfl, rfl, by
      have : decide (a = b) = (a == b) := by cases a <;> cases b <;> rfl
      rw [this]; exact q⟩
theorem flat_view {L H d x} (h : Rep W L no H 0 d x []) (f : flatK d = true) : flatV x = true := by
  cases h <;> first | rfl | (simp [flatK] at f)
theorem eqF_eq {L H d e x y} (h : Rep W L no H 0 d x []) (h2 : Rep W L no H 0 e y []) (f : flatK d = true) (f2 : flatK e = true) : eqV x y = MP.eqF d e := by
  cases h <;> simp [flatK] at f <;> cases h2 <;> simp [flatK] at f2 <;> rfl
theorem in_view {L : List Addr} {H : Hp} {x : V} {d : D} (hx : Rep W L no H 0 d x []) (fx : flatK d = true) : ∀ {ds : List D} {vs : List V}, Reps W L no H 0 ds vs [] → ds.all flatK = true → vs.all flatV = true ∧ inV x vs = ds.any fun y => MP.eqF y d
  | [], vs, h, _ => by rw [h.nil_inv]; exact ⟨rfl, rfl⟩
  | e :: ds, vs, h, f => by
    obtain ⟨v, vs', rfl, r, hs⟩ := h.cons0
    rw [List.all_cons, Bool.and_eq_true] at f
    obtain ⟨h1, h2⟩ := in_view hx fx hs f.2
    refine ⟨by rw [List.all_cons, flat_view r f.1, h1]; rfl, ?_⟩
    show (eqV v x || inV x vs') = _
    rw [h2, eqF_eq r hx f.1 fx, List.any_cons]
theorem in_cases {d : D} {xs : List D} {r : Bool} (h : inD d xs = some r) : flatK d = true ∧ xs.all flatK = true ∧ r = xs.any fun y => MP.eqF y d := by
  unfold inD at h
  split at h
  · rename_i hh
    cases h
    simp only [Bool.and_eq_true] at hh
    exact ⟨hh.1, hh.2, rfl⟩
  · cases h
theorem in_seq {L H d e x y r neg} {Q : VK} (hK : W.K = X.K) (hd : Rep W L no H 0 d x []) (he : Rep W L no H 0 e y []) (hb : (match e with | .lst ys => inD d ys | .tup ys => inD d ys | _ => none) = some r) (q : Q (.bl (if neg then !r else r)) H) : rIn X.K neg x y H Q := by
  have main : ∀ {a vs xs}, Reps W L no H 0 xs vs [] → y = .ref a → (SqL X.K H a vs ∨ SqT X.K H a vs) → inD d xs = some r → rIn X.K neg x y H Q := by
    intro a vs xs hs ey hq hi
    obtain ⟨f1, f2, rfl⟩ := in_cases hi
    obtain ⟨h1, h2⟩ := in_view hd f1 hs f2
    exact ⟨a, vs, ey, hq, flat_view hd f1, h1, by rw [h2]; exact q⟩
  cases e <;> simp only [reduceCtorEq] at hb
  · obtain ⟨a, vs, ey, ha, hs⟩ := he.tup_inv
    exact main hs ey (.inr (.inl (.inl ha))) hb
  · obtain ⟨a, vs, ey, ha, hs⟩ := lst_view he
    rw [hK] at ha
    exact main hs ey (.inl ha) hb
theorem in_two {d : D} {ys : List D} {r : Bool} (h : inQ d ys = some r) : inD d ys = some r ∨ (PySem.SeqAt.shaped (toPy d) = true ∧ PySem.SeqAt.shaped (toPy (.lst ys)) = true ∧ r = (toPys ys).any fun z => PyData.eqv z (toPy d)) := by
  unfold inQ at h
  split at h
  · cases h
    exact .inl (by assumption)
  · unfold inP at h
    split at h
    · rename_i hh
      cases h
      simp only [Bool.and_eq_true] at hh
      exact .inr ⟨hh.1, hh.2, rfl⟩
    · cases h
theorem op_in_d {eqn : Nat → Nat} (hK : W.K = X.K) (hu : X.A.units + 65 < PySem.cLine) : OpR X (PySem.compareOp .In) (rCmp W eqn .in_) := by
  intro pins s σ H x y v u Q I rx ry ⟨L, d, e, r, hd, he, hb, q⟩
  cases e <;> simp only [MP.cmpD, reduceCtorEq] at hb
  · exact op_in_seq pins s σ H x y v u Q I rx ry (in_seq (r := r) hK hd he hb q)
  · rcases in_two hb with hb | ⟨h1, h2, rfl⟩
    · exact op_in_seq pins s σ H x y v u Q I rx ry (in_seq (r := r) hK hd he hb q)
    · exact op_inD hu pins s σ H x y v u Q I rx ry ⟨_, _, hd.dp (PySem.SeqAt.canLay_of_shaped h1), he.dp (PySem.SeqAt.canLay_of_shaped h2), h1, h2, q⟩
theorem op_nin_d {eqn : Nat → Nat} (hK : W.K = X.K) (hu : X.A.units + 65 < PySem.cLine) : OpR X (PySem.compareOp .NotIn) (rCmp W eqn .nin) := by
  intro pins s σ H x y v u Q I rx ry ⟨L, d, e, r, hd, he, hb, q⟩
  cases e <;> simp only [MP.cmpD, reduceCtorEq, Option.map_eq_some_iff] at hb <;> obtain ⟨r', hb, rfl⟩ := hb
  · exact op_notIn_seq pins s σ H x y v u Q I rx ry (in_seq (r := r') hK hd he hb q)
  · rcases in_two hb with hb | ⟨h1, h2, rfl⟩
    · exact op_notIn_seq pins s σ H x y v u Q I rx ry (in_seq (r := r') hK hd he hb q)
    · exact op_notInD hu pins s σ H x y v u Q I rx ry ⟨_, _, hd.dp (PySem.SeqAt.canLay_of_shaped h1), he.dp (PySem.SeqAt.canLay_of_shaped h2), h1, h2, q⟩
/-- all comparisons -/
theorem op_all (op : CO) {eqn : Nat → Nat} (hK : W.K = X.K) (hu1 : X.A.units + 65 < PySem.cLine) : OpR X (PySem.compareOp (cop op)) (rCmp W eqn op) := by
  have hu : X.A.units + 64 < PySem.cLine := by omega
  cases op with
  | eq => exact op_eq_d hu
  | ne => exact op_ne_d hu
  | lt => exact op_cmpI .lt (by simp)
  | le => exact op_cmpI .le (by simp)
  | gt => exact op_cmpI .gt (by simp)
  | ge => exact op_cmpI .ge (by simp)
  | is_ => exact op_is_d
  | isn => exact op_isn_d
  | in_ => exact op_in_d hK hu1
  | nin => exact op_nin_d hK hu1
theorem cmp_int {eqn : Nat → Nat} {op : CO} {i : Int} {e : D} {r} (hop : op = .lt ∨ op = .le ∨ op = .gt ∨ op = .ge) {d : D} (h : cmpD eqn op d e = some r) : ∃ i j, d = .int i ∧ e = .int j := by
  rcases hop with rfl | rfl | rfl | rfl <;> cases d <;> cases e <;> simp only [MP.cmpD, reduceCtorEq] at h <;> exact ⟨_, _, rfl, rfl⟩
/-- a < b < c -/
theorem snd_cmp2 {a b c : Expr} {k m n : E} {op op' : CO} {pos : Pos} (h1 : op = .lt ∨ op = .le ∨ op = .gt ∨ op = .ge) (h2 : op' = .lt ∨ op' = .le ∨ op' = .gt ∨ op' = .ge) (hm : PySem.lastMarks [cop op, cop op'] [b, c] = false)
    (ha : PE X a (tE W C k)) (hb : PE X b (tE W C m)) (hc : PE X c (tE W C n)) :
    PE X (.Compare a [cop op, cop op'] [b, c] pos) (tE W C (.cmp2 op op' k m n)) ∧ PT X (.Compare a [cop op, cop op'] [b, c] pos) (tBo W C (.cmp2 op op' k m n)) := by
  have isb : ∀ {s r}, ev C (.cmp2 op op' k m n) s = .ok r → ∃ b s', r = ((.bl b, 0), s') := by
    intro s r hr
    simp only [ev] at hr
    obtain ⟨⟨p, s1⟩, e1, hr⟩ := bind_ok hr
    obtain ⟨⟨p2, s2⟩, e2, hr⟩ := bind_ok hr
    obtain ⟨x, hx, hr⟩ := bind_ok hr
    split at hr
    · obtain ⟨⟨p3, s3⟩, e3, hr⟩ := bind_ok hr
      obtain ⟨y, hy, hr⟩ := bind_ok hr
      cases hr
      exact ⟨_, _, rfl⟩
    · cases hr
      exact ⟨_, _, rfl⟩
  have key : ∀ {τ H} {Q : V → Hp → Prop} {F L s O} {s' : Sta} {r : Bool}, Gd W L F H s τ O → ev C (.cmp2 op op' k m n) s = .ok ((.bl r, 0), s') → (∀ H', PostN W F L H O τ s' H' → Q (.bl r) H') →
      tChain (rCmp W C.eqn op) (rCmp W C.eqn op') (tE W C k) (tE W C m) (tE W C n) τ H Q := by
    intro τ H Q F L s O s' r g hr q
    simp only [ev] at hr
    obtain ⟨⟨⟨d1, k1⟩, s1⟩, e1, hr⟩ := bind_ok hr
    obtain ⟨⟨⟨d2, k2⟩, s2⟩, e2, hr⟩ := bind_ok hr
    obtain ⟨x, hx, hr⟩ := bind_ok hr
    have hx := ofO_ok hx
    obtain ⟨i, j, z1, z2⟩ := cmp_int (i := 0) h1 hx
    simp only at z1 z2
    subst z1; subst z2
    refine ⟨F, L, s, O, g, _, e1, fun v H1 ⟨L1, O1, Ov, p⟩ => ?_⟩
    have pn := p.drop
    refine ⟨F, L1, s1, O1, pn.g, _, e2, fun u H2 ⟨L2, O2, Ov2, p2⟩ => ?_⟩
    have pn2 := pn.trans p2.drop
    rw [vw_int p.r, vw_int p2.r]
    refine ⟨[], .int i, .int j, x, .int 0 i, .int 0 j, hx, x, rfl, ?_⟩
    cases x with
    | false =>
      simp only [Bool.false_eq_true, if_false] at hr ⊢
      cases hr
      exact q H2 ⟨L2, O2, pn2⟩
    | true =>
      simp only [if_true] at hr ⊢
      obtain ⟨⟨⟨d3, k3⟩, s3⟩, e3, hr⟩ := bind_ok hr
      obtain ⟨y, hy, hr⟩ := bind_ok hr
      cases hr
      have hy := ofO_ok hy
      obtain ⟨i', j', z1, z2⟩ := cmp_int (i := 0) h2 hy
      cases z1
      simp only at z2
      subst z2
      refine ⟨F, L2, s2, O2, pn2.g, _, e3, fun w H3 ⟨L3, O3, Ov3, p3⟩ => ?_⟩
      rw [vw_int p3.r]
      exact ⟨[], .int j, .int j', _, .int 0 _, .int 0 _, hy, q H3 ⟨L3, O3, pn2.trans p3.drop⟩⟩
  have hK : OpR X (PySem.compareOp (cop op)) (rCmp W C.eqn op) := op_cmpI op h1
  have hK' : OpR X (PySem.compareOp (cop op')) (rCmp W C.eqn op') := op_cmpI op' h2
  constructor
  · refine PE.imp (pe_chain hK hK' ha hb hc hm) fun τ H Q ⟨F, L, s, O, g, r, hr, q⟩ => ?_
    obtain ⟨b, s', rfl⟩ := isb hr
    exact key g hr fun H' ⟨L', O', p⟩ => q _ H' ⟨L', O', [], PE'.flat p.st p.g (.bl 0 b)⟩
  · refine PT.imp (pt_chain hK hK' ha hb hc hm) fun τ H Q ⟨F, L, s, O, g, b, s', hr, q⟩ => ?_
    obtain ⟨⟨p, s2⟩, e1, e2⟩ := bind_ok hr
    obtain ⟨b', s3, e⟩ := isb e1
    cases e
    cases e2
    exact key g e1 fun H' p => ⟨_, rfl, q H' p⟩
end
end MP
end
-- MPSn22
section
set_option maxRecDepth 100000
set_option maxHeartbeats 1000000
/-! Lists that are known by their number; slices with a step. -/
namespace MP
open PySem (Addr Expr Stmt Str Pos Keyword Scope PyData)
open PySem.Spec
open L2
open PyProof.Rows hiding St
section
variable {W : Wd} {C : Cfg} {X : Cx}
theorem snd_lstL {es : List Expr} {ms : Es} {pos : Pos} (h : PA X es (tP W C ms)) : PE X (.List es pos) (tE W C (.lstL ms)) := by
  refine PE.imp (pe_lst h) fun τ H Q ⟨F, L, s, O, g, r, hr, q⟩ => ?_
  simp only [ev] at hr
  obtain ⟨⟨ps, s1⟩, h1, hr⟩ := bind_ok hr
  split at hr
  · rename_i hl
    cases hr
    refine ⟨F, L, s, O, g, ps, s1, h1, fun vs H1 hp => ?_⟩
    obtain ⟨L1, O1, pn, rs⟩ := hp.fz
    have hle := rs.length
    refine ⟨by rw [← hle, List.length_map, ← lim_eq]; exact hl.1, fun p hp => q _ _ ?_⟩
    have g1 := pn.g
    have kp : Keep (fun _ => False) H1 (upd H1 p (.lst vs)) := Keep.upd hp
    have pL : p ∉ L1 := fun m => (g1.thereL p m).1 hp
    have pO : p ∉ O1 := fun m => (g1.sl.there p m).1 hp
    have pF : ¬ F p := fun f => g1.ft p f hp
    have fl : ∀ x ∈ ps.map Prod.fst, flatK x = true := fun x m => by
      obtain ⟨y, hy, rfl⟩ := List.mem_map.mp m
      exact List.all_eq_true.mp hl.2 y hy
    have gL : ∀ (i : Nat) (a : Addr), L1[i]? = some a → (L1 ++ [p])[i]? = some a := fun i a e => by
      rw [List.getElem?_append_left (List.getElem?_eq_some_iff.mp e).1]; exact e
    have nn : ∀ a, H1 a = none → H a = none := fun a z => Classical.byContradiction fun w => pn.st.st a w z
    refine ⟨L1 ++ [p], O1, [], PE'.flat ⟨pn.st.pre.trans (List.prefix_append ..), fun a m => ?_, fun a m => ?_, ?_, fun a z => there_upd (pn.st.st a z)⟩ ⟨?_, ⟨?_, fun j xs e => ?_⟩, ?_, fun a f => ⟨fun m => ?_, (g1.ap a f).2⟩, fun a f => there_upd (g1.ft a f)⟩ (.loc 0 ?_)⟩
    · rcases List.mem_append.mp m with m | m
      · exact pn.st.newL a m
      · obtain rfl : a = p := by simpa using m
        exact .inr (nn _ hp)
    · exact pn.st.newO a m
    · exact pn.st.kp.trans kp (fun _ z => z) fun _ f => f.elim
    · refine g1.sl.keep kp (fun _ f => f.elim) (fun a n b => ?_) gL fun _ _ f => f
      rcases b with b | b | b
      · exact .inl b
      · rcases List.mem_append.mp b with b | b
        · exact .inr (.inl b)
        · obtain rfl : a = p := by simpa using b
          exact absurd hp n
      · exact .inr (.inr b)
    · simp [g1.mu.len]
    · by_cases hj : j < s1.μ.length
      · rw [List.getElem?_append_left hj] at e
        obtain ⟨a, vs', e1, e2, e3, e4⟩ := g1.mu.at_ j xs e
        exact ⟨a, vs', gL j a e1, kp.any _ _ e2 fun f => f, e3.flats e4, e4⟩
      · have hj2 : j = s1.μ.length := by
          have := (List.getElem?_eq_some_iff.mp e).1
          simp at this; omega
        subst hj2
        simp at e
        subst e
        exact ⟨p, vs, by rw [← g1.mu.len]; simp, upd_same, rs.flats fl, fl⟩
    · refine List.nodup_append.mpr ⟨List.nodup_append.mpr ⟨g1.ndL, by simp, fun a ha b hb e => ?_⟩, g1.ndO, fun a ha b hb e => ?_⟩
      · obtain rfl : b = p := by simpa using hb
        subst e; exact pL ha
      · subst e
        rcases List.mem_append.mp ha with z | z
        · exact g1.LO a z hb
        · obtain rfl : a = p := by simpa using z
          exact pO hb
    · rcases List.mem_append.mp m with z | z
      · exact (g1.ap a f).1 z
      · obtain rfl : a = p := by simpa using z
        exact pF f
    · rw [← g1.mu.len]; simp
  · cases hr
end
end MP
end
-- MPSn23
section
set_option maxRecDepth 100000
set_option maxHeartbeats 1000000
/-! Calls with keywords. -/
namespace MP
open PySem (Addr Expr Stmt Str Pos Keyword Scope PyData)
open PySem.Spec
open L2
open PyProof.Rows hiding St
section
variable {W : Wd} {C : Cfg} {X : Cx}
theorem Vals.permL {pm : List Nat} : ∀ {vs : List V} {us : List PySem.Value}, Vals vs us → (∀ i ∈ pm, i < vs.length) → Vals (MP.permL pm vs) (MP.permL pm us) := by
  intro vs us r
  induction pm with
  | nil => exact fun _ => .nil
  | cons i pm ih =>
    intro h
    have hi := h i (List.mem_cons_self ..)
    obtain ⟨u, hu, ru⟩ := r.get (List.getElem?_eq_getElem hi)
    show Vals ((i :: pm).filterMap _) ((i :: pm).filterMap _)
    rw [List.filterMap_cons, List.filterMap_cons, List.getElem?_eq_getElem hi, hu]
    exact .cons ru (ih fun j hj => h j (List.mem_cons_of_mem _ hj))
/-- a def binds n values and the keywords ks by pm -/
def KPm (K : PySem.W.Frag) (fd : PySem.FuncData) (ps : List Str) (n : Nat) (ks : List Str) (pm : List Nat) : Prop :=
  pm.Perm (List.range (n + ks.length)) ∧ ∀ (s : PySem.Shared) (us ws : List PySem.Value), K.In s.heap → us.length = n → ws.length = ks.length → PySem.BindsTo s fd ⟨us, ks.zip ws⟩ (ps.zip (permL pm (us ++ ws)))
theorem KPm.kbn {K fd ps n ks pm} (h : KPm K fd ps n ks pm) {vs : List V} {zs : List V} (l1 : vs.length = n) (l2 : zs.length = ks.length) : ∀ i ∈ pm, i < (vs ++ zs).length := fun i hi => by
  have := h.1.mem_iff.mp hi
  rw [List.length_append, l1, l2]
  exact List.mem_range.mp this
theorem RepA.length {L B H τ} : ∀ {os vs O}, RepA W L B H τ os vs O → os.length = vs.length
  | _, _, _, .nil => rfl
  | _, _, _, .slot e h => by simp [h.length]
  | _, _, _, .tmp r h => by simp [h.length]
def Es.len : Es → Nat | .nil => 0 | .cons _ es => es.len + 1
theorem args_len {C : Cfg} : ∀ {ms : Es} {s os s'}, args C ms s = .ok (os, s') → os.length = ms.len
  | .nil, s, os, s', h => by simp only [args] at h; cases h; rfl
  | .cons m ms, s, os, s', h => by
    simp only [args] at h
    obtain ⟨⟨o, s1⟩, h1, h⟩ := bind_ok h
    obtain ⟨⟨os2, s2⟩, h2, h⟩ := bind_ok h
    cases h
    simp [Es.len, args_len h2]
theorem permOf_ok {α : Type} {pm : List Nat} {xs ys : List α} (hp : pm ≠ []) (h : permOf pm xs = some ys) : permL pm xs = ys := by
  unfold permOf at h
  split at h
  · rename_i hh
    exact absurd (by simpa using hh) hp
  · exact (mapM_get h).1
/-- the two parts of the arguments, then the call -/
theorem call_two {ms1 ms2 : Es} {τ : L2.St} {H : Hp} {F L O} {s s2 : Sta} {os : List Od} {Q2 : List V → List V → Hp → Prop} (g : Gd W L F H s τ O) (h : args C (ms1.app ms2) s = .ok (os, s2))
    (q : ∀ vs zs H2, vs.length = ms1.len → zs.length = ms2.len → PostA W F L H O τ os s2 (vs ++ zs) H2 → Q2 vs zs H2) : tAr W C ms1 τ H fun vs H1 => tAr W C ms2 τ H1 fun zs H2 => Q2 vs zs H2 := by
  rw [args_app] at h
  obtain ⟨⟨os1, s1⟩, h1, h⟩ := bind_ok h
  obtain ⟨⟨os2, s3⟩, h2, h⟩ := bind_ok h
  cases h
  refine ⟨F, L, s, O, g, os1, s1, h1, fun vs H1 ⟨L1, O1, Ov, p⟩ => ?_⟩
  refine ⟨FU F Ov, L1, s1, O1, p.g, os2, s2, h2, fun zs H2 p2 => q vs zs H2 ?_ ?_ (PostA.app p p2)⟩
  · rw [← p.r.length, args_len h1]
  · obtain ⟨_, _, _, p2⟩ := p2
    rw [← p2.r.length, args_len h2]
section
variable {CX : CXT} {k n : Nat} {f : Addr} {fd : PySem.FuncData} {ps ks : List Str} {sp : Sp} {E : XK} {x : Str} {p pos : Pos} {es : List Expr} {kws : List Keyword} {t tk : TA} {pm : List Nat}
theorem run_fnP {pins : List (Addr × PySem.Obj)} {σ : L2.St} {H : Hp} {s : PySem.Shared} {Q : VK} {us ws : List PySem.Value} {vs zs : List V} (F : FnOk X.prog X.w X.K X.mg X.base CX k f fd ps sp) (hr : Room k X.A) (hb : KPm X.K fd ps n ks pm) (hx : Passes CX X E)
    (I : Inv X pins σ H s) (r : Vals vs us) (rz : Vals zs ws) (l1 : vs.length = n) (l2 : zs.length = ks.length) (h : sp (permL pm (vs ++ zs)) H Q E) : PySem.wpAny (PySem.model X.prog X.w) X.A (PySem.call (.ref f) us (ks.zip ws)) (EP X pins σ Q) X.xe s := by
  have r2 := Vals.permL (pm := pm) (r.append rz) (hb.kbn l1 l2)
  refine PySem.wpAny_call (PySem.codeAny_mono (F.run X.A X.stack s H ⟨us, ks.zip ws⟩ _ _ Q E hr I.env0 (hb.2 s us ws I.kIn (r.length.symm.trans l1) (rz.length.symm.trans l2)) r2 h) fun r s' hq => ?_)
  cases r with
  | error e => exact hx pins σ H s e s' I hq
  | ok fl =>
    cases fl with
    | ret u => exact I.after hq
    | next => exact False.elim hq
    | brk => exact False.elim hq
    | cont => exact False.elim hq
def tCallP (n m : Nat) (sp : Sp) (pm : List Nat) (E : XK) (t tk : TA) : TE := fun σ H Q => t σ H fun vs H1 => tk σ H1 fun zs H2 => vs.length = n ∧ zs.length = m ∧ sp (permL pm (vs ++ zs)) H2 Q E
theorem pe_callP (F : FnOk X.prog X.w X.K X.mg X.base CX k f fd ps sp) (hr : Room k X.A) (hg : Gl X x) (hm : X.mg x = some (.ref f)) (hk : PySem.W.keepIn X.K (.ref f) = true) (hb : KPm X.K fd ps n ks pm) (hx : Passes CX X E)
    (ha : PA X es t) (hkw : PK X kws tk) (hes : ∀ e ∈ es, plainE e = true) (hks : kws.map (·.arg) = ks.map some) (hdb : (x == ("__debug__" : Str)) = false) (hnil : es = [] → ∀ σ H Q, t σ H Q → Q [] H) :
    PE X (.Call (.Name x p) es kws pos) (tCallP n ks.length sp pm E t tk) := by
  have hsome : ∀ k ∈ kws, k.arg.isSome = true := fun kk m => by
    have : kk.arg ∈ kws.map (·.arg) := List.mem_map.mpr ⟨kk, m, rfl⟩
    rw [hks] at this
    obtain ⟨y, _, e⟩ := List.mem_map.mp this
    rw [← e]; rfl
  have hall := kw_all (pos := pos) (env := X.env) hsome
  have hnm := kw_names (pos := pos) (env := X.env) hks
  have hpl : ((PySem.backTo pos (PySem.starEach es X.env)).any (·.1) || (PySem.backToKw pos (PySem.keywordEach kws X.env)).any (·.1.isNone)) = false := by
    rw [star_any hes, kw_none hsome]; rfl
  refine ⟨fun pins s σ H Q I h => ?_⟩
  refine PySem.wpAny_Call_Name_kw (ld_glob I hg hm ?_ hdb)
  cases es with
  | nil =>
    refine PySem.W.callWith_KW0 (h₀ := X.base) I.ok.mod.kin hk hall ?_ hpl
    refine thn (hkw.run pos pins s σ H _ I (hnil rfl _ _ _ h)) fun ws s2 ⟨zs, H2, I2, rz, l1, l2, q2⟩ => ⟨I2.kIn, ?_⟩
    rw [hnm]
    exact run_fnP (us := []) (vs := []) F hr hb hx I2 .nil rz l1 l2 q2
  | cons e es =>
    refine PySem.W.callWith_KW (h₀ := X.base) I.ok.mod.kin hk hall (thn (ha.run pos pins s σ H _ I h) fun us s1 ⟨vs, H1, I1, r, q⟩ => ?_) hpl (star_cons (hes e (List.mem_cons_self ..)))
    refine thn (hkw.run pos pins s1 σ H1 _ I1 q) fun ws s2 ⟨zs, H2, I2, rz, l1, l2, q2⟩ => ⟨I2.kIn, ?_⟩
    rw [hnm]
    exact run_fnP F hr hb hx I2 r rz l1 l2 q2
end
/-- f(.., k = ..) -/
theorem snd_callK {x : Str} {p pos : Pos} {es : List Expr} {kws : List Keyword} {ms1 ms2 : Es} {k f n : Nat} {fa : Addr} {fd : PySem.FuncData} {ps ks : List Str} {pm : List Nat} (hF : FnOk X.prog X.w X.K X.mg X.base CX0 k fa fd ps (spF W (C.call f))) (hb : KPm X.K fd ps n ks pm) (hr : Room k X.A) (hg : Gl X x)
    (hm : X.mg x = some (.ref fa)) (hk : PySem.W.keepIn X.K (.ref fa) = true) (hd : (x == ("__debug__" : Str)) = false) (ha : PA X es (tAr W C ms1)) (hkw : PK X kws (tAr W C ms2)) (hes : ∀ e ∈ es, plainE e = true) (hks : kws.map (·.arg) = ks.map some) (hnil : es = [] → ms1 = .nil)
    (l1 : ms1.len = n) (l2 : ms2.len = ks.length) (hpm : pm ≠ []) : PE X (.Call (.Name x p) es kws pos) (tE W C (.call f pm (ms1.app ms2))) := by
  refine PE.imp (pe_callP hF hr hg hm hk hb pass0 ha hkw hes hks hd (fun z σ H Q h => by
    obtain rfl := hnil z
    exact tAr_nil h)) fun τ H Q ⟨F, L, s, O, g, r, hr, q⟩ => ?_
  simp only [ev] at hr
  obtain ⟨⟨os, s1⟩, h1, hr⟩ := bind_ok hr
  obtain ⟨qs, h2, hr⟩ := bind_ok hr
  obtain ⟨qs2, h3, hr⟩ := bind_ok hr
  have h3 := permOf_ok hpm (ofO_ok h3)
  subst h3
  refine call_two g h1 fun vs zs H2 e1 e2 pa => ⟨e1.trans l1, e2.trans l2, ?_⟩
  obtain ⟨F', L', O', μ, en, r', μ', c1, c2⟩ := call_ok (f := fun ps μ => C.call f (permL pm ps) μ) pa h2 hr
  obtain ⟨O2, en2, hp⟩ := en.perm (pm := pm) (by rw [List.length_append, e1, e2, l1, l2]; exact hb.1)
  exact ⟨F', L', O2, μ, _, en2, r', μ', c1, fun v H3 pf => q v H3 (c2 v H3 (pf.perm hp))⟩
theorem kws_facts {kws : List Keyword} {ks : List Str} {pos : Pos} (hks : kws.map (·.arg) = ks.map some) :
    (PySem.backToKw pos (PySem.keywordEach kws X.env)).all (·.1.isSome) = true ∧ (PySem.backToKw pos (PySem.keywordEach kws X.env)).filterMap (·.1) = ks ∧ (PySem.backToKw pos (PySem.keywordEach kws X.env)).any (·.1.isNone) = false ∧ ∀ k ∈ kws, k.arg.isSome = true := by
  have hsome : ∀ k ∈ kws, k.arg.isSome = true := fun kk m => by
    have : kk.arg ∈ kws.map (·.arg) := List.mem_map.mpr ⟨kk, m, rfl⟩
    rw [hks] at this
    obtain ⟨y, _, e⟩ := List.mem_map.mp this
    rw [← e]; rfl
  exact ⟨kw_all hsome, kw_names hks, kw_none hsome, hsome⟩
section
variable {CX : CXT} {k n : Nat} {f Cl : Addr} {fd : PySem.FuncData} {ps ks : List Str} {sp : Sp} {E : XK} {x : Str} {p pos apos : Pos} {es : List Expr} {kws : List Keyword} {ta : TE} {t tk : TA} {pm : List Nat} {o : Expr}
def tMakeP (Cl : Addr) (n m : Nat) (sp : Sp) (pm : List Nat) (E : XK) (t tk : TA) : TE := fun σ H Q => t σ H fun vs H1 => tk σ H1 fun zs H2 => vs.length = n ∧ zs.length = m ∧
  ∀ x dx, H2 x = none → H2 dx = none → dx ≠ x → sp (permL pm (.ref x :: vs ++ zs)) (upd (upd H2 dx (.own x)) x (.ins Cl dx [])) (fun v H3 => v = .non ∧ Q (.ref x) H3) E
theorem run_makeP {pins : List (Addr × PySem.Obj)} {σ : L2.St} {H : Hp} {s : PySem.Shared} {Q : VK} {us ws : List PySem.Value} {vs zs : List V} (M : Mk X.K Cl f) (F : FnOk X.prog X.w X.K X.mg X.base CX k f fd ps sp) (hr : Room (k + 1) X.A) (hb : KPm X.K fd ps (n + 1) ks pm) (hx : Passes CX X E)
    (I : Inv X pins σ H s) (r : Vals vs us) (rz : Vals zs ws) (l1 : vs.length = n) (l2 : zs.length = ks.length)
    (h : ∀ x dx, H x = none → H dx = none → dx ≠ x → sp (permL pm (.ref x :: vs ++ zs)) (upd (upd H dx (.own x)) x (.ins Cl dx [])) (fun v H2 => v = .non ∧ Q (.ref x) H2) E) :
    PySem.wpAny (PySem.model X.prog X.w) X.A (PySem.call (.ref Cl) us (ks.zip ws)) (EP X pins σ Q) X.xe s := by
  have hq := h (s.heap.objs.size + 1) s.heap.objs.size (I.hok.fresh (Nat.le_succ _)) (I.hok.fresh (Nat.le_refl _)) (Nat.ne_of_lt (Nat.lt_succ_self _))
  have I2 := Inv.made (C := Cl) I
  have r1 : Vals (V.ref (s.heap.objs.size + 1) :: vs) (PySem.Value.ref (s.heap.objs.size + 1) :: us) := .cons rfl r
  have n1 : (V.ref (s.heap.objs.size + 1) :: vs).length = n + 1 := congrArg Nat.succ l1
  have r2 := Vals.permL (pm := pm) (r1.append rz) (hb.kbn n1 l2)
  refine PySem.wpAny_call (make_map (f := f) I.kIn M.makes M.init (beq_iff_eq.mp M.fn) (PySem.codeAny_mono (F.run _ X.stack _ _ ⟨PySem.Value.ref (s.heap.objs.size + 1) :: us, ks.zip ws⟩ _ _ _ E (hr.make Cl us (ks.zip ws))
    (I2.env0.make Cl us (ks.zip ws)) (hb.2 _ (PySem.Value.ref (s.heap.objs.size + 1) :: us) ws I2.kIn (r1.length.symm.trans n1) (rz.length.symm.trans l2)) r2 hq) fun r s' hq' => ?_))
  cases r with
  | error e => exact hx pins σ _ _ e s' I2 hq'
  | ok fl =>
    cases fl with
    | ret u =>
      obtain ⟨v, H', I3, rv, ev, q3⟩ := I2.after hq'
      subst ev
      exact ⟨rv, ⟨V.ref (s.heap.objs.size + 1), H', I3, rfl, q3⟩⟩
    | next => exact False.elim hq'
    | brk => exact False.elim hq'
    | cont => exact False.elim hq'
theorem pe_makeP (M : Mk X.K Cl f) (F : FnOk X.prog X.w X.K X.mg X.base CX k f fd ps sp) (hr : Room (k + 1) X.A) (hg : Gl X x) (hm : X.mg x = some (.ref Cl)) (hb : KPm X.K fd ps (n + 1) ks pm) (hx : Passes CX X E)
    (ha : PA X es t) (hkw : PK X kws tk) (hes : ∀ e ∈ es, plainE e = true) (hks : kws.map (·.arg) = ks.map some) (hdb : (x == ("__debug__" : Str)) = false) (hnil : es = [] → ∀ σ H Q, t σ H Q → Q [] H) :
    PE X (.Call (.Name x p) es kws pos) (tMakeP Cl n ks.length sp pm E t tk) := by
  obtain ⟨hall, hnm, hno, hsome⟩ := kws_facts (X := X) (pos := pos) hks
  have hpl : ((PySem.backTo pos (PySem.starEach es X.env)).any (·.1) || (PySem.backToKw pos (PySem.keywordEach kws X.env)).any (·.1.isNone)) = false := by
    rw [star_any hes, hno]; rfl
  refine ⟨fun pins s σ H Q I h => ?_⟩
  refine PySem.wpAny_Call_Name_kw (ld_glob I hg hm ?_ hdb)
  cases es with
  | nil =>
    refine PySem.W.callWith_KW0 (h₀ := X.base) I.ok.mod.kin M.kp hall ?_ hpl
    refine thn (hkw.run pos pins s σ H _ I (hnil rfl _ _ _ h)) fun ws s2 ⟨zs, H2, I2, rz, l1, l2, q2⟩ => ⟨I2.kIn, ?_⟩
    rw [hnm]
    exact run_makeP (us := []) (vs := []) M F hr hb hx I2 .nil rz l1 l2 q2
  | cons e es =>
    refine PySem.W.callWith_KW (h₀ := X.base) I.ok.mod.kin M.kp hall (thn (ha.run pos pins s σ H _ I h) fun us s1 ⟨vs, H1, I1, r, q⟩ => ?_) hpl (star_cons (hes e (List.mem_cons_self ..)))
    refine thn (hkw.run pos pins s1 σ H1 _ I1 q) fun ws s2 ⟨zs, H2, I2, rz, l1, l2, q2⟩ => ⟨I2.kIn, ?_⟩
    rw [hnm]
    exact run_makeP M F hr hb hx I2 r rz l1 l2 q2
def tMethP (Cl : Addr) (m : Str) (n mm : Nat) (sp : Sp) (pm : List Nat) (E : XK) (ta : TE) (t tk : TA) : TE := fun σ H Q => ta σ H fun x H1 => ∃ a dx fs, x = .ref a ∧ H1 a = some (.ins Cl dx fs) ∧ fs.lookup m = none ∧
  t σ H1 fun vs H2 => tk σ H2 fun zs H3 => vs.length = n ∧ zs.length = mm ∧ sp (permL pm (.ref a :: vs ++ zs)) H3 Q E
theorem pe_methP (he : PE X o ta) (c : Cls X.K Cl) (hm : Meth X.K Cl x f) (F : FnOk X.prog X.w X.K X.mg X.base CX k f fd ps sp) (hr : Room k X.A) (hb : KPm X.K fd ps (n + 1) ks pm) (hx : Passes CX X E)
    (ha : PA X es t) (hkw : PK X kws tk) (hes : ∀ e ∈ es, plainE e = true) (hks : kws.map (·.arg) = ks.map some) (hbase : PySem.attributeBase o x X.env (PySem.eval o X.env) = PySem.eval o X.env) (hn : es.length + kws.length < 29) (hl : (apos.endLine == pos.line) = true) (hnil : es = [] → ∀ σ H Q, t σ H Q → Q [] H) :
    PE X (.Call (.Attribute o x apos) es kws pos) (tMethP Cl x n ks.length sp pm E ta t tk) := by
  obtain ⟨hall, hnm, hno, hsome⟩ := kws_facts (X := X) (pos := pos) hks
  have hpl : ((PySem.backTo pos (PySem.starEach es X.env)).any (·.1) || (PySem.backToKw pos (PySem.keywordEach kws X.env)).any (·.1.isNone)) = false := by
    rw [star_any hes, hno]; rfl
  have ht := meth_eval (kws := kws) hbase hes hsome hn hl
  refine ⟨fun pins s σ H Q I h => ?_⟩
  refine PySem.W.methodCall_KW (thn (he.run pins s σ H _ I h) fun u s1 ⟨x, H1, I1, rx, a, dx, fs, ex, ea, l, q⟩ => ?_) ht
  subst ex
  obtain rfl : u = PySem.Value.ref a := rx
  refine getmeth_ok I1 ea c hm l ?_
  cases es with
  | nil =>
    refine PySem.W.callWith_KW0 (first := [.ref a]) (h₀ := X.base) I.ok.mod.kin hm.kp hall ?_ hpl
    refine thn (hkw.run pos pins s1 σ H1 _ I1 (hnil rfl _ _ _ q)) fun ws s2 ⟨zs, H2, I2, rz, l1, l2, q2⟩ => ⟨I2.kIn, ?_⟩
    rw [hnm]
    exact run_fnP (us := [.ref a]) (vs := [.ref a]) F hr hb hx I2 (.cons rfl .nil) rz (by rw [← l1]; rfl) l2 q2
  | cons e es =>
    refine PySem.W.callWith_KW (first := [.ref a]) (h₀ := X.base) I.ok.mod.kin hm.kp hall (thn (ha.run pos pins s1 σ H1 _ I1 q) fun us s2 ⟨vs, H2, I2, r, q⟩ => ?_) hpl (star_cons (hes e (List.mem_cons_self ..)))
    refine thn (hkw.run pos pins s2 σ H2 _ I2 q) fun ws s3 ⟨zs, H3, I3, rz, l1, l2, q3⟩ => ⟨I3.kIn, ?_⟩
    rw [hnm]
    exact run_fnP (us := .ref a :: us) (vs := .ref a :: vs) F hr hb hx I3 (.cons rfl r) rz (congrArg Nat.succ l1) l2 q3
end
/-- C(.., k = ..) -/
theorem snd_newK {x : Str} {p pos : Pos} {es : List Expr} {kws : List Keyword} {ms1 ms2 : Es} {k c n : Nat} {fa : Addr} {fd : PySem.FuncData} {ps ks : List Str} {pm : List Nat} (hc : W.ok c = true) (M : Mk X.K (W.cls c) fa) (hF : FnOk X.prog X.w X.K X.mg X.base CX0 k fa fd ps (spI W (C.call (C.init c))))
    (hb : KPm X.K fd ps (n + 1) ks (0 :: pm.map (· + 1))) (hr : Room (k + 1) X.A) (hg : Gl X x) (hm : X.mg x = some (.ref (W.cls c))) (hd : (x == ("__debug__" : Str)) = false) (ha : PA X es (tAr W C ms1)) (hkw : PK X kws (tAr W C ms2)) (hes : ∀ e ∈ es, plainE e = true) (hks : kws.map (·.arg) = ks.map some) (hnil : es = [] → ms1 = .nil)
    (l1 : ms1.len = n) (l2 : ms2.len = ks.length) (hpm : pm ≠ []) : PE X (.Call (.Name x p) es kws pos) (tE W C (.new c pm (ms1.app ms2))) := by
  refine PE.imp (pe_makeP M hF hr hg hm hb pass0 ha hkw hes hks hd (fun z σ H Q h => by
    obtain rfl := hnil z
    exact tAr_nil h)) fun τ H Q ⟨F, L, s, O, g, r, hr, q⟩ => ?_
  simp only [ev] at hr
  obtain ⟨⟨os, s1⟩, h1, hr⟩ := bind_ok hr
  obtain ⟨qs, h2, hr⟩ := bind_ok hr
  obtain ⟨qs2, h3, hr⟩ := bind_ok hr
  have h3 := permOf_ok hpm (ofO_ok h3)
  subst h3
  refine call_two g h1 fun vs zs H2 e1 e2 pa => ⟨e1.trans l1, e2.trans l2, fun y dx y1 y2 y3 => ?_⟩
  have pa2 := pa.made hc y1 y2 y3
  have cons1 : ∀ {α : Type} (a : α) (xs : List α), permL (0 :: pm.map (· + 1)) (a :: xs) = a :: permL pm xs := fun a xs => by
    unfold permL
    rw [List.filterMap_cons]
    show a :: List.filterMap _ _ = _
    congr 1
    rw [List.filterMap_map]
    rfl
  have hv2 : MP.vals (.t (.ins c []) 1 :: os) s1 = .ok ((.ins c [], 1) :: qs) := by
    show (vals os s1).bind _ = _
    rw [h2]; rfl
  obtain ⟨F', L', O', μ, en, r', μ', c1, c2⟩ := call_ok (f := fun ps μ => C.call (C.init c) (permL (0 :: pm.map (· + 1)) ps) μ) pa2 hv2 (by rw [cons1]; exact hr)
  obtain ⟨O2, en2, hp⟩ := en.perm (pm := 0 :: pm.map (· + 1)) (by
    have := hb.1
    rw [List.length_cons, List.length_append, e1, e2, l1, l2]
    rwa [Nat.add_right_comm] at this)
  refine ⟨F', L', O2, μ, _, .ref y, permL pm (vs ++ zs), cons1 _ _, en2, r', μ', c1, fun H3 pf => ⟨rfl, q _ H3 (c2 _ H3 (pf.perm hp))⟩⟩
/-- o.m(.., k = ..) -/
theorem snd_methK {o : Expr} {x : Str} {apos pos : Pos} {es : List Expr} {kws : List Keyword} {mo : E} {ms1 ms2 : Es} {c f k n : Nat} {fa : Addr} {fd : PySem.FuncData} {ps ks : List Str} {pm : List Nat} (T : CF X.K W) (hc : W.ok c = true) (hM : Meth X.K (W.cls c) x fa) (hnf : x ∉ W.flds c)
    (hF : FnOk X.prog X.w X.K X.mg X.base CX0 k fa fd ps (spF W (C.call (C.meth c f)))) (hb : KPm X.K fd ps (n + 1) ks (0 :: pm.map (· + 1))) (hr : Room k X.A) (ho : PE X o (tE W C mo)) (hbase : PySem.attributeBase o x X.env (PySem.eval o X.env) = PySem.eval o X.env)
    (ha : PA X es (tAr W C ms1)) (hkw : PK X kws (tAr W C ms2)) (hes : ∀ e ∈ es, plainE e = true) (hks : kws.map (·.arg) = ks.map some) (hn : es.length + kws.length < 29) (hl : (apos.endLine == pos.line) = true) (hnil : es = [] → ms1 = .nil)
    (l1 : ms1.len = n) (l2 : ms2.len = ks.length) (hpm : pm ≠ []) : PE X (.Call (.Attribute o x apos) es kws pos) (tE W C (.meth c f mo pm (ms1.app ms2))) := by
  refine PE.imp (pe_methP ho (T.cls c hc) hM hF hr hb pass0 ha hkw hes hks hbase hn hl (fun z σ H Q h => by
    obtain rfl := hnil z
    exact tAr_nil h)) fun τ H Q ⟨F, L, s, O, g, r, hr, q⟩ => ?_
  simp only [ev] at hr
  obtain ⟨⟨⟨d, kk⟩, s1⟩, h1, hr⟩ := bind_ok hr
  obtain ⟨c', fs, rfl⟩ : ∃ c fs, d = .ins c fs := by cases d <;> first | exact ⟨_, _, rfl⟩ | (simp only [reduceCtorEq] at hr)
  simp only at hr
  have ec : c = c' := Classical.byContradiction fun z => by rw [if_neg z] at hr; cases hr
  subst ec
  rw [if_pos rfl] at hr
  obtain ⟨⟨os, s2⟩, h2, hr⟩ := bind_ok hr
  obtain ⟨qs, h3, hr⟩ := bind_ok hr
  obtain ⟨qs2, h4, hr⟩ := bind_ok hr
  have h4 := permOf_ok hpm (ofO_ok h4)
  subst h4
  refine ⟨F, L, s, O, g, _, h1, fun v H1 ⟨L1, O1, Ov, p⟩ => ?_⟩
  have p0 := p.fz
  obtain ⟨ok, a', dx, fs', vs', rfl, ha', hfs, hle, _⟩ := Rep.ins_inv (show Rep W L1 _ H1 0 (.ins c fs) v [] from p0.r)
  subst hfs
  refine ⟨a', dx, _, rfl, ha', mem_zip_fst hnf _, call_two p0.g h2 fun vs zs H2 e1 e2 pa => ⟨e1.trans l1, e2.trans l2, ?_⟩⟩
  have pa2 := PostA.cons1 p0 pa
  have cons1 : ∀ {α : Type} (a : α) (xs : List α), permL (0 :: pm.map (· + 1)) (a :: xs) = a :: permL pm xs := fun a xs => by
    unfold permL
    rw [List.filterMap_cons]
    show a :: List.filterMap _ _ = _
    congr 1
    rw [List.filterMap_map]
    rfl
  have hv2 : MP.vals (.t (.ins c fs) 0 :: os) s2 = .ok ((.ins c fs, 0) :: qs) := by
    show (vals os s2).bind _ = _
    rw [h3]; rfl
  obtain ⟨F', L', O', μ, en, r', μ', c1, c2⟩ := call_ok (f := fun ps μ => C.call (C.meth c f) (permL (0 :: pm.map (· + 1)) ps) μ) pa2 hv2 (by rw [cons1]; exact hr)
  obtain ⟨O2, en2, hp⟩ := en.perm (pm := 0 :: pm.map (· + 1)) (by
    have := hb.1
    rw [List.length_cons, List.length_append, e1, e2, l1, l2]
    rwa [Nat.add_right_comm] at this)
  exact ⟨F', L', O2, μ, _, en2, r', μ', c1, fun v H3 pf => q v H3 (c2 v H3 (pf.perm hp))⟩
end
end MP
end
-- MPRevT
section
set_option maxRecDepth 100000
set_option maxHeartbeats 1000000
/-! x[::-1] of a tuple. -/
namespace MP
open PySem PySem.Spec PyProof.Rows L2 HT
section
variable {prog : Program} {w : World} {A : Around} {E : Value → Shared → Prop} {s : Shared}
theorem adjust_rev (n : Nat) : Builtin.Slice.sliceAdjust none none (-1) (n : Int) = ((n : Int) - 1, -1) := by
  unfold Builtin.Slice.sliceAdjust
  simp
theorem places_rev (n : Nat) : Builtin.Slice.slicePlaces ((n : Int) - 1) (-1) (-1) = n := by
  unfold Builtin.Slice.slicePlaces
  have h1 : ¬ ((-1 : Int) > 0) := by decide
  simp only [h1, if_false]
  by_cases h : (n : Int) - 1 > -1
  · simp only [h, if_true]
    rw [show (- -1 : Int) = 1 by decide, Int.ediv_one]
    omega
  · simp only [h, if_false]
    omega
theorem pick_rev (xs : Array Value) : ((List.range xs.size).filterMap fun (k : Nat) => xs[((xs.size : Int) - 1 + (k : Int) * (-1)).toNat]?).toArray = xs.toList.reverse.toArray := by
  have := PySem.W.krv_pick xs
  unfold slicePick at this
  rw [PySem.W.krv_bounds] at this
  rw [← this]
  congr 1
  show _ = ((sliceRange ((xs.size : Int) - 1) (-1) (-1)).filterMap (xs[·]?))
  unfold sliceRange
  have h1 : ¬ ((-1 : Int) > 0) := by decide
  by_cases h : (xs.size : Int) - 1 > -1
  · have e : ((xs.size : Int) - 1 - -1 - -1 - 1) / (- -1) = (xs.size : Int) := by
      rw [show (- -1 : Int) = 1 by decide, Int.ediv_one]
      omega
    simp only [h1, if_false, h, if_true, e, Int.toNat_natCast]
    rw [List.filterMap_map]
    congr 1
    funext k
    simp only [Function.comp]
    congr 2
    omega
  · have e : xs.size = 0 := by omega
    rw [e]
    simp
theorem sliceApplied_rev {sl : Addr} {vs : Value} {n : Nat} {Q : Int × Int × Nat → Shared → Prop} {vl vu : Value} (hs : s.heap.IsSliceOf sl vl vu vs) (pl : IsPart vl none) (pu : IsPart vu none) (ps : IsPart vs (some (-1)))
    (h : Q ((n : Int) - 1, -1, n) s) : wpAny (model prog w) A (Builtin.Slice.sliceApplied (.ref sl) (pure (n : Int))) Q E s := by
  obtain ⟨os, hos, hcs, hds⟩ := id hs
  unfold Builtin.Slice.sliceApplied Builtin.Slice.sliceFields
  refine wpAny_bind (wpAny_bind (wpAny_field hos hds (x := vl) rfl (wpAny_bind (wpAny_field hos hds (x := vu) rfl (wpAny_bind (wpAny_field hos hds (x := vs) rfl (wpAny_pure ?_)))))))
  refine wpAny_bind (slicePart_ ps ?_)
  show wpAny _ _ (if ((-1 : Int) == 0) = true then _ else _) _ _ s
  rw [if_neg (by decide)]
  refine wpAny_bind (slicePart_ pl (wpAny_bind (slicePart_ pu (wpAny_bind (wpAny_pure ?_)))))
  show wpAny _ _ (match Builtin.Slice.sliceAdjust none none (-1) (n : Int) with | (lo, hi) => pure (lo, (-1 : Int), Builtin.Slice.slicePlaces lo hi (-1))) _ _ s
  rw [adjust_rev n]
  show wpAny _ _ (pure (((n : Int) - 1), (-1 : Int), Builtin.Slice.slicePlaces ((n : Int) - 1) (-1) (-1))) _ _ s
  rw [places_rev]
  exact wpAny_pure h
theorem getItem_tuple_rev {t sl : Addr} {items : Array Value} {vl vu vs : Value} {Q : Value → Shared → Prop} (ht : IsTup s.heap t items) (hs : s.heap.IsSliceOf sl vl vu vs) (pl : IsPart vl none) (pu : IsPart vu none) (ps : IsPart vs (some (-1)))
    (h : Q (.ref s.heap.objs.size) { s with heap := s.heap.push { cls := .type "tuple", data := .seq items.toList.reverse.toArray } })
    (hsz : items.size ≤ sizeLine) : wpAny (model prog w) A (getItem (.ref t) (.ref sl)) Q E s := by
  have htake : sizeOk (.seq items.toList.reverse.toArray) := by
    show items.toList.reverse.toArray.size ≤ sizeLine
    rw [List.size_toArray, List.length_reverse, Array.length_toList]
    omega
  obtain ⟨os, hos, hcs, hds⟩ := id hs
  have hTs : s.TypeIs (.ref sl) "slice" := ⟨os, hos, hcs⟩
  unfold getItem
  try with_reducible refine wpAny_holding ?_
  first | refine wpAny_bind (wpAny_pure ?_) | skip
  refine wpAny_bind (wpAny_sequenceKey ht.typeIs (by decide) ?_)
  refine wpAny_bind (wpAny_callSpecial?_slot (name := Str.ofString "__getitem__") ht.typeIs PyProof.Rows.slot_tuple_getitem
    (wpAny_call_entry PyProof.Rows.slot_tuple_getitem ht.typeIs entry_tuple_getitem ?_ (args_tuple_getitem _ _)))
  show wpAny _ _ (Builtin.Tuple.tupleItemsOf (.ref t) >>= _) _ _ s
  refine wpAny_bind (tupleItemsOf_ ht ?_)
  refine wpAny_bind (wpAny_typeOf hTs ?_)
  rw [if_pos (by decide)]
  refine wpAny_bind (sliceApplied_rev hs pl pu ps ?_)
  have hno : ¬ ((((items.size : Int) - 1) == 0 && (-1 : Int) == 1 && items.size == items.size) = true) := by
    intro q
    rw [Bool.and_eq_true, Bool.and_eq_true] at q
    exact absurd (eq_of_beq q.1.2) (by decide)
  show wpAny _ _ (if (((items.size : Int) - 1) == 0 && (-1 : Int) == 1 && items.size == items.size) = true then _ else _) _ _ s
  rw [if_neg hno, pick_rev]
  first
    | exact wpAny_bind (m := Builtin.Tuple.tupleExact _) (wpAny_newObj_type (wpAny_pure ⟨_, rfl, wpAny_pure h⟩) htake)
    | exact wpAny_bind (m := Builtin.Tuple.tupleExact _) (wpAny_newObj_type (wpAny_bind (wpAny_pure (wpAny_pure ⟨_, rfl, wpAny_pure h⟩))) htake)
    | exact wpAny_bind (wpAny_bind (m := Builtin.Tuple.tupleExact _) (wpAny_newObj_type (wpAny_pure (wpAny_pure ⟨_, rfl, wpAny_pure h⟩)) htake))
    | exact wpAny_bind (wpAny_bind (m := Builtin.Tuple.tupleExact _) (wpAny_newObj_type (wpAny_pure ⟨_, rfl, wpAny_pure h⟩) htake))
end
section
variable {W : Wd} {C : Cfg} {X : Cx}
def tRevA (K : PySem.W.Frag) (te : TE) : TE := fun σ H Q => te σ H fun x H1 => ∃ a xs, x = .ref a ∧ ((SqL K H1 a xs ∧ ∀ p, H1 p = none → Q (.ref p) (upd H1 p (.lst xs.reverse))) ∨ (SqT K H1 a xs ∧ ∀ p, H1 p = none → Q (.ref p) (upd H1 p (.tup xs.reverse))))
theorem pe_revA {e : Expr} {te : TE} {k : Nat} {p1 p2 p3 pos : Pos} (he : PE X e te) : PE X (.Subscript e (.Slice none none (some (.UnaryOp .USub (.Constant (.int 1) k p1) p2)) p3) pos) (tRevA X.K te) := by
  refine ⟨fun pins s σ H Q I h => ?_⟩
  refine Subscript_ (thn (he.run pins s σ H _ I h) fun v s1 ⟨x, H1, I1, r1, q1⟩ => ?_)
  obtain ⟨a, xs, ex, hx⟩ := q1
  subst ex
  cases r1
  have hst : PO X (some (.UnaryOp .USub (.Constant (.int 1) k p1) p2)) (tPart (tUn (rU fun i => .int (-i)) (tC (.int 1)))) := po_some (pe_un un_neg pe_int)
  refine wpAny_Slice (thn (po_none.run pins s1 σ H1 (fun o H2 => o = none ∧ H2 = H1) I1 ⟨rfl, rfl⟩) fun vl s2 ⟨l, H2, I2, pl, el, e2⟩ => ?_)
  subst el e2
  refine thn (po_none.run pins s2 σ H2 (fun o H3 => o = none ∧ H3 = H2) I2 ⟨rfl, rfl⟩) fun vu s3 ⟨u, H3, I3, pu, eu, e3⟩ => ?_
  subst eu e3
  refine thn (hst.run pins s3 σ H3 (fun o H4 => o = some (-1) ∧ H4 = H3) I3 ⟨1, rfl, -1, rfl, rfl, rfl⟩) fun vs s4 ⟨o, H4, I4, ps, eo, e4⟩ => ?_
  subst eo e4
  have I5 : Inv X pins σ H4 { s4 with heap := s4.heap.push { cls := .type "slice", data := .fields #[vl, vu, vs] } } := I4.kept (t' := s4.toks) fun b ob q => Heap.get?_push_of_some _ q
  rcases hx with ⟨hx, q⟩ | ⟨hx, q⟩
  · obtain ⟨its, r, ht, hz⟩ := I5.list hx
    have hlen := r.length
    show wpAny (model X.prog X.w) X.A (subscriptTail e (.Slice none none (some (.UnaryOp .USub (.Constant (.int 1) k p1) p2)) p3) (.ref a) (.ref s4.heap.objs.size)) (EP X pins σ Q) X.xe { s4 with heap := s4.heap.push { cls := .type "slice", data := .fields #[vl, vu, vs] } }
    refine tail_any (ops := [.ref a, .ref s4.heap.objs.size]) ht.isList.typeIs (PySem.slot_list_getitem.lookup) ?_ (by with_unfolding_all rfl)
    refine wpAny_getItem_list_slice ht.isList (Heap.IsSliceOf.new _ vl vu vs) pl pu ps (by decide) ?_ (by rw [List.size_toArray]; omega)
    rw [PySem.W.krv_pick]
    refine ⟨.ref _, _, I5.laid (t' := s4.toks) (o := .lst xs.reverse) (fun b ob q => Heap.get?_push_of_some _ q) (Nat.le_refl _) ?_, rfl, q _ (I5.hok.fresh (Nat.le_refl _))⟩
    exact ⟨by rw [List.length_reverse]; exact hz, _, 0, r.reverse, Heap.get?_push_size _ rfl⟩
  · obtain ⟨its, r, ht, hz⟩ := I5.tuple hx
    have hlen : its.toArray.size = xs.length := by rw [List.size_toArray]; exact r.length.symm
    show wpAny (model X.prog X.w) X.A (subscriptTail e (.Slice none none (some (.UnaryOp .USub (.Constant (.int 1) k p1) p2)) p3) (.ref a) (.ref s4.heap.objs.size)) (EP X pins σ Q) X.xe { s4 with heap := s4.heap.push { cls := .type "slice", data := .fields #[vl, vu, vs] } }
    refine tail_any (ops := [.ref a, .ref s4.heap.objs.size]) ht.typeIs (PyProof.Rows.slot_tuple_getitem.lookup) ?_ (by with_unfolding_all rfl)
    refine getItem_tuple_rev ht (Heap.IsSliceOf.new _ vl vu vs) pl pu ps ?_ (by rw [hlen]; exact hz)
    refine ⟨.ref _, _, I5.laid (t' := s4.toks) (o := .tup xs.reverse) (fun b ob q => Heap.get?_push_of_some _ q) (Nat.le_refl _) ?_, rfl, q _ (I5.hok.fresh (Nat.le_refl _))⟩
    exact ⟨by rw [List.length_reverse]; exact hz, _, r.reverse, IsTup.new _ _⟩
end
end MP
end
-- MPSn24
section
set_option maxRecDepth 100000
set_option maxHeartbeats 1000000
/-! xs[::-1] of a list. -/
namespace MP
open PySem (Addr Expr Stmt Str Pos Keyword Scope PyData)
open PySem.Spec
open L2
open PyProof.Rows hiding St
section
variable {W : Wd} {C : Cfg} {X : Cx}
theorem snd_rev {a : Expr} {m : E} {k : Nat} {p1 p2 p3 pos : Pos} (hK : W.K = X.K) (ha : PE X a (tO W C m)) : PE X (.Subscript a (.Slice none none (some (.UnaryOp .USub (.Constant (.int 1) k p1) p2)) p3) pos) (tE W C (.rev m)) := by
  refine PE.imp (pe_revA ha) fun τ H Q ⟨F, L, s, O, g, r, hr, q⟩ => ?_
  simp only [ev] at hr
  obtain ⟨⟨p, s1⟩, h1, hr⟩ := bind_ok hr
  obtain ⟨d, hd, hr⟩ := bind_ok hr
  refine ⟨F, L, s, O, g, p, s1, h1, fun v H1 hv => ?_⟩
  obtain ⟨F1, L1, O1, g1, k⟩ := hv.hold
  obtain ⟨pn, oi⟩ := k (.refl g1)
  obtain ⟨O2, sub, g2, sh⟩ := oi.share pn.g hd
  have pn2 := pn.sub g2 sub
  cases d <;> simp only [reduceCtorEq] at hr
  · cases hr
    obtain ⟨a', vs, rfl, hx, hs⟩ := sh_tup sh
    exact ⟨a', vs, rfl, .inr ⟨.inl (.inl hx), fun l hl => q _ _ (PostE.new pn2 (.tup hl hs.rev0))⟩⟩
  · cases hr
    obtain ⟨a', vs, rfl, hx, hs⟩ := sh_lst sh
    exact ⟨a', vs, rfl, .inl ⟨.inl (.inl hx), fun l hl => q _ _ (PostE.new pn2 (.lst hl hs.rev0))⟩⟩
end
end MP
end
-- MPSn25
section
set_option maxRecDepth 100000
set_option maxHeartbeats 1000000
/-! xs[::k] of a list. -/
namespace MP
open PySem (Addr Expr Stmt Str Pos Keyword Scope PyData Value Heap)
open PySem.Spec
open L2
open PyProof.Rows hiding St
section
variable {W : Wd} {C : Cfg} {X : Cx}
theorem Vals.pick {vs : List V} {us : List Value} (r : Vals vs us) : ∀ is : List Nat, Vals (is.filterMap fun i => vs[i]?) (is.filterMap fun i => us[i]?)
  | [] => .nil
  | i :: is => by
    rw [List.filterMap_cons, List.filterMap_cons]
    by_cases h : i < vs.length
    · obtain ⟨u, hu, ru⟩ := r.get (List.getElem?_eq_getElem h)
      rw [List.getElem?_eq_getElem h, hu]
      exact .cons ru (Vals.pick r is)
    · rw [List.getElem?_eq_none (by omega), List.getElem?_eq_none (by rw [← r.length]; omega)]
      exact Vals.pick r is
theorem Reps.pick {L B H ds vs} (r : Reps W L B H 0 ds vs []) : ∀ is : List Nat, Reps W L B H 0 (is.filterMap fun i => ds[i]?) (is.filterMap fun i => vs[i]?) []
  | [] => .nil 0
  | i :: is => by
    rw [List.filterMap_cons, List.filterMap_cons]
    by_cases h : i < ds.length
    · obtain ⟨u, hu, ru⟩ := r.get0 (List.getElem?_eq_getElem h)
      rw [List.getElem?_eq_getElem h, hu]
      exact Reps.mk0 ru (Reps.pick r is)
    · rw [List.getElem?_eq_none (by omega), List.getElem?_eq_none (by rw [← r.length]; omega)]
      exact Reps.pick r is
theorem pick_step (its : Array Value) (k : Int) (hk : 0 < k) : PySem.slicePick its none none (some k) = (stepL its.toList k).toArray := by
  unfold PySem.slicePick PySem.sliceBounds stepL stepIx PySem.sliceRange
  have h1 : k > 0 := hk
  simp only [Option.getD_some, h1, if_true, Array.length_toList]
  congr 1
  congr 1
  · funext i; rw [Array.getElem?_toList]
theorem stepL_len {α : Type} (xs : List α) (k : Int) (hk : 0 < k) : (stepL xs k).length ≤ xs.length := by
  unfold stepL
  refine Nat.le_trans (List.length_filterMap_le ..) ?_
  unfold stepIx
  rw [List.length_map, List.length_range]
  split
  · have : ((xs.length : Int) - 0 + k - 1) / k ≤ xs.length := by
      rw [Int.sub_zero]
      refine Int.ediv_le_of_le_mul hk ?_
      have : (xs.length : Int) * k ≥ xs.length + (k - 1) := by
        have h1 : (xs.length : Int) ≥ 1 := by omega
        have h2 : ((xs.length : Int) - 1) * (k - 1) ≥ 0 := Int.mul_nonneg (by omega) (by omega)
        have h3 : ((xs.length : Int) - 1) * (k - 1) = xs.length * k - xs.length - k + 1 := by
          rw [Int.sub_mul, Int.mul_sub]; omega
        omega
      omega
    omega
  · simp
def tStep (K : PySem.W.Frag) (te : TE) (ts : TO) : TE := fun σ H Q => te σ H fun x H1 => ts σ H1 fun o H2 => ∃ k a xs, o = some k ∧ 0 < k ∧ x = .ref a ∧ SqL K H2 a xs ∧ ∀ p, H2 p = none → Q (.ref p) (upd H2 p (.lst (stepL xs k)))
theorem pe_stepL {e st : Expr} {te : TE} {ts : TO} {p3 pos : Pos} (he : PE X e te) (hst : PO X (some st) ts) : PE X (.Subscript e (.Slice none none (some st) p3) pos) (tStep X.K te ts) := by
  refine ⟨fun pins s σ H Q I h => ?_⟩
  refine Subscript_ (thn (he.run pins s σ H _ I h) fun v s1 ⟨x, H1, I1, r1, q1⟩ => ?_)
  refine PySem.wpAny_Slice (thn (po_none.run pins s1 σ H1 (fun o H2 => o = none ∧ H2 = H1) I1 ⟨rfl, rfl⟩) fun vl s2 ⟨l, H2, I2, pl, el, e2⟩ => ?_)
  subst el e2
  refine thn (po_none.run pins s2 σ H2 (fun o H3 => o = none ∧ H3 = H2) I2 ⟨rfl, rfl⟩) fun vu s3 ⟨u, H3, I3, pu, eu, e3⟩ => ?_
  subst eu e3
  refine thn (hst.run pins s3 σ H3 _ I3 q1) fun vs s4 ⟨o, H4, I4, ps, k, a, xs, eo, hk, ex, hx, q⟩ => ?_
  subst eo ex
  cases r1
  have I5 : Inv X pins σ H4 { s4 with heap := s4.heap.push { cls := .type "slice", data := .fields #[vl, vu, vs] } } := I4.kept (t' := s4.toks) fun b ob q => Heap.get?_push_of_some _ q
  obtain ⟨its, r, ht, hz⟩ := I5.list hx
  have hlen := r.length
  show PySem.wpAny (PySem.model X.prog X.w) X.A (subscriptTail e (.Slice none none (some st) p3) (.ref a) (.ref s4.heap.objs.size)) (EP X pins σ Q) X.xe { s4 with heap := s4.heap.push { cls := .type "slice", data := .fields #[vl, vu, vs] } }
  refine tail_any (ops := [.ref a, .ref s4.heap.objs.size]) ht.isList.typeIs (PySem.slot_list_getitem.lookup) ?_ (by with_unfolding_all rfl)
  refine PySem.wpAny_getItem_list_slice ht.isList (Heap.IsSliceOf.new _ vl vu vs) pl pu ps (by intro z; cases z; omega) ?_ (by rw [List.size_toArray]; omega)
  rw [pick_step _ _ hk]
  refine ⟨.ref _, _, I5.laid (t' := s4.toks) (o := .lst (stepL xs k)) (fun b ob q => Heap.get?_push_of_some _ q) (Nat.le_refl _) ?_, rfl, q _ (I5.hok.fresh (Nat.le_refl _))⟩
  refine ⟨Nat.le_trans (stepL_len xs k hk) hz, _, 0, ?_, Heap.get?_push_size _ rfl⟩
  have := Vals.pick r (stepIx xs.length k)
  unfold stepL
  simpa [hlen] using this
theorem snd_sls {a st : Expr} {m n : E} {p3 pos : Pos} (hK : W.K = X.K) (ha : PE X a (tO W C m)) (hs : PE X st (tE W C n)) : PE X (.Subscript a (.Slice none none (some st) p3) pos) (tE W C (.sls m n)) := by
  refine PE.imp (pe_stepL ha (snd_prt1 (ms := .nil) hs)) fun τ H Q ⟨F, L, s, O, g, r, hr, q⟩ => ?_
  simp only [ev] at hr
  obtain ⟨⟨p, s1⟩, h1, hr⟩ := bind_ok hr
  obtain ⟨⟨⟨d2, k2⟩, s2⟩, h2, hr⟩ := bind_ok hr
  obtain ⟨d, hd, hr⟩ := bind_ok hr
  simp only at hr
  obtain ⟨xs, rfl⟩ : ∃ xs, d = .lst xs := by cases d <;> first | exact ⟨_, rfl⟩ | (simp only [reduceCtorEq] at hr)
  obtain ⟨j, rfl⟩ : ∃ j, d2 = .int j := by cases d2 <;> first | exact ⟨_, rfl⟩ | (simp only [reduceCtorEq] at hr)
  simp only at hr
  split at hr
  · rename_i hj
    cases hr
    refine ⟨F, L, s, O, g, p, s1, h1, fun v H1 hv => ?_⟩
    obtain ⟨F1, L1, O1, g1, k⟩ := hv.hold
    refine ⟨F1, L1, s1, O1, g1, some j, s2, by simp only [prt]; rw [h2]; rfl, fun H2 ⟨L2, O2, pn2⟩ => ?_⟩
    obtain ⟨pn, oi⟩ := k pn2
    obtain ⟨O3, sub, g3, sh⟩ := oi.share pn.g hd
    obtain ⟨a', vs, rfl, hx, hs0⟩ := sh_lst sh
    refine ⟨j, a', vs, rfl, hj, rfl, .inl (.inl hx), fun l hl => q _ _ (PostE.new (pn.sub g3 sub) (.lst hl ?_))⟩
    have := Reps.pick hs0 (stepIx xs.length j)
    unfold stepL
    rw [← hs0.length]
    exact this
  · cases hr
end
end MP
end
-- MPSn26
section
set_option maxRecDepth 100000
set_option maxHeartbeats 1000000
/-! x[n].append(..) of a flat thing. -/
namespace MP
open PySem (Addr Expr Stmt Str Pos Keyword Scope PyData Value Heap)
open PySem.Spec
open L2
open PyProof.Rows hiding St
section
variable {W : Wd} {C : Cfg} {X : Cx}
def tFl (W : Wd) (m : E) : TE := fun τ H Q => ∃ F L s O d, Gd W L F H s τ O ∧ flat1 m s = some d ∧ flatK d = true ∧ ∀ v, Rep W [] no H 0 d v [] → Q v H
theorem fl_c {e : Expr} {d : D} {v : V} (h : PE X e (tC v)) (hr : ∀ L B H, Rep W L B H 0 d v []) : PE X e (tFl W (.c d)) := PE.imp h fun τ H Q ⟨F, L, s, O, d', g, h1, h2, q⟩ => by
  simp only [flat1, Option.some.injEq] at h1
  subst h1
  exact q v (hr _ _ _)
theorem fl_v {e : Expr} {j : Nat} (h : PE X e (tVar j)) : PE X e (tFl W (.v j)) := PE.imp h fun τ H Q ⟨F, L, s, O, d, g, h1, h2, q⟩ => by
  simp only [flat1] at h1
  split at h1
  · rename_i d' k e
    cases h1
    obtain ⟨v, P, R, e1, e2, _⟩ := g.slot e
    exact ⟨v, e1, q v (e2.flatK h2).1⟩
  · cases h1
theorem snd_apc {x b e : Expr} {i : Nat} {n m : E} {p2 apos pos : Pos} (hK : W.K = X.K) (hx : PE X x (tVar i)) (hb : PE X b (tE W C n)) (hp : ∀ lo hi st p, b ≠ .Slice lo hi st p) (he : PE X e (tFl W m)) (hpl : plainE e = true) (hl : (apos.endLine == pos.line) = true) :
    PE X (.Call (.Attribute (.Subscript x b p2) "append" apos) [e] [] pos) (tE W C (.apc i n m)) := by
  have hes' : ∀ e' ∈ [e], plainE e' = true := by simpa using hpl
  refine PE.imp (pe_bm PySem.F.plainAttrs_list (slot_any .app) (type_any .app) (mt_any .app) (pe_ix ix_list hx hb (plainIx hp)) (pa_cons he pa_nil (star_cons hpl)) rfl (by rw [back_all (star_len hes')]; rfl) hl (star_cons hpl) rfl) fun τ H Q ⟨F, L, s, O, g, r, hr, q⟩ => ?_
  simp only [ev] at hr
  obtain ⟨⟨d0, k0⟩, h0, hr⟩ := bind_ok hr
  obtain ⟨⟨⟨d2, k2⟩, s1⟩, h2, hr⟩ := bind_ok hr
  obtain ⟨k, hk, hr⟩ := bind_ok hr
  obtain ⟨⟨dl, kl⟩, hd, hr⟩ := bind_ok hr
  have hk := ofO_ok hk
  have hd := get_ok hd
  obtain ⟨xs, rfl⟩ : ∃ xs, dl = .lst xs := by cases dl <;> first | exact ⟨_, rfl⟩ | (simp only [reduceCtorEq] at hr)
  obtain ⟨kk, rfl⟩ : ∃ kk, kl = kk + 2 := by
    match kl, hr with
    | kk + 2, _ => exact ⟨kk, rfl⟩
    | 0, hr => simp only [reduceCtorEq] at hr
    | 1, hr => simp only [reduceCtorEq] at hr
  simp only at hr
  split at hr
  · rename_i j hj
    split at hr
    · rename_i ys hy
      split at hr
      · rename_i d hfl
        split at hr
        · rename_i hc
          cases hr
          simp only [Bool.and_eq_true, decide_eq_true_eq] at hc
          cases d2 <;> simp only [toInt, reduceCtorEq] at hk
          cases hk
          obtain ⟨v0, _, _, e1, _⟩ := g.slot (get_ok h0)
          refine ⟨v0, e1, F, L, s, O, g, _, h2, fun u H2 ⟨L2, O2, Ov2, pe⟩ => ?_⟩
          have eu := vw_int pe.r
          subst eu
          have pn := pe.drop
          obtain ⟨v', P, R, e2, r2, hperm, hrew⟩ := pn.g.rewrite hd
          rw [e1] at e2
          cases e2
          rcases r2.lst_inv with ⟨z, _⟩ | ⟨k', a, vs, P1, ek, rfl, rfl, ha, hs⟩
          · cases z
          cases ek
          have nd := (List.nodup_append.mp (hperm.nodup_iff.mp pn.g.ndO)).1
          have nd1 := List.nodup_cons.mp nd
          have mj := ixN_lt hj
          obtain ⟨A1, B1, rfl, t1, t2⟩ := hs.split j
          have hxj : xs[j] = .lst ys := by
            have := (List.getElem?_eq_some_iff.mp hy).2
            exact this
          rw [List.drop_eq_getElem_cons mj, hxj] at t2
          obtain ⟨w, ws', Ca, Da, ew, rfl, rc, rd⟩ := t2.cons_inv
          rcases rc.lst_inv with ⟨z, _⟩ | ⟨k'', a', us, C', ek, rfl, rfl, ha', hu⟩
          · cases z
          cases ek
          have hvj : vs[j]? = some (.ref a') := by
            have : (vs.drop j)[0]? = some (.ref a') := by rw [ew]; rfl
            rw [List.getElem?_drop] at this
            simpa using this
          have hlen := hs.length
          refine ⟨a, vs, k, .ref a', rfl, rfl, .inl (.inl ha), ?_, .inl ⟨rfl, us, .inl (.inl ha')⟩, F, L2, s1, O2, d, pn.g, hfl, hc.1, fun v rv => ?_⟩
          · unfold _root_.L2.atI
            rw [ixN_eq, ← hlen, hj]; exact hvj
          have ndA := List.nodup_append.mp nd1.2
          have ndB := List.nodup_append.mp ndA.2.1
          have ndC := List.nodup_cons.mp ndB.1
          have aO : ∀ y, y ∈ a :: (A1 ++ ((a' :: C') ++ Da)) → y ∈ O2 := fun y m => hperm.mem_iff.mpr (List.mem_append_left _ m)
          have a'P : a' ∈ a :: (A1 ++ ((a' :: C') ++ Da)) := List.mem_cons_of_mem _ (List.mem_append_right _ (List.mem_append_left _ (List.mem_cons_self ..)))
          have ne : a ≠ a' := fun z => nd1.1 (by rw [z]; exact List.mem_append_right _ (List.mem_append_left _ (List.mem_cons_self ..)))
          have kp : Keep (fun y => y = a') H2 (upd H2 a' (.lst (us ++ [v]))) := Keep.set rfl ha' (by simp) (by simp)
          have hM : ∀ y, y = a' → BB F L2 O2 y := fun y z => by subst z; exact .inr (.inr (aO _ a'P))
          have toB : ∀ y, BB F L2 ((a :: (A1 ++ ((a' :: C') ++ Da))) ++ R) y → BB F L2 O2 y := fun y z => z.elim .inl fun z => z.elim (fun z => .inr (.inl z)) fun z => .inr (.inr (hperm.mem_iff.mpr z))
          have el : Rep W L2 (BB F L2 ((a :: (A1 ++ ((a' :: C') ++ Da))) ++ R)) (upd H2 a' (.lst (us ++ [v]))) (kk + 1) (.lst (ys ++ [d])) (.ref a') (a' :: C') := by
            refine .lstS upd_same ?_
            have h1 := hu.keep kp hM (fun y _ z => toB y z) (fun _ _ e => e) fun y m z => ndC.1 (by subst z; exact m)
            have h2 := Reps.cons (rv.flatK (L' := L2) (B' := BB F L2 ((a :: (A1 ++ ((a' :: C') ++ Da))) ++ R)) (H' := upd H2 a' (.lst (us ++ [v]))) (k' := kk) hc.1).1 (.nil kk)
            have := h1.append h2
            rwa [List.append_nil, List.append_nil] at this
          have whole : Reps W L2 (BB F L2 ((a :: (A1 ++ ((a' :: C') ++ Da))) ++ R)) (upd H2 a' (.lst (us ++ [v]))) (kk + 1) (xs.set j (.lst (ys ++ [d]))) vs (A1 ++ ((a' :: C') ++ Da)) := by
            have b1 := t1.keep kp hM (fun y _ z => toB y z) (fun _ _ e => e) fun y m z => ndA.2.2 y m a' (List.mem_append_left _ (List.mem_cons_self ..)) z
            have b3 := rd.keep kp hM (fun y _ z => toB y z) (fun _ _ e => e) fun y m z => ndB.2.2 a' (List.mem_cons_self ..) y m z.symm
            have := b1.append (Reps.cons el b3)
            rw [set_eq _ mj]
            rw [← ew, List.take_append_drop] at this
            exact this
          obtain ⟨O', g', hm⟩ := hrew (F' := F) (d' := .lst (xs.set j (.lst (ys ++ [d])))) (k' := kk + 2) (P' := a :: (A1 ++ ((a' :: C') ++ Da))) kp (fun y z => by subst z; exact a'P) (fun y z => there_upd z) (fun y z => .inl z) nd (fun y z => .inl z) (fun y z f => (pn.g.ap y f).2 (aO y z))
            (.lstS (by rw [upd_ne ne]; exact ha) whole)
          refine ⟨a', us, us ++ [v], .non, rfl, ha', ⟨v, rfl, by rw [← lim_eq, ← hu.length]; exact hc.2, rfl, rfl⟩, q _ _ ⟨L2, O', [], PE'.flat (pn.st.behind (kp.mono fun y z => by subst z; exact aO _ a'P) (fun y z => there_upd z) fun y z => .inl (z.elim (fun z => (hm y z).elim (aO y) fun z => hperm.mem_iff.mpr (List.mem_append_right _ z)) (by simp))) g' (.non 0)⟩⟩
        · cases hr
      · cases hr
    · cases hr
  · cases hr
end
end MP
end
-- MPSn27
section
set_option maxRecDepth 100000
set_option maxHeartbeats 1000000
/-! list(range(a, b)), tuple(range(a, b)). -/
namespace MP
open PySem (Addr Expr Stmt Str Pos Keyword Scope)
open PySem.Spec
open L2
open PyProof.Rows hiding St
section
variable {W : Wd} {C : Cfg} {X : Cx}
theorem snd_itl2 {e e' : Expr} {m n : E} {tp : Bool} {p p2 pos pos2 : Pos} (hc : X.calm = true) (hg : Gl X (if tp then "tuple" else "list")) (hm : X.mg (if tp then "tuple" else "list") = none) (hg2 : Gl X "range") (hm2 : X.mg "range" = none) (he : PE X e (tE W C m)) (he' : PE X e' (tE W C n)) (hpl : plainE e = true) (hpl' : plainE e' = true) :
    PE X (.Call (.Name (if tp then "tuple" else "list") p) [.Call (.Name "range" p2) [e, e'] [] pos2] [] pos) (tE W C (.itl tp (.rng2 m n))) := by
  have pr := prg_2 (p := p2) (pos := pos2) hg2 hm2 he he' (star_cons hpl) (star_cons hpl') (star_any (by simpa using hpl'))
  have main : ∀ {τ H} {Q : VK} {K2 : Int → Int → Hp → Prop}, tE W C (.itl tp (.rng2 m n)) τ H Q → (∀ a b H1 xs F L O s1 L1 O1, PN' W F L H O τ s1 L1 H1 O1 → RgOk a b → (∀ L B H, Reps W L B H 0 xs (rgV a b) []) → (∀ v H', PostE W F L H O τ ((if tp then (.tup xs, 0) else (.lst xs, 1)), s1) v H' → Q v H') → K2 a b H1) → tRg2 (tE W C m) (tE W C n) τ H K2 := by
    intro τ H Q K2 ⟨F, L, s, O, g, r, hr, q⟩ k
    simp only [ev, evI] at hr
    obtain ⟨⟨xs, s1⟩, h1, hr⟩ := bind_ok hr
    obtain ⟨⟨⟨d, kd⟩, s2⟩, h2, h1⟩ := bind_ok h1
    obtain ⟨⟨⟨d', kd'⟩, s3⟩, h3, h1⟩ := bind_ok h1
    obtain ⟨i, h4, h1⟩ := bind_ok h1
    obtain ⟨j, h5, h1⟩ := bind_ok h1
    obtain ⟨ys, h6, h1⟩ := bind_ok h1
    cases h1
    have h4 := ofO_ok h4
    have h5 := ofO_ok h5
    have h6 := ofO_ok h6
    simp only at hr
    split at hr
    · cases hr
      cases d <;> simp only [toInt, reduceCtorEq] at h4
      cases h4
      cases d' <;> simp only [toInt, reduceCtorEq] at h5
      cases h5
      refine ⟨F, L, s, O, g, _, h2, fun v H1 ⟨L1, O1, Ov, pe⟩ => ?_⟩
      have pn := pe.drop
      refine ⟨F, L1, s2, O1, pn.g, _, h3, fun v' H2 ⟨L2, O2, Ov2, pe2⟩ => ?_⟩
      obtain ⟨r1, r2⟩ := rg_ok (W := W) h6
      exact ⟨_, _, vw_int pe.r, vw_int pe2.r, k _ _ H2 _ F L O _ L2 O2 (pn.trans pe2.drop) r1 r2 q⟩
    · cases hr
  cases tp with
  | false =>
    refine PE.imp (pe_listRg hc hg hm pr rfl) fun τ H Q h => main h fun a b H1 xs F L O s1 L1 O1 pn ok rs q => ⟨ok, fun q' hq => q _ _ (PostE.new pn (.lst hq (rs _ _ _)))⟩
  | true =>
    refine PE.imp (pe_tupRg hc hg hm pr rfl) fun τ H Q h => main h fun a b H1 xs F L O s1 L1 O1 pn ok rs q => ⟨ok, fun q' hq => q _ _ (PostE.new pn (.tup hq (rs _ _ _)))⟩
/-- a value that is frozen at once -/
theorem snd_frz {e : Expr} {m : E} (h : PE X e (tE W C m)) : PE X e (tE W C (.frz m)) := by
  refine PE.imp h fun τ H Q ⟨F, L, s, O, g, r, hr, q⟩ => ?_
  simp only [ev] at hr
  obtain ⟨⟨⟨d, k⟩, s1⟩, h1, hr⟩ := bind_ok hr
  cases hr
  exact ⟨F, L, s, O, g, _, h1, fun v H1 ⟨L1, O1, Ov, p⟩ => q v H1 ⟨L1, O1, [], p.fz⟩⟩
end
end MP
end
-- MPSn28
section
set_option maxRecDepth 100000
set_option maxHeartbeats 1000000
/-! Dicts whose keys are tuples of ints. -/
namespace MP
open PySem (Addr Expr Stmt Str Pos Keyword Scope PyData)
open PySem.Spec
open L2
open PyProof.Rows hiding St
section
variable {W : Wd} {C : Cfg} {X : Cx}
theorem keyL_inj {j k : List Int} (h : keyL j = keyL k) : j = k := by
  induction j generalizing k with
  | nil => cases k with
    | nil => rfl
    | cons b k => simp [keyL] at h
  | cons a j ih => cases k with
    | nil => simp [keyL] at h
    | cons b k =>
      simp only [keyL, List.map_cons, List.cons.injEq, Sum.inl.injEq] at h
      rw [h.1, ih h.2]
theorem keyL_vals (k : List Int) : (keyL k).map kV = k.map V.int := by
  simp only [keyL, List.map_map]
  rfl
theorem Rep.dct_inv {L : List Addr} {B : Addr → Prop} {H : Hp} {k ks ds v O} (h : Rep W L B H k (.dct ks ds) v O) :
    ∃ a vs, v = .ref a ∧ H a = some (.dT ((ks.map keyL).zip vs)) ∧ ks.length = ds.length ∧ Reps W L B H 0 ds vs [] ∧ ((k = 0 ∧ O = [] ∧ ¬ B a) ∨ ((∃ k', k = k' + 1) ∧ O = [a])) := by
  cases h with
  | dct0 h n e l hs => subst e; exact ⟨_, _, rfl, h, l, hs, .inl ⟨rfl, rfl, n⟩⟩
  | dctS h e l hs => subst e; exact ⟨_, _, rfl, h, l, hs, .inr ⟨⟨_, rfl⟩, rfl⟩⟩
theorem getK_val {L : List Addr} {B : Addr → Prop} {H : Hp} {k : List Int} {d : D} : ∀ {ks : List (List Int)} {ds : List D} {vs : List V}, Reps W L B H 0 ds vs [] → getK ks ds k = some d → ∃ v, valV ((ks.map keyL).zip vs) (keyL k) = some v ∧ Rep W L B H 0 d v []
  | [], ds, vs, h, e => by simp [getK] at e
  | j :: ks, [], vs, h, e => by simp [getK] at e
  | j :: ks, d0 :: ds, vs, h, e => by
    obtain ⟨v, vs', rfl, r, hs⟩ := h.cons0
    simp only [getK] at e
    split at e
    · rename_i ej
      cases e; subst ej
      exact ⟨v, valV_pos rfl, r⟩
    · rename_i ej
      obtain ⟨w, h1, h2⟩ := getK_val hs e
      exact ⟨w, by rw [List.map_cons, List.zip_cons_cons, valV_neg (fun z => ej (keyL_inj z))]; exact h1, h2⟩
theorem getK_put {k : List Int} {v : V} : ∀ {ks : List (List Int)} {ds : List D} {vs : List V}, ks.length = ds.length → ds.length = vs.length → getK ks ds k = none → putK ((ks.map keyL).zip vs) (keyL k) v = ((ks ++ [k]).map keyL).zip (vs ++ [v]) := by
  intro ks ds vs h1 h2 e
  have no : ((ks.map keyL).zip vs).any (fun kv => decide (kv.1 = keyL k)) = false := by
    induction ks generalizing ds vs with
    | nil => rfl
    | cons j ks ih =>
      cases ds with
      | nil => simp at h1
      | cons d ds =>
        cases vs with
        | nil => simp at h2
        | cons w vs =>
          simp only [getK] at e
          split at e
          · cases e
          · rename_i ej
            have := ih (ds := ds) (vs := vs) (by simpa using h1) (by simpa using h2) e
            simp only [List.map_cons, List.zip_cons_cons, List.any_cons, this, Bool.or_false, decide_eq_false_iff_not]
            exact fun z => ej (keyL_inj z)
  unfold putK
  rw [no]
  simp only [Bool.false_eq_true, if_false, List.map_append, List.map_cons, List.map_nil]
  rw [zip_snoc]
  rw [List.length_map, h1, h2]
theorem snd_dnew {pos : Pos} : PE X (.Dict [] [] pos) (tE W C .dnew) := by
  refine PE.imp pe_dnewT fun τ H Q ⟨F, L, s, O, g, r, hr, q⟩ => ?_
  simp only [ev] at hr
  cases hr
  intro p hp
  have kp : Keep (fun _ => False) H (upd H p (.dT [])) := Keep.upd hp
  have pL : p ∉ L := fun m => (g.thereL p m).1 hp
  have pO : p ∉ O := fun m => (g.sl.there p m).1 hp
  have pF : ¬ F p := fun f => g.ft p f hp
  have hB : ∀ a, H a ≠ none → BB (FU F [p]) L O a → BB F L O a := fun a n b => by
    rcases b with (b | b) | b
    · exact .inl b
    · obtain rfl : a = p := by simpa using b
      exact absurd hp n
    · exact .inr b
  refine q _ _ ⟨L, O, [p], ⟨List.prefix_refl _, fun _ h => .inl h, fun a m => m.elim .inl fun m => ?_, Keep.upd hp, fun a h => there_upd h⟩, ⟨g.sl.keep kp (fun _ f => f.elim) hB (fun _ _ e => e) fun _ _ f => f, (g.grow kp fun a h => there_upd h).mu, g.nd, fun a f => f.elim (g.ap a) fun m => ?_, fun a f => f.elim (fun f => there_upd (g.ft a f)) fun m => ?_⟩, .dctS upd_same rfl rfl (.nil 0), by simp, by simpa using pF⟩
  · obtain rfl : a = p := by simpa using m
    exact .inr hp
  · obtain rfl : a = p := by simpa using m
    exact ⟨pL, pO⟩
  · obtain rfl : a = p := by simpa using m
    rw [upd_same]; simp
/-- d[k] -/
theorem snd_dget {a b : Expr} {m n : E} {pos : Pos} (hu : X.A.units + 1 < PySem.cLine) (ha : PE X a (tO W C m)) (hb : PE X b (tE W C n)) (hp : ∀ lo hi st p, b ≠ .Slice lo hi st p) : PE X (.Subscript a b pos) (tE W C (.dget m n)) := by
  have ns : NoSl b := by
    intro ov iv
    cases b <;> first | rfl | exact absurd rfl (hp _ _ _ _)
  refine PE.imp (pe_dget hu ha hb ns) fun τ H Q ⟨F, L, s, O, g, r, hr, q⟩ => ?_
  simp only [ev] at hr
  obtain ⟨⟨p, s1⟩, h1, hr⟩ := bind_ok hr
  obtain ⟨⟨⟨d2, k2⟩, s2⟩, h2, hr⟩ := bind_ok hr
  obtain ⟨x, hx, hr⟩ := bind_ok hr
  obtain ⟨ks, vs, ex⟩ : ∃ ks vs, x = .dct ks vs := by cases x <;> first | exact ⟨_, _, rfl⟩ | (simp only [reduceCtorEq] at hr)
  subst ex
  obtain ⟨ds, ed⟩ : ∃ ds, d2 = .tup ds := by cases d2 <;> first | exact ⟨_, rfl⟩ | (simp only [reduceCtorEq] at hr)
  subst ed
  simp only at hr
  obtain ⟨k, hk, hr⟩ := bind_ok hr
  obtain ⟨d, hd, hr⟩ := bind_ok hr
  cases hr
  have hk := ofO_ok hk
  have hd := ofO_ok hd
  refine ⟨F, L, s, O, g, p, s1, h1, fun v H1 hv => ?_⟩
  obtain ⟨F1, L1, O1, g1, hold⟩ := hv.hold
  refine ⟨F1, L1, s1, O1, g1, _, h2, fun u H2 ⟨L2, O2, Ov2, p2⟩ => ?_⟩
  obtain ⟨pn, oi⟩ := hold p2.drop
  obtain ⟨kb, us, eu, hkb, hks⟩ := Rep.tup_inv p2.fz0
  subst eu
  have eus := vw_ints hks hk
  subst eus
  have fin : ∃ da ws, v = .ref da ∧ H2 da = some (.dT ((ks.map keyL).zip ws)) ∧ Reps W L2 (BB F L2 O2) H2 0 vs ws [] := by
    cases p with
    | t d' kk =>
      cases hx
      obtain ⟨da, ws, e1, e2, _, e3, _⟩ := Rep.dct_inv oi
      exact ⟨da, ws, e1, e2, e3⟩
    | s i =>
      simp only [Od.val] at hx
      split at hx
      · rename_i d' k' hq
        cases hx
        obtain ⟨v', P, R, z1, z2, z3, _⟩ := pn.g.slot (get_ok hq)
        rw [show τ[i]? = some (some v) from oi] at z1
        cases z1
        obtain ⟨da, ws, e1, e2, _, e3, _⟩ := Rep.dct_inv z2
        exact ⟨da, ws, e1, e2, e3⟩
      · cases hx
      · cases hx
  obtain ⟨da, ws, rfl, hda, hws⟩ := fin
  obtain ⟨w, hw, rw'⟩ := getK_val hws hd
  refine ⟨da, w, rfl, .inr ⟨_, keyL k, kb, .inl hda, rfl, by rw [keyL_vals]; exact hkb, hw.symm⟩, q w H2 ⟨L2, O2, [], PE'.flat pn.st pn.g rw'⟩⟩
def rDG2 : V → List V → Hp → VK → Prop := fun x vs H Q => ∃ a y d o, x = .ref a ∧ vs = [y, d] ∧ DGet H a y o ∧ Q (o.getD d) H
theorem mt_dg2 (hu : X.A.units + 1 < PySem.cLine) : MtR X "dict.get" rDG2 := fun pins s σ H x xs v us Q I rx rxs ⟨a, y, d, o, ex, ev, g, q⟩ => by
  subst ex ev
  cases rx
  cases rxs with
  | cons ry t =>
    cases t with
    | cons rd t =>
      cases t
      exact d_get2 hu I g ry rd fun w' s' I' rw' => ⟨_, H, I', rw', q⟩
theorem getK_val2 {L : List Addr} {B : Addr → Prop} {H : Hp} {k : List Int} : ∀ {ks : List (List Int)} {ds : List D} {vs : List V}, Reps W L B H 0 ds vs [] → getK ks ds k = none → ks.length = ds.length → valV ((ks.map keyL).zip vs) (keyL k) = none
  | [], ds, vs, h, e, _ => rfl
  | j :: ks, [], vs, h, e, l => by simp at l
  | j :: ks, d0 :: ds, vs, h, e, l => by
    obtain ⟨v, vs', rfl, r, hs⟩ := h.cons0
    simp only [getK] at e
    split at e
    · cases e
    · rename_i ej
      rw [List.map_cons, List.zip_cons_cons, valV_neg (fun z => ej (keyL_inj z))]
      exact getK_val2 hs e (by simpa using l)
/-- d.get(k, []) -/
theorem snd_dgetd {a b : Expr} {m n : E} {apos lp pos : Pos} (hu : X.A.units + 1 < PySem.cLine) (ha : PE X a (tO W C m)) (hb : PE X b (tE W C n)) (hbase : PySem.attributeBase a "get" X.env (PySem.eval a X.env) = PySem.eval a X.env) (hes : plainE b = true)
    (hl : (apos.endLine == pos.line) = true) : PE X (.Call (.Attribute a "get" apos) [b, .List [] lp] [] pos) (tE W C (.dgetd m n)) := by
  have hes' : ∀ e' ∈ [b, .List [] lp], plainE e' = true := fun e' h => by
    rcases List.mem_cons.mp h with rfl | h
    · exact hes
    · obtain rfl : e' = .List [] lp := by simpa using h
      rfl
  have hnew : PE X (.List [] lp) (tE W C (.lst 0 .nil)) := snd_lst snd_nil
  refine PE.imp (pe_bm PySem.F.plainAttrs_dict PySem.F.slot_dict_get PySem.F.type_dict_get (mt_dg2 hu) ha (pa_cons hb (pa_cons hnew pa_nil rfl) (star_cons hes)) hbase (by rw [back_all (star_len hes')]; rfl) hl (star_cons hes) (star_any fun e' h => by
    obtain rfl : e' = .List [] lp := by simpa using h
    rfl)) fun τ H Q ⟨F, L, s, O, g, r, hr, q⟩ => ?_
  simp only [ev] at hr
  obtain ⟨⟨p, s1⟩, h1, hr⟩ := bind_ok hr
  obtain ⟨y, hy, hr⟩ := bind_ok hr
  obtain ⟨ks0, vs0, ey⟩ : ∃ ks vs, y = .dct ks vs := by cases y <;> first | exact ⟨_, _, rfl⟩ | (simp only [reduceCtorEq] at hr)
  subst ey
  simp only at hr
  obtain ⟨⟨⟨d2, k2⟩, s2⟩, h2, hr⟩ := bind_ok hr
  obtain ⟨x, hx, hr⟩ := bind_ok hr
  obtain ⟨ks, vs, ex⟩ : ∃ ks vs, x = .dct ks vs := by cases x <;> first | exact ⟨_, _, rfl⟩ | (simp only [reduceCtorEq] at hr)
  subst ex
  obtain ⟨ds, ed⟩ : ∃ ds, d2 = .tup ds := by cases d2 <;> first | exact ⟨_, rfl⟩ | (simp only [reduceCtorEq] at hr)
  subst ed
  simp only at hr
  obtain ⟨k, hk, hr⟩ := bind_ok hr
  cases hr
  have hk := ofO_ok hk
  refine ⟨F, L, s, O, g, p, s1, h1, fun v H1 hv => ?_⟩
  obtain ⟨F1, L1, O1, g1, hold⟩ := hv.hold
  have dct : ∀ {s' L' H' O' ks vs}, PN' W F1 L1 H1 O1 τ s' L' H' O' → p.val s' = .ok (.dct ks vs) → ∃ da ws, v = .ref da ∧ H' da = some (.dT ((ks.map keyL).zip ws)) ∧ Reps W L' (BB F L' O') H' 0 vs ws [] ∧ ks.length = vs.length := fun {s' L' H' O' ks vs} pn' hx => by
    obtain ⟨pn, oi⟩ := hold pn'
    cases p with
    | t d' kk =>
      cases hx
      obtain ⟨da, ws, e1, e2, e4, e3, _⟩ := Rep.dct_inv oi
      exact ⟨da, ws, e1, e2, e3, e4⟩
    | s i =>
      simp only [Od.val] at hx
      split at hx
      · rename_i d' k' hq
        cases hx
        obtain ⟨v', P, R, z1, z2, z3, _⟩ := pn.g.slot (get_ok hq)
        rw [show τ[i]? = some (some v) from oi] at z1
        cases z1
        obtain ⟨da, ws, e1, e2, e4, e3, _⟩ := Rep.dct_inv z2
        exact ⟨da, ws, e1, e2, e3, e4⟩
      · cases hx
      · cases hx
  obtain ⟨da0, ws0, rfl, hd0, _, _⟩ := dct (.refl g1) hy
  refine ⟨.inr (.inr (.inl ⟨rfl, .inr ⟨_, hd0⟩⟩)), F1, L1, s1, O1, g1, _, h2, fun u H2 ⟨L2, O2, Ov2, p2⟩ => ?_⟩
  have g2 := p2.drop.g
  have r2 := p2.fz0
  refine ⟨F1, L2, s2, O2, g2, ((.lst [], 1), s2), by simp only [ev, evs, R.bind]; rfl, fun z H3 ⟨L3, O3, Ov3, p3⟩ => ?_⟩
  have r3 := r2.step g2 p3.st (by simp)
  have pn3 : PN' W F1 L1 H1 O1 τ s2 L3 H3 O3 := p2.drop.trans p3.drop
  obtain ⟨da, ws, e1, hda, hws, hle⟩ := dct pn3 hx
  cases e1
  obtain ⟨kb, us, eu, hkb, hks⟩ := Rep.tup_inv r3
  subst eu
  have eus := vw_ints hks hk
  subst eus
  obtain ⟨pn, _⟩ := hold pn3
  have ekb : H3 kb = some (.tup ((keyL k).map kV)) := by rw [keyL_vals]; exact hkb
  refine ⟨da0, _, _, valV ((ks.map keyL).zip ws) (keyL k), rfl, rfl, DGet.t hda ekb, ?_⟩
  cases hg : getK ks vs k with
  | some d =>
    obtain ⟨w, hw, rw'⟩ := getK_val hws hg
    rw [hw]
    refine q w H3 ⟨L3, O3, [], ?_⟩
    rw [hg]
    exact PE'.flat pn.st pn.g rw'
  | none =>
    rw [getK_val2 hws hg hle]
    refine q z H3 ⟨L3, O3, [], ?_⟩
    rw [hg]
    refine PE'.flat pn.st pn.g ?_
    have pn2 := (hold p2.drop).1
    rcases p3.r.lst_inv with ⟨e, _⟩ | ⟨k', a', vs', O', _, eO, rfl, ha, hs⟩
    · cases e
    have m : a' ∈ Ov3 := by rw [eO]; exact List.mem_cons_self ..
    have ev := hs.nil_inv
    subst ev
    refine .lst0 ha (fun b => ?_) (.nil 0)
    rcases b with b | b | b
    · rcases p3.st.newO a' (.inr m) with z | z
      · exact (pn2.g.ap a' b).2 z
      · exact pn2.g.ft a' b z
    · exact (p3.g.ap a' (.inr m)).1 b
    · exact (p3.g.ap a' (.inr m)).2 b
/-- d[k] = v -/
theorem snd_dput {x b e : Expr} {i : Nat} {n m : E} {p2 pos : Pos} (hu : X.A.units + 1 < PySem.cLine) (hx : PE X x (tVar i)) (hb : PE X b (tE W C n)) (he : PE X e (tE W C m)) (hp : ∀ lo hi st p, b ≠ .Slice lo hi st p) (hs : PySem.swapsWith e (some (.Subscript x b p2)) pos.line X.env = pure false) :
    PS X (.Assign [.Subscript x b p2] e pos) (tS W C (.dput i n m)) :=
  PS.of (ps_dput hu hx hb he hs) fun D τ H ⟨F, L, s, O, g, fl, s', hr, q⟩ => by
  simp only [exec] at hr
  obtain ⟨⟨⟨d, k⟩, s1⟩, h1, hr⟩ := bind_ok hr
  obtain ⟨⟨d0, k0⟩, h2, hr⟩ := bind_ok hr
  obtain ⟨⟨⟨dk, kk⟩, s2⟩, h3, hr⟩ := bind_ok hr
  obtain ⟨⟨dd, kd⟩, h4, hr⟩ := bind_ok hr
  obtain ⟨ks, vs, ex⟩ : ∃ ks vs, dd = .dct ks vs := by cases dd <;> first | exact ⟨_, _, rfl⟩ | (simp only [reduceCtorEq] at hr)
  subst ex
  obtain ⟨nn, en⟩ : ∃ nn, kd = nn + 1 := by
    cases kd with
    | zero => simp only [reduceCtorEq] at hr
    | succ nn => exact ⟨nn, rfl⟩
  subst en
  obtain ⟨ds, ed⟩ : ∃ ds, dk = .tup ds := by cases dk <;> first | exact ⟨_, rfl⟩ | (simp only [reduceCtorEq] at hr)
  subst ed
  simp only at hr
  obtain ⟨key, hk, hr⟩ := bind_ok hr
  have hk := ofO_ok hk
  split at hr
  · rename_i hh
    obtain ⟨hnew, hlt, hle⟩ := hh
    cases hr
    refine ⟨F, L, s, O, g, _, h1, fun v H1 ⟨L1, O1, Ov, pe⟩ => ?_⟩
    obtain ⟨w, _, _, e1, _⟩ := pe.g.slot (get_ok h2)
    refine ⟨w, e1, FU F Ov, L1, s1, O1, pe.g, _, h3, fun u H2 ⟨L2, O2, Ov2, p2⟩ => ?_⟩
    have pn := p2.drop
    have r1 := pe.r.step pe.g pn.st fun a m => .inr m
    have gw : Gd W L2 F H2 s2 τ O2 := pn.g.weak fun a z => .inl z
    have r0 : Rep W L2 (BB F L2 O2) H2 0 d v [] := by
      refine r1.frz (fun a b => b.elim (fun z => .inl (.inl (.inl z))) .inr) fun a m b => ?_
      rcases b with b | b | b
      · exact pe.ap a m b
      · exact (pn.g.ap a (.inr m)).1 b
      · exact (pn.g.ap a (.inr m)).2 b
    obtain ⟨kb, us, eu, hkb, hks⟩ := Rep.tup_inv p2.fz0
    subst eu
    have eus := vw_ints hks hk
    subst eus
    obtain ⟨w', P, R, z1, z2, z3, z4⟩ := gw.rewrite (get_ok h4)
    rw [e1] at z1
    cases z1
    obtain ⟨a, ws, rfl, ha, _, hws, z | ⟨_, rfl⟩⟩ := Rep.dct_inv z2
    · exact absurd z.1 (by simp)
    have aO : a ∈ O2 := z3.mem_iff.mpr (List.mem_append_left _ (by simp))
    have hwl := hws.length
    have hn := getK_put (v := v) hle hwl hnew
    have hsz : ((ks.map keyL).zip ws).length < PySem.sizeLine := by
      rw [List.length_zip, List.length_map, ← lim_eq]
      unfold lim; omega
    have dp := DPut.t (v := v) ha (k := keyL key) (by rw [keyL_vals]; exact hkb) hsz
    rw [hn] at dp
    refine ⟨a, _, rfl, dp, ?_⟩
    have kp : Keep (fun b => b = a) H2 (upd H2 a (.dT (((ks ++ [key]).map keyL).zip (ws ++ [v])))) := Keep.set rfl ha (by simp) (by simp)
    have aF : ¬ F a := fun z => (gw.ap a z).2 aO
    have toB : ∀ b, BB F L2 ([a] ++ R) b → BB F L2 O2 b := fun b z => z.elim .inl fun z => z.elim (fun z => .inr (.inl z)) fun z => .inr (.inr (z3.mem_iff.mpr z))
    obtain ⟨O', g', hm⟩ := z4 (F' := F) (d' := .dct (ks ++ [key]) (vs ++ [d])) (k' := nn + 1) (P' := [a]) kp (fun b e => by subst e; simp) (fun b z => there_upd z) (fun b z => .inl z) (by simp) (fun b z => .inl z) (fun b z => by simp at z; subst z; exact aF)
      (.dctS upd_same rfl (by simp [hle]) (Reps.append0 (hws.keep kp (fun b e => by subst e; exact .inr (.inr aO)) (fun b _ z => toB b z) (fun _ _ e => e) (by simp))
        (.cons (r0.keep kp (fun b e => by subst e; exact .inr (.inr aO)) (fun b _ z => toB b z) (fun _ _ e => e) (by simp)) (.nil 0))))
    have st : Stp L H O L2 H2 O2 [] := pe.st.trans pn.st (by simp)
    refine q _ _ ⟨L2, O', ⟨st.behind (kp.mono fun b e => by subst e; exact aO) (fun b z => there_upd z) fun b z => .inl (z.elim (fun z => (hm b z).elim (fun z => by simp at z; subst z; exact aO) fun z => z3.mem_iff.mpr (List.mem_append_right _ z)) (by simp)), g', fun _ _ => rfl, rfl⟩⟩
  · cases hr
end
end MP
end
-- MPSo
section
set_option maxRecDepth 100000
set_option maxHeartbeats 1000000
/-! sorted of data. -/
namespace MP
open PySem (Addr Expr Stmt Str Pos PyData)
open PySem.Spec
open PySem.W (EachIs AllAlike Sortable dataLe)
open L2
open PyProof.Rows hiding St
section
variable {W : Wd} {C : Cfg} {X : Cx}
/-- may be sorted -/
def SortsOk (ds : List PyData) : Prop := Sortable ds ∨ ds = [.tuple []]
theorem sorts_unit {prog : PySem.Program} {w : PySem.World} {A : PySem.Around} {s : PySem.Shared} {vs : List PySem.Value} (e : EachIs (fun v d => ∃ as, PySem.Reads s.heap v d as) vs [PyData.tuple []]) (hal : AllAlike [PyData.tuple []]) (hu : A.units + 64 < PySem.cLine) :
    PySem.W.SortsAt prog w A s (PySem.W.dataKind s.heap [PyData.tuple []]) vs := by
  refine ⟨fun v hv => ?_, tuples' true, ?_, fun h2 => ?_⟩
  · obtain ⟨d, hd, as, r⟩ := e.left v hv
    exact ⟨_, PySem.W.dataKind_some hal hd r⟩
  · intro E x y a b Q ha hb hq
    obtain ⟨d, as, hd, ra, rfl⟩ := PySem.W.dataKind_inv ha
    obtain ⟨d', as', hd', rb, rfl⟩ := PySem.W.dataKind_inv hb
    obtain rfl : d = .tuple [] := by simpa using hd
    obtain rfl : d' = .tuple [] := by simpa using hd'
    have hq' : Q (PySem.W.dataLt (.tuple []) (.tuple [])) s := hq
    rw [PySem.W.dataLt_tuple] at hq'
    cases ra with
    | @tuple l o xs n _ _ h1 h2 h3 h4 =>
      cases rb with
      | @tuple l' o' xs' n' _ _ k1 k2 k3 k4 =>
        have n1 : xs.size = 0 := by simpa using PySem.SeqAt.ReadsAll.length _ _ _ h4
        have n2 : xs'.size = 0 := by simpa using PySem.SeqAt.ReadsAll.length _ _ _ k4
        refine PySem.W.kat_lt h1 h3 k1 k3 (PySem.W.katLex_alike [] [] 0 _ _ _ _ h4 k4 (by simp [PySem.W.alikeAll]) (by simp [PyData.depthAll]; omega) (fun _ _ x r t ex => by cases ex) (by rw [n1, n2]; rfl) hq')
  · have := e.length
    simp at this
    omega
def sortV (ys : List V) (ds : List PyData) : List V := ((ys.zip ds).mergeSort (dataLe false Prod.snd)).map Prod.fst
theorem DpAll.len {K : PySem.W.Frag} {H : Hp} : ∀ {ys : List V} {ds : List PyData}, DpAll K H ys ds → ys.length = ds.length
  | _, _, .nil => rfl
  | _, _, .cons _ h => congrArg Nat.succ (DpAll.len h)
theorem each_zip : ∀ {ys : List V} {us : List PySem.Value} {ds : List PyData}, Vals ys us → ys.length = ds.length → EachIs (fun u (b : V × PyData) => RelV b.1 u) us (ys.zip ds)
  | _, _, [], .nil, _ => .nil
  | _, _, _ :: _, .nil, h => by cases h
  | _, _, [], .cons _ _, h => by cases h
  | _, _, d :: ds, .cons r rs, h => .cons r (each_zip rs (Nat.succ.inj h))
theorem vals_each : ∀ {us : List PySem.Value} {bs : List (V × PyData)}, EachIs (fun u (b : V × PyData) => RelV b.1 u) us bs → Vals (bs.map Prod.fst) us
  | _, _, .nil => .nil
  | _, _, .cons r rs => .cons r (vals_each rs)
theorem cr_sortedD (hU : X.A.units + 80 < PySem.cLine) : CallR X (.builtin "sorted") (fun xs H Q => ∃ a ys ds, xs = [.ref a] ∧ SqL X.K H a ys ∧ DpAll X.K H ys ds ∧ AllAlike ds ∧ SortsOk ds ∧ (∀ d ∈ ds, X.A.units + 2 + d.depth < PySem.cLine) ∧ ∀ p, H p = none → Q (.ref p) (upd H p (.lst (sortV ys ds)))) := by
  intro pins s σ H vs us Q I r ⟨a, ys, ds, e, hs, hd, hal, hk, hu, q⟩
  subst e
  obtain ⟨its, rv, hl, hlen⟩ := I.list hs
  rw [Vals.ref1 r]
  obtain ⟨as, hr⟩ := Dp.readsAll I ds ys its hd rv
  have hdl := DpAll.len hd
  have m1 : (ys.zip ds).map Prod.snd = ds := by rw [List.map_snd_zip]; omega
  have hz : (ys.zip ds).length = ys.length := by rw [List.length_zip]; omega
  have fin : ∀ out : List PySem.Value, out.length = (ys.zip ds).length → EachIs (fun u (b : V × PyData) => RelV b.1 u) out ((ys.zip ds).mergeSort (dataLe false Prod.snd)) →
      EP X pins σ Q (.ref (s.heap.objs.size + 1)) { s with heap := sortedAll s.heap its (List.toArray out) } := fun out ho he => by
    obtain ⟨ep, he'⟩ := sortedAll_at s.heap its out.toArray
    have hlen2 : (sortV ys ds).length ≤ PySem.sizeLine := by unfold sortV; rw [List.length_map, List.length_mergeSort, hz]; exact hlen
    exact ⟨.ref _, upd H (s.heap.objs.size + 1) (.lst (sortV ys ds)), I.laid (t' := s.toks) (fun _ _ => sortedAll_old) (Nat.le_succ _) ⟨hlen2, out, ep, vals_each he, he'⟩, rfl, q _ (I.hok.fresh (Nat.le_succ _))⟩
  have er : EachIs (fun v (b : V × PyData) => ∃ as, PySem.Reads s.heap v b.2 as) its (ys.zip ds) := PySem.W.readsAll_each Prod.snd (by rw [m1]; exact hr)
  rcases hk with hk | hk
  · exact PySem.W.sorted_data (vs := its) (bs := ys.zip ds) (enc := Prod.snd) (R := fun u (b : V × PyData) => RelV b.1 u) hl.isList (each_zip rv hdl) er (by rw [m1]; exact hal) (by rw [m1]; exact hk) (by rw [hz]; exact hlen)
      (fun b hb => hu _ (by rw [← m1]; exact List.mem_map.mpr ⟨b, hb, rfl⟩)) fin
  · have e := each_zip rv hdl
    have hal' : AllAlike ((ys.zip ds).map Prod.snd) := by rw [m1]; exact hal
    have er' : EachIs (fun v (b : V × PyData) => ∃ as, PySem.Reads (PySem.W.sortingHeap (PySem.W.copyHeap s.heap its) (s.heap.objs.size + 1) its) v b.2 as) its (ys.zip ds) := er.mono fun _ _ ⟨as, r⟩ => ⟨as, PyProof.Rows.Reads.keeps (fun _ _ => PySem.W.sorting_copy_old) r⟩
    have em := PySem.W.each_map (R := fun v d => ∃ as, PySem.Reads (PySem.W.sortingHeap (PySem.W.copyHeap s.heap its) (s.heap.objs.size + 1) its) v d as) Prod.snd er'
    have m2 : (ys.zip ds).map Prod.snd = [.tuple []] := by rw [m1, hk]
    rw [m2] at em hal'
    have hu0 := hu (.tuple []) (by rw [hk]; exact List.mem_cons_self ..)
    refine PySem.W.sorted_vals (A := X.A) hl.isList (sorts_unit (A := X.A.in1.in1) (s := { s with heap := PySem.W.sortingHeap (PySem.W.copyHeap s.heap its) (s.heap.objs.size + 1) its }) em hal' (by show X.A.units + 1 + 1 + 64 < PySem.cLine; omega)) (by rw [← rv.length]; exact hlen) (fin _ (by rw [PySem.W.sortVals_length false rfl]; exact e.length) ?_)
    have := PySem.W.sortVals_data false e er' (by rw [m2]; exact hal')
    rw [m2] at this
    exact this
theorem Reps.zip {L B H} : ∀ {ds : List D} {vs : List V}, Reps W L B H 0 ds vs [] → ∀ t ∈ vs.zip ds, Rep W L B H 0 t.2 t.1 []
  | [], _, h, t, m => by rw [h.nil_inv] at m; cases m
  | d :: ds, vs, h, t, m => by
    obtain ⟨v, vs', rfl, r, hs⟩ := h.cons0
    rcases List.mem_cons.mp m with rfl | m
    · exact r
    · exact Reps.zip hs t m
theorem Reps.of_zip {L B H} : ∀ (ts : List (V × D)), (∀ t ∈ ts, Rep W L B H 0 t.2 t.1 []) → Reps W L B H 0 (ts.map Prod.snd) (ts.map Prod.fst) []
  | [], _ => .nil 0
  | t :: ts, h => .cons (O := []) (O' := []) (h t (List.mem_cons_self ..)) (Reps.of_zip ts fun u m => h u (List.mem_cons_of_mem _ m))
theorem toPys_map : ∀ xs : List D, toPys xs = xs.map toPy
  | [] => rfl
  | x :: xs => by simp only [toPys, List.map_cons, toPys_map xs]
theorem Reps.sorted {L B H} {ds : List D} {vs : List V} (h : Reps W L B H 0 ds vs []) : Reps W L B H 0 (sortD ds) (sortV vs (toPys ds)) [] := by
  have hl := h.length
  have e1 : sortD ds = ((vs.zip ds).mergeSort (dataLe false fun t => toPy t.2)).map Prod.snd := by
    rw [PySem.W.sort_maps (r := dataLe false fun t : V × D => toPy t.2) (s := dataLe false toPy) Prod.snd (fun a _ b _ => rfl), List.map_snd_zip (by omega)]
    rfl
  have e2 : sortV vs (toPys ds) = ((vs.zip ds).mergeSort (dataLe false fun t => toPy t.2)).map Prod.fst := by
    have : vs.zip (toPys ds) = (vs.zip ds).map fun t => (t.1, toPy t.2) := by
      rw [toPys_map, List.zip_map_right]; rfl
    unfold sortV
    rw [this, ← PySem.W.sort_maps (r := dataLe false fun t : V × D => toPy t.2) (fun t : V × D => (t.1, toPy t.2)) (fun a _ b _ => rfl), List.map_map]
    rfl
  rw [e1, e2]
  exact Reps.of_zip _ fun t m => Reps.zip h t (List.mem_mergeSort.mp m)
theorem sort_facts {xs : List D} (h : okSort xs = true) : AllAlike (toPys xs) ∧ SortsOk (toPys xs) ∧ PyData.canLayAll0 (toPys xs) = true ∧ ∀ d ∈ toPys xs, d.depth ≤ 64 := by
  simp only [okSort, Bool.and_eq_true, Bool.or_eq_true] at h
  obtain ⟨h1, h2, h3, h4⟩ := h
  refine ⟨fun d m d' m' => List.all_eq_true.mp (List.all_eq_true.mp h1 d m) d' m', ?_, h3, fun d m => of_decide_eq_true (List.all_eq_true.mp h4 d m)⟩
  rcases h2 with h2 | h2 | h2
  · refine .inl (.inl fun d m => ?_)
    have := List.all_eq_true.mp h2 d m
    unfold tup1 at this
    split at this
    · exact ⟨_, _, rfl⟩
    · cases this
  · refine .inl (.inr fun d m => ?_)
    have := List.all_eq_true.mp h2 d m
    constructor
    · rintro rfl; cases this
    · rintro xs rfl; cases this
  · refine .inr ?_
    unfold unitT at h2
    split at h2
    · assumption
    · cases h2
theorem snd_sorted {e : Expr} {m : E} (hK : W.K = X.K) (hu : X.A.units + 80 < PySem.cLine)
    (hp : PE X e (tCB (fun xs H Q => ∃ a ys ds, xs = [.ref a] ∧ SqL X.K H a ys ∧ DpAll X.K H ys ds ∧ AllAlike ds ∧ SortsOk ds ∧ (∀ d ∈ ds, X.A.units + 2 + d.depth < PySem.cLine) ∧ ∀ p, H p = none → Q (.ref p) (upd H p (.lst (sortV ys ds)))) (tCons (tO W C m) tNil))) : PE X e (tE W C (.b1 .sorted m)) := by
  refine PE.imp hp fun τ H Q ⟨F, L, s, O, g, r, hr, q⟩ => ?_
  simp only [ev] at hr
  obtain ⟨⟨p, s1⟩, h1, hr⟩ := bind_ok hr
  obtain ⟨d, hd, hr⟩ := bind_ok hr
  obtain ⟨z, hz, hr⟩ := bind_ok hr
  cases hr
  have hz := ofO_ok hz
  cases d <;> simp only [b1D, reduceCtorEq] at hz
  rename_i xs _
  split at hz
  · rename_i hs
    cases hz
    obtain ⟨f1, f2, f3, f4⟩ := sort_facts hs
    refine ⟨F, L, s, O, g, p, s1, h1, fun v H1 hv => ?_⟩
    obtain ⟨F1, L1, O1, g1, k⟩ := hv.hold
    obtain ⟨pn, oi⟩ := k (.refl g1)
    obtain ⟨O2, sub, g2, sh⟩ := oi.share pn.g hd
    obtain ⟨a, vs, rfl, ha, rs⟩ := sh_lst sh
    refine ⟨a, vs, toPys xs, rfl, .inl (.inl ha), Reps.dp rs f3, f1, f2, fun d m => by have := f4 d m; omega, fun l hl => ?_⟩
    exact q _ _ (PostE.new (pn.sub g2 sub) (.lst hl rs.sorted))
  · cases hz
end
end MP
end
-- MPChk1
section
set_option maxRecDepth 100000
set_option maxHeartbeats 1000000
/-! The look at a def: its tree and its text are of a piece. -/
namespace MP
open PySem (Addr Expr Stmt Str Pos Keyword Scope NameKind)
open PySem.Spec
open L2
open PyProof.Rows hiding St
def lEq : List Nat → List Nat → Bool
  | [], [] => true
  | a :: as, b :: bs => Nat.beq a b && lEq as bs
  | _, _ => false
theorem lEq_ok : ∀ {as bs : List Nat}, lEq as bs = true → as = bs
  | [], [], _ => rfl
  | [], _ :: _, h => by cases h
  | _ :: _, [], h => by cases h
  | a :: as, b :: bs, h => by
    simp only [lEq, Bool.and_eq_true] at h
    rw [Nat.eq_of_beq_eq_true h.1, lEq_ok h.2]
def sEq (a b : Str) : Bool := lEq a.cps.toList b.cps.toList
theorem sEq_ok {a b : Str} (h : sEq a b = true) : a = b := by
  cases a with
  | mk a => cases b with
    | mk b =>
      have := lEq_ok h
      simp only at this
      cases a; cases b; cases this; rfl
def oEq (a : Option Str) (b : Str) : Bool := match a with | some a => sEq a b | none => false
theorem oEq_ok {a : Option Str} {b : Str} (h : oEq a b = true) : a = some b := by
  cases a with
  | none => cases h
  | some a => rw [sEq_ok h]
/-- names: defs, classes, methods and properties of a class, fields, constants, built-ins -/
structure Nm where
  fn : List Str
  cls : List Str
  mth : List (Nat × Nat × Str)
  prp : List (Nat × Nat × Str)
  fld : List (List Str)
  con : List (Str × D)
  blt : List Str
  kbf : List (Nat × Nat × List Str × List Nat) := []
  kbc : List (Nat × Nat × List Str × List Nat) := []
  kbm : List (Nat × Nat × Nat × List Str × List Nat) := []
  neq : List Nat := []
  nis : List Nat := []
def memN (c : Nat) : List Nat → Bool | [] => false | d :: r => Nat.beq c d || memN c r
theorem memN_ok {c : Nat} : ∀ {l}, memN c l = true → c ∈ l
  | [], h => by cases h
  | d :: r, h => by
    simp only [memN, Bool.or_eq_true] at h
    rcases h with h | h
    · rw [Nat.eq_of_beq_eq_true h]; exact List.mem_cons_self ..
    · exact List.mem_cons_of_mem _ (memN_ok h)
def sEqs : List Str → List Str → Bool | [], [] => true | a :: as, b :: bs => sEq a b && sEqs as bs | _, _ => false
theorem sEqs_ok : ∀ {as bs : List Str}, sEqs as bs = true → as = bs
  | [], [], _ => rfl
  | [], _ :: _, h => by cases h
  | _ :: _, [], h => by cases h
  | a :: as, b :: bs, h => by
    simp only [sEqs, Bool.and_eq_true] at h
    rw [sEq_ok h.1, sEqs_ok h.2]
def memK (f n : Nat) (ks : List Str) (pm : List Nat) : List (Nat × Nat × List Str × List Nat) → Bool
  | [] => false
  | (f', n', ks', pm') :: r => (Nat.beq f f' && (Nat.beq n n' && (sEqs ks ks' && lEq pm pm'))) || memK f n ks pm r
theorem memK_ok {f n ks pm} : ∀ {l}, memK f n ks pm l = true → (f, n, ks, pm) ∈ l
  | [], h => by cases h
  | (f', n', ks', pm') :: r, h => by
    simp only [memK, Bool.or_eq_true, Bool.and_eq_true] at h
    rcases h with ⟨h1, h2, h3, h4⟩ | h
    · rw [Nat.eq_of_beq_eq_true h1, Nat.eq_of_beq_eq_true h2, sEqs_ok h3, lEq_ok h4]; exact List.mem_cons_self ..
    · exact List.mem_cons_of_mem _ (memK_ok h)
def memKm (c m n : Nat) (ks : List Str) (pm : List Nat) : List (Nat × Nat × Nat × List Str × List Nat) → Bool
  | [] => false
  | (c', m', n', ks', pm') :: r => (Nat.beq c c' && (Nat.beq m m' && (Nat.beq n n' && (sEqs ks ks' && lEq pm pm')))) || memKm c m n ks pm r
theorem memKm_ok {c m n ks pm} : ∀ {l}, memKm c m n ks pm l = true → (c, m, n, ks, pm) ∈ l
  | [], h => by cases h
  | (c', m', n', ks', pm') :: r, h => by
    simp only [memKm, Bool.or_eq_true, Bool.and_eq_true] at h
    rcases h with ⟨h0, h1, h2, h3, h4⟩ | h
    · rw [Nat.eq_of_beq_eq_true h0, Nat.eq_of_beq_eq_true h1, Nat.eq_of_beq_eq_true h2, sEqs_ok h3, lEq_ok h4]; exact List.mem_cons_self ..
    · exact List.mem_cons_of_mem _ (memKm_ok h)
/-- the names of keywords -/
def kwN : List Keyword → List Str | [] => [] | k :: ks => (k.arg.getD ⟨#[]⟩) :: kwN ks
def kwAll : List Keyword → Bool | [] => true | k :: ks => k.arg.isSome && kwAll ks
theorem kwN_ok : ∀ {kws : List Keyword}, kwAll kws = true → kws.map (·.arg) = (kwN kws).map some
  | [], _ => rfl
  | k :: ks, h => by
    simp only [kwAll, Bool.and_eq_true] at h
    rw [List.map_cons, kwN, List.map_cons, kwN_ok h.2]
    obtain ⟨x, hx⟩ := Option.isSome_iff_exists.mp h.1
    rw [hx]; rfl
theorem kwN_len : ∀ {kws : List Keyword}, (kwN kws).length = kws.length
  | [] => rfl
  | k :: ks => by simp [kwN, kwN_len]
def mem3 (c m : Nat) (x : Str) : List (Nat × Nat × Str) → Bool
  | [] => false
  | (c', m', y) :: r => (Nat.beq c c' && (Nat.beq m m' && sEq y x)) || mem3 c m x r
theorem mem3_ok {c m : Nat} {x : Str} : ∀ {l}, mem3 c m x l = true → (c, m, x) ∈ l
  | [], h => by cases h
  | (c', m', y) :: r, h => by
    simp only [mem3, Bool.or_eq_true, Bool.and_eq_true] at h
    rcases h with ⟨h1, h2, h3⟩ | h
    · rw [Nat.eq_of_beq_eq_true h1, Nat.eq_of_beq_eq_true h2, sEq_ok h3]; exact List.mem_cons_self ..
    · exact List.mem_cons_of_mem _ (mem3_ok h)
def memS (x : Str) : List Str → Bool | [] => false | y :: r => sEq y x || memS x r
theorem memS_ok {x : Str} : ∀ {l}, memS x l = true → x ∈ l
  | [], h => by cases h
  | y :: r, h => by
    simp only [memS, Bool.or_eq_true] at h
    rcases h with h | h
    · rw [sEq_ok h]; exact List.mem_cons_self ..
    · exact List.mem_cons_of_mem _ (memS_ok h)
mutual
def sameD : D → D → Bool
  | .non, y => match y with | .non => true | _ => false
  | .bl a, y => match y with | .bl b => a == b | _ => false
  | .int i, y => match y with | .int j => decide (i = j) | _ => false
  | .str s, y => match y with | .str t => sEq s t | _ => false
  | .tup xs, y => match y with | .tup ys => sameDs xs ys | _ => false
  | _, _ => false
def sameDs : List D → List D → Bool
  | [], ys => match ys with | [] => true | _ => false
  | x :: xs, ys => match ys with | [] => false | y :: ys => sameD x y && sameDs xs ys
end
mutual
theorem sameD_ok : ∀ {x y : D}, sameD x y = true → x = y
  | .non, y, h => by cases y <;> simp [sameD] at h; rfl
  | .bl a, y, h => by cases y <;> simp [sameD] at h; rw [h]
  | .int a, y, h => by cases y <;> simp [sameD] at h; rw [h]
  | .str a, y, h => by cases y <;> simp [sameD] at h; rw [sEq_ok h]
  | .tup xs, y, h => by cases y <;> simp [sameD] at h; rw [sameDs_ok h]
  | .lst _, y, h => by simp [sameD] at h
  | .ins _ _, y, h => by simp [sameD] at h
  | .loc _, y, h => by simp [sameD] at h
  | .junk, y, h => by simp [sameD] at h
  | .fz _, y, h => by simp [sameD] at h
  | .dct _ _, y, h => by simp [sameD] at h
theorem sameDs_ok : ∀ {x y : List D}, sameDs x y = true → x = y
  | [], y, h => by cases y <;> simp [sameDs] at h; rfl
  | x :: xs, y, h => by
    cases y with
    | nil => simp [sameDs] at h
    | cons y ys =>
      simp only [sameDs, Bool.and_eq_true] at h
      rw [sameD_ok h.1, sameDs_ok h.2]
end
def conOk (d : D) (x : Str) : List (Str × D) → Bool
  | [] => false
  | (y, e) :: r => (sEq y x && sameD d e) || conOk d x r
theorem conOk_ok {d : D} {x : Str} : ∀ {l}, conOk d x l = true → (x, d) ∈ l
  | [], h => by cases h
  | (y, e) :: r, h => by
    simp only [conOk, Bool.or_eq_true, Bool.and_eq_true] at h
    rcases h with ⟨h1, h2⟩ | h
    · rw [sEq_ok h1, sameD_ok h2]; exact List.mem_cons_self ..
    · exact List.mem_cons_of_mem _ (conOk_ok h)
/-- what is known of the world, calls with room k -/
structure Wo (nm : Nm) (W : Wd) (C : Cfg) (P : PySem.Program) (w : PySem.World) (K : PySem.W.Frag) (mg : Str → Option PySem.Value) (base : PySem.Heap) (k : Nat) : Prop where
  T : CF K W
  con : ∀ x d, (x, d) ∈ nm.con → ∃ v u, mg x = some u ∧ RelV v u ∧ ∀ L B H, Rep W L B H 0 d v []
  blt : ∀ x ∈ nm.blt, mg x = none
  fn : ∀ f x, nm.fn[f]? = some x → ∃ fa fd ps, FnOk P w K mg base CX0 (2 * k) fa fd ps (spF W (C.call f)) ∧ Binds K fd ps [] ∧ mg x = some (.ref fa) ∧ PySem.W.keepIn K (.ref fa) = true ∧ ∀ j ks pm, (f, j, ks, pm) ∈ nm.kbf → KPm K fd ps j ks pm
  cls : ∀ c x, nm.cls[c]? = some x → W.ok c = true ∧ mg x = some (.ref (W.cls c)) 
  fld : ∀ c fs, nm.fld[c]? = some fs → W.ok c = true ∧ W.flds c = fs
  new : ∀ c x, nm.cls[c]? = some x → ∃ fa fd ps, Mk K (W.cls c) fa ∧ FnOk P w K mg base CX0 (2 * k) fa fd ps (spI W (C.call (C.init c))) ∧ Binds K fd ps [] ∧ ∀ j ks pm, (c, j, ks, pm) ∈ nm.kbc → KPm K fd ps (j + 1) ks (0 :: pm.map (· + 1))
  mth : ∀ c m x, (c, m, x) ∈ nm.mth → W.ok c = true ∧ x ∉ W.flds c ∧ ∃ fa fd ps, Meth K (W.cls c) x fa ∧ FnOk P w K mg base CX0 (2 * k) fa fd ps (spF W (C.call (C.meth c m))) ∧ Binds K fd ps [] ∧ ∀ j ks pm, (c, m, j, ks, pm) ∈ nm.kbm → KPm K fd ps (j + 1) ks (0 :: pm.map (· + 1))
  prp : ∀ c m x, (c, m, x) ∈ nm.prp → W.ok c = true ∧ ∃ pr fa fd ps, PropOf K (W.cls c) x pr fa ∧ FnOk P w K mg base CX0 (2 * k) fa fd ps (spF W (C.call (C.meth c m))) ∧ Binds K fd ps []
  neq : ∀ c ∈ nm.neq, W.ok c = true ∧ PySem.W.findIn K (.ref (W.cls c)) "__ne__" = some (some (.builtin "object.__ne__"))
  ni : ∀ c ∈ nm.nis, ∀ m, (c, m, ("__eq__" : Str)) ∈ nm.mth → ∃ fa fd ps, W.ok c = true ∧ Meth K (W.cls c) "__eq__" fa ∧ Binds K fd ps [] ∧ ((∃ ps μ r, C.call (C.meth c m) ps μ = .ok r) → NiOk P w K mg base (2 * k) W c fa fd ps)
/-- the names of a comprehension's block where it stands -/
def relS (scope sc : Scope) : Scope := { scope with names := scope.names.map fun (n, k) => if (k == NameKind.free && sc.kind == .function && sc.names.lookup n == some .cell) then (n, NameKind.cell) else (n, k) }
/-- what is known of the place; s0: the names that may be stored -/
structure Cxt (X : Cx) (N : List Str) (s0 sc : Scope) (k : Nat) : Prop where
  hN : X.N = N
  nd : N.Nodup
  hsc : X.env.scope = sc
  kind : sc.kind = .function
  calm : X.calm = true
  room : Room (2 * k + 1) X.A
  xe : X.xe = fun _ _ => False
  fnl : ∀ x, Loc s0 x → Loc sc x ∧ (X.fn x = true ∨ sc.names.lookup x = some .local)
/-- an expression is its tree -/
structure Sd (W : Wd) (C : Cfg) (X : Cx) (e : Expr) (m : E) : Prop where
  pe : PE X e (tE W C m)
  pt : PT X e (tBo W C m)
  v : ∀ i, (m = .v i ∨ m = .ln i) → PE X e (tVar i)
section
variable {W : Wd} {C : Cfg} {X : Cx}
def plainT1 : Expr → Bool | .UnaryOp .Not _ _ => false | .BoolOp _ _ _ => false | .IfExp _ _ _ _ => false | .Compare _ _ _ _ => false | _ => true
theorem Sd.of {e : Expr} {m : E} (h : PE X e (tE W C m)) (hp : plainT1 e = true) (hv : ∀ i, m ≠ .v i ∧ m ≠ .ln i) : Sd W C X e m := by
  refine ⟨h, snd_t h fun whole => ?_, fun i z => z.elim (fun z => absurd z (hv i).1) fun z => absurd z (hv i).2⟩
  cases e <;> first | rfl | (simp [plainT1] at hp) | skip
  rename_i op x pos
  cases op <;> first | rfl | (simp [plainT1] at hp)
theorem Sd.o {e : Expr} {m : E} (h : Sd W C X e m) : PE X e (tO W C m) := snd_o h.pe fun i z => h.v i (.inl z)
end
/-! ### the look -/
def kLoc : Option NameKind → Bool | some .local => true | some .cell => true | _ => false
def kVis : Option NameKind → Bool | some .local => true | some .cell => true | some .free => true | _ => false
def kGlo : Option NameKind → Bool | some .globalImplicit => true | _ => false
def noDbg (x : Str) : Bool := !(x == ("__debug__" : Str)) && !(x == ("__classdict__" : Str))
def varOk (N : List Str) (sc : Scope) (i : Nat) : Expr → Bool
  | .Name x _ => oEq N[i]? x && kVis (sc.names.lookup x) && noDbg x
  | _ => false
def gloOk (sc : Scope) (x : Str) : Bool := kGlo (sc.names.lookup x) && noDbg x
def bltOk (nm : Nm) (sc : Scope) (x y : Str) : Bool := sEq x y && (kGlo (sc.names.lookup y) && memS y nm.blt)
def notSl : Expr → Bool | .Slice _ _ _ _ => false | _ => true
def notSet : Expr → Bool | .Set _ _ _ => false | _ => true
def baseOk : Expr → Bool | .Call _ _ _ _ => false | _ => true
def isNameCall : Expr → Bool | .Call (.Name x _) _ _ _ => !(x == ("super" : Str)) | .Call _ _ _ _ => true | _ => true
def b1S : B1 → Str | .len => "len" | .sum => "sum" | .max => "max" | .min => "min" | .all => "all" | .any => "any" | .abs => "abs" | .int => "int" | .list => "list" | .tuple => "tuple" | .repr => "repr" | .sorted => "sorted" | .str => "str"
def b1Ok : B1 → Bool | .str => false | _ => true
def b2S : B2 → Str | .max => "max" | .min => "min" | .divmod => "divmod" | .index => "index" | .count => "count"
def b2Ok : B2 → Bool | .max => true | .min => true | .divmod => true | _ => false
def tyS : Ty → Str | .int => "int" | .bool => "bool" | .str => "str" | .list => "list" | .tuple => "tuple" | _ => ""
def isCmp4 : CO → Bool | .lt => true | .le => true | .gt => true | .ge => true | _ => false
def plainAll : List Expr → Bool | [] => true | e :: es => plainE e && plainAll es
def plainTs : List Expr → Bool | [] => true | e :: es => plainT e && plainTs es
def okCon (nm : Nm) (sc : Scope) (d : D) : Expr → Bool
  | .Constant c _ _ => (match c, d with
      | .none, .non => true | .bool a, .bl b => a == b | .int i, .int j => decide (i = j) | .str s, .str t => sEq s t
      | _, _ => false)
  | .Name x _ => gloOk sc x && conOk d x nm.con
  | _ => false
mutual
def okE (nm : Nm) (N : List Str) : E → Scope → Expr → Bool
  | .c d, sc, e => match e with
    | .Constant c _ _ => (match c, d with
      | .none, .non => true | .bool a, .bl b => a == b | .int i, .int j => decide (i = j) | .str s, .str t => sEq s t
      | _, _ => false)
    | .Name x _ => gloOk sc x && conOk d x nm.con
    | _ => false
  | .v i, sc, e => varOk N sc i e
  | .mv i, sc, e => varOk N sc i e
  | .ln i, sc, e => varOk N sc i e
  | .tup es, sc, e => match e with | .Tuple xs _ _ => okEs nm N es sc xs | _ => false
  | .lst _ es, sc, e => match e with | .List xs _ => okEs nm N es sc xs | _ => false
  | .lstL es, sc, e => match e with | .List xs _ => okEs nm N es sc xs | _ => false
  | .bin op a b, sc, e => match e with | .BinOp x o y _ => decide (o = bop op) && (okE nm N a sc x && okE nm N b sc y) | _ => false
  | .frz a, sc, e => match e with | .ListComp _ _ _ _ => okE nm N a sc e | _ => false
  | .neg a, sc, e => match e with | .UnaryOp o x _ => decide (o = .USub) && okE nm N a sc x | _ => false
  | .nt a, sc, e => match e with | .UnaryOp o x _ => decide (o = .Not) && okE nm N a sc x | _ => false
  | .an a b, sc, e => match e with
    | .BoolOp o (x :: y :: r) p => decide (o = .And) && (okE nm N a sc x && (match r with | [] => okE nm N b sc y | z :: r => okE nm N b sc (.BoolOp .And (y :: z :: r) p)))
    | _ => false
  | .or a b, sc, e => match e with
    | .BoolOp o (x :: y :: r) p => decide (o = .Or) && (okE nm N a sc x && (match r with | [] => okE nm N b sc y | z :: r => okE nm N b sc (.BoolOp .Or (y :: z :: r) p)))
    | _ => false
  | .ife c a b, sc, e => match e with | .IfExp x y z _ => okE nm N c sc x && (okE nm N a sc y && okE nm N b sc z) | _ => false
  | .cmp op a b, sc, e => match e with
    | .Compare x ops ys _ => (match ops, ys with
      | [o], [y] => decide (o = cop op) && (!PySem.behindInMarks (cop op) y && (okE nm N a sc x && okE nm N b sc y))
      | _, _ => false)
    | _ => false
  | .ceq ng c m a b, sc, e => match e with
    | .Compare x ops ys _ => (match ops, ys with
      | [o], [y] => decide (o = ceqOp ng) && (!PySem.behindInMarks (ceqOp ng) y && (mem3 c m "__eq__" nm.mth && ((!ng || memN c nm.neq) && (okE nm N a sc x && okE nm N b sc y))))
      | _, _ => false)
    | _ => false
  | .ceo c m a b, sc, e => match e with
    | .Compare x ops ys _ => (match ops, ys with
      | [o], [y] => decide (o = .Eq) && (!PySem.behindInMarks .Eq y && (mem3 c m "__eq__" nm.mth && (memN c nm.nis && (okE nm N a sc x && okE nm N b sc y))))
      | _, _ => false)
    | _ => false
  | .cmp2 op op' a b c, sc, e => match e with
    | .Compare x ops ys _ => (match ops, ys with
      | [o, o'], [y, z] => decide (o = cop op) && (decide (o' = cop op') && (isCmp4 op && (isCmp4 op' && (!PySem.lastMarks [cop op, cop op'] [y, z] && (okE nm N a sc x && (okE nm N b sc y && okE nm N c sc z))))))
      | _, _ => false)
    | _ => false
  | .ix a i, sc, e => match e with | .Subscript x y _ => notSl y && (okE nm N a sc x && okE nm N i sc y) | _ => false
  | .pix i es, sc, e => match es with
    | .cons m .nil => (match e with | .Subscript x y _ => notSl y && (varOk N sc i x && okE nm N m sc y) | _ => false)
    | _ => false
  | .dnew, _, e => match e with | .Dict ks vs _ => (match ks, vs with | [], [] => true | _, _ => false) | _ => false
  | .dget a i, sc, e => match e with | .Subscript x y _ => notSl y && (okE nm N a sc x && okE nm N i sc y) | _ => false
  | .dgetd a i, sc, e => match e with
    | .Call (.Attribute o n ap) es kws p => (match es, kws with
      | [y, .List zs _], [] => isNameCall o && (sEq n "get" && (zs.isEmpty && (plainE y && ((ap.endLine == p.line) && (okE nm N a sc o && okE nm N i sc y)))))
      | _, _ => false)
    | _ => false
  | .sl a lo hi, sc, e => match e with
    | .Subscript x (.Slice l h st _) _ => (match st with | none => okE nm N a sc x && (okPr nm N lo sc l && okPr nm N hi sc h) | some _ => false)
    | _ => false
  | .rev a, sc, e => match e with
    | .Subscript x (.Slice l h st _) _ => (match l, h, st with
      | none, none, some (.UnaryOp o (.Constant c _ _) _) => decide (o = .USub) && (decide (c = .int 1) && okE nm N a sc x)
      | _, _, _ => false)
    | _ => false
  | .sls a m, sc, e => match e with
    | .Subscript x (.Slice l h st _) _ => (match l, h, st with
      | none, none, some y => okE nm N a sc x && okE nm N m sc y
      | _, _, _ => false)
    | _ => false
  | .apc i m x, sc, e => match e with
    | .Call (.Attribute o n ap) es kws p => (match o, es, kws with
      | .Subscript y z _, [t], [] => sEq n (mName .app) && (varOk N sc i y && (notSl z && (okE nm N m sc z && (plainE t && ((ap.endLine == p.line) && (match x with | .c d => okCon nm sc d t | .v j => varOk N sc j t | _ => false))))))
      | _, _, _ => false)
    | _ => false
  | .fld a c f, sc, e => match e with
    | .Attribute x n _ => isNameCall x && ((match nm.fld[c]? with | some fs => oEq fs[f]? n | none => false) && okE nm N a sc x)
    | _ => false
  | .prop a c m, sc, e => match e with | .Attribute x n _ => isNameCall x && (mem3 c m n nm.prp && okE nm N a sc x) | _ => false
  | .call f pm as, sc, e => match e with
    | .Call (.Name x _) es kws _ => (match pm, kws with
      | [], [] => oEq nm.fn[f]? x && (gloOk sc x && (plainAll es && okAr nm N as sc es))
      | j :: pm, k :: kws => oEq nm.fn[f]? x && (gloOk sc x && (plainAll es && (kwAll (k :: kws) && (memK f es.length (kwN (k :: kws)) (j :: pm) nm.kbf && okArK nm N as sc es (k :: kws)))))
      | _, _ => false)
    | _ => false
  | .meth c m a pm as, sc, e => match e with
    | .Call (.Attribute o n ap) es kws p => (match pm, kws with
      | [], [] => isNameCall o && (mem3 c m n nm.mth && (plainAll es && (decide (es.length < 29) && ((ap.endLine == p.line) && (okE nm N a sc o && okAr nm N as sc es)))))
      | j :: pm, k :: kws => isNameCall o && (mem3 c m n nm.mth && (plainAll es && (decide (es.length + (k :: kws).length < 29) && ((ap.endLine == p.line) && (kwAll (k :: kws) && (memKm c m es.length (kwN (k :: kws)) (j :: pm) nm.kbm && (okE nm N a sc o && okArK nm N as sc es (k :: kws))))))))
      | _, _ => false)
    | _ => false
  | .new c pm as, sc, e => match e with
    | .Call (.Name x _) es kws _ => (match pm, kws with
      | [], [] => oEq nm.cls[c]? x && (gloOk sc x && (plainAll es && okAr nm N as sc es))
      | j :: pm, k :: kws => oEq nm.cls[c]? x && (gloOk sc x && (plainAll es && (kwAll (k :: kws) && (memK c es.length (kwN (k :: kws)) (j :: pm) nm.kbc && okArK nm N as sc es (k :: kws)))))
      | _, _ => false)
    | _ => false
  | .b1 op a, sc, e => match e with
    | .Call (.Name x _) es kws _ => (match es, kws with
      | [y], [] => b1Ok op && (bltOk nm sc x (b1S op) && (plainE y && okE nm N a sc y))
      | _, _ => false)
    | _ => false
  | .b2 op a b, sc, e => match e with
    | .Call (.Name x _) es kws _ => (match es, kws with
      | [y, z], [] => b2Ok op && (bltOk nm sc x (b2S op) && (plainE y && (plainE z && (okE nm N a sc y && okE nm N b sc z))))
      | _, _ => false)
    | _ => false
  | .isi t a, sc, e => match e with
    | .Call (.Name x _) es kws _ => (match es, kws with
      | [y, z], [] => bltOk nm sc x "isinstance" && (plainE y && (okE nm N a sc y && (match t with
        | .cls c => (match z with | .Name u _ => oEq nm.cls[c]? u && gloOk sc u | _ => false)
        | .seq => (match z with
          | .Tuple zs _ _ => (match zs with | [.Name u _, .Name v _] => bltOk nm sc u "list" && bltOk nm sc v "tuple" | _ => false)
          | _ => false)
        | t => (match z with | .Name u _ => bltOk nm sc u (tyS t) | _ => false))))
      | _, _ => false)
    | _ => false
  | .itl tp it, sc, e => match it with
    | .rng1 m => (match e with
      | .Call (.Name x _) es kws _ => (match es, kws with
        | [.Call (.Name y _) es2 kws2 _], [] => (match es2, kws2 with
          | [z], [] => bltOk nm sc x (if tp then "tuple" else "list") && (bltOk nm sc y "range" && (plainE z && okE nm N m sc z))
          | _, _ => false)
        | _, _ => false)
      | _ => false)
    | .rng2 m n => (match e with
      | .Call (.Name x _) es kws _ => (match es, kws with
        | [.Call (.Name y _) es2 kws2 _], [] => (match es2, kws2 with
          | [z, z2], [] => bltOk nm sc x (if tp then "tuple" else "list") && (bltOk nm sc y "range" && (plainE z && (plainE z2 && (okE nm N m sc z && okE nm N n sc z2))))
          | _, _ => false)
        | _, _ => false)
      | _ => false)
    | _ => false
  | .comp _ own tg it cond elt, sc, e => match e with
    | .ListComp x gs sc' _ => (match gs with
      | [⟨y, z, ifs, as⟩] => decide (as = 0) && (notSet z && (blkC N sc sc' (own.map fun i => ((N[i]?).getD ⟨#[]⟩, i)) && ((tgs tg).all (fun i => own.any fun j => Nat.beq i j) && (okI nm N it sc y z && (okT nm N tg sc' (relS sc' sc) y &&
          (okCn nm N cond (relS sc' sc) ifs && okE nm N elt (relS sc' sc) x))))))
      | _ => false)
    | _ => false
  | .mtp m i path as, sc, e => match path with
    | .nil => (match e with
      | .Call (.Attribute o n ap) es kws p => (match kws with
        | [] => sEq n (mName m) && (varOk N sc i o && (plainAll es && (decide (es.length < 29) && ((ap.endLine == p.line) && okEs nm N as sc es))))
        | _ => false)
      | _ => false)
    | _ => false
  | .mtt m a as, sc, e => match m with
    | .app => (match e with
      | .Call (.Attribute o n ap) es kws p => (match es, kws with
        | [y], [] => isNameCall o && (sEq n (mName .app) && (plainE y && ((ap.endLine == p.line) && (okE nm N a sc o && okEs nm N as sc [y]))))
        | _, _ => false)
      | _ => false)
    | _ => false
def okEs (nm : Nm) (N : List Str) : Es → Scope → List Expr → Bool
  | .nil, _, es => match es with | [] => true | _ => false
  | .cons m ms, sc, es => match es with | [] => false | e :: es => plainE e && (okE nm N m sc e && okEs nm N ms sc es)
def okAr (nm : Nm) (N : List Str) : Es → Scope → List Expr → Bool
  | .nil, _, es => match es with | [] => true | _ => false
  | .cons m ms, sc, es => match es with | [] => false | e :: es => okE nm N m sc e && okAr nm N ms sc es
def okArK (nm : Nm) (N : List Str) : Es → Scope → List Expr → List Keyword → Bool
  | .nil, _, es, kws => match es, kws with | [], [] => true | _, _ => false
  | .cons m ms, sc, es, kws => match es with
    | e :: es => okE nm N m sc e && okArK nm N ms sc es kws
    | [] => (match kws with | kw :: kws => okE nm N m sc kw.value && okArK nm N ms sc [] kws | [] => false)
def okPr (nm : Nm) (N : List Str) : Es → Scope → Option Expr → Bool
  | .nil, _, e => match e with | none => true | _ => false
  | .cons m _, sc, e => match e with | none => false | some e => okE nm N m sc e
def okCn (nm : Nm) (N : List Str) : Es → Scope → List Expr → Bool
  | .nil, _, es => match es with | [] => true | _ => false
  | .cons m _, sc, es => match es with | [e] => okE nm N m sc e | _ => false
def okI (nm : Nm) (N : List Str) : I → Scope → Expr → Expr → Bool
  | .seq m, sc, _, e => okE nm N m sc e
  | .rng1 m, sc, _, e => match e with
    | .Call (.Name x _) es kws _ => (match es, kws with | [y], [] => bltOk nm sc x "range" && (plainE y && okE nm N m sc y) | _, _ => false)
    | _ => false
  | .rng2 m n, sc, _, e => match e with
    | .Call (.Name x _) es kws _ => (match es, kws with | [y, z], [] => bltOk nm sc x "range" && (plainE y && (plainE z && (okE nm N m sc y && okE nm N n sc z))) | _, _ => false)
    | _ => false
  | .rng3 _ _ _, _, _, _ => false
  | .enum m, sc, tg, e => match tg, e with
    | .Tuple _ _ _, .Call (.Name x _) es kws _ => (match es, kws with | [y], [] => bltOk nm sc x "enumerate" && (plainE y && okE nm N m sc y) | _, _ => false)
    | _, _ => false
  | .zip m n, sc, tg, e => match tg, e with
    | .Tuple _ _ _, .Call (.Name x _) es kws _ => (match es, kws with | [y, z], [] => bltOk nm sc x "zip" && (plainE y && (plainE z && (okE nm N m sc y && okE nm N n sc z))) | _, _ => false)
    | _, _ => false
  | .zip3 _ _ _, _, _, _ => false
  | .zip4 _ _ _ _, _, _, _ => false
  | .enumz _ _, _, _, _ => false
def okT (nm : Nm) (N : List Str) : T → Scope → Scope → Expr → Bool
  | .sl i, s0, sc, e => match e with | .Name x _ => oEq N[i]? x && kLoc (s0.names.lookup x) | _ => false
  | .tup ts, s0, sc, e => match e with | .Tuple es _ _ => plainTs es && okTs nm N ts s0 sc es | _ => false
  | .pix i es, s0, sc, e => match es with
    | .cons m .nil => (match e with | .Subscript x y _ => notSl y && (varOk N sc i x && okE nm N m sc y) | _ => false)
    | _ => false
def okTs (nm : Nm) (N : List Str) : Ts → Scope → Scope → List Expr → Bool
  | .nil, _, _, es => match es with | [] => true | _ => false
  | .cons t ts, s0, sc, es => match es with | [] => false | e :: es => okT nm N t s0 sc e && okTs nm N ts s0 sc es
end
end MP
end
-- MPChk2
section
set_option maxRecDepth 100000
set_option maxHeartbeats 2000000
/-! The look is sound: expressions. -/
namespace MP
open PySem (Addr Expr Stmt Str Pos Keyword Scope NameKind)
open PySem.Spec
open L2
open PyProof.Rows hiding St
section
variable {W : Wd} {C : Cfg} {X : Cx} {N : List Str} {s0 sc : Scope} {k : Nat} {nm : Nm}
theorem kVis_ok {x : Str} (h : kVis (sc.names.lookup x) = true) : Vis sc x := by
  unfold kVis at h
  unfold Vis
  split at h <;> first | exact .inl (by assumption) | exact .inr (.inl (by assumption)) | exact .inr (.inr (by assumption)) | cases h
theorem kLoc_ok {x : Str} (h : kLoc (sc.names.lookup x) = true) : Loc sc x := by
  unfold kLoc at h
  unfold Loc
  split at h <;> first | exact .inl (by assumption) | exact .inr (by assumption) | cases h
theorem kGlo_ok {x : Str} (cx : Cxt X N s0 sc k) (h : kGlo (sc.names.lookup x) = true) : Gl X x := by
  unfold kGlo at h
  show X.env.scope.names.lookup x = some .globalImplicit
  rw [cx.hsc]
  split at h
  · assumption
  · cases h
theorem noDbg_ok {x : Str} (h : noDbg x = true) : (x == ("__debug__" : Str)) = false ∧ (x == ("__classdict__" : Str)) = false := by
  unfold noDbg at h
  simpa [Bool.and_eq_true, Bool.not_eq_true'] using h
theorem var_ok {i : Nat} {e : Expr} (cx : Cxt X N s0 sc k) (h : varOk N sc i e = true) : ∃ x pos, e = .Name x pos ∧ N[i]? = some x ∧ PE X e (tVar i) := by
  cases e <;> simp only [varOk, Bool.and_eq_true, reduceCtorEq, Bool.false_eq_true] at h
  rename_i x pos
  obtain ⟨d1, d2⟩ := noDbg_ok h.2
  exact ⟨x, pos, rfl, oEq_ok h.1.1, pe_var (by rw [cx.hN]; exact oEq_ok h.1.1) (by rw [cx.hsc]; exact kVis_ok h.1.2) d1 d2⟩
theorem glo_ok {x : Str} (cx : Cxt X N s0 sc k) (h : gloOk sc x = true) : Gl X x ∧ (x == ("__debug__" : Str)) = false := by
  simp only [gloOk, Bool.and_eq_true] at h
  exact ⟨kGlo_ok cx h.1, (noDbg_ok h.2).1⟩
theorem blt_ok {x y : Str} (cx : Cxt X N s0 sc k) (wo : Wo nm W C X.prog X.w X.K X.mg X.base k) (h : bltOk nm sc x y = true) : x = y ∧ Gl X y ∧ X.mg y = none := by
  simp only [bltOk, Bool.and_eq_true] at h
  exact ⟨sEq_ok h.1, kGlo_ok cx h.2.1, wo.blt y (memS_ok h.2.2)⟩
theorem base_ok {o : Expr} {a : Str} {env : PySem.Env} (h : isNameCall o = true) (v : PySem.Sem PySem.Value) : PySem.attributeBase o a env v = v := by
  cases o with
  | Call f args kws pos =>
    cases f with
    | Name x p =>
      cases args with
      | nil =>
        cases kws with
        | nil =>
          have hx : (x != ("super" : Str)) = true := h
          unfold PySem.attributeBase
          simp only [hx, Bool.true_or, if_true]
        | cons => rfl
      | cons => rfl
    | _ => rfl
  | _ => rfl
theorem plainAll_ok : ∀ {es : List Expr}, plainAll es = true → ∀ e ∈ es, plainE e = true
  | [], _, e, m => by cases m
  | e :: es, h, e', m => by
    simp only [plainAll, Bool.and_eq_true] at h
    rcases List.mem_cons.mp m with z | z
    · subst z; exact h.1
    · exact plainAll_ok h.2 e' z
theorem plainTs_ok : ∀ {es : List Expr}, plainTs es = true → es.all plainT = true
  | [], _ => rfl
  | e :: es, h => by
    simp only [plainTs, Bool.and_eq_true] at h
    rw [List.all_cons, h.1, plainTs_ok h.2]; rfl
theorem notSl_ok {e : Expr} (h : notSl e = true) : ∀ lo hi st p, e ≠ .Slice lo hi st p := by
  rintro lo hi st p rfl
  cases h
theorem notSet_ok {e : Expr} (h : notSet e = true) (env : PySem.Env) : ∀ x, PySem.foldedSetIterable e env x = pure x := by
  intro x
  cases e <;> first | rfl | cases h
theorem isCmp4_ok {op : CO} (h : isCmp4 op = true) : op = .lt ∨ op = .le ∨ op = .gt ∨ op = .ge := by
  cases op <;> first | exact .inl rfl | exact .inr (.inl rfl) | exact .inr (.inr (.inl rfl)) | exact .inr (.inr (.inr rfl)) | cases h
theorem okAr_nil {m : Es} {sc : Scope} {es : List Expr} (h : okAr nm N m sc es = true) : es = [] → m = .nil := by
  rintro rfl
  cases m with
  | nil => rfl
  | cons => simp [okAr] at h
theorem okEs_nil {m : Es} {sc : Scope} {es : List Expr} (h : okEs nm N m sc es = true) : es = [] → m = .nil := by
  rintro rfl
  cases m with
  | nil => rfl
  | cons => simp [okEs] at h
/-- a built-in of one argument -/
theorem b1_ok {op : B1} {y : Expr} {m : E} {p pos : Pos} (cx : Cxt X N s0 sc k) (wo : Wo nm W C X.prog X.w X.K X.mg X.base k) (h1 : b1Ok op = true) (hg : Gl X (b1S op)) (hm : X.mg (b1S op) = none) (hy : plainE y = true) (d : Sd W C X y m) :
    PE X (.Call (.Name (b1S op) p) [y] [] pos) (tE W C (.b1 op m)) := by
  have hK := wo.T.hK
  have ha := one_arg d.o (star_cons hy)
  cases op with
  | len => exact snd_b1 (a := y) (t := fun _ => tVar 0) (by simp) (pe_callB (cb_len hK) hg hm (by decide +kernel) ha (by decide) (by decide) (star_cons hy) rfl)
  | sum => exact snd_b1 (a := y) (t := fun _ => tVar 0) (by simp) (pe_callB (cb_sum hK cx.calm) hg hm (by decide +kernel) ha (by decide) (by decide) (star_cons hy) rfl)
  | max => exact snd_b1 (a := y) (t := fun _ => tVar 0) (by simp) (pe_callB (cb_max hK cx.calm) hg hm (by decide +kernel) ha (by decide) (by decide) (star_cons hy) rfl)
  | min => exact snd_b1 (a := y) (t := fun _ => tVar 0) (by simp) (pe_callB (cb_min hK cx.calm) hg hm (by decide +kernel) ha (by decide) (by decide) (star_cons hy) rfl)
  | all => exact snd_b1 (a := y) (t := fun _ => tVar 0) (by simp) (pe_callB (cb_all hK cx.calm) hg hm (by decide +kernel) ha (by decide) (by decide) (star_cons hy) rfl)
  | any => exact snd_b1 (a := y) (t := fun _ => tVar 0) (by simp) (pe_callB (cb_any hK cx.calm) hg hm (by decide +kernel) ha (by decide) (by decide) (star_cons hy) rfl)
  | repr => exact snd_b1 (a := y) (t := fun _ => tVar 0) (by simp) (pe_callB (cb_repr cx.room.gd (by have := cx.room.un; omega)) hg hm (by decide +kernel) ha (by decide) (by decide) (star_cons hy) rfl)
  | abs => exact snd_b1 (a := y) (t := fun _ => tVar 0) (by simp) (pe_callB cb_abs hg hm (by decide +kernel) ha (by decide) (by decide) (star_cons hy) rfl)
  | int => exact snd_b1 (a := y) (t := fun _ => tVar 0) (by simp) (pe_callTy cb_int hg hm (by decide +kernel) ha (by decide) (by decide) (star_cons hy) rfl)
  | list => exact snd_list hK (pe_callTy call_list_of hg hm (by decide +kernel) ha (by decide) (by decide) (star_cons hy) rfl)
  | tuple => exact snd_tuple hK (pe_callTy call_tuple_of hg hm (by decide +kernel) ha (by decide) (by decide) (star_cons hy) rfl)
  | sorted => exact snd_sorted hK (by have := cx.room.un; omega) (pe_callB (cr_sortedD (by have := cx.room.un; omega)) hg hm (by decide +kernel) ha (by decide) (by decide) (star_cons hy) rfl)
  | _ => cases h1
theorem b2_ok {op : B2} {y z : Expr} {m n : E} {p pos : Pos} (cx : Cxt X N s0 sc k) (h1 : b2Ok op = true) (hg : Gl X (b2S op)) (hm : X.mg (b2S op) = none) (hy : plainE y = true) (hz : plainE z = true) (d : PE X y (tE W C m)) (d2 : PE X z (tE W C n)) :
    PE X (.Call (.Name (b2S op) p) [y, z] [] pos) (tE W C (.b2 op m n)) := by
  have ha : PA X [y, z] (tCons (tE W C m) (tCons (tE W C n) tNil)) := pa_cons d (pa_cons d2 pa_nil (star_cons hz)) (star_cons hy)
  have hpl : (PySem.backTo pos (PySem.starEach [z] X.env)).any (·.1) = false := star_any (by simpa using hz)
  cases op with
  | max => exact snd_b2 (pe_callB (cb_max2 cx.calm) hg hm (by decide +kernel) ha (by decide) (by decide) (star_cons hy) hpl)
  | min => exact snd_b2 (pe_callB (cb_min2 cx.calm) hg hm (by decide +kernel) ha (by decide) (by decide) (star_cons hy) hpl)
  | divmod => exact snd_b2 (pe_callB cb_divmod hg hm (by decide +kernel) ha (by decide) (by decide) (star_cons hy) hpl)
  | _ => cases h1
theorem ty_glob {u : Str} {T : String} {p : Pos} (hg : Gl X u) (hm : X.mg u = none) (hv : PySem.bootBuiltins u = some (.type T)) (hn : u ≠ "__name__") (hd : (u == ("__debug__" : Str)) = false) : PE X (.Name u p) (tC (.ty T)) :=
  pe_bltn hg hm hv rfl hn hd
/-- isinstance(x, T) -/
theorem isi_ok {t : Ty} {y z : Expr} {m : E} {p pos : Pos} (cx : Cxt X N s0 sc k) (wo : Wo nm W C X.prog X.w X.K X.mg X.base k) (hg : Gl X "isinstance") (hm : X.mg "isinstance" = none) (hy : plainE y = true) (d : Sd W C X y m)
    (ht : t ≠ .seq) {c : V} (hc : ∀ c, t = .cls c → W.ok c = true) (h1 : ∀ y, tyV1 t = some y → c = y) (h2 : ∀ c', t = .cls c' → c = .ref (W.cls c')) (hz : PE X z (tC c)) (hpz : plainE z = true) :
    PE X (.Call (.Name "isinstance" p) [y, z] [] pos) (tE W C (.isi t m)) := by
  have ha : PA X [y, z] (tCons (tO W C m) (tCons (tC c) tNil)) := pa_cons d.o (pa_cons hz pa_nil (star_cons hpz)) (star_cons hy)
  have hpl : (PySem.backTo pos (PySem.starEach [z] X.env)).any (·.1) = false := star_any (by simpa using hpz)
  exact snd_isi wo.T ht hc h1 h2 (pe_callB call_isi hg hm (by decide +kernel) ha (by decide) (by decide) (star_cons hy) hpl)
theorem isiT_ok {t : Ty} {y z : Expr} {m : E} {p pos : Pos} (cx : Cxt X N s0 sc k) (wo : Wo nm W C X.prog X.w X.K X.mg X.base k) (hg : Gl X "isinstance") (hm : X.mg "isinstance" = none) (hy : plainE y = true) (d : Sd W C X y m)
    (h : (match t with
        | .cls c => (match z with | .Name u _ => oEq nm.cls[c]? u && gloOk sc u | _ => false)
        | .seq => (match z with
          | .Tuple zs _ _ => (match zs with | [.Name u _, .Name v _] => bltOk nm sc u "list" && bltOk nm sc v "tuple" | _ => false)
          | _ => false)
        | t => (match z with | .Name u _ => bltOk nm sc u (tyS t) | _ => false)) = true) :
    PE X (.Call (.Name "isinstance" p) [y, z] [] pos) (tE W C (.isi t m)) := by
  cases t with
  | cls c =>
    simp only at h
    cases z <;> simp only [Bool.false_eq_true, Bool.and_eq_true] at h
    obtain ⟨hg2, hd⟩ := glo_ok cx h.2
    obtain ⟨ok, hm2⟩ := wo.cls c _ (oEq_ok h.1)
    exact isi_ok cx wo hg hm hy d (by simp) (c := .ref (W.cls c)) (fun c' e => by cases e; exact ok) (fun y e => by simp [tyV1] at e) (fun c' e => by cases e; rfl) (pe_glob hg2 hm2 rfl hd) rfl
  | seq =>
    simp only at h
    cases z <;> simp only [Bool.false_eq_true] at h
    rename_i zs _ _
    match zs, h with
    | [.Name u p1, .Name v p2], h =>
      simp only [Bool.and_eq_true] at h
      obtain ⟨rfl, g1, m1⟩ := blt_ok cx wo h.1
      obtain ⟨rfl, g2, m2⟩ := blt_ok cx wo h.2
      have h1 := ty_glob (T := "list") (p := p1) g1 m1 (by decide +kernel) (by decide) (by decide)
      have h2 := ty_glob (T := "tuple") (p := p2) g2 m2 (by decide +kernel) (by decide) (by decide)
      exact snd_isq wo.T (pe_callB call_isiT hg hm (by decide +kernel) (pa_cons d.o (pa_cons (pe_tup (pa_cons h1 (pa_cons h2 pa_nil rfl) rfl)) pa_nil rfl) (star_cons hy)) (by decide) (by decide) (star_cons hy) rfl)
  | int =>
    simp only at h
    cases z <;> simp only [Bool.false_eq_true] at h
    obtain ⟨rfl, g1, m1⟩ := blt_ok cx wo h
    exact isi_ok cx wo hg hm hy d (by simp) (c := .ty "int") (by simp) (fun y e => by cases e; rfl) (by simp) (ty_glob g1 m1 (by decide +kernel) (by decide) (by decide)) rfl
  | bool =>
    simp only at h
    cases z <;> simp only [Bool.false_eq_true] at h
    obtain ⟨rfl, g1, m1⟩ := blt_ok cx wo h
    exact isi_ok cx wo hg hm hy d (by simp) (c := .ty "bool") (by simp) (fun y e => by cases e; rfl) (by simp) (ty_glob g1 m1 (by decide +kernel) (by decide) (by decide)) rfl
  | str =>
    simp only at h
    cases z <;> simp only [Bool.false_eq_true] at h
    obtain ⟨rfl, g1, m1⟩ := blt_ok cx wo h
    exact isi_ok cx wo hg hm hy d (by simp) (c := .ty "str") (by simp) (fun y e => by cases e; rfl) (by simp) (ty_glob g1 m1 (by decide +kernel) (by decide) (by decide)) rfl
  | list =>
    simp only at h
    cases z <;> simp only [Bool.false_eq_true] at h
    obtain ⟨rfl, g1, m1⟩ := blt_ok cx wo h
    exact isi_ok cx wo hg hm hy d (by simp) (c := .ty "list") (by simp) (fun y e => by cases e; rfl) (by simp) (ty_glob g1 m1 (by decide +kernel) (by decide) (by decide)) rfl
  | tuple =>
    simp only at h
    cases z <;> simp only [Bool.false_eq_true] at h
    obtain ⟨rfl, g1, m1⟩ := blt_ok cx wo h
    exact isi_ok cx wo hg hm hy d (by simp) (c := .ty "tuple") (by simp) (fun y e => by cases e; rfl) (by simp) (ty_glob g1 m1 (by decide +kernel) (by decide) (by decide)) rfl
theorem okCon_ok {d : D} {e : Expr} (cx : Cxt X N s0 sc k) (wo : Wo nm W C X.prog X.w X.K X.mg X.base k) (h : okCon nm sc d e = true) : ∃ v, PE X e (tC v) ∧ ∀ L B H, Rep W L B H 0 d v [] := by
  cases e <;> simp only [okCon, Bool.false_eq_true] at h
  · rename_i c _ _
    cases c <;> cases d <;> simp only [Bool.false_eq_true, beq_iff_eq, decide_eq_true_eq] at h
    · exact ⟨_, pe_non, fun _ _ _ => .non 0⟩
    · subst h; exact ⟨_, pe_bl, fun _ _ _ => .bl 0 _⟩
    · subst h; exact ⟨_, pe_int, fun _ _ _ => .int 0 _⟩
    · have := sEq_ok h
      subst this; exact ⟨_, pe_str, fun _ _ _ => .str 0 _⟩
  · simp only [Bool.and_eq_true] at h
    obtain ⟨hg, hd⟩ := glo_ok cx h.1
    obtain ⟨v, u, h1, h2, h3⟩ := wo.con _ _ (conOk_ok h.2)
    exact ⟨v, pe_glob hg h1 h2 hd, h3⟩
end
end MP
end
-- MPChk3
section
set_option maxRecDepth 100000
set_option maxHeartbeats 4000000
/-! The look is sound: all expressions. -/
namespace MP
open PySem (Addr Expr Stmt Str Pos Keyword Scope NameKind)
open PySem.Spec
open L2
open PyProof.Rows hiding St
section
variable {W : Wd} {C : Cfg} {nm : Nm} {N : List Str} {k : Nat}
theorem PE.ln {X : Cx} {e : Expr} {i : Nat} : PE X e (tE W C (.ln i)) := ⟨fun _ _ _ _ _ _ ⟨_, _, _, _, _, _, h, _⟩ => by simp only [ev] at h; cases h⟩
theorem Sd.ln {X : Cx} {e : Expr} {i : Nat} (h : PE X e (tVar i)) : Sd W C X e (.ln i) := ⟨PE.ln, ⟨fun _ _ _ _ _ _ ⟨_, _, _, _, _, _, _, h, _⟩ => by
  simp only [ev, bool1] at h
  cases h⟩, fun j z => z.elim (by simp) fun z => by cases z; exact h⟩
theorem Sd.var {X : Cx} {x : Str} {pos : Pos} {i : Nat} {m : E} (h : PE X (.Name x pos) (tVar i)) (hm : m = .v i ∨ m = .mv i) : Sd W C X (.Name x pos) m := by
  rcases hm with rfl | rfl
  · exact ⟨snd_v h, snd_t (snd_v h) fun _ => rfl, fun j z => z.elim (fun z => by cases z; exact h) (by simp)⟩
  · exact ⟨snd_mv h, snd_t (snd_mv h) fun _ => rfl, fun j z => z.elim (by simp) (by simp)⟩
theorem lookup_mapk {h : Str → NameKind → NameKind} {x : Str} : ∀ {names : List (Str × NameKind)}, (names.map fun (n, k) => (n, h n k)).lookup x = (names.lookup x).map (h x)
  | [] => rfl
  | (n, kd) :: r => by
    show List.lookup x ((n, h n kd) :: r.map fun (n, k) => (n, h n k)) = Option.map (h x) (List.lookup x ((n, kd) :: r))
    rw [List.lookup_cons, List.lookup_cons]
    cases e : (x == n) with
    | true =>
      have := eq_of_beq e
      subst this
      rfl
    | false => exact lookup_mapk
theorem relS_names (scope sc : Scope) : (relS scope sc).names = scope.names.map fun (n, k) => (n, if (k == NameKind.free && sc.kind == .function && sc.names.lookup n == some .cell) then NameKind.cell else k) := by
  show scope.names.map _ = _
  congr 1
  funext ⟨n, k⟩
  simp only
  split <;> rfl
theorem relS_loc {scope sc : Scope} {x : Str} (h : Loc scope x) : (scope.names.lookup x = some .local → (relS scope sc).names.lookup x = some .local) ∧ Loc (relS scope sc) x := by
  have e := fun (y : NameKind) (hy : scope.names.lookup x = some y) => (by
    rw [relS_names, lookup_mapk (h := fun n k => if (k == NameKind.free && sc.kind == .function && sc.names.lookup n == some .cell) then NameKind.cell else k), hy]; rfl :
      (relS scope sc).names.lookup x = some (if (y == NameKind.free && sc.kind == .function && sc.names.lookup x == some .cell) then NameKind.cell else y))
  refine ⟨fun hl => by rw [e _ hl]; rfl, ?_⟩
  rcases h with h | h
  · exact .inl (by rw [e _ h]; rfl)
  · exact .inr (by rw [e _ h]; rfl)
theorem Cxt.blk {X : Cx} {s0 sc scope : Scope} (cx : Cxt X N s0 sc k) (hk : scope.kind = .function) (s : PySem.Shared) (H : Hp) (A : Addr) (cl : List (Str × Addr)) (fp : List Addr) : Cxt (X.blk s H scope (PySem.compEnvC scope cl A X.env) fp) N scope (relS scope sc) k where
  hN := cx.hN
  nd := cx.nd
  hsc := by rw [← cx.hsc]; rfl
  kind := hk
  calm := cx.calm
  room := cx.room
  xe := rfl
  fnl := fun x h => by
    obtain ⟨h1, h2⟩ := relS_loc (sc := sc) h
    refine ⟨h2, ?_⟩
    rcases h with h | h
    · exact .inr (h1 h)
    · exact .inl (by show (scope.names.lookup x == some .cell) = true; rw [h]; rfl)
theorem pw_of {X : Cx} {op : PySem.BoolOp} {vs : List Expr} {pos : Pos} {t : TT} (h : PT X (.BoolOp op vs pos) t) : PW X (.BoolOp op vs pos) t := ⟨fun whole pins s σ H Q I hw => h.run pins s σ H Q I hw⟩
theorem pt_ife {X : Cx} {c a b : Expr} {kk m n : E} {pos : Pos} (hc : PT X c (tBo W C kk)) (ha : PT X a (tBo W C m)) (hb : PT X b (tBo W C n)) : PT X (.IfExp c a b pos) (tBo W C (.ife kk m n)) := by
  have key : PT X (.IfExp c a b pos) (fun τ H Q => tBo W C kk τ H fun x H1 => if x = true then tBo W C m τ H1 Q else tBo W C n τ H1 Q) := by
    refine ⟨fun pins s σ H Q I h => ?_⟩
    show PySem.wpAny _ _ (PySem.isTrue c X.env (PySem.eval c X.env) >>= fun x => if x = true then PySem.isTrue a X.env (PySem.eval a X.env) else PySem.isTrue b X.env (PySem.eval b X.env)) _ _ _
    refine PySem.wpAny_bind (thn (hc.run pins s σ H _ I h) fun x s1 ⟨H1, I1, q⟩ => ?_)
    cases x with
    | true => simp only [if_true] at q ⊢; exact ha.run pins s1 σ H1 Q I1 q
    | false => simp only [Bool.false_eq_true, if_false] at q ⊢; exact hb.run pins s1 σ H1 Q I1 q
  refine PT.imp key fun τ H Q ⟨F, L, s, O, g, r, s', hr, q⟩ => ?_
  simp only [ev] at hr
  obtain ⟨⟨⟨d, kd⟩, s2⟩, h1, h2⟩ := bind_ok hr
  obtain ⟨⟨x, s1⟩, h3, h4⟩ := bind_ok h1
  refine ⟨F, L, s, O, g, x, s1, h3, fun H1 ⟨L1, O1, p⟩ => ?_⟩
  have fin : ∀ {mm : E}, ev C mm s1 = .ok ((d, kd), s2) → tBo W C mm τ H1 Q := fun {mm} e => ⟨F, L1, s1, O1, p.g, r, s', by unfold bool1; rw [e]; exact h2, fun H2 ⟨L2, O2, p2⟩ => q H2 ⟨L2, O2, p.trans p2⟩⟩
  cases x with
  | true => simp only [if_true] at h4 ⊢; exact fin h4
  | false => simp only [Bool.false_eq_true, if_false] at h4 ⊢; exact fin h4
theorem blkC_kind {sc scope : Scope} {own : List (Str × Nat)} (h : blkC N sc scope own = true) : scope.kind = .function := (blkOk_by h).kind
theorem own_snd (own : List Nat) : (own.map fun i => ((N[i]?).getD (⟨#[]⟩ : Str), i)).map (·.2) = own := by
  rw [List.map_map]
  exact List.map_id _
theorem own_mem {is own : List Nat} (h : is.all (fun i => own.any fun j => Nat.beq i j) = true) : ∀ i ∈ is, i ∈ own := by
  intro i hi
  have := List.all_eq_true.mp h i hi
  obtain ⟨j, hj, e⟩ := List.any_eq_true.mp this
  rw [Nat.eq_of_beq_eq_true e]; exact hj
theorem asTs_len {C : Cfg} : ∀ {ts : Ts} {es : List Expr} {s0 sc : Scope}, okTs nm N ts s0 sc es = true → ∀ ps s s', asTs C ts ps s = .ok s' → ps.length = es.length
  | .nil, es, s0, sc, h, ps, s, s', e => by
    cases es <;> simp [okTs] at h
    cases ps with
    | nil => rfl
    | cons => simp only [asTs] at e; cases e
  | .cons t ts, es, s0, sc, h, ps, s, s', e => by
    cases es with
    | nil => simp [okTs] at h
    | cons x es =>
      simp only [okTs, Bool.and_eq_true] at h
      cases ps with
      | nil => simp only [asTs] at e; cases e
      | cons p ps =>
        simp only [asTs] at e
        obtain ⟨s1, _, e⟩ := bind_ok e
        simp [asTs_len h.2 _ _ _ e]
mutual
theorem okE_ok : ∀ (m : E) {X : Cx} {s0 sc : Scope} {e : Expr}, Cxt X N s0 sc k → Wo nm W C X.prog X.w X.K X.mg X.base k → okE nm N m sc e = true → Sd W C X e m
  | .c d, X, s0, sc, e, cx, wo, h => by
    cases e <;> simp only [okE, Bool.false_eq_true] at h
    · rename_i c _ _
      cases c <;> cases d <;> simp only [Bool.false_eq_true, beq_iff_eq, decide_eq_true_eq] at h
      · exact .of (snd_c pe_non fun _ _ _ => .non 0) rfl (by simp)
      · subst h; exact .of (snd_c pe_bl fun _ _ _ => .bl 0 _) rfl (by simp)
      · subst h; exact .of (snd_c pe_int fun _ _ _ => .int 0 _) rfl (by simp)
      · have := sEq_ok h
        subst this; exact .of (snd_c pe_str fun _ _ _ => .str 0 _) rfl (by simp)
    · simp only [Bool.and_eq_true] at h
      obtain ⟨hg, hd⟩ := glo_ok cx h.1
      obtain ⟨v, u, h1, h2, h3⟩ := wo.con _ _ (conOk_ok h.2)
      exact .of (snd_c (pe_glob hg h1 h2 hd) h3) rfl (by simp)
  | .v i, X, s0, sc, e, cx, wo, h => by
    obtain ⟨x, pos, rfl, _, hp⟩ := var_ok cx (by simpa only [okE] using h)
    exact .var hp (.inl rfl)
  | .mv i, X, s0, sc, e, cx, wo, h => by
    obtain ⟨x, pos, rfl, _, hp⟩ := var_ok cx (by simpa only [okE] using h)
    exact .var hp (.inr rfl)
  | .ln i, X, s0, sc, e, cx, wo, h => by
    obtain ⟨x, pos, rfl, _, hp⟩ := var_ok cx (by simpa only [okE] using h)
    exact .ln hp
  | .tup es, X, s0, sc, e, cx, wo, h => by
    cases e <;> simp only [okE, Bool.false_eq_true] at h
    exact .of (snd_tup (okEs_ok es cx wo h)) rfl (by simp)
  | .lst kk es, X, s0, sc, e, cx, wo, h => by
    cases e <;> simp only [okE, Bool.false_eq_true] at h
    exact .of (snd_lst (okEs_ok es cx wo h)) rfl (by simp)
  | .lstL es, X, s0, sc, e, cx, wo, h => by
    cases e <;> simp only [okE, Bool.false_eq_true] at h
    exact .of (snd_lstL (okEs_ok es cx wo h)) rfl (by simp)
  | .bin op a b, X, s0, sc, e, cx, wo, h => by
    cases e <;> simp only [okE, Bool.false_eq_true, Bool.and_eq_true, decide_eq_true_eq] at h
    obtain ⟨rfl, h1, h2⟩ := h
    exact .of (snd_bin (okE_ok a cx wo h1).o (okE_ok b cx wo h2).o) rfl (by simp)
  | .frz a, X, s0, sc, e, cx, wo, h => by
    cases e <;> simp only [okE, Bool.false_eq_true] at h
    exact .of (snd_frz (okE_ok a cx wo h).pe) rfl (by simp)
  | .neg a, X, s0, sc, e, cx, wo, h => by
    cases e <;> simp only [okE, Bool.false_eq_true, Bool.and_eq_true, decide_eq_true_eq] at h
    obtain ⟨rfl, h1⟩ := h
    exact .of (snd_neg (okE_ok a cx wo h1).pe) rfl (by simp)
  | .nt a, X, s0, sc, e, cx, wo, h => by
    cases e <;> simp only [okE, Bool.false_eq_true, Bool.and_eq_true, decide_eq_true_eq] at h
    obtain ⟨rfl, h1⟩ := h
    have d := okE_ok a cx wo h1
    obtain ⟨p1, p2⟩ := snd_nt d.pt d.pe
    exact ⟨p1, p2, by simp⟩
  | .an a b, X, s0, sc, e, cx, wo, h => by
    cases e <;> simp only [okE, Bool.false_eq_true] at h
    rename_i o vs pos
    match vs, h with
    | x :: y :: [], h =>
      simp only [Bool.and_eq_true, decide_eq_true_eq] at h
      obtain ⟨rfl, h1, h2⟩ := h
      have d1 := okE_ok a cx wo h1
      have d2 := okE_ok b cx wo h2
      exact ⟨snd_an d1.pe (pe_one d2.pe), (snd_anT d1.pt (pw_and1 d2.pt)).pt, by simp⟩
    | x :: y :: z :: r, h =>
      simp only [Bool.and_eq_true, decide_eq_true_eq] at h
      obtain ⟨rfl, h1, h2⟩ := h
      have d1 := okE_ok a cx wo h1
      have d2 := okE_ok b cx wo h2
      exact ⟨snd_an d1.pe d2.pe, (snd_anT d1.pt (pw_of d2.pt)).pt, by simp⟩
  | .or a b, X, s0, sc, e, cx, wo, h => by
    cases e <;> simp only [okE, Bool.false_eq_true] at h
    rename_i o vs pos
    match vs, h with
    | x :: y :: [], h =>
      simp only [Bool.and_eq_true, decide_eq_true_eq] at h
      obtain ⟨rfl, h1, h2⟩ := h
      have d1 := okE_ok a cx wo h1
      have d2 := okE_ok b cx wo h2
      exact ⟨snd_or d1.pe (pe_one d2.pe), (snd_orT d1.pt (pw_or1 d2.pt)).pt, by simp⟩
    | x :: y :: z :: r, h =>
      simp only [Bool.and_eq_true, decide_eq_true_eq] at h
      obtain ⟨rfl, h1, h2⟩ := h
      have d1 := okE_ok a cx wo h1
      have d2 := okE_ok b cx wo h2
      exact ⟨snd_or d1.pe d2.pe, (snd_orT d1.pt (pw_of d2.pt)).pt, by simp⟩
  | .ife c a b, X, s0, sc, e, cx, wo, h => by
    cases e <;> simp only [okE, Bool.false_eq_true, Bool.and_eq_true] at h
    have d1 := okE_ok c cx wo h.1
    have d2 := okE_ok a cx wo h.2.1
    have d3 := okE_ok b cx wo h.2.2
    exact ⟨snd_ife d1.pt d2.pe d3.pe, pt_ife d1.pt d2.pt d3.pt, by simp⟩
  | .cmp op a b, X, s0, sc, e, cx, wo, h => by
    cases e <;> simp only [okE, Bool.false_eq_true] at h
    rename_i x ops ys pos
    match ops, ys, h with
    | [o], [y], h =>
      simp only [Bool.and_eq_true, decide_eq_true_eq, Bool.not_eq_true'] at h
      obtain ⟨rfl, h0, h1, h2⟩ := h
      obtain ⟨p1, p2⟩ := snd_cmp (C := C) (op_all op wo.T.hK (by have := cx.room.un; omega)) h0 (okE_ok a cx wo h1).o (okE_ok b cx wo h2).o
      exact ⟨p1, p2, by simp⟩
  | .ceq ng c m a b, X, s0, sc, e, cx, wo, h => by
    cases e <;> simp only [okE, Bool.false_eq_true] at h
    rename_i x ops ys pos
    match ops, ys, h with
    | [o], [y], h =>
      simp only [Bool.and_eq_true, decide_eq_true_eq, Bool.not_eq_true', Bool.or_eq_true] at h
      obtain ⟨rfl, h0, h1, hn, h2, h3⟩ := h
      obtain ⟨_, _, fa, fd, ps, M, hF, hb, _⟩ := wo.mth _ _ _ (mem3_ok h1)
      obtain ⟨p1, p2⟩ := snd_ceq (C := C) (ng := ng) hF (cx.room) hb M.at_ M.fn (fun hng => by
        obtain ⟨ok, h⟩ := wo.neq c (memN_ok (hn.resolve_left (by rw [hng]; simp)))
        exact ⟨wo.T.hm c ok, h⟩) h0 (okE_ok a cx wo h2).pe (okE_ok b cx wo h3).pe
      exact ⟨p1, p2, by simp⟩
  | .ceo c m a b, X, s0, sc, e, cx, wo, h => by
    cases e <;> simp only [okE, Bool.false_eq_true] at h
    rename_i x ops ys pos
    match ops, ys, h with
    | [o], [y], h =>
      simp only [Bool.and_eq_true, decide_eq_true_eq, Bool.not_eq_true'] at h
      obtain ⟨rfl, h0, h1, hn, h2, h3⟩ := h
      obtain ⟨fa, fd, ps, hok, M, hb, hN⟩ := wo.ni c (memN_ok hn) m (mem3_ok h1)
      obtain ⟨p1, p2⟩ := snd_ceo (C := C) wo.T hok hN (cx.room.mono (by omega)) hb M.at_ M.fn h0 (okE_ok a cx wo h2).pe (okE_ok b cx wo h3).pe
      exact ⟨p1, p2, by simp⟩
  | .cmp2 op op' a b c, X, s0, sc, e, cx, wo, h => by
    cases e <;> simp only [okE, Bool.false_eq_true] at h
    rename_i x ops ys pos
    match ops, ys, h with
    | [o, o'], [y, z], h =>
      simp only [Bool.and_eq_true, decide_eq_true_eq, Bool.not_eq_true'] at h
      obtain ⟨rfl, rfl, c1, c2, h0, h1, h2, h3⟩ := h
      obtain ⟨p1, p2⟩ := snd_cmp2 (isCmp4_ok c1) (isCmp4_ok c2) h0 (okE_ok a cx wo h1).pe (okE_ok b cx wo h2).pe (okE_ok c cx wo h3).pe
      exact ⟨p1, p2, by simp⟩
  | .ix a i, X, s0, sc, e, cx, wo, h => by
    cases e <;> simp only [okE, Bool.false_eq_true, Bool.and_eq_true] at h
    exact .of (snd_ix wo.T.hK (okE_ok a cx wo h.2.1).pe (okE_ok i cx wo h.2.2).pe (notSl_ok h.1)) rfl (by simp)
  | .pix i es, X, s0, sc, e, cx, wo, h => by
    match es, h with
    | .cons m .nil, h =>
      cases e <;> simp only [okE, Bool.false_eq_true, Bool.and_eq_true] at h
      obtain ⟨x, pos, rfl, _, hp⟩ := var_ok cx h.2.1
      exact .of (snd_pix wo.T.hK hp (okE_ok m cx wo h.2.2).pe (notSl_ok h.1)) rfl (by simp)
    | .nil, h => simp [okE] at h
    | .cons m (.cons _ _), h => simp [okE] at h
  | .dnew, X, s0, sc, e, cx, wo, h => by
    cases e <;> simp only [okE, Bool.false_eq_true] at h
    rename_i ks vs pos
    match ks, vs, h with
    | [], [], _ => exact .of snd_dnew rfl (by simp)
  | .dget a i, X, s0, sc, e, cx, wo, h => by
    cases e <;> simp only [okE, Bool.false_eq_true, Bool.and_eq_true] at h
    exact .of (snd_dget (by have := cx.room.units; omega) (okE_ok a cx wo h.2.1).o (okE_ok i cx wo h.2.2).pe (notSl_ok h.1)) rfl (by simp)
  | .dgetd a i, X, s0, sc, e, cx, wo, h => by
    cases e <;> simp only [okE, Bool.false_eq_true] at h
    rename_i fn es kws pos
    cases fn <;> (try simp only [Bool.false_eq_true] at h)
    rename_i o n ap
    match es, kws, h with
    | [y, .List zs lp], [], h =>
      simp only [Bool.and_eq_true] at h
      obtain ⟨h1, h2, h3, h4, h5, h6, h7⟩ := h
      have := sEq_ok h2
      subst this
      have hz : zs = [] := by cases zs with | nil => rfl | cons => simp at h3
      subst hz
      exact .of (snd_dgetd (by have := cx.room.units; omega) (okE_ok a cx wo h6).o (okE_ok i cx wo h7).pe (base_ok h1 _) h4 h5) rfl (by simp)
  | .sl a lo hi, X, s0, sc, e, cx, wo, h => by
    cases e <;> simp only [okE, Bool.false_eq_true] at h
    rename_i x y pos
    cases y <;> simp only [Bool.false_eq_true] at h
    rename_i l hh st p2
    cases st with
    | some => simp at h
    | none =>
      simp only [Bool.and_eq_true] at h
      exact .of (snd_sl wo.T.hK (okE_ok a cx wo h.1).o (okPr_ok lo cx wo h.2.1) (okPr_ok hi cx wo h.2.2)) rfl (by simp)
  | .rev a, X, s0, sc, e, cx, wo, h => by
    cases e <;> simp only [okE, Bool.false_eq_true] at h
    rename_i x y pos
    cases y <;> simp only [Bool.false_eq_true] at h
    rename_i l hh st p2
    match l, hh, st, h with
    | none, none, some (.UnaryOp o (.Constant c kk p3) p4), h =>
      simp only [Bool.and_eq_true, decide_eq_true_eq] at h
      obtain ⟨rfl, rfl, h1⟩ := h
      exact .of (snd_rev wo.T.hK (okE_ok a cx wo h1).o) rfl (by simp)
  | .sls a m, X, s0, sc, e, cx, wo, h => by
    cases e <;> simp only [okE, Bool.false_eq_true] at h
    rename_i x y pos
    cases y <;> simp only [Bool.false_eq_true] at h
    rename_i l hh st p2
    match l, hh, st, h with
    | none, none, some y, h =>
      simp only [Bool.and_eq_true] at h
      exact .of (snd_sls wo.T.hK (okE_ok a cx wo h.1).o (okE_ok m cx wo h.2).pe) rfl (by simp)
  | .apc i m x, X, s0, sc, e, cx, wo, h => by
    cases e <;> simp only [okE, Bool.false_eq_true] at h
    rename_i fn es kws pos
    cases fn <;> (try simp only [Bool.false_eq_true] at h)
    rename_i o n ap
    match o, es, kws, h with
    | .Subscript y z p2, [t], [], h =>
      simp only [Bool.and_eq_true] at h
      obtain ⟨h1, h2, h3, h4, h5, h6, h7⟩ := h
      have := sEq_ok h1
      subst this
      obtain ⟨_, _, _, _, hp⟩ := var_ok cx h2
      have fin : ∀ {x : E}, PE X t (tFl W x) → Sd W C X (.Call (.Attribute (.Subscript y z p2) (mName .app) ap) [t] [] pos) (.apc i m x) := fun {x} hf =>
        .of (snd_apc wo.T.hK hp (okE_ok m cx wo h4).pe (notSl_ok h3) hf h5 h6) rfl (by simp)
      cases x <;> (try simp only [Bool.false_eq_true] at h7)
      · obtain ⟨v, p1, p2⟩ := okCon_ok cx wo h7
        exact fin (fl_c p1 p2)
      · obtain ⟨_, _, _, _, hv⟩ := var_ok cx h7
        exact fin (fl_v hv)
  | .fld a c f, X, s0, sc, e, cx, wo, h => by
    cases e <;> simp only [okE, Bool.false_eq_true, Bool.and_eq_true] at h
    obtain ⟨h1, h2, h3⟩ := h
    split at h2
    · rename_i fs hfs
      obtain ⟨ok, efs⟩ := wo.fld c fs hfs
      exact .of (snd_fld wo.T ok (by rw [efs]; exact oEq_ok h2) (okE_ok a cx wo h3).o (base_ok h1 _)) rfl (by simp)
    · cases h2
  | .prop a c m, X, s0, sc, e, cx, wo, h => by
    cases e <;> simp only [okE, Bool.false_eq_true, Bool.and_eq_true] at h
    obtain ⟨h1, h2, h3⟩ := h
    obtain ⟨ok, pr, fa, fd, ps, h4, h5, h6⟩ := wo.prp c m _ (mem3_ok h2)
    exact .of (snd_prop wo.T h4 h5 h6 cx.room ok (okE_ok a cx wo h3).pe (base_ok h1 _)) rfl (by simp)
  | .call f pm as, X, s0, sc, e, cx, wo, h => by
    cases e <;> simp only [okE, Bool.false_eq_true] at h
    rename_i fn es kws pos
    cases fn <;> (try simp only [Bool.false_eq_true] at h)
    rename_i x p
    match pm, kws, h with
    | [], [], h =>
      simp only [Bool.and_eq_true] at h
      obtain ⟨h1, h2, h3, h4⟩ := h
      obtain ⟨hg, hd⟩ := glo_ok cx h2
      obtain ⟨fa, fd, ps, q1, q2, q3, q4, _⟩ := wo.fn f x (oEq_ok h1)
      exact .of (snd_call q1 q2 (cx.room.mono (Nat.le_succ _)) hg q3 q4 hd (okAr_ok as cx wo h3 h4) (plainAll_ok h3) (okAr_nil h4)) rfl (by simp)
    | j :: pm, kw :: kws, h =>
      simp only [Bool.and_eq_true] at h
      obtain ⟨h1, h2, h3, h5, h6, h4⟩ := h
      obtain ⟨hg, hd⟩ := glo_ok cx h2
      obtain ⟨fa, fd, ps, q1, q2, q3, q4, q5⟩ := wo.fn f x (oEq_ok h1)
      obtain ⟨ms1, ms2, rfl, p1, p2, p3, p4, p5⟩ := okArK_ok as cx wo h3 h4
      exact .of (snd_callK q1 (q5 _ _ _ (memK_ok h6)) (cx.room.mono (Nat.le_succ _)) hg q3 q4 hd p1 p2 (plainAll_ok h3) (kwN_ok h5) p3 p4 (by rw [kwN_len]; exact p5) (by simp)) rfl (by simp)
  | .meth c m a pm as, X, s0, sc, e, cx, wo, h => by
    cases e <;> simp only [okE, Bool.false_eq_true] at h
    rename_i fn es kws pos
    cases fn <;> (try simp only [Bool.false_eq_true] at h)
    rename_i o n ap
    match pm, kws, h with
    | [], [], h =>
      simp only [Bool.and_eq_true, decide_eq_true_eq] at h
      obtain ⟨h1, h2, h3, h4, h5, h6, h7⟩ := h
      obtain ⟨ok, hf, fa, fd, ps, q1, q2, q3, _⟩ := wo.mth c m n (mem3_ok h2)
      exact .of (snd_meth wo.T ok q1 hf q2 q3 (cx.room.mono (Nat.le_succ _)) (okE_ok a cx wo h6).pe (base_ok h1 _) (okAr_ok as cx wo h3 h7) (plainAll_ok h3) h4 h5 (okAr_nil h7)) rfl (by simp)
    | j :: pm, kw :: kws, h =>
      simp only [Bool.and_eq_true, decide_eq_true_eq] at h
      obtain ⟨h1, h2, h3, h4, h5, h8, h9, h6, h7⟩ := h
      obtain ⟨ok, hf, fa, fd, ps, q1, q2, q3, q5⟩ := wo.mth c m n (mem3_ok h2)
      obtain ⟨ms1, ms2, rfl, p1, p2, p3, p4, p5⟩ := okArK_ok as cx wo h3 h7
      exact .of (snd_methK wo.T ok q1 hf q2 (q5 _ _ _ (memKm_ok h9)) (cx.room.mono (Nat.le_succ _)) (okE_ok a cx wo h6).pe (base_ok h1 _) p1 p2 (plainAll_ok h3) (kwN_ok h8) h4 h5 p3 p4 (by rw [kwN_len]; exact p5) (by simp)) rfl (by simp)
  | .new c pm as, X, s0, sc, e, cx, wo, h => by
    cases e <;> simp only [okE, Bool.false_eq_true] at h
    rename_i fn es kws pos
    cases fn <;> (try simp only [Bool.false_eq_true] at h)
    rename_i x p
    match pm, kws, h with
    | [], [], h =>
      simp only [Bool.and_eq_true] at h
      obtain ⟨h1, h2, h3, h4⟩ := h
      obtain ⟨hg, hd⟩ := glo_ok cx h2
      obtain ⟨ok, hm⟩ := wo.cls c x (oEq_ok h1)
      obtain ⟨fa, fd, ps, q1, q2, q3, _⟩ := wo.new c x (oEq_ok h1)
      exact .of (snd_new ok q1 q2 q3 cx.room hg hm hd (okAr_ok as cx wo h3 h4) (plainAll_ok h3) (okAr_nil h4)) rfl (by simp)
    | j :: pm, kw :: kws, h =>
      simp only [Bool.and_eq_true] at h
      obtain ⟨h1, h2, h3, h5, h6, h4⟩ := h
      obtain ⟨hg, hd⟩ := glo_ok cx h2
      obtain ⟨ok, hm⟩ := wo.cls c x (oEq_ok h1)
      obtain ⟨fa, fd, ps, q1, q2, q3, q5⟩ := wo.new c x (oEq_ok h1)
      obtain ⟨ms1, ms2, rfl, p1, p2, p3, p4, p5⟩ := okArK_ok as cx wo h3 h4
      exact .of (snd_newK ok q1 q2 (q5 _ _ _ (memK_ok h6)) cx.room hg hm hd p1 p2 (plainAll_ok h3) (kwN_ok h5) p3 p4 (by rw [kwN_len]; exact p5) (by simp)) rfl (by simp)
  | .b1 op a, X, s0, sc, e, cx, wo, h => by
    cases e <;> simp only [okE, Bool.false_eq_true] at h
    rename_i fn es kws pos
    cases fn <;> (try simp only [Bool.false_eq_true] at h)
    rename_i x p
    match es, kws, h with
    | [y], [], h =>
      simp only [Bool.and_eq_true] at h
      obtain ⟨h1, h2, h3, h4⟩ := h
      obtain ⟨rfl, hg, hm⟩ := blt_ok cx wo h2
      exact .of (b1_ok cx wo h1 hg hm h3 (okE_ok a cx wo h4)) rfl (by simp)
  | .b2 op a b, X, s0, sc, e, cx, wo, h => by
    cases e <;> simp only [okE, Bool.false_eq_true] at h
    rename_i fn es kws pos
    cases fn <;> (try simp only [Bool.false_eq_true] at h)
    rename_i x p
    match es, kws, h with
    | [y, z], [], h =>
      simp only [Bool.and_eq_true] at h
      obtain ⟨h1, h2, h3, h4, h5, h6⟩ := h
      obtain ⟨rfl, hg, hm⟩ := blt_ok cx wo h2
      exact .of (b2_ok cx h1 hg hm h3 h4 (okE_ok a cx wo h5).pe (okE_ok b cx wo h6).pe) rfl (by simp)
  | .isi t a, X, s0, sc, e, cx, wo, h => by
    cases e <;> simp only [okE, Bool.false_eq_true] at h
    rename_i fn es kws pos
    cases fn <;> (try simp only [Bool.false_eq_true] at h)
    rename_i x p
    match es, kws, h with
    | [y, z], [], h =>
      simp only [Bool.and_eq_true] at h
      obtain ⟨h1, h2, h3, h4⟩ := h
      obtain ⟨rfl, hg, hm⟩ := blt_ok cx wo h1
      exact .of (isiT_ok cx wo hg hm h2 (okE_ok a cx wo h3) h4) rfl (by simp)
  | .itl tp it, X, s0, sc, e, cx, wo, h => by
    match it, h with
    | .rng1 m, h =>
      cases e <;> simp only [okE, Bool.false_eq_true] at h
      rename_i fn es kws pos _
      cases fn <;> (try simp only [Bool.false_eq_true] at h)
      rename_i x p
      match es, kws, h with
      | [.Call (.Name y p2) [z] [] pos2], [], h =>
        simp only [Bool.and_eq_true] at h
        obtain ⟨h1, h2, h3, h4⟩ := h
        obtain ⟨rfl, hg, hm⟩ := blt_ok cx wo h1
        obtain ⟨rfl, hg2, hm2⟩ := blt_ok cx wo h2
        exact .of (snd_itl1 cx.calm hg hm hg2 hm2 (okE_ok m cx wo h4).pe h3) rfl (by simp)
      | [.Call (.Name y p2) [] _ pos2], kws, h => cases kws <;> first | cases h | simp at h
      | [.Call (.Name y p2) [_] (_ :: _) pos2], kws, h => cases kws <;> first | cases h | simp at h
      | [.Call (.Name y p2) (_ :: _ :: _) _ pos2], kws, h => cases kws <;> first | cases h | simp at h
    | .rng2 m n, h =>
      cases e <;> simp only [okE, Bool.false_eq_true] at h
      rename_i fn es kws pos _
      cases fn <;> (try simp only [Bool.false_eq_true] at h)
      rename_i x p
      match es, kws, h with
      | [.Call (.Name y p2) [z, z2] [] pos2], [], h =>
        simp only [Bool.and_eq_true] at h
        obtain ⟨h1, h2, h3, h4, h5, h6⟩ := h
        obtain ⟨rfl, hg, hm⟩ := blt_ok cx wo h1
        obtain ⟨rfl, hg2, hm2⟩ := blt_ok cx wo h2
        exact .of (snd_itl2 cx.calm hg hm hg2 hm2 (okE_ok m cx wo h5).pe (okE_ok n cx wo h6).pe h3 h4) rfl (by simp)
      | [.Call (.Name y p2) [] _ pos2], kws, h => cases kws <;> first | cases h | simp at h
      | [.Call (.Name y p2) [_] _ pos2], kws, h => cases kws <;> first | cases h | simp at h
      | [.Call (.Name y p2) [_, _] (_ :: _) pos2], kws, h => cases kws <;> first | cases h | simp at h
      | [.Call (.Name y p2) (_ :: _ :: _ :: _) _ pos2], kws, h => cases kws <;> first | cases h | simp at h
  | .comp kk own tg it cond elt, X, s0, sc, e, cx, wo, h => by
    cases e <;> simp only [okE, Bool.false_eq_true] at h
    rename_i x gs sc' pos
    match gs, h with
    | [⟨y, z, ifs, as⟩], h =>
      simp only [Bool.and_eq_true, decide_eq_true_eq] at h
      obtain ⟨rfl, h1, h2, h3, h4, h5, h6, h7⟩ := h
      have kd := blkC_kind h2
      have := snd_comp (k := kk) (pos := pos) cx.calm (by rw [cx.hN]; exact cx.nd) (okI_ok it (tg := y) cx wo h4) (blkOk_by (by rw [cx.hN, cx.hsc]; exact h2)) (by rw [own_snd]; exact own_mem h3)
        (fun s H A cl fp => okT_ok tg (cx.blk kd s H A cl fp) wo h5) (fun s H A cl fp => okCn_ok cond (cx.blk kd s H A cl fp) wo h6) (fun s H A cl fp => (okE_ok elt (cx.blk kd s H A cl fp) wo h7).pe) (notSet_ok h1 _)
      rw [own_snd] at this
      exact .of this rfl (by simp)
  | .mtp m i path as, X, s0, sc, e, cx, wo, h => by
    match path, h with
    | .cons _ _, h => simp [okE] at h
    | .nil, h =>
      cases e <;> simp only [okE, Bool.false_eq_true] at h
      rename_i fn es kws pos _
      cases fn <;> (try simp only [Bool.false_eq_true] at h)
      rename_i o n ap
      match kws, h with
      | [], h =>
        simp only [Bool.and_eq_true, decide_eq_true_eq] at h
        obtain ⟨h1, h2, h3, h4, h5, h6⟩ := h
        have := sEq_ok h1
        subst this
        obtain ⟨x, p, rfl, _, hp⟩ := var_ok cx h2
        exact .of (snd_mtp hp (okEs_ok as cx wo h6) (base_ok rfl _) (plainAll_ok h3) h4 h5 (okEs_nil h6)) rfl (by simp)
  | .mtt m a as, X, s0, sc, e, cx, wo, h => by
    match m, h with
    | .app, h =>
      cases e <;> simp only [okE, Bool.false_eq_true] at h
      rename_i fn es kws pos _
      cases fn <;> (try simp only [Bool.false_eq_true] at h)
      rename_i o n ap
      match es, kws, h with
      | [y], [], h =>
        simp only [Bool.and_eq_true] at h
        obtain ⟨h1, h2, h3, h4, h5, h6⟩ := h
        have := sEq_ok h2
        subst this
        exact .of (snd_mtt (okE_ok a cx wo h5).pe (okEs_ok as cx wo h6) (base_ok h1 _) h3 h4) rfl (by simp)
    | .ext, h => simp [okE] at h
    | .ins, h => simp [okE] at h
    | .pop0, h => simp [okE] at h
    | .pop, h => simp [okE] at h
theorem okEs_ok : ∀ (ms : Es) {X : Cx} {s0 sc : Scope} {es : List Expr}, Cxt X N s0 sc k → Wo nm W C X.prog X.w X.K X.mg X.base k → okEs nm N ms sc es = true → PA X es (tP W C ms)
  | .nil, X, s0, sc, es, cx, wo, h => by
    cases es <;> simp [okEs] at h
    exact snd_nil
  | .cons m ms, X, s0, sc, es, cx, wo, h => by
    cases es with
    | nil => simp [okEs] at h
    | cons e es =>
      simp only [okEs, Bool.and_eq_true] at h
      exact snd_cons (okE_ok m cx wo h.2.1).pe (okEs_ok ms cx wo h.2.2) (star_cons h.1)
theorem okAr_ok : ∀ (ms : Es) {X : Cx} {s0 sc : Scope} {es : List Expr}, Cxt X N s0 sc k → Wo nm W C X.prog X.w X.K X.mg X.base k → plainAll es = true → okAr nm N ms sc es = true → PA X es (tAr W C ms)
  | .nil, X, s0, sc, es, cx, wo, hp, h => by
    cases es <;> simp [okAr] at h
    exact arg_nil
  | .cons m ms, X, s0, sc, es, cx, wo, hp, h => by
    cases es with
    | nil => simp [okAr] at h
    | cons e es =>
      simp only [okAr, plainAll, Bool.and_eq_true] at h hp
      have d := okE_ok m cx wo h.1
      exact arg_cons d.pe (fun i z => d.v i (.inr z)) (okAr_ok ms cx wo hp.2 h.2) (star_cons hp.1)
theorem okArK_ok : ∀ (ms : Es) {X : Cx} {s0 sc : Scope} {es : List Expr} {kws : List Keyword}, Cxt X N s0 sc k → Wo nm W C X.prog X.w X.K X.mg X.base k → plainAll es = true → okArK nm N ms sc es kws = true →
    ∃ ms1 ms2, ms = ms1.app ms2 ∧ PA X es (tAr W C ms1) ∧ PK X kws (tAr W C ms2) ∧ (es = [] → ms1 = .nil) ∧ ms1.len = es.length ∧ ms2.len = kws.length
  | .nil, X, s0, sc, es, kws, cx, wo, hp, h => by
    cases es <;> cases kws <;> simp [okArK] at h
    exact ⟨.nil, .nil, rfl, arg_nil, kw_nil, fun _ => rfl, rfl, rfl⟩
  | .cons m ms, X, s0, sc, es, kws, cx, wo, hp, h => by
    cases es with
    | nil =>
      cases kws with
      | nil => simp [okArK] at h
      | cons kw kws =>
        simp only [okArK, Bool.and_eq_true] at h
        have d := okE_ok m cx wo h.1
        obtain ⟨ms1, ms2, e, p1, p2, p3, p4, p5⟩ := okArK_ok ms cx wo (es := []) rfl h.2
        obtain rfl := p3 rfl
        exact ⟨.nil, .cons m ms2, by rw [e]; rfl, arg_nil, (by cases kw; exact kw_cons d.pe (fun i z => d.v i (.inr z)) p2), fun _ => rfl, rfl, by simp [Es.len, p5]⟩
    | cons e es =>
      simp only [okArK, plainAll, Bool.and_eq_true] at h hp
      have d := okE_ok m cx wo h.1
      obtain ⟨ms1, ms2, e, p1, p2, p3, p4, p5⟩ := okArK_ok ms cx wo hp.2 h.2
      subst e
      exact ⟨.cons m ms1, ms2, rfl, arg_cons d.pe (fun i z => d.v i (.inr z)) p1 (star_cons hp.1), p2, by simp, by simp [Es.len, p4], p5⟩
theorem okPr_ok : ∀ (ms : Es) {X : Cx} {s0 sc : Scope} {e : Option Expr}, Cxt X N s0 sc k → Wo nm W C X.prog X.w X.K X.mg X.base k → okPr nm N ms sc e = true → PO X e (tPr W C ms)
  | .nil, X, s0, sc, e, cx, wo, h => by
    cases e <;> simp [okPr] at h
    exact snd_prt0
  | .cons m ms, X, s0, sc, e, cx, wo, h => by
    cases e <;> simp only [okPr, Bool.false_eq_true] at h
    exact snd_prt1 (okE_ok m cx wo h).pe
theorem okCn_ok : ∀ (ms : Es) {X : Cx} {s0 sc : Scope} {es : List Expr}, Cxt X N s0 sc k → Wo nm W C X.prog X.w X.K X.mg X.base k → okCn nm N ms sc es = true → PTs X es (tCd W C ms)
  | .nil, X, s0, sc, es, cx, wo, h => by
    cases es <;> simp [okCn] at h
    exact cnd_nil
  | .cons m ms, X, s0, sc, es, cx, wo, h => by
    match es, h with
    | [e], h => exact cnd_one (okE_ok m cx wo (by simpa only [okCn] using h)).pt
    | [], h => simp [okCn] at h
    | _ :: _ :: _, h => simp [okCn] at h
theorem okI_ok : ∀ (it : I) {X : Cx} {s0 sc : Scope} {tg e : Expr}, Cxt X N s0 sc k → Wo nm W C X.prog X.w X.K X.mg X.base k → okI nm N it sc tg e = true → PI X tg e (tI W C it)
  | .seq m, X, s0, sc, tg, e, cx, wo, h => it_seq wo.T.hK (okE_ok m cx wo (by simpa only [okI] using h)).pe
  | .rng1 m, X, s0, sc, tg, e, cx, wo, h => by
    cases e <;> simp only [okI, Bool.false_eq_true] at h
    rename_i fn es kws pos
    cases fn <;> (try simp only [Bool.false_eq_true] at h)
    rename_i x p
    match es, kws, h with
    | [y], [], h =>
      simp only [Bool.and_eq_true] at h
      obtain ⟨rfl, hg, hm⟩ := blt_ok cx wo h.1
      exact it_rng1 hg hm h.2.1 (okE_ok m cx wo h.2.2).pe
  | .rng2 m n, X, s0, sc, tg, e, cx, wo, h => by
    cases e <;> simp only [okI, Bool.false_eq_true] at h
    rename_i fn es kws pos
    cases fn <;> (try simp only [Bool.false_eq_true] at h)
    rename_i x p
    match es, kws, h with
    | [y, z], [], h =>
      simp only [Bool.and_eq_true] at h
      obtain ⟨rfl, hg, hm⟩ := blt_ok cx wo h.1
      exact it_rng2 hg hm h.2.1 h.2.2.1 (okE_ok m cx wo h.2.2.2.1).pe (okE_ok n cx wo h.2.2.2.2).pe
  | .rng3 _ _ _, X, s0, sc, tg, e, cx, wo, h => by simp [okI] at h
  | .enum m, X, s0, sc, tg, e, cx, wo, h => by
    cases tg <;> cases e <;> simp only [okI, Bool.false_eq_true] at h
    rename_i fn es kws pos
    cases fn <;> (try simp only [Bool.false_eq_true] at h)
    rename_i x p
    match es, kws, h with
    | [y], [], h =>
      simp only [Bool.and_eq_true] at h
      obtain ⟨rfl, hg, hm⟩ := blt_ok cx wo h.1
      exact it_enum wo.T.hK hg hm h.2.1 (okE_ok m cx wo h.2.2).pe
  | .zip m n, X, s0, sc, tg, e, cx, wo, h => by
    cases tg <;> cases e <;> simp only [okI, Bool.false_eq_true] at h
    rename_i fn es kws pos
    cases fn <;> (try simp only [Bool.false_eq_true] at h)
    rename_i x p
    match es, kws, h with
    | [y, z], [], h =>
      simp only [Bool.and_eq_true] at h
      obtain ⟨rfl, hg, hm⟩ := blt_ok cx wo h.1
      exact it_zip wo.T.hK hg hm h.2.1 h.2.2.1 (okE_ok m cx wo h.2.2.2.1).pe (okE_ok n cx wo h.2.2.2.2).pe
  | .zip3 _ _ _, X, s0, sc, tg, e, cx, wo, h => by simp [okI] at h
  | .zip4 _ _ _ _, X, s0, sc, tg, e, cx, wo, h => by simp [okI] at h
  | .enumz _ _, X, s0, sc, tg, e, cx, wo, h => by simp [okI] at h
theorem okT_ok : ∀ (t : T) {X : Cx} {s0 sc : Scope} {e : Expr}, Cxt X N s0 sc k → Wo nm W C X.prog X.w X.K X.mg X.base k → okT nm N t s0 sc e = true → PG X e (tG W C t)
  | .sl i, X, s0, sc, e, cx, wo, h => by
    cases e <;> simp only [okT, Bool.false_eq_true, Bool.and_eq_true] at h
    obtain ⟨h1, h2⟩ := cx.fnl _ (kLoc_ok h.2)
    exact tg_sl (pg_name (by rw [cx.hN]; exact cx.nd) (by rw [cx.hN]; exact oEq_ok h.1) (by rw [cx.hsc]; exact h1) (by rw [cx.hsc]; exact h2))
  | .tup ts, X, s0, sc, e, cx, wo, h => by
    cases e <;> simp only [okT, Bool.false_eq_true, Bool.and_eq_true] at h
    exact tg_tup wo.T.hK cx.calm (plainTs_ok h.1) (okTs_ok ts cx wo (plainTs_ok h.1) h.2) (asTs_len h.2)
  | .pix i es, X, s0, sc, e, cx, wo, h => by
    match es, h with
    | .cons m .nil, h =>
      cases e <;> simp only [okT, Bool.false_eq_true, Bool.and_eq_true] at h
      obtain ⟨x, pos, rfl, _, hp⟩ := var_ok cx h.2.1
      exact tg_pix hp (okE_ok m cx wo h.2.2).pe (notSl_ok h.1)
    | .nil, h => simp [okT] at h
    | .cons m (.cons _ _), h => simp [okT] at h
theorem okTs_ok : ∀ (ts : Ts) {X : Cx} {s0 sc : Scope} {es : List Expr}, Cxt X N s0 sc k → Wo nm W C X.prog X.w X.K X.mg X.base k → es.all plainT = true → okTs nm N ts s0 sc es = true → PGs X es (tGs W C ts)
  | .nil, X, s0, sc, es, cx, wo, hp, h => by
    cases es <;> simp [okTs] at h
    exact tgs_nil
  | .cons t ts, X, s0, sc, es, cx, wo, hp, h => by
    cases es with
    | nil => simp [okTs] at h
    | cons e es =>
      simp only [okTs, Bool.and_eq_true, List.all_cons] at h hp
      exact tgs_cons hp.1 (okT_ok t cx wo h.1) (okTs_ok ts cx wo hp.2 h.2)
end
end
end MP
end
-- MPChk4
section
set_option maxRecDepth 100000
set_option maxHeartbeats 4000000
/-! The look is sound: statements. -/
namespace MP
open PySem (Addr Expr Stmt Str Pos Keyword Scope NameKind)
open PySem.Spec
open L2
open PyProof.Rows hiding St
def notComp : Expr → Bool | .ListComp _ _ _ _ => false | .SetComp _ _ _ _ => false | .DictComp _ _ _ _ _ => false | _ => true
/-- may a list comprehension be stored by a swap -/
def swapC : Expr → Expr → Bool
  | .Name _ py, .ListComp _ _ _ cp => py.line == cp.line
  | .Name _ _, e => !notComp e
  | _, _ => false
/-- a name that is stored as a local -/
def isLocN (sc : Scope) : Expr → Bool | .Name x _ => sc.names.lookup x == some .local | _ => false
def noPar (sc : Scope) : Expr → Expr → Bool
  | .Tuple ts _ _, .Tuple vs _ _ => (!(ts.length == 2 || ts.length == 3) || vs.length != ts.length) || ts.any fun t => !isLocN sc t
  | .List _ _, .Tuple _ _ _ => false
  | _, _ => true
def parOk (N : List Str) (sc : Scope) (l : Nat) : List Nat → List Expr → Bool
  | [], ts => match ts with | [] => true | _ => false
  | i :: is, ts => match ts with
    | .Name x p :: ts => oEq N[i]? x && ((match sc.names.lookup x with | some .local => true | _ => false) && ((p.line == l) && parOk N sc l is ts))
    | _ => false
def nodN : List Nat → Bool | [] => true | i :: is => !is.contains i && nodN is
/-- is the comprehension stored by a swap -/
def isSwap (sc : Scope) (tg e : Expr) : Bool := match tg, e with
  | .Name y py, .ListComp _ _ sc' cp => (py.line == cp.line) && ((sc.names.lookup y == some .local) && !(sc'.names.any fun (n, k) => n == y && (k == .local || k == .cell)))
  | .Name _ _, e => !notComp e
  | _, _ => false
def swapOk (sc : Scope) (m : E) (t : T) (tg e : Expr) : Bool := if isSwap sc tg e then (match m, t, e with | .comp _ _ _ _ _ _, .sl _, .ListComp _ _ _ _ => true | _, _, _ => false) else true
mutual
def okS (nm : Nm) (N : List Str) : S → Scope → Stmt → Bool
  | .asg t m, sc, st => match st with
    | .Assign tgs e pos => (match tgs with
      | [tg] => plainT tg && (noPar sc tg e && (okE nm N m sc e && (okT nm N t sc sc tg && swapOk sc m t tg e)))
      | _ => false)
    | _ => false
  | .par is es, sc, st => match st with
    | .Assign tgs e pos => (match tgs, e with
      | [.Tuple ts _ _], .Tuple vs _ _ => (is.length == 2 || is.length == 3) && (nodN is && ((vs.length == ts.length) && (parOk N sc ((ts.head?.map (·.pos.line)).getD 0) is ts && (okEs nm N es sc vs && (!vs.all (PySem.foldedForSure 8) && !vs.all (PySem.constantsAlone 8))))))
      | _, _ => false)
    | _ => false
  | .aug i op m, sc, st => match st with
    | .AugAssign tg o e _ => (match tg with
      | .Name x _ => decide (o = bop op) && ((match op with | .add => true | .sub => true | _ => false) && (oEq N[i]? x && (kLoc (sc.names.lookup x) && okE nm N m sc e)))
      | _ => false)
    | _ => false
  | .setf c f m, sc, st => match st with
    | .Assign tgs e _ => (match tgs with
      | [.Attribute o n _] => varOk N sc 0 o && ((match nm.fld[c]? with | some fs => oEq fs[f]? n | none => false) && okE nm N m sc e)
      | _ => false)
    | _ => false
  | .ex m, sc, st => match st with | .Expr e _ => notComp e && okE nm N m sc e | _ => false
  | .ret m, sc, st => match st with | .Return (some e) _ => okE nm N m sc e | _ => false
  | .retN, _, st => match st with | .Return none _ => true | _ => false
  | .ifs c a b, sc, st => match st with | .If e xs ys _ => okE nm N c sc e && (okSs nm N a sc xs && okSs nm N b sc ys) | _ => false
  | .for_ t it b, sc, st => match st with
    | .For tg e xs ys _ => (match ys with | [] => notSet e && (okI nm N it sc tg e && (okT nm N t sc sc tg && okSs nm N b sc xs)) | _ => false)
    | _ => false
  | .forO _ _ _, _, _ => false
  | .whl c b, sc, st => match st with
    | .While e xs ys _ => (match ys with | [] => okE nm N c sc e && okSs nm N b sc xs | _ => false)
    | _ => false
  | .pss, _, st => match st with | .Pass _ => true | .Expr (.Constant (.str _) _ _) _ => true | _ => false
  | .brk, _, st => match st with | .Break _ => true | _ => false
  | .cnt, _, st => match st with | .Continue _ => true | _ => false
  | .rse, _, _ => true
  | .dput i k v, sc, st => match st with
    | .Assign [.Subscript x y _] e _ => notSl y && (varOk N sc i x && (okE nm N k sc y && (okE nm N v sc e && notComp e)))
    | _ => false
def okSs (nm : Nm) (N : List Str) : Ss → Scope → List Stmt → Bool
  | .nil, _, sts => match sts with | [] => true | _ => false
  | .cons s ss, sc, sts => match sts with | [] => false | st :: sts => okS nm N s sc st && okSs nm N ss sc sts
  | .bor b n ss, sc, sts => okSs nm N b sc (sts.take n) && okSs nm N ss sc (sts.drop n)
end
section
variable {W : Wd} {C : Cfg} {nm : Nm} {N : List Str} {k : Nat}
theorem sw_false {e : Expr} {tg : Option Expr} {l : Nat} {env : PySem.Env} (h : notComp e = true) : PySem.swapsWith e tg l env = pure false := by
  cases e <;> first | rfl | cases h
theorem sw_attr {e : Expr} {o : Expr} {n : Str} {p : Pos} {l : Nat} {env : PySem.Env} : PySem.swapsWith e (some (.Attribute o n p)) l env = pure false := by
  cases e <;> rfl
theorem sw_asg {tg e : Expr} {l : Nat} {env : PySem.Env} (h : isSwap env.scope tg e = false) : PySem.swapsWithSole [tg] e l env = pure false := by
  show PySem.swapsWith e (some tg) l env = pure false
  by_cases hc : notComp e = true
  · exact sw_false hc
  · cases tg with
    | Name y py =>
      cases e <;> simp only [notComp, isSwap, Bool.not_true, Bool.not_false, Bool.true_eq_false, not_true] at hc h
      rename_i elt gs sc' cp
      unfold PySem.swapsWith
      have e1 : (env.blockKind == .function && env.kindOf y == some .local && py.line == (Expr.ListComp elt gs sc' cp).pos.line && !(sc'.names.any fun (n, k) => n == y && (k == .local || k == .cell))) = false := by
        have h2 : ((py.line == cp.line) && ((env.kindOf y == some .local) && !(sc'.names.any fun (n, k) => n == y && (k == .local || k == .cell)))) = false := h
        show (env.blockKind == .function && env.kindOf y == some .local && py.line == cp.line && !(sc'.names.any fun (n, k) => n == y && (k == .local || k == .cell))) = false
        revert h2
        generalize (py.line == cp.line) = a
        generalize (env.kindOf y == some .local) = b
        generalize (env.blockKind == PySem.ScopeKind.function) = c
        generalize (sc'.names.any fun (n, k) => n == y && (k == .local || k == .cell)) = d
        cases a <;> cases b <;> cases c <;> cases d <;> simp
      show (do return _ : PySem.Sem Bool) = _
      rw [e1]
    | _ => cases e <;> first | rfl | (simp [notComp] at hc)
theorem fm_lt {α β : Type} (f : α → Option β) : ∀ {l : List α} {x : α}, x ∈ l → f x = none → (l.filterMap f).length < l.length
  | [], _, h, _ => by cases h
  | a :: l, x, h, e => by
    rw [List.filterMap_cons]
    rcases List.mem_cons.mp h with z | z
    · subst z
      rw [e]
      exact Nat.lt_succ_of_le (List.length_filterMap_le ..)
    · cases f a with
      | none => exact Nat.lt_succ_of_lt (fm_lt f z e)
      | some b => exact Nat.succ_lt_succ (fm_lt f z e)
theorem par_none {tg e : Expr} {env : PySem.Env} (h : noPar env.scope tg e = true) : PySem.swappedStores [tg] e env = pure none := by
  cases tg <;> cases e <;> first | rfl | skip
  · cases h
  · simp only [noPar, Bool.or_eq_true, Bool.not_eq_true'] at h
    unfold PySem.swappedStores
    simp only
    rcases h with h | h
    · rw [if_pos]
      simp only [Bool.or_eq_true]
      rcases h with h | h
      · exact .inl (.inl (by rw [h]; rfl))
      · exact .inl (.inr h)
    · rename_i ts _ _ vs _ _
      split
      · rfl
      · split
        · rfl
        · obtain ⟨t, ht, hn⟩ := List.any_eq_true.mp h
          have lt := fm_lt (fun | .Name id pos => if (env.kindOf id == some .local && pos.line == (ts.head?.map (·.pos.line)).getD 0) = true then some id else none | _ => none) ht (by
            cases t <;> first | rfl | skip
            rename_i x px
            have : (env.kindOf x == some NameKind.local) = false := by
              have h2 : (!(env.kindOf x == some NameKind.local)) = true := hn
              simpa using h2
            simp only [this, Bool.false_and, Bool.false_eq_true, if_false])
          rw [if_pos]
          · simp only [Bool.or_eq_true, bne_iff_ne, ne_eq]
            exact .inl (Nat.ne_of_lt lt)
theorem par2_some {x y : Str} {px py pt pt2 : Pos} {kt k2 : Nat} {a b : Expr} {env : PySem.Env} (hk : env.blockKind = .function) (hx : env.kindOf x = some .local) (hy : env.kindOf y = some .local) (hl : (py.line == px.line) = true) (hne : x ≠ y)
    (ha : plainE a = true) (hb : plainE b = true) (hf : ([a, b].all (PySem.foldedForSure 8)) = false) (hc : ([a, b].all (PySem.constantsAlone 8)) = false) :
    PySem.swappedStores [.Tuple [.Name x px, .Name y py] kt pt] (.Tuple [a, b] k2 pt2) env = pure (some [x, y]) := by
  have hne' : (x == y) = false := beq_eq_false_iff_ne.mpr hne
  have hne2 : (y == x) = false := beq_eq_false_iff_ne.mpr (Ne.symm hne)
  unfold PySem.swappedStores
  simp only [hk, List.length_cons, List.length_nil]
  simp only [List.any_cons, List.any_nil, hf, hc, List.head?_cons, Option.map_some, Option.getD_some, Expr.pos, List.filterMap_cons, List.filterMap_nil, hx, hy, hl, beq_self_eq_true, Bool.and_self, if_true]
  simp [List.eraseDups_cons, hne', hne2, Ne.symm hne]
  rintro (h | h)
  · cases a <;> first | (cases ha; done) | (cases h; done)
  · cases b <;> first | (cases hb; done) | (cases h; done)
theorem par3_some {x y z : Str} {px py pz pt pt2 : Pos} {kt k2 : Nat} {a b c : Expr} {env : PySem.Env} (hk : env.blockKind = .function) (hx : env.kindOf x = some .local) (hy : env.kindOf y = some .local) (hz : env.kindOf z = some .local) (hl : (py.line == px.line) = true) (hl2 : (pz.line == px.line) = true) (hne : x ≠ y) (hxz : x ≠ z) (hyz : y ≠ z)
    (ha : plainE a = true) (hb : plainE b = true) (hcc : plainE c = true) (hf : ([a, b, c].all (PySem.foldedForSure 8)) = false) (hc : ([a, b, c].all (PySem.constantsAlone 8)) = false) :
    PySem.swappedStores [.Tuple [.Name x px, .Name y py, .Name z pz] kt pt] (.Tuple [a, b, c] k2 pt2) env = pure (some [x, y, z]) := by
  unfold PySem.swappedStores
  simp only [hk, List.length_cons, List.length_nil]
  simp only [List.any_cons, List.any_nil, hf, hc, List.head?_cons, Option.map_some, Option.getD_some, Expr.pos, List.filterMap_cons, List.filterMap_nil, hx, hy, hz, hl, hl2, beq_self_eq_true, Bool.and_self, if_true]
  simp [List.eraseDups_cons, Ne.symm hne, hne, hxz, Ne.symm hxz, hyz, Ne.symm hyz]
  rintro (h | h | h)
  · cases a <;> first | (cases ha; done) | (cases h; done)
  · cases b <;> first | (cases hb; done) | (cases h; done)
  · cases c <;> first | (cases hcc; done) | (cases h; done)
theorem parOk_ok {sc : Scope} {l i : Nat} {is : List Nat} {ts : List Expr} (h : parOk N sc l (i :: is) ts = true) : ∃ x p ts', ts = .Name x p :: ts' ∧ N[i]? = some x ∧ sc.names.lookup x = some .local ∧ (p.line == l) = true ∧ parOk N sc l is ts' = true := by
  cases ts with
  | nil => simp [parOk] at h
  | cons t ts =>
    cases t <;> simp only [parOk, Bool.false_eq_true, Bool.and_eq_true] at h
    obtain ⟨a, b, c, d⟩ := h
    refine ⟨_, _, _, rfl, oEq_ok a, ?_, c, d⟩
    split at b
    · assumption
    · cases b
theorem parOk_nil {sc : Scope} {l : Nat} {ts : List Expr} (h : parOk N sc l [] ts = true) : ts = [] := by
  cases ts with
  | nil => rfl
  | cons => simp [parOk] at h
theorem nodN_ok : ∀ {is : List Nat}, nodN is = true → is.Nodup
  | [], _ => .nil
  | i :: is, h => by
    simp only [nodN, Bool.and_eq_true, Bool.not_eq_true', List.contains_eq_mem, decide_eq_false_iff_not] at h
    exact List.nodup_cons.mpr ⟨h.1, nodN_ok h.2⟩
theorem okEs_plain : ∀ {ms : Es} {sc : Scope} {es : List Expr}, okEs nm N ms sc es = true → ∀ e ∈ es, plainE e = true
  | .nil, sc, es, h => by cases es <;> simp [okEs] at h; simp
  | .cons m ms, sc, es, h => by
    cases es with
    | nil => simp
    | cons e es =>
      simp only [okEs, Bool.and_eq_true] at h
      intro e' m'
      rcases List.mem_cons.mp m' with z | z
      · subst z; exact h.1
      · exact okEs_plain h.2.2 e' z
theorem isLoc {o : Option NameKind} (h : (match o with | some .local => true | _ => false) = true) : o = some .local := by
  split at h
  · rfl
  · cases h
theorem n_inj {i j : Nat} {x : Str} (nd : N.Nodup) (h1 : N[i]? = some x) (h2 : N[j]? = some x) : i = j := by
  have hi := (List.getElem?_eq_some_iff.mp h1).1
  exact (List.getElem?_inj hi nd).mp (h1.trans h2.symm)
/-- the parts of a comprehension that is looked at -/
theorem comp_parts {kk : Nat} {own : List Nat} {tg : T} {it : I} {cond : Es} {elt : E} {X : Cx} {s0 sc sc' : Scope} {x : Expr} {gs : List PySem.Comprehension} {pos : Pos} (cx : Cxt X N s0 sc k) (wo : Wo nm W C X.prog X.w X.K X.mg X.base k)
    (h : okE nm N (.comp kk own tg it cond elt) sc (.ListComp x gs sc' pos) = true) {i : Nat} {y : Str} {py spos : Pos} (hy : N[i]? = some y) (hyl : sc.names.lookup y = some .local) (hl : (py.line == pos.line) = true)
    (hn : (sc'.names.any fun (n, k) => n == y && (k == .local || k == .cell)) = false) (hk : sc.kind = .function) :
    PS X (.Assign [.Name y py] (.ListComp x gs sc' pos) spos) (tAsg (tE W C (.comp kk own tg it cond elt)) (gName i)) := by
  simp only [okE] at h
  match gs, h with
  | [⟨yy, z, ifs, as⟩], h =>
    simp only [Bool.and_eq_true, decide_eq_true_eq] at h
    obtain ⟨rfl, h1, h2, h3, h4, h5, h6, h7⟩ := h
    have kd := blkC_kind h2
    have hyl' : X.env.scope.names.lookup y = some .local := by rw [cx.hsc]; exact hyl
    have := snd_setc (k := kk) (spos := spos) (pos := pos) (py := py) cx.calm (by rw [cx.hN]; exact cx.nd) (by rw [cx.hN]; exact hy) hyl' (sw_true (by rw [cx.hsc]; exact hk) hyl' hl hn) (okI_ok it (tg := yy) cx wo h4) (blkOk_by (by rw [cx.hN, cx.hsc]; exact h2)) (by rw [own_snd]; exact own_mem h3)
      (fun s H A cl fp => okT_ok tg (cx.blk kd s H A cl fp) wo h5) (fun s H A cl fp => okCn_ok cond (cx.blk kd s H A cl fp) wo h6) (fun s H A cl fp => (okE_ok elt (cx.blk kd s H A cl fp) wo h7).pe) (notSet_ok h1 _)
    rw [own_snd] at this
    exact this
end
end MP
end
-- MPChk5
section
set_option maxRecDepth 100000
set_option maxHeartbeats 4000000
/-! The look is sound: all statements. -/
namespace MP
open PySem (Addr Expr Stmt Str Pos Keyword Scope NameKind)
open PySem.Spec
open L2
open PyProof.Rows hiding St
section
variable {W : Wd} {C : Cfg} {nm : Nm} {N : List Str} {k : Nat}
theorem blk_fn {X : Cx} {s0 sc : Scope} (cx : Cxt X N s0 sc k) : X.env.blockKind = .function := by
  unfold PySem.Env.blockKind
  rw [cx.hsc, cx.kind]; rfl
theorem Cxt.pass {X : Cx} {s0 sc : Scope} (cx : Cxt X N s0 sc k) : PySem.PassesOwn (PySem.model X.prog X.w) X.A X.env X.xe := by
  rw [cx.xe]; exact .never
theorem asg_ok {X : Cx} {sc : Scope} {tg e : Expr} {m : E} {t : T} {pos : Pos} (cx : Cxt X N sc sc k) (wo : Wo nm W C X.prog X.w X.K X.mg X.base k) (h0 : plainT tg = true) (h1 : noPar sc tg e = true) (h2 : okE nm N m sc e = true) (h3 : okT nm N t sc sc tg = true)
    (h4 : swapOk sc m t tg e = true) : PS X (.Assign [tg] e pos) (tS W C (.asg t m)) := by
  unfold swapOk at h4
  by_cases hq : isSwap sc tg e = true
  · rw [if_pos hq] at h4
    cases tg <;> (try (cases e <;> simp [isSwap] at hq; done))
    rename_i y py
    cases m <;> cases t <;> cases e <;> simp only [Bool.false_eq_true] at h4
    rename_i kk own tg it cond elt i x gs sc' cp
    simp only [isSwap, Bool.and_eq_true, Bool.not_eq_true', beq_iff_eq] at hq
    simp only [okT, Bool.and_eq_true] at h3
    exact snd_asgC (comp_parts cx wo h2 (oEq_ok h3.1) hq.2.1 (by rw [hq.1]; exact beq_self_eq_true _) hq.2.2 cx.kind)
  · exact snd_asg (okE_ok m cx wo h2).pe (okT_ok t cx wo h3) (sw_asg (by rw [cx.hsc]; simpa using hq)) (par_none (by rw [cx.hsc]; exact h1)) h0
theorem par_ok {X : Cx} {sc : Scope} {ts vs : List Expr} {is : List Nat} {es : Es} {kt k2 : Nat} {pt pt2 pos : Pos} (cx : Cxt X N sc sc k) (wo : Wo nm W C X.prog X.w X.K X.mg X.base k)
    (h0 : (is.length == 2 || is.length == 3) = true) (h1 : nodN is = true) (h2 : (vs.length == ts.length) = true) (h3 : parOk N sc ((ts.head?.map (·.pos.line)).getD 0) is ts = true) (h4 : okEs nm N es sc vs = true) (h5 : vs.all (PySem.foldedForSure 8) = false) (h6 : vs.all (PySem.constantsAlone 8) = false) :
    PS X (.Assign [.Tuple ts kt pt] (.Tuple vs k2 pt2) pos) (tS W C (.par is es)) := by
  have nd := nodN_ok h1
  have hp := okEs_plain h4
  have ha := okEs_ok es cx wo h4
  have hNn : X.N.Nodup := by rw [cx.hN]; exact cx.nd
  have kl : ∀ {x : Str}, sc.names.lookup x = some .local → X.env.kindOf x = some .local := fun {x} z => by
    show X.env.scope.names.lookup x = _
    rw [cx.hsc]; exact z
  match is, h0 with
  | [i, j], _ =>
    obtain ⟨x, px, ts1, rfl, ei, a2, a3, h3⟩ := parOk_ok h3
    obtain ⟨y, py, ts2, rfl, ej, b2, b3, h3⟩ := parOk_ok h3
    obtain rfl := parOk_nil h3
    match vs, h2 with
    | [a, b], _ =>
      have hij : i ≠ j := fun e => by subst e; simp at nd
      have hne : x ≠ y := fun e => hij (n_inj cx.nd ei (by rw [e]; exact ej))
      exact snd_par2 cx.calm hNn (by rw [cx.hN]; exact ei) (by rw [cx.hN]; exact ej) hij (kl a2) (kl b2) ha (par2_some (blk_fn cx) (kl a2) (kl b2) b3 hne (hp a (by simp)) (hp b (by simp)) h5 h6) rfl
  | [i, j, l], _ =>
    obtain ⟨x, px, ts1, rfl, ei, a2, a3, h3⟩ := parOk_ok h3
    obtain ⟨y, py, ts2, rfl, ej, b2, b3, h3⟩ := parOk_ok h3
    obtain ⟨z, pz, ts3, rfl, el, c2, c3, h3⟩ := parOk_ok h3
    obtain rfl := parOk_nil h3
    match vs, h2 with
    | [a, b, c], _ =>
      simp only [List.nodup_cons, List.mem_cons, List.not_mem_nil, or_false, not_or] at nd
      have hne : x ≠ y := fun e => nd.1.1 (n_inj cx.nd ei (by rw [e]; exact ej))
      have hxz : x ≠ z := fun e => nd.1.2 (n_inj cx.nd ei (by rw [e]; exact el))
      have hyz : y ≠ z := fun e => nd.2.1 (n_inj cx.nd ej (by rw [e]; exact el))
      exact snd_par3 cx.calm hNn (by rw [cx.hN]; exact ei) (by rw [cx.hN]; exact ej) (by rw [cx.hN]; exact el) nd.1.1 nd.1.2 nd.2.1 (kl a2) (kl b2) (kl c2) ha
        (par3_some (blk_fn cx) (kl a2) (kl b2) (kl c2) b3 c3 hne hxz hyz (hp a (by simp)) (hp b (by simp)) (hp c (by simp)) h5 h6) rfl
mutual
theorem okS_ok : ∀ (m : S) {X : Cx} {sc : Scope} {st : Stmt}, Cxt X N sc sc k → Wo nm W C X.prog X.w X.K X.mg X.base k → okS nm N m sc st = true → PS X st (tS W C m)
  | .asg t m, X, sc, st, cx, wo, h => by
    cases st <;> simp only [okS, Bool.false_eq_true] at h
    rename_i tgs e pos
    match tgs, h with
    | [tg], h =>
      simp only [Bool.and_eq_true] at h
      obtain ⟨h0, h1, h2, h3, h4⟩ := h
      exact asg_ok cx wo h0 h1 h2 h3 h4
  | .par is es, X, sc, st, cx, wo, h => by
    cases st <;> simp only [okS, Bool.false_eq_true] at h
    rename_i tgs e pos
    match tgs, e, h with
    | [.Tuple ts kt pt], .Tuple vs k2 pt2, h =>
      simp only [Bool.and_eq_true, Bool.not_eq_true'] at h
      obtain ⟨h0, h1, h2, h3, h4, h5, h6⟩ := h
      exact par_ok cx wo h0 h1 h2 h3 h4 h5 h6
  | .aug i op m, X, sc, st, cx, wo, h => by
    cases st <;> simp only [okS, Bool.false_eq_true] at h
    rename_i tg o e pos
    cases tg <;> (try simp only [Bool.false_eq_true] at h)
    simp only [Bool.and_eq_true, decide_eq_true_eq] at h
    obtain ⟨rfl, h1, h2, h3, h4⟩ := h
    obtain ⟨l1, l2⟩ := cx.fnl _ (kLoc_ok h3)
    exact snd_aug (by cases op <;> first | exact .inl rfl | exact .inr rfl | cases h1) (by rw [cx.hN]; exact cx.nd) (by rw [cx.hN]; exact oEq_ok h2) (by rw [cx.hsc]; exact l1) (okE_ok m cx wo h4).pe (by rw [cx.hsc]; exact l2)
  | .setf c f m, X, sc, st, cx, wo, h => by
    cases st <;> simp only [okS, Bool.false_eq_true] at h
    rename_i tgs e pos
    match tgs, h with
    | [.Attribute o n p'], h =>
      simp only [Bool.and_eq_true] at h
      obtain ⟨h1, h2, h3⟩ := h
      obtain ⟨x, p, rfl, _, hp⟩ := var_ok cx h1
      split at h2
      · rename_i fs hfs
        obtain ⟨ok, efs⟩ := wo.fld c fs hfs
        exact snd_setf wo.T ok (by rw [efs]; exact oEq_ok h2) hp (okE_ok m cx wo h3).pe sw_attr
      · cases h2
  | .ex m, X, sc, st, cx, wo, h => by
    cases st <;> simp only [okS, Bool.false_eq_true, Bool.and_eq_true] at h
    exact snd_ex (okE_ok m cx wo h.2).pe (sw_false h.1)
  | .ret m, X, sc, st, cx, wo, h => by
    cases st <;> simp only [okS, Bool.false_eq_true] at h
    rename_i e pos
    cases e with
    | none => simp at h
    | some e => exact snd_ret (okE_ok m cx wo h).pe
  | .retN, X, sc, st, cx, wo, h => by
    cases st <;> simp only [okS, Bool.false_eq_true] at h
    rename_i e pos
    cases e with
    | none => exact snd_retN
    | some e => simp at h
  | .ifs c a b, X, sc, st, cx, wo, h => by
    cases st <;> simp only [okS, Bool.false_eq_true, Bool.and_eq_true] at h
    exact snd_if (okE_ok c cx wo h.1).pt (okSs_ok a cx wo h.2.1) (okSs_ok b cx wo h.2.2)
  | .for_ t it b, X, sc, st, cx, wo, h => by
    cases st <;> simp only [okS, Bool.false_eq_true] at h
    rename_i tg e xs ys pos
    match ys, h with
    | [], h =>
      simp only [Bool.and_eq_true] at h
      exact snd_for cx.pass cx.calm (okI_ok it cx wo h.2.1) (okT_ok t cx wo h.2.2.1) (okSs_ok b cx wo h.2.2.2) (notSet_ok h.1 _)
  | .forO _ _ _, X, sc, st, cx, wo, h => by simp [okS] at h
  | .whl c b, X, sc, st, cx, wo, h => by
    cases st <;> simp only [okS, Bool.false_eq_true] at h
    rename_i e xs ys pos
    match ys, h with
    | [], h =>
      simp only [Bool.and_eq_true] at h
      exact snd_whl cx.pass (okE_ok c cx wo h.1).pt (okSs_ok b cx wo h.2)
  | .pss, X, sc, st, cx, wo, h => by
    cases st <;> simp only [okS, Bool.false_eq_true] at h
    · rename_i e pos
      cases e <;> (try simp only [Bool.false_eq_true] at h)
      rename_i c kk p2
      cases c <;> (try simp only [Bool.false_eq_true] at h)
      exact snd_doc
    · exact snd_pass
  | .brk, X, sc, st, cx, wo, h => by
    cases st <;> simp only [okS, Bool.false_eq_true] at h
    exact snd_brk
  | .cnt, X, sc, st, cx, wo, h => by
    cases st <;> simp only [okS, Bool.false_eq_true] at h
    exact snd_cnt
  | .rse, X, sc, st, cx, wo, h => snd_rse
  | .dput i kk v, X, sc, st, cx, wo, h => by
    cases st <;> simp only [okS, Bool.false_eq_true] at h
    rename_i tgs e pos
    match tgs, h with
    | [.Subscript x y p2], h =>
      simp only [Bool.and_eq_true] at h
      obtain ⟨h1, h2, h3, h4, h5⟩ := h
      obtain ⟨_, _, _, _, hp⟩ := var_ok cx h2
      exact snd_dput (by have := cx.room.units; omega) hp (okE_ok kk cx wo h3).pe (okE_ok v cx wo h4).pe (notSl_ok h1) (sw_false h5)
theorem okSs_ok : ∀ (ms : Ss) {X : Cx} {sc : Scope} {sts : List Stmt}, Cxt X N sc sc k → Wo nm W C X.prog X.w X.K X.mg X.base k → okSs nm N ms sc sts = true → PSs X sts (tSs W C ms)
  | .nil, X, sc, sts, cx, wo, h => by
    cases sts <;> simp [okSs] at h
    exact snd_nilS
  | .cons m ms, X, sc, sts, cx, wo, h => by
    cases sts with
    | nil => simp [okSs] at h
    | cons st sts =>
      simp only [okSs, Bool.and_eq_true] at h
      exact snd_consS (okS_ok m cx wo h.1) (okSs_ok ms cx wo h.2)
  | .bor m n ms, X, sc, sts, cx, wo, h => by
    simp only [okSs, Bool.and_eq_true] at h
    have := snd_bor (n := n) (okSs_ok m cx wo h.1) (okSs_ok ms cx wo h.2)
    rwa [List.take_append_drop] at this
end
end
end MP
end
-- MPFn
section
set_option maxRecDepth 100000
set_option maxHeartbeats 2000000
/-! Defs by their trees. -/
namespace MP
open PySem (Addr Expr Stmt Str Pos Keyword Scope NameKind)
open PySem.Spec
open L2
open PyProof.Rows hiding St
section
variable {W : Wd} {nm : Nm}
theorem reps_none {L : List Addr} {B : Addr → Prop} {H : Hp} : ∀ n : Nat, RepS W L B H (List.replicate n none) (List.replicate n none) []
  | 0 => .nil
  | n + 1 => .emp none (reps_none n)
theorem reps_start {L : List Addr} {B : Addr → Prop} {H : Hp} (n : Nat) : ∀ {ps vs O}, RepP W L B H ps vs O → RepS W L B H (ps.map some ++ List.replicate n none) (vs.map some ++ List.replicate n none) O
  | _, _, _, .nil => reps_none n
  | _, _, _, .cons r h => .val r (reps_start n h)
theorem EnF.gd {F L H O ps μ vs} (n : Nat) (e : EnF W F L H O ps μ vs) : Gd W L F H ⟨ps.map some ++ List.replicate n none, μ⟩ (vs.map some ++ List.replicate n none) O :=
  ⟨reps_start n e.r, e.mu, e.nd, e.ap, e.ft⟩
theorem PZ'.toF {F L H O τ is s' τ' L' H' O'} (p : PZ' W F L H O τ is s' τ' L' H' O') : PostF W F L H O (.non, 0) s'.μ .non H' :=
  ⟨L', [], ⟨p.st.less fun a m => by simp at m, p.g.mu, .non 0, by simpa using p.g.ndL, by simp⟩⟩
theorem PE'.toF {F L H O τ' d k s' v L' H' O' Ov} {deep : Nat} (p : PE' W F L H O τ' (d, k) s' v L' H' O' Ov) (hd : deep = 0 ∨ deep = k) : PostF W F L H O (d, deep) s'.μ v H' := by
  have ndv : (L' ++ Ov).Nodup := List.nodup_append.mpr ⟨p.g.ndL, p.nd, fun a ha b hb e => (p.g.ap b (.inr hb)).1 (by subst e; exact ha)⟩
  by_cases hk : deep = k
  · subst hk
    exact ⟨L', Ov, ⟨p.st.less fun a m => m.elim (by simp) .inr, p.g.mu, p.r.mono fun a _ b => b.elim .inl fun b => .inr (b.elim .inl (by simp)), ndv, p.ap⟩⟩
  · obtain rfl : deep = 0 := hd.elim id fun z => absurd z hk
    refine ⟨L', [], ⟨p.st.less fun a m => by simp at m, p.g.mu, p.r.frz (fun a b => ?_) fun a m b => ?_, by simpa using p.g.ndL, by simp⟩⟩
    · rcases b with (b | b) | b | b
      · exact .inl (.inl b)
      · cases b
      · exact .inr (.inl b)
      · cases b
    · rcases b with (b | b) | b | b
      · exact p.ap a m b
      · cases b
      · exact (p.g.ap a (.inr m)).1 b
      · cases b
/-- the end of an __init__ -/
theorem PZ'.toI {F L H O τ is s' τ' L' H' O' c fs k x} (p : PZ' W F L H O τ is s' τ' L' H' O') (h0 : s'.σ[0]? = some (some (.ins c fs, k))) (hi : 0 ∉ is) (hx : τ[0]? = some (some x)) : PostF W F L H O (.ins c fs, 0) s'.μ x H' := by
  obtain ⟨v, O2, h1, h2, h3, h4⟩ := p.g.freeze h0
  rw [p.same 0 hi, hx] at h1
  cases h1
  exact ⟨L', [], ⟨p.st.less fun a m => by simp at m, p.g.mu, h4.mono fun a _ b => b.elim (fun z => .inl (FU_nil.mp z)) fun b => .inr (b.elim .inl (by simp)), by simpa using p.g.ndL, by simp⟩⟩
/-- a def and its tree -/
structure FnF (nm : Nm) (K : PySem.W.Frag) (fn : Fn) (fa : Addr) (fd : PySem.FuncData) (ps : List Str) : Prop where
  ex : ∃ x qual params body scope kws N, FunD K x qual params body scope [] kws fa fd ∧ FnScope N ps scope ∧ okSs nm N fn.body scope body = true ∧ N.length = fn.slots
  par : ps.length = fn.par
  bd : Binds K fd ps []
  ini : fn.ini = true → (stSs fn.body).contains 0 = false ∧ 0 < fn.par
variable {P : Pg} {prog : PySem.Program} {w : PySem.World} {K : PySem.W.Frag} {mg : Str → Option PySem.Value} {base : PySem.Heap} {fu n : Nat}
theorem EnF.len {F L H O ps μ vs} (e : EnF W F L H O ps μ vs) : ps.length = vs.length := e.r.length
theorem run_len {i : Nat} {fn : Fn} {ps μ r} (h : P.fns[i]? = some fn) (e : run P fu (n + 1) i ps μ = .ok r) : ps.length = fn.par ∧ fn.par ≤ fn.slots ∧ (execs (P.cfg fu (run P fu n)) fn.body ⟨ps.map some ++ List.replicate (fn.slots - fn.par) none, μ⟩).bind (endF fn) = .ok r := by
  simp only [run, h] at e
  split at e
  · rename_i hh; exact ⟨hh.1, hh.2, e⟩
  · cases e
theorem fn_ok {i : Nat} {fn : Fn} {fa : Addr} {fd : PySem.FuncData} {ps : List Str} (hi : P.fns[i]? = some fn) (D : FnF nm K fn fa fd ps) (wo : Wo nm W (P.cfg fu (run P fu n)) prog w K mg base n) :
    (fn.ini = false → FnOk prog w K mg base CX0 (2 * (n + 1)) fa fd ps (spF W (run P fu (n + 1) i))) ∧ (fn.ini = true → FnOk prog w K mg base CX0 (2 * (n + 1)) fa fd ps (spI W (run P fu (n + 1) i))) := by
  obtain ⟨x, qual, params, body, scope, kws, N, FD, S, ok, hN⟩ := D.ex
  have cxt : ∀ (cdv : PySem.Value) (A : PySem.Around) (outer : List PySem.Env) (s : PySem.Shared) (H : Hp) (E : XK), Room (2 * n + 1) (A.deeper (PyProof.Rows.envOfC qual scope s.heap.objs.size fa cdv)) →
      Cxt (cxOf CX0 prog w K mg base N qual scope fa cdv A outer s H E).nox N scope scope n := fun cdv A outer s H E hr =>
    ⟨rfl, S.nd, rfl, S.kind, rfl, hr, rfl, fun x h => ⟨h, .inl rfl⟩⟩
  constructor
  · intro hini
    refine def_ok (k := 2 * n + 1) FD S (fun vs H Q E ⟨F, L, O, μ, qs, en, r, μ', hr, q⟩ => ?_) fun cdv A outer s H vs Q E hr ⟨F, L, O, μ, qs, en, r, μ', he, q⟩ => ?_
    · rw [D.par, ← (run_len hi hr).1, en.len]
    · obtain ⟨l1, l2, he⟩ := run_len hi he
      refine ⟨tSs W _ fn.body, (okSs_ok fn.body (cxt cdv A outer s H E hr) wo ok).nox, ?_⟩
      obtain ⟨⟨fl, s'⟩, e1, e2⟩ := bind_ok he
      have hl : N.length - vs.length = fn.slots - fn.par := by rw [hN, ← en.len, l1]
      refine ⟨F, L, _, O, by unfold start; rw [hl]; exact en.gd _, fl, s', e1, ?_⟩
      cases fl with
      | nx =>
        simp only [endF, hini, Bool.false_eq_true, if_false] at e2
        cases e2
        exact fun τ' H' ⟨L', O', p⟩ => q _ _ p.toF
      | rt d k =>
        simp only [endF, hini, Bool.false_eq_true, if_false] at e2
        split at e2
        · rename_i hd
          cases e2
          exact fun v τ' H' ⟨L', O', Ov, p⟩ => q _ _ (p.toF hd)
        · cases e2
      | br => simp only [endF] at e2; cases e2
      | ct => simp only [endF] at e2; cases e2
  · intro hini
    obtain ⟨hz, hp⟩ := D.ini hini
    refine def_ok (k := 2 * n + 1) FD S (fun vs H Q E ⟨F, L, O, μ, qs, x0, vs', ev0, en, r, μ', hr, q⟩ => ?_) fun cdv A outer s H vs Q E hr ⟨F, L, O, μ, qs, x0, vs', ev0, en, r, μ', he, q⟩ => ?_
    · rw [D.par, ← (run_len hi hr).1, en.len]
    · obtain ⟨l1, l2, he⟩ := run_len hi he
      refine ⟨tSs W _ fn.body, (okSs_ok fn.body (cxt cdv A outer s H E hr) wo ok).nox, ?_⟩
      obtain ⟨⟨fl, s'⟩, e1, e2⟩ := bind_ok he
      have hl : N.length - vs.length = fn.slots - fn.par := by rw [hN, ← en.len, l1]
      refine ⟨F, L, _, O, by unfold start; rw [hl]; exact en.gd _, fl, s', e1, ?_⟩
      cases fl with
      | nx =>
        simp only [endF, hini, if_true] at e2
        split at e2
        · rename_i c fs kk h0
          cases e2
          refine fun τ' H' ⟨L', O', p⟩ => q _ (p.toI h0 (by simpa using hz) ?_)
          rw [ev0]; rfl
        · cases e2
      | rt d k =>
        simp only [endF, hini, if_true] at e2
        cases e2
      | br => simp only [endF] at e2; cases e2
      | ct => simp only [endF] at e2; cases e2
/-- its first statement tells NotImplemented of what is no instance of class c -/
def niShape (nm : Nm) (c : Nat) (N : List Str) (scope : Scope) : List Stmt → Bool
  | .If t [.Return (some (.Name x _)) _] [] _ :: _ => bltOk nm scope x "NotImplemented" && okE nm N (.nt (.isi (.cls c) (.v 1))) scope t
  | _ => false
theorem bool_ni {C : Cfg} {c : Nat} {p d : D × Nat} {n : Nat} {μ : List (List D)} (h : tyD (.cls c) d.1 = some false) :
    bool1 (ev C (.nt (.isi (.cls c) (.v 1))) ⟨[p, d].map some ++ List.replicate n none, μ⟩) = .ok (true, ⟨[p, d].map some ++ List.replicate n none, μ⟩) := by
  obtain ⟨d, k⟩ := d
  simp only at h
  simp [bool1, ev, opd, Sta.get, R.bind, Od.val, h, ofO]
theorem ni_ok {C : Cfg} {c : Nat} {fa : Addr} {fd : PySem.FuncData} {ps N : List Str} {x qual : Str} {params : PySem.Arguments} {body : List Stmt} {scope : Scope} {kws : List (Str × V)} (FD : FunD K x qual params body scope [] kws fa fd) (S : FnScope N ps scope)
    (hl : ps.length = 2) (hsh : niShape nm c N scope body = true) (wo : Wo nm W C prog w K mg base n) : NiOk prog w K mg base (2 * (n + 1)) W c fa fd ps := by
  obtain ⟨oc, od, dV, kV, doc, pm, an, cdv, ct, osl, rfl, lk, hcd, _, _⟩ := FD.ex
  refine ⟨hl, fun A outer s H args us vs Q hr e0 hb r hsp => ?_⟩
  have KX : K.In s.heap := e0.mod.kin.keeps fun b o e => (e0.bs b o e).1
  have lim : s.heap.NoLimit := e0.mod.nolimit.keeps fun b o e => (e0.bs b o e).1
  obtain ⟨F, L, O, μ, p, d, en, hty, q⟩ := hsp
  have hvs : vs.length = ps.length := by rw [hl, ← en.len]; rfl
  refine PySem.codeAny_call_function hr.rm.depth (KX _ _ lk) rfl S.co S.gen rfl (PySem.W.codeRec_of KX hcd) (hb _ _ _ _ (PySem.wpAny_newFunctionEnv_cells S.kind (fun y hy => ?_) fun env he s1 z => ?_))
  · rcases S.par y.1 (List.of_mem_zip (show (y.1, y.2) ∈ _ from hy)).1 with q | q
    · exact .inl q
    · exact .inr ⟨q, PySem.W.cellsFrom_some _ _ _ (.inl q)⟩
  · subst he
    refine ⟨lim.keeps z.toInCall.keep, PySem.codeAny_func ?_⟩
    have I : Inv (cxOf CX0 prog w K mg base N qual scope fa cdv A outer s H E0) [] (L2.start N vs) H s1 := inv_start S hr.rm.hd e0 hvs r z
    have hr1 : Room (2 * n + 1) (A.deeper (PyProof.Rows.envOfC qual scope s.heap.objs.size fa cdv)) := hr.deeper _
    have cxt : Cxt (cxOf CX0 prog w K mg base N qual scope fa cdv A outer s H E0).nox N scope scope n := ⟨rfl, S.nd, rfl, S.kind, rfl, hr1, rfl, fun x h => ⟨h, .inl rfl⟩⟩
    obtain ⟨t, xn, p1, p2, p3, rest, rfl⟩ : ∃ t xn p1 p2 p3 rest, body = .If t [.Return (some (.Name xn p1)) p2] [] p3 :: rest := by
      unfold niShape at hsh
      split at hsh
      · exact ⟨_, _, _, _, _, _, rfl⟩
      · cases hsh
    simp only [niShape, Bool.and_eq_true] at hsh
    obtain ⟨h1, h2⟩ := hsh
    obtain ⟨rfl, hg, hm⟩ := blt_ok cxt wo h1
    have ht := (okE_ok _ cxt wo h2).pt.nox
    have hlen : N.length - vs.length = N.length - 2 := by rw [hvs, hl]
    have gd : Gd W L F H ⟨[p, d].map some ++ List.replicate (N.length - 2) none, μ⟩ (L2.start N vs) O := by
      unfold start
      rw [hlen]
      exact en.gd _
    have cond := ht.run [] s1 (L2.start N vs) H (fun b H' => b = true ∧ ∃ L' O' s', PN' W F L H O (L2.start N vs) s' L' H' O' ∧ s' = ⟨[p, d].map some ++ List.replicate (N.length - 2) none, μ⟩) I
      ⟨F, L, _, O, gd, true, _, bool_ni hty, fun H' ⟨L', O', pn⟩ => ⟨rfl, L', O', _, pn, rfl⟩⟩
    have key : PySem.wpAny (PySem.model prog w) (A.deeper (PyProof.Rows.envOfC qual scope s.heap.objs.size fa cdv)) (PySem.execs (.If t [.Return (some (.Name ("NotImplemented" : Str) p1)) p2] [] p3 :: rest) (PyProof.Rows.envOfC qual scope s.heap.objs.size fa cdv))
        (fun fl s' => fl = .ret .notImplemented ∧ ∃ σ' H', Inv (cxOf CX0 prog w K mg base N qual scope fa cdv A outer s H E0) [] σ' H' s' ∧ Q H') (cxOf CX0 prog w K mg base N qual scope fa cdv A outer s H E0).xe s1 := by
      refine PySem.wpAny_execs_cons (PySem.wpAny_If (PySem.wpAny_mono cond (fun b s2 hb => ?_) fun _ _ e => e))
      obtain ⟨H1, I1, rfl, L', O', s', pn, rfl⟩ := hb
      simp only [if_true]
      refine PySem.wpAny_execs_cons (PySem.wpAny_Return_some (ld_blt (u := .notImplemented) I1 hg hm (by decide +kernel) ?_))
      refine ⟨rfl, _, H1, I1, q H1 ?_⟩
      exact (PZ'.toF (is := []) ⟨pn.st, pn.g, fun _ _ => rfl, rfl⟩)
    refine PySem.wpAny_mono key (fun fl s' hs => ?_) fun e s' hs => PySem.wpAny_mono (t := PySem.leaving _ e) hs (fun _ _ h => False.elim h) fun _ _ h => False.elim h
    obtain ⟨rfl, σ', H', J, q⟩ := hs
    exact ⟨rfl, .non, H', J.os, J.bare, J.base, J.hok, rfl, rfl, q⟩
/-- the world, but for what the defs do -/
structure Wb (nm : Nm) (W : Wd) (P : Pg) (K : PySem.W.Frag) (mg : Str → Option PySem.Value) (fa : Nat → Addr) (fd : Nat → PySem.FuncData) (ps : Nat → List Str) : Prop where
  T : CF K W
  con : ∀ x d, (x, d) ∈ nm.con → ∃ v u, mg x = some u ∧ RelV v u ∧ ∀ L B H, Rep W L B H 0 d v []
  blt : ∀ x ∈ nm.blt, mg x = none
  fn : ∀ f x, nm.fn[f]? = some x → (∃ fn, P.fns[f]? = some fn ∧ fn.ini = false) ∧ mg x = some (.ref (fa f)) ∧ PySem.W.keepIn K (.ref (fa f)) = true ∧ ∀ j ks pm, (f, j, ks, pm) ∈ nm.kbf → KPm K (fd f) (ps f) j ks pm
  cls : ∀ c x, nm.cls[c]? = some x → W.ok c = true ∧ mg x = some (.ref (W.cls c))
  fld : ∀ c fs, nm.fld[c]? = some fs → W.ok c = true ∧ W.flds c = fs
  new : ∀ c x, nm.cls[c]? = some x → Mk K (W.cls c) (fa (P.init c)) ∧ (∃ fn, P.fns[P.init c]? = some fn ∧ fn.ini = true) ∧ ∀ j ks pm, (c, j, ks, pm) ∈ nm.kbc → KPm K (fd (P.init c)) (ps (P.init c)) (j + 1) ks (0 :: pm.map (· + 1))
  mth : ∀ c m x, (c, m, x) ∈ nm.mth → W.ok c = true ∧ x ∉ W.flds c ∧ Meth K (W.cls c) x (fa (P.meth c m)) ∧ (∃ fn, P.fns[P.meth c m]? = some fn ∧ fn.ini = false) ∧ ∀ j ks pm, (c, m, j, ks, pm) ∈ nm.kbm → KPm K (fd (P.meth c m)) (ps (P.meth c m)) (j + 1) ks (0 :: pm.map (· + 1))
  prp : ∀ c m x, (c, m, x) ∈ nm.prp → W.ok c = true ∧ (∃ pr, PropOf K (W.cls c) x pr (fa (P.meth c m))) ∧ ∃ fn, P.fns[P.meth c m]? = some fn ∧ fn.ini = false
  all : ∀ i fn, P.fns[i]? = some fn → FnF nm K fn (fa i) (fd i) (ps i)
  neq : ∀ c ∈ nm.neq, W.ok c = true ∧ PySem.W.findIn K (.ref (W.cls c)) "__ne__" = some (some (.builtin "object.__ne__"))
  ni : ∀ c ∈ nm.nis, ∀ m, (c, m, ("__eq__" : Str)) ∈ nm.mth → ∃ x qual params body scope kws N, FunD K x qual params body scope [] kws (fa (P.meth c m)) (fd (P.meth c m)) ∧ FnScope N (ps (P.meth c m)) scope ∧ (ps (P.meth c m)).length = 2 ∧ niShape nm c N scope body = true
def FL (W : Wd) (P : Pg) (prog : PySem.Program) (w : PySem.World) (K : PySem.W.Frag) (mg : Str → Option PySem.Value) (base : PySem.Heap) (fu : Nat) (fa : Nat → Addr) (fd : Nat → PySem.FuncData) (ps : Nat → List Str) (n : Nat) : Prop :=
  ∀ i fn, P.fns[i]? = some fn → (fn.ini = false → FnOk prog w K mg base CX0 (2 * n) (fa i) (fd i) (ps i) (spF W (run P fu n i))) ∧ (fn.ini = true → FnOk prog w K mg base CX0 (2 * n) (fa i) (fd i) (ps i) (spI W (run P fu n i)))
variable {fa : Nat → Addr} {fd : Nat → PySem.FuncData} {ps : Nat → List Str}
def NF (nm : Nm) (W : Wd) (P : Pg) (prog : PySem.Program) (w : PySem.World) (K : PySem.W.Frag) (mg : Str → Option PySem.Value) (base : PySem.Heap) (fu : Nat) (fa : Nat → Addr) (fd : Nat → PySem.FuncData) (ps : Nat → List Str) (n : Nat) : Prop :=
  ∀ c ∈ nm.nis, ∀ m, (c, m, ("__eq__" : Str)) ∈ nm.mth → (∃ qs μ r, run P fu n (P.meth c m) qs μ = .ok r) → NiOk prog w K mg base (2 * n) W c (fa (P.meth c m)) (fd (P.meth c m)) (ps (P.meth c m))
theorem wo_of (B : Wb nm W P K mg fa fd ps) (h : FL W P prog w K mg base fu fa fd ps n) (hN : NF nm W P prog w K mg base fu fa fd ps n) : Wo nm W (P.cfg fu (run P fu n)) prog w K mg base n where
  T := B.T
  neq := B.neq
  ni := fun c hc m hm => by
    obtain ⟨h1, _, h3, ⟨fn, h4, _⟩, _⟩ := B.mth c m _ hm
    exact ⟨_, fd (P.meth c m), ps (P.meth c m), h1, h3, (B.all _ fn h4).bd, hN c hc m hm⟩
  con := B.con
  blt := B.blt
  fn := fun f x e => by
    obtain ⟨⟨fn, h1, h2⟩, h3, h4⟩ := B.fn f x e
    exact ⟨fa f, fd f, ps f, (h f fn h1).1 h2, (B.all f fn h1).bd, h3, h4⟩
  cls := B.cls
  fld := B.fld
  new := fun c x e => by
    obtain ⟨h1, ⟨fn, h2, h3⟩, h4⟩ := B.new c x e
    exact ⟨_, fd (P.init c), ps (P.init c), h1, (h _ fn h2).2 h3, (B.all _ fn h2).bd, h4⟩
  mth := fun c m x e => by
    obtain ⟨h1, h2, h3, ⟨fn, h4, h5⟩, h6⟩ := B.mth c m x e
    exact ⟨h1, h2, _, fd (P.meth c m), ps (P.meth c m), h3, (h _ fn h4).1 h5, (B.all _ fn h4).bd, h6⟩
  prp := fun c m x e => by
    obtain ⟨h1, ⟨pr, h2⟩, fn, h4, h5⟩ := B.prp c m x e
    exact ⟨h1, pr, _, fd (P.meth c m), ps (P.meth c m), h2, (h _ fn h4).1 h5, (B.all _ fn h4).bd⟩
theorem FL0 : FL W P prog w K mg base fu fa fd ps 0 := fun i fn hi => ⟨fun _ => ⟨fun vs H Q E ⟨F, L, O, μ, qs, en, r, μ', hr, q⟩ => (by simp only [run] at hr; cases hr), fun A outer s H args us vs Q E _ _ _ _ ⟨F, L, O, μ, qs, en, r, μ', hr, q⟩ => (by simp only [run] at hr; cases hr)⟩,
      fun _ => ⟨fun vs H Q E ⟨F, L, O, μ, qs, x0, vs', ev0, en, r, μ', hr, q⟩ => (by simp only [run] at hr; cases hr), fun A outer s H args us vs Q E _ _ _ _ ⟨F, L, O, μ, qs, x0, vs', ev0, en, r, μ', hr, q⟩ => (by simp only [run] at hr; cases hr)⟩⟩
theorem all_wo (B : Wb nm W P K mg fa fd ps) : ∀ n, Wo nm W (P.cfg fu (run P fu n)) prog w K mg base n
  | 0 => wo_of B FL0 fun c hc m hm ⟨qs, μ, r, hr⟩ => by simp only [run] at hr; cases hr
  | n + 1 => wo_of B (fun i fn hi => fn_ok hi (B.all i fn hi) (all_wo B n)) fun c hc m hm _ => by
    obtain ⟨x, qual, params, body, scope, kws, N, h1, h2, h3, h4⟩ := B.ni c hc m hm
    exact ni_ok h1 h2 h3 h4 (all_wo B n)
/-- EVERY DEF DOES WHAT ITS TREE TELLS -/
theorem all_ok (B : Wb nm W P K mg fa fd ps) : ∀ n, FL W P prog w K mg base fu fa fd ps n
  | 0 => FL0
  | n + 1 => fun i fn hi => fn_ok hi (B.all i fn hi) (all_wo B n)
end
end MP
end
-- MPHd
section
set_option maxRecDepth 100000
set_option maxHeartbeats 2000000
/-! The head: what is asked of the program's objects, by one look. -/
namespace MP
open PySem (Addr Expr Stmt Str Pos Keyword Scope NameKind)
open PySem.Spec
open PySem.W (Frag)
open L2
open PyProof.Rows hiding St
/-- where a def stands -/
inductive Pl where | glo (x : Str) | mth (x m : Str) | prp (x m : Str)
def pa (K : Frag) (C : Addr) (m : Str) : Addr := match PySem.W.recIn K (He.ma K C m) "property" with
  | some (.ref g :: _) => g
  | _ => 0
def Pl.at_ (K : Frag) : Pl → Addr
  | .glo x => He.ga K x
  | .mth x m => He.ma K (He.ga K x) m
  | .prp x m => pa K (He.ga K x) m
/-- a def: its place, its text, its slots' names, its parameters -/
structure HDef where
  pl : Pl
  qual : Str
  st : Stmt
  N : List Str
  ps : List Str
def nameOf : Stmt → Str | .FunctionDef n _ _ _ _ _ _ _ _ _ => n | _ => ⟨#[]⟩
def HDef.da (d : HDef) : He5.DefA := ⟨fun K => d.pl.at_ K, nameOf d.st, d.qual, L2.defArgs d.st, L2.defBody d.st, L2.defScope d.st, [], []⟩
def conOf : D → He.Fa → Bool := fun _ _ => false
/-- a constant of the module -/
def conK (K : Frag) (x : Str) : D → Bool
  | .int i => (He.Fa.int x i).ok K
  | .str s => (He.Fa.str x s).ok K
  | _ => false
def isGlo (x : Str) : Pl → Bool | .glo y => sEq x y | _ => false
def isMth (x m : Str) : Pl → Bool | .mth y n => sEq x y && sEq m n | _ => false
def isPrp (x m : Str) : Pl → Bool | .prp y n => sEq x y && sEq m n | _ => false
def prpK (K : Frag) (C : Addr) (m : Str) : Bool :=
  He.eqO (PySem.W.findIn K (.ref C) m) (some (some (.ref (He.ma K C m)))) && (He.eqO (PySem.W.specialIn K (.ref (He.ma K C m)) "__get__") (some (some (.builtin "property.__get__"))) && (decide (PySem.W.takesIn K (.ref (He.ma K C m)) = some true) &&
    (match PySem.W.recIn K (He.ma K C m) "property" with | some (.ref _ :: _) => true | _ => false)))
theorem prpK_ok {K : Frag} {C : Addr} {m : Str} (h : prpK K C m = true) : PropOf K C m (He.ma K C m) (pa K C m) := by
  unfold prpK at h
  simp only [Bool.and_eq_true, decide_eq_true_eq] at h
  obtain ⟨h1, h2, h3, h4⟩ := h
  refine ⟨He.eqO_ok h1, He.eqO_ok h2, h3, ?_⟩
  unfold pa
  split at h4
  · rename_i g rest e
    rw [e]
    exact ⟨rest, rfl⟩
  · cases h4
def tyT : List String := ["int", "bool", "str", "list", "tuple"]
def tyC : List String := ["NoneType", "int", "bool", "str", "list", "tuple"]
/-- one class: c its number -/
def clsK (K : Frag) (n : Nat) (cn : Nat → Str) (c : Nat) (fs : List Str) : Bool :=
  (He.Fa.glo (cn c)).ok K && ((He.Fa.cls (cn c)).ok K && (He.eqO (PySem.W.findIn K (.ref (He.ga K (cn c))) "__class__") (some (some (.builtin "object.__class__"))) && (decide (PySem.W.mroIn K (He.ga K (cn c)) (.type "object") = some true) &&
    (tyT.all (fun T => decide (PySem.W.kitOne K (.ref (He.ga K (cn c))) (.type T) = some false)) && (tyC.all (fun T => decide (PySem.W.kitOne K (.type T) (.ref (He.ga K (cn c))) = some false)) &&
      ((List.range n).all (fun c' => decide (PySem.W.kitOne K (.ref (He.ga K (cn c))) (.ref (He.ga K (cn c'))) = some (decide (c = c')))) && (fs.all (fun f => (He.Fa.noat (cn c) f).ok K) && (decide fs.Nodup && decide (fs.length < 1000)))))))))
/-- all that is asked -/
structure Asked where
  nm : Nm
  P : Pg
  defs : List HDef
  /-- the classes that have an __init__ -/
def Asked.cn (A : Asked) (c : Nat) : Str := (A.nm.cls[c]?).getD ⟨#[]⟩
def Asked.fs (A : Asked) (c : Nat) : List Str := (A.nm.fld[c]?).getD []
def Asked.pl (A : Asked) (i : Nat) : Option Pl := (A.defs[i]?).map (·.pl)
def Asked.at_ (A : Asked) (K : Frag) (i : Nat) : Addr := match A.defs[i]? with | some d => d.pl.at_ K | none => 0
/-- what does not lean on K -/
def Asked.nisOk (A : Asked) : Bool := A.nm.nis.all fun c => A.nm.mth.all fun q => !(Nat.beq q.1 c && sEq q.2.2 "__eq__") || (match A.defs[A.P.meth q.1 q.2.1]? with | some d => niShape A.nm c d.N (L2.defScope d.st) (L2.defBody d.st) && decide (d.ps.length = 2) | none => false)
def Asked.self (A : Asked) : Bool :=
  A.nisOk && (  decide (A.P.fns.length = A.defs.length) && (decide (A.nm.fld.length = A.nm.cls.length) && (
  ((List.range A.nm.fn.length).all fun f => match A.nm.fn[f]?, A.defs[f]?, A.P.fns[f]? with | some x, some d, some fn => isGlo x d.pl && !fn.ini | _, _, _ => false) && (
  ((List.range A.nm.cls.length).all fun c => match A.defs[A.P.init c]?, A.P.fns[A.P.init c]? with | some d, some fn => isMth (A.cn c) "__init__" d.pl && fn.ini | _, _ => false) && (
  (A.nm.mth.all fun q => decide (q.1 < A.nm.cls.length) && (!memS q.2.2 (A.fs q.1) && (match A.defs[A.P.meth q.1 q.2.1]?, A.P.fns[A.P.meth q.1 q.2.1]? with | some d, some fn => isMth (A.cn q.1) q.2.2 d.pl && !fn.ini | _, _ => false))) &&
  (A.nm.prp.all fun q => decide (q.1 < A.nm.cls.length) && (match A.defs[A.P.meth q.1 q.2.1]?, A.P.fns[A.P.meth q.1 q.2.1]? with | some d, some fn => isPrp (A.cn q.1) q.2.2 d.pl && !fn.ini | _, _ => false)))))))
def Asked.chk (A : Asked) (K : Frag) : Bool :=
  (A.nm.con.all fun q => conK K q.1 q.2) && ((A.nm.blt.all fun x => (He.Fa.free x).ok K) && ((A.nm.fn.all fun x => (He.Fa.glo x).ok K) && (
  ((List.range A.nm.cls.length).all fun c => clsK K A.nm.cls.length A.cn c (A.fs c) && (He.Fa.mkr (A.cn c)).ok K) && (
  (A.nm.mth.all fun q => (He.Fa.meth (A.cn q.1) q.2.2).ok K) && ((A.nm.prp.all fun q => prpK K (He.ga K (A.cn q.1)) q.2.2) && (
  He.eqO (PySem.W.specialIn K (.builtin "object.__class__") "__get__") (some (some (.builtin "getset_descriptor.__get__"))) && (decide (PySem.W.takesIn K (.builtin "object.__class__") = some true) && A.nm.neq.all fun c => decide (c < A.nm.cls.length) && He.eqO (PySem.W.findIn K (.ref (He.ga K (A.cn c))) "__ne__") (some (some (.builtin "object.__ne__"))))))))))
def Asked.obs (A : Asked) (K : Frag) : He.AlD := (A.chk K && A.defs.all fun d => d.da.ok K, A.defs.map fun d => He5.fnA K (d.pl.at_ K))
def Asked.val (A : Asked) : He.AlD := (true, A.defs.map fun d => d.da.val)
def Asked.Says (A : Asked) (K : Frag) : Prop := A.obs K = A.val
def Asked.obsG (A : Asked) (n : Nat) (g : Addr → Option PySem.Obj) : He.AlD := A.obs (He.frG g (He5.asA g n))
def Asked.hook (A : Asked) (n : Nat) : PySem.W.Hook where
  α := He.AlD
  obs := fun s => A.obsG n s.heap.get?
  val := fun _ => A.val
  says := fun _ h => ∃ K : Frag, K.In h ∧ A.Says K
  of := fun _ _ e => ⟨_, He.frG_in, e⟩
  keeps := fun _ _ _ ⟨K, hK, c⟩ k => ⟨K, Frag.In.keeps hK k, c⟩
theorem Asked.obsG_eq {A : Asked} {n : Nat} {g : Addr → Option PySem.Obj} {s : PySem.Shared} (h : ∀ a, g a = s.heap.get? a) : A.obsG n g = (A.hook n).obs s := by
  have e : g = s.heap.get? := funext h
  rw [e] <;> rfl
section
variable {A : Asked} {K : Frag}
theorem Asked.Says.chk (c : A.Says K) : A.chk K = true := (He.ba (show (A.chk K && A.defs.all fun d => d.da.ok K) = true from congrArg (fun z : He.AlD => z.1) c)).1
theorem Asked.Says.def_ (c : A.Says K) {i : Nat} {d : HDef} (h : A.defs[i]? = some d) : ∃ fd, L2.FunD K (nameOf d.st) d.qual (L2.defArgs d.st) (L2.defBody d.st) (L2.defScope d.st) [] [] (d.pl.at_ K) fd := by
  have c2 := (He.ba (show (A.chk K && A.defs.all fun d => d.da.ok K) = true from congrArg (fun z : He.AlD => z.1) c)).2
  have e : A.defs.map (fun d => He5.fnA K (d.pl.at_ K)) = A.defs.map (fun d => d.da.val) := congrArg (fun z : He.AlD => z.2) c
  have e2 : (A.defs.map fun d => He5.fnA K (d.pl.at_ K))[i]? = (A.defs.map fun d => d.da.val)[i]? := by rw [e]
  rw [List.getElem?_map, List.getElem?_map, h] at e2
  exact He5.DefA.funD (d := d.da) (Option.some.inj e2) (List.all_eq_true.mp c2 d (List.mem_of_getElem? h))
/-- the world of these objects -/
def Asked.wd (A : Asked) (K : Frag) : Wd := ⟨K, fun c => He.ga K (A.cn c), A.fs, fun c => decide (c < A.nm.cls.length)⟩
end
end MP
end
-- MPHd2
section
set_option maxRecDepth 100000
set_option maxHeartbeats 2000000
/-! The head: the world from one look. -/
namespace MP
open PySem (Addr Expr Stmt Str Pos Keyword Scope NameKind)
open PySem.Spec
open PySem.W (Frag)
open L2
open PyProof.Rows hiding St
/-- its tree fits -/
def HDef.look (nm : Nm) (d : HDef) (fn : Fn) : Bool :=
  C8.scC d.N d.ps (L2.defScope d.st) && (okSs nm d.N fn.body (L2.defScope d.st) (L2.defBody d.st) && (decide (d.N.length = fn.slots) && (decide (d.ps.length = fn.par) && (!fn.ini || (!(stSs fn.body).contains 0 && decide (0 < fn.par))))))
def looks (nm : Nm) : List HDef → List Fn → Bool
  | [], [] => true
  | d :: ds, f :: fs => d.look nm f && looks nm ds fs
  | _, _ => false
theorem looks_ok {nm : Nm} : ∀ {ds : List HDef} {fs : List Fn}, looks nm ds fs = true → ∀ {i : Nat} {fn : Fn}, fs[i]? = some fn → ∃ d, ds[i]? = some d ∧ d.look nm fn = true
  | [], [], _, i, fn, e => by simp at e
  | [], _ :: _, h, _, _, _ => by cases h
  | _ :: _, [], h, _, _, _ => by cases h
  | d :: ds, f :: fs, h, i, fn, e => by
    simp only [looks, Bool.and_eq_true] at h
    cases i with
    | zero => simp at e; subst e; exact ⟨d, rfl, h.1⟩
    | succ i => simpa using looks_ok h.2 (i := i) (fn := fn) (by simpa using e)
/-- how it binds -/
def HDef.Bnd (d : HDef) : Prop := ∀ (kV doc pm : PySem.Value) (an : Option Addr) (cdv ct : PySem.Value) (us : List PySem.Value), us.length = d.ps.length → PySem.bindArgs (PySem.W.fnOf (nameOf d.st) d.qual (L2.defArgs d.st) (L2.defBody d.st) (L2.defScope d.st) .none kV doc pm an cdv ct) ⟨us, []⟩ = pure (d.ps.zip us)
def HDef.Kw (d : HDef) (n : Nat) (ks : List Str) (pm : List Nat) : Prop := pm.Perm (List.range (n + ks.length)) ∧ ∀ (kV doc pm' : PySem.Value) (an : Option Addr) (cdv ct : PySem.Value) (us ws : List PySem.Value), us.length = n → ws.length = ks.length →
  PySem.bindArgs (PySem.W.fnOf (nameOf d.st) d.qual (L2.defArgs d.st) (L2.defBody d.st) (L2.defScope d.st) .none kV doc pm' an cdv ct) ⟨us, ks.zip ws⟩ = pure (d.ps.zip (permL pm (us ++ ws)))
theorem kpm_of {K : Frag} {d : HDef} {fa : Addr} {fd : PySem.FuncData} {n : Nat} {ks : List Str} {pm : List Nat} (F : L2.FunD K (nameOf d.st) d.qual (L2.defArgs d.st) (L2.defBody d.st) (L2.defScope d.st) [] [] fa fd) (h : d.Kw n ks pm) : KPm K fd d.ps n ks pm := by
  obtain ⟨oc, od, dV, kV, doc, pm', an, cdv, ct, osl, rfl, lk, hcd, hD, hK⟩ := F.ex
  rcases hD with ⟨_, rfl⟩ | ⟨e, _⟩
  · exact ⟨h.1, fun s us ws _ l1 l2 => .of_eq (h.2 kV doc pm' an cdv ct us ws l1 l2)⟩
  · exact absurd rfl e
structure Asked.Ok (A : Asked) : Prop where
  self : A.self = true
  look : looks A.nm A.defs A.P.fns = true
  bnd : ∀ d ∈ A.defs, d.Bnd
  kbf : ∀ f n ks pm d, (f, n, ks, pm) ∈ A.nm.kbf → A.defs[f]? = some d → d.Kw n ks pm
  kbc : ∀ c n ks pm d, (c, n, ks, pm) ∈ A.nm.kbc → A.defs[A.P.init c]? = some d → d.Kw (n + 1) ks (0 :: pm.map (· + 1))
  kbm : ∀ c m n ks pm d, (c, m, n, ks, pm) ∈ A.nm.kbm → A.defs[A.P.meth c m]? = some d → d.Kw (n + 1) ks (0 :: pm.map (· + 1))
section
variable {A : Asked} {K : Frag}
theorem isGlo_ok {x : Str} {p : Pl} (h : isGlo x p = true) : p = .glo x := by
  cases p <;> simp only [isGlo, Bool.false_eq_true] at h
  rw [sEq_ok h]
theorem isMth_ok {x m : Str} {p : Pl} (h : isMth x m p = true) : p = .mth x m := by
  cases p <;> simp only [isMth, Bool.false_eq_true, Bool.and_eq_true] at h
  rw [sEq_ok h.1, sEq_ok h.2]
theorem isPrp_ok {x m : Str} {p : Pl} (h : isPrp x m p = true) : p = .prp x m := by
  cases p <;> simp only [isPrp, Bool.false_eq_true, Bool.and_eq_true] at h
  rw [sEq_ok h.1, sEq_ok h.2]
theorem lt_of_get {α : Type} {xs : List α} {i : Nat} {x : α} (h : xs[i]? = some x) : i < xs.length := (List.getElem?_eq_some_iff.mp h).1
theorem at_some {i : Nat} {d : HDef} (h : A.defs[i]? = some d) : A.at_ K i = d.pl.at_ K := by
  unfold Asked.at_; rw [h]
theorem con_ok {X : Frag} {h : PySem.Heap} {mg : Str → Option PySem.Value} {x : Str} {d : D} {W : Wd} (In : X.In h) (G : h.Ns PySem.mainGlobals mg) (c : conK X x d = true) : ∃ v u, mg x = some u ∧ RelV v u ∧ ∀ L B H, Rep W L B H 0 d v [] := by
  cases d <;> simp only [conK, Bool.false_eq_true] at c
  · obtain ⟨t, e⟩ := He.int_ok In G c
    exact ⟨.int _, _, e, ⟨_, rfl⟩, fun _ _ _ => .int 0 _⟩
  · obtain ⟨t, e⟩ := He.str_ok In G c
    exact ⟨.str _, _, e, ⟨_, rfl⟩, fun _ _ _ => .str 0 _⟩
theorem memS_iff {x : Str} {l : List Str} (h : memS x l = false) : x ∉ l := by
  induction l with
  | nil => simp
  | cons y l ih =>
    simp only [memS, Bool.or_eq_false_iff] at h
    intro m
    rcases List.mem_cons.mp m with z | z
    · subst z
      have : sEq x x = true := by
        have : ∀ l : List Nat, lEq l l = true := fun l => by
          induction l with
          | nil => rfl
          | cons a l ih => simp [lEq, ih]
        exact this _
      rw [this] at h; cases h.1
    · exact ih h.2 z
theorem cn_of {c : Nat} {x : Str} (h : A.nm.cls[c]? = some x) : A.cn c = x := by unfold Asked.cn; rw [h]; rfl
theorem cls_of {c : Nat} (C : A.chk K = true) (hc : c < A.nm.cls.length) : clsK K A.nm.cls.length A.cn c (A.fs c) = true ∧ (He.Fa.mkr (A.cn c)).ok K = true := by
  unfold Asked.chk at C
  simp only [Bool.and_eq_true] at C
  have := List.all_eq_true.mp C.2.2.2.1 c (List.mem_range.mpr hc)
  simpa only [Bool.and_eq_true] using this
theorem Asked.cf (C : A.chk K = true) : CF K (A.wd K) := by
  have C2 := C
  unfold Asked.chk at C
  simp only [Bool.and_eq_true, decide_eq_true_eq] at C
  obtain ⟨_, _, _, _, _, _, h1, h2, _⟩ := C
  have lt : ∀ c, (A.wd K).ok c = true → c < A.nm.cls.length := fun c h => of_decide_eq_true h
  have cl := fun c (h : (A.wd K).ok c = true) => by
    have := (cls_of (c := c) C2 (lt c h)).1
    unfold clsK at this
    simpa only [Bool.and_eq_true, decide_eq_true_eq] using this
  refine ⟨rfl, fun c h => He.cls_ok (cl c h).2.1, fun c h => He.eqO_ok (cl c h).2.2.1, He.eqO_ok h1, h2, fun c h => (cl c h).2.2.2.1, fun c h T m => ?_, fun c h T m => ?_, fun c c' h h' => ?_, fun c f h m => ?_, fun c h => (cl c h).2.2.2.2.2.2.2.2⟩
  · exact of_decide_eq_true (List.all_eq_true.mp (cl c h).2.2.2.2.1 T m)
  · exact of_decide_eq_true (List.all_eq_true.mp (cl c h).2.2.2.2.2.1 T m)
  · exact of_decide_eq_true (List.all_eq_true.mp (cl c h).2.2.2.2.2.2.1 c' (List.mem_range.mpr (lt c' h')))
  · exact He.noat_ok (List.all_eq_true.mp (cl c h).2.2.2.2.2.2.2.1 f m)
/-- THE WORLD -/
theorem Asked.wb (O : A.Ok) (c : A.Says K) {h : PySem.Heap} {mg : Str → Option PySem.Value} (In : K.In h) (G : h.Ns PySem.mainGlobals mg) :
    ∃ fd : Nat → PySem.FuncData, Wb A.nm (A.wd K) A.P K mg (A.at_ K) fd (fun i => ((A.defs[i]?).map (·.ps)).getD []) ∧ ∀ i d, A.defs[i]? = some d → L2.FunD K (nameOf d.st) d.qual (L2.defArgs d.st) (L2.defBody d.st) (L2.defScope d.st) [] [] (d.pl.at_ K) (fd i) := by
  have ex : ∀ i : Nat, ∃ fd : PySem.FuncData, ∀ d : HDef, A.defs[i]? = some d → L2.FunD K (nameOf d.st) d.qual (L2.defArgs d.st) (L2.defBody d.st) (L2.defScope d.st) [] [] (d.pl.at_ K) fd := fun i => by
    cases e : A.defs[i]? with
    | none => exact ⟨Classical.choice ⟨PySem.W.fnOf (⟨#[]⟩ : Str) ⟨#[]⟩ ⟨[], [], none, [], [], none, []⟩ [] (L2.defScope (.Pass ⟨0, 0, 0, 0⟩)) .none .none .none .none none .none .none⟩, fun d z => by cases z⟩
    | some d =>
      obtain ⟨fd, F⟩ := c.def_ e
      exact ⟨fd, fun d' z => by cases z; exact F⟩
  obtain ⟨fd, hfd⟩ := Classical.axiomOfChoice ex
  refine ⟨fd, ?_, fun i d e => hfd i d e⟩
  have C := c.chk
  have C2 := C
  unfold Asked.chk at C2
  simp only [Bool.and_eq_true] at C2
  obtain ⟨k1, k2, k3, k4, k5, k6, k7⟩ := C2
  have S := O.self
  unfold Asked.self at S
  simp only [Bool.and_eq_true, decide_eq_true_eq] at S
  obtain ⟨s0, s1, s2, s3, s4, s5, s6⟩ := S
  have psE : ∀ {i : Nat} {d : HDef}, A.defs[i]? = some d → ((A.defs[i]?).map (·.ps)).getD [] = d.ps := fun {i d} e => by rw [e]; rfl
  have initE : ∀ {ci : Nat} {x : Str}, A.nm.cls[ci]? = some x → ∃ d fn, A.defs[A.P.init ci]? = some d ∧ A.P.fns[A.P.init ci]? = some fn ∧ d.pl = .mth (A.cn ci) "__init__" ∧ fn.ini = true := fun {ci x} e => by
    have := List.all_eq_true.mp s4 ci (List.mem_range.mpr (lt_of_get e))
    split at this
    · rename_i d fn e1 e2
      simp only [Bool.and_eq_true] at this
      exact ⟨d, fn, e1, e2, isMth_ok this.1, this.2⟩
    · cases this
  refine ⟨Asked.cf C, fun x d m => con_ok In G (List.all_eq_true.mp k1 _ m), fun x m => He.free_ok In G (List.all_eq_true.mp k2 x m), fun f x e => ?_, fun ci x e => ?_, fun ci fs e => ?_, fun ci x e => ?_, fun ci m x e => ?_, fun ci m x e => ?_, fun i fn e => ?_, fun ci m => ?_, fun ci hc m hm => ?_⟩
  · have := List.all_eq_true.mp s3 f (List.mem_range.mpr (lt_of_get e))
    rw [e] at this
    split at this
    · rename_i x' d fn ex e1 e2
      cases ex
      simp only [Bool.and_eq_true, Bool.not_eq_true'] at this
      have ep := isGlo_ok this.1
      have ea : A.at_ K f = He.ga K x := by rw [at_some e1, ep]; rfl
      have F := hfd f d e1
      refine ⟨⟨fn, e2, this.2⟩, by rw [ea]; exact He.glo_ok In G (List.all_eq_true.mp k3 x (List.mem_of_getElem? e)), by rw [at_some e1]; exact F.kp, fun j ks pm m => ?_⟩
      rw [psE e1]
      exact kpm_of F (O.kbf f j ks pm d m e1)
    · cases this
  · have hc := lt_of_get e
    have cl := (cls_of C hc).1
    unfold clsK at cl
    simp only [Bool.and_eq_true] at cl
    refine ⟨decide_eq_true hc, ?_⟩
    have := He.glo_ok In G cl.1
    rw [cn_of e] at this
    show mg x = some (.ref (He.ga K (A.cn ci)))
    rw [cn_of e]; exact this
  · refine ⟨decide_eq_true (by rw [← s2]; exact lt_of_get e), ?_⟩
    show A.fs ci = fs
    unfold Asked.fs; rw [e]; rfl
  · obtain ⟨d, fn, e1, e2, e3, e4⟩ := initE e
    have hm := He.mkr_ok (cls_of C (lt_of_get e)).2
    have ea : A.at_ K (A.P.init ci) = He.ma K (He.ga K (A.cn ci)) "__init__" := by rw [at_some e1, e3]; rfl
    refine ⟨by rw [ea]; exact hm, ⟨fn, e2, e4⟩, fun j ks pm m => ?_⟩
    rw [psE e1]
    exact kpm_of (hfd _ d e1) (O.kbc ci j ks pm d m e1)
  · have := List.all_eq_true.mp s5 _ e
    simp only [Bool.and_eq_true, decide_eq_true_eq, Bool.not_eq_true'] at this
    obtain ⟨hc, hf, hx⟩ := this
    split at hx
    · rename_i d fn e1 e2
      simp only [Bool.and_eq_true, Bool.not_eq_true'] at hx
      have ep := isMth_ok hx.1
      have ea : A.at_ K (A.P.meth ci m) = He.ma K (He.ga K (A.cn ci)) x := by rw [at_some e1, ep]; rfl
      refine ⟨decide_eq_true hc, memS_iff hf, by rw [ea]; exact He.meth_ok (List.all_eq_true.mp k5 _ e), ⟨fn, e2, hx.2⟩, fun j ks pm mm => ?_⟩
      rw [psE e1]
      exact kpm_of (hfd _ d e1) (O.kbm ci m j ks pm d mm e1)
    · cases hx
  · have := List.all_eq_true.mp s6 _ e
    simp only [Bool.and_eq_true, decide_eq_true_eq, Bool.not_eq_true'] at this
    obtain ⟨hc, hx⟩ := this
    split at hx
    · rename_i d fn e1 e2
      simp only [Bool.and_eq_true, Bool.not_eq_true'] at hx
      have ep := isPrp_ok hx.1
      have ea : A.at_ K (A.P.meth ci m) = pa K (He.ga K (A.cn ci)) x := by rw [at_some e1, ep]; rfl
      exact ⟨decide_eq_true hc, ⟨_, by rw [ea]; exact prpK_ok (List.all_eq_true.mp k6 _ e)⟩, fn, e2, hx.2⟩
    · cases hx
  · obtain ⟨d, e1, hl⟩ := looks_ok O.look e
    unfold HDef.look at hl
    simp only [Bool.and_eq_true, decide_eq_true_eq, Bool.or_eq_true, Bool.not_eq_true'] at hl
    obtain ⟨l1, l2, l3, l4, l5⟩ := hl
    have F := hfd i d e1
    rw [psE e1, at_some e1]
    refine ⟨⟨_, _, _, _, _, _, d.N, F, C8.fnScope_by l1, l2, l3⟩, l4, F.bindsN (O.bnd d (List.mem_of_getElem? e1)), fun hi => ?_⟩
    rcases l5 with z | z
    · rw [hi] at z; cases z
    · exact z
  · have := List.all_eq_true.mp k7.2.2 ci m
    simp only [Bool.and_eq_true, decide_eq_true_eq] at this
    exact ⟨decide_eq_true this.1, He.eqO_ok this.2⟩
  · have h1 := List.all_eq_true.mp (List.all_eq_true.mp s0 ci hc) _ hm
    have h2 : (Nat.beq ci ci && sEq ("__eq__" : Str) "__eq__") = true := by
      rw [Bool.and_eq_true]
      exact ⟨Nat.beq_refl ci, by decide +kernel⟩
    simp only [h2, Bool.not_true, Bool.false_or] at h1
    split at h1
    · rename_i d e1
      simp only [Bool.and_eq_true, decide_eq_true_eq] at h1
      have F := hfd _ d e1
      have m5 := List.all_eq_true.mp s5 _ hm
      simp only [Bool.and_eq_true, decide_eq_true_eq, Bool.not_eq_true'] at m5
      obtain ⟨_, _, hx⟩ := m5
      split at hx
      · rename_i d' fn e1' e2
        rw [e1] at e1'
        cases e1'
        obtain ⟨d2, e3, hl⟩ := looks_ok O.look e2
        rw [e1] at e3
        cases e3
        unfold HDef.look at hl
        simp only [Bool.and_eq_true, decide_eq_true_eq, Bool.or_eq_true, Bool.not_eq_true'] at hl
        rw [psE e1, at_some e1]
        exact ⟨_, _, _, _, _, _, d.N, F, C8.fnScope_by hl.1, h1.2, h1.1⟩
      · cases hx
    · cases h1
end
end MP
end
-- MPLaw
section
set_option maxRecDepth 100000
set_option maxHeartbeats 2000000
/-! The law by its tree. -/
namespace MP
open PySem (Addr Expr Stmt Str Pos Keyword Scope NameKind)
open PySem.Spec
open PySem.W (Frag)
open L2
open PyProof.Rows hiding St
section
variable {A : Asked} {K : Frag}
theorem reps_ints {W : Wd} {L B H} : ∀ ns : List Int, Reps W L B H 0 (ns.map D.int) (ns.map V.int) []
  | [] => .nil 0
  | n :: ns => Reps.mk0 (.int 0 n) (reps_ints ns)
theorem law_sp {f : Gf} {H : Hp} {a : Addr} {ns : List Int} (hO : Only H) (hS : SqL K H a (ns.map V.int)) (hr : ∃ k μ, f [(.fz (ns.map .int), 0)] [] = .ok ((.bl true, k), μ)) : spF (A.wd K) f [.ref a] H (fun v _ => v = .bl true) (fun _ _ _ => False) := by
  obtain ⟨k, μ, hr⟩ := hr
  have hz : (∃ o, H a = some (.frz o (.lst (ns.map V.int)))) ∨ ∀ H, SqL (A.wd K).K H a (ns.map V.int) := by
    rcases hS with (e | ⟨o, e⟩) | z
    · rcases hO a with q | ⟨o, xs, q⟩
      · rw [q] at e; cases e
      · rw [q] at e; cases e
    · exact .inl ⟨o, e⟩
    · exact .inr fun _ => .inr z
  refine ⟨fun _ => False, [], [], [], _, ⟨RepP.cons (O := []) (O' := []) (.fz 0 hz (reps_ints ns)) .nil, ⟨rfl, fun j xs e => by simp at e⟩, by simp, fun _ f => f.elim, fun _ f => f.elim⟩, _, _, hr, fun v H' ⟨L', Ov, p⟩ => vw_bl p.r⟩
/-- what the head's end wants -/
theorem Asked.law (O : A.Ok) (c : A.Says K) {prog : PySem.Program} {w : PySem.World} {h : PySem.Heap} {mg : Str → Option PySem.Value} (In : K.In h) (G : h.Ns PySem.mainGlobals mg) {li : Nat} {d : HDef} {fn : Fn} {fu n : Nat} {fa : Addr}
    (hd : A.defs[li]? = some d) (hfn : A.P.fns[li]? = some fn) (hini : fn.ini = false) (hg : A.nm.fn[li]? = some "law") (hps : d.ps = [("script" : Str)]) (hmg : mg "law" = some (.ref fa))
    (hrun : ∀ ns : List Int, ns.length ≤ 63 → ∃ k μ, run A.P fu n li [(.fz (ns.map .int), 0)] [] = .ok ((.bl true, k), μ)) :
    ∃ (K : Frag) (fd : PySem.FuncData) (sp : Sp), K.In h ∧ (∀ (s : PySem.Shared) (u : PySem.Value), PySem.BindsTo s fd ⟨[u], []⟩ [("script", u)]) ∧
        (∀ (H : Hp) (a : Addr) (ns : List Int), ns.length ≤ 63 → Only H → SqL K H a (ns.map V.int) → sp [.ref a] H (fun v _ => v = .bl true) fun _ _ _ => False) ∧
        ∀ base : PySem.Heap, K.In base → base.Ns PySem.mainGlobals mg → FnOk prog w K mg base CX0 (2 * n) fa fd [("script" : Str)] sp := by
  obtain ⟨fd, B, hF⟩ := Asked.wb O c In G
  have F := hF li d hd
  obtain ⟨_, e1, _⟩ := B.fn li "law" hg
  have ea : A.at_ K li = fa := by
    rw [hmg] at e1
    cases e1; rfl
  have eps : ((A.defs[li]?).map (·.ps)).getD [] = [("script" : Str)] := by rw [hd]; exact hps
  refine ⟨K, fd li, spF (A.wd K) (run A.P fu n li), In, fun s u => ?_, fun H a ns hl hO hS => law_sp hO hS (hrun ns hl), fun base _ _ => ?_⟩
  · have b := O.bnd d (List.mem_of_getElem? hd)
    have := FunD.bindsA F b s [u] (by rw [hps]; rfl)
    rw [hps] at this
    exact this
  · have := (all_ok (prog := prog) (w := w) (base := base) (fu := fu) B n li fn hfn).1 hini
    rw [ea, eps] at this
    exact this
end
end MP
end
-- MPEnd
section
set_option maxRecDepth 100000
set_option maxHeartbeats 2000000
/-! A law's end by a promise that knows the guards. -/
namespace MP
open PySem (Addr Around Value Shared FuncData Heap Program World Str Obj DictEntry Data OldK DefRec)
open PySem.Spec
open L2
open PyProof.Rows hiding St
theorem law_callG {P : Program} {w : World} {K : PySem.W.Frag} {mg mb : Str → Option Value} {k : Nat} {fa a : Addr} {fd : FuncData} {x : Str} {sp : Sp} {s₁ : Shared} {vs : List Value} {ns : List Int}
    (KX : K.In s₁.heap) (hns : s₁.heap.Ns PySem.mainGlobals mg) (hb : s₁.heap.Ns PySem.builtinsNs mb) (hbb : ∀ x : Str, x ≠ "__name__" → mb x = PySem.bootBuiltins x) (hlim : s₁.heap.NoLimit) (hg : s₁.gens = #[])
    (ha : s₁.heap.get? a = some { cls := .type "list", data := .seq vs.toArray }) (hi : IntsAre vs ns) (hl : ns.length ≤ PySem.sizeLine) (hr : Room k PySem.callerA)
    (F : ∀ base : Heap, K.In base → base.Ns PySem.mainGlobals mg → FnOk P w K mg base CX0 k fa fd [x] sp) (hbind : ∀ (s : Shared) (u : Value), PySem.BindsTo s fd ⟨[u], []⟩ [(x, u)])
    (hsp : ∀ H : Hp, Only H → SqL K H a (ns.map V.int) → sp [.ref a] H (fun v _ => v = .bl true) fun _ _ _ => False) :
    PySem.codeAny (PySem.model P w) PySem.callerA (.call (.ref fa) ⟨[.ref a], []⟩) (fun r s' => r = .ok (.ret (.bool true)) ∧ OldK s₁.heap s'.heap ∧ s'.os = s₁.os ∧ AllBare s'.gens) s₁ := by
  have rv := vals_ints hi
  have core : ∀ H : Hp, Only H → SqL K H a (ns.map V.int) → HOk P w H s₁.heap → (∀ b, H b ≠ none → b = a ∧ K.lookup a = none) →
      PySem.codeAny (PySem.model P w) PySem.callerA (.call (.ref fa) ⟨[.ref a], []⟩) (fun r s' => r = .ok (.ret (.bool true)) ∧ OldK s₁.heap s'.heap ∧ s'.os = s₁.os ∧ AllBare s'.gens) s₁ := by
    intro H hO hS hok hA
    have free : ∀ {b : Addr} {o : Obj} {es : Array DictEntry} {ep : Nat}, s₁.heap.get? b = some o → o.data = .dict es ep → H b = none := fun {b o es ep} e d => Classical.byContradiction fun q => by
      obtain ⟨rfl, _⟩ := hA b q
      rw [ha] at e
      cases e
      cases (show Data.seq vs.toArray _ = Data.dict es ep from d)
    have nsK : ∀ {b : Addr} {m : Str → Option Value}, s₁.heap.Ns b m → (hidT s₁.heap H).Ns b m := fun ⟨o, es, ep, e, d, r⟩ => ⟨o, es, ep, hidT_get e (free e d), d, r⟩
    have hKb : K.In (hidT s₁.heap H) := fun b o e => hidT_get (KX b o e) (Classical.byContradiction fun q => by
      obtain ⟨rfl, hK⟩ := hA b q
      rw [hK] at e
      cases e)
    have hM : Mod K mg (hidT s₁.heap H) := ⟨hKb, nsK hns, ⟨mb, nsK hb, hbb⟩, let ⟨mc, h1, h2⟩ := hlim; ⟨mc, nsK h1, h2⟩⟩
    have e0 : Env0 P w K mg (hidT s₁.heap H) PySem.callerA [] s₁ H := ⟨rfl, hM, fun b o e => of_hidT e, Nat.le_of_eq (hidT_size _ _), trivial, (fun b hb => absurd (show b ∈ ([] : List Addr) from hb) (by simp)), hok, .of_eq hg⟩
    refine PySem.codeAny_mono ((F _ hKb (nsK hns)).run PySem.callerA [] s₁ H ⟨[.ref a], []⟩ [.ref a] [.ref a] _ _ hr e0 (hbind s₁ (.ref a)) (.cons rfl .nil) (hsp H hO hS)) fun r s' h => ?_
    cases r with
    | error e => exact h.elim
    | ok fl =>
      cases fl with
      | ret u =>
        obtain ⟨v, H', os, bare, un, hok', r', q⟩ := h
        obtain rfl : v = .bl true := q
        obtain rfl : u = Value.bool true := r'
        refine ⟨rfl, OldK.of_keep fun b o e => ?_, os, bare⟩
        rcases hO b with z | ⟨ob, xs, z⟩
        · exact un.keep b o e z (by intro z; exact absurd (show b ∈ ([] : List Addr) from z) (by simp)) (by simp)
        · obtain ⟨e1, _⟩ := hok b _ z
          obtain ⟨e2, _⟩ := hok' b _ (un.frzs b ob _ z)
          rw [e] at e1
          cases e1
          exact e2
      | _ => exact False.elim h
  cases hk : K.lookup a with
  | some o =>
    have e := KX a o hk
    rw [ha] at e
    cases e
    exact core (fun _ => none) (fun _ => .inl rfl) (.inr ⟨_, vs.toArray, _, hk, rfl, rfl, rfl, by rw [List.size_toArray, hi.length]; exact hl, by simpa using rv⟩) (fun b u z => by cases (show (none : Option HO) = some u from z)) fun b z => absurd rfl z
  | none =>
    have one : ∀ b u, (if b = a then some (HO.frz { cls := .type "list", data := .seq vs.toArray } (.lst (ns.map V.int))) else none) = some u → b = a ∧ u = HO.frz { cls := .type "list", data := .seq vs.toArray } (.lst (ns.map V.int)) := fun b u z => by
      split at z
      · exact ⟨by assumption, by cases z; rfl⟩
      · cases z
    refine core (fun b => if b = a then some (.frz { cls := .type "list", data := .seq vs.toArray } (.lst (ns.map V.int))) else none) (fun b => ?_) (.inl (.inr ⟨{ cls := .type "list", data := .seq vs.toArray }, if_pos rfl⟩)) (fun b u z => ?_) fun b z => ?_
    · by_cases hb : b = a
      · exact .inr ⟨_, _, if_pos hb⟩
      · exact .inl (if_neg hb)
    · obtain ⟨rfl, rfl⟩ := one b u z
      exact ⟨ha, by rw [List.length_map]; exact hl, vs, _, rv, ha⟩
    · obtain ⟨u, hu⟩ := Option.ne_none_iff_exists'.mp z
      exact ⟨(one b u hu).1, hk⟩
theorem walk_ofG {l : PySem.W.OpenLaw} {n k : Nat} {q : Program} {loose : List Str} {XP : (Str → Option Value) → Heap → Prop} {YP : World → Heap → Prop} {d : DefRec} {x : Str}
    (hn : l.most = some n) (hn2 : n ≤ PySem.sizeLine) (hdf : d.params.defaults = []) (hr : Room k PySem.callerA)
    (F : ∀ (w : World) (mg : Str → Option Value) (fa : Addr) (h : Heap), YP w h → h.Ns PySem.mainGlobals mg → mg d.name = some (.ref fa) →
      ∃ (K : PySem.W.Frag) (fd : FuncData) (sp : Sp), K.In h ∧ (∀ (s : Shared) (u : Value), PySem.BindsTo s fd ⟨[u], []⟩ [(x, u)]) ∧
        (∀ (H : Hp) (a : Addr) (ns : List Int), ns.length ≤ n → Only H → SqL K H a (ns.map V.int) → sp [.ref a] H (fun v _ => v = .bl true) fun _ _ _ => False) ∧
        ∀ base : Heap, K.In base → base.Ns PySem.mainGlobals mg → FnOk l.prog w K mg base CX0 k fa fd [x] sp) :
    PySem.W.WalkO q loose XP YP l.row.toRowW d [] (fun f vs => PySem.call f vs) := by
  refine Att.attach_call hn hdf fun w s₀ s₁ mg mb fa o pm cd doc a vs ns G Y ho hd hcd hmg hobj hints hlen hg => ?_
  obtain ⟨K, fd, sp, KX, hb, hsp, hF⟩ := F w mg fa _ Y G.T.g hmg
  exact law_callG KX G.T.g G.T.b G.T.builtins G.T.nolimit hg hobj hints (Nat.le_trans hlen hn2) hr hF hb fun H hO hS => hsp H a ns hlen hO hS
end MP
end
-- A18
section
set_option maxRecDepth 100000
set_option maxHeartbeats 0
namespace K18
open MP PySem
def top (i : Nat) : Stmt := PySem.Challenge.pw_sureparts_k18_whole_rows_below_and_webs.main.body.getD i (.Pass ⟨0, 0, 0, 0⟩)
def mem (i j : Nat) : Stmt := match top i with | .ClassDef (body := b) .. => b.getD j (.Pass ⟨0, 0, 0, 0⟩) | _ => .Pass ⟨0, 0, 0, 0⟩
/-- 0: is_integer; slots 0:value -/
def f_is_integer : Fn := { par := 1, slots := 1, deep := 0, ini := false, body := (.cons (.ret (.an (.isi .int (.v 0)) (.nt (.isi .bool (.v 0))))) .nil) }
def d_is_integer : HDef := ⟨.glo "is_integer", "is_integer", top 10, ["value"], ["value"]⟩
/-- 1: is_count; slots 0:value -/
def f_is_count : Fn := { par := 1, slots := 1, deep := 0, ini := false, body := (.cons (.ret (.an (.call 0 [] (.cons (.v 0) .nil)) (.cmp .ge (.v 0) (.c (.int 0))))) .nil) }
def d_is_count : HDef := ⟨.glo "is_count", "is_count", top 11, ["value"], ["value"]⟩
/-- 2: is_list; slots 0:value -/
def f_is_list : Fn := { par := 1, slots := 1, deep := 0, ini := false, body := (.cons (.ret (.isi .seq (.v 0))) .nil) }
def d_is_list : HDef := ⟨.glo "is_list", "is_list", top 12, ["value"], ["value"]⟩
/-- 3: want_at_most; slots 0:what 1:limit 2:number -/
def f_want_at_most : Fn := { par := 3, slots := 3, deep := 0, ini := false, body := (.cons (.ifs (.cmp .gt (.v 2) (.v 1)) (.cons .rse .nil) .nil) .nil) }
def d_want_at_most : HDef := ⟨.glo "want_at_most", "want_at_most", top 13, ["what", "limit", "number"], ["what", "limit", "number"]⟩
/-- 4: is_places; slots 0:value -/
def f_is_places : Fn := { par := 1, slots := 1, deep := 0, ini := false, body := (.cons (.ret (.an (.call 1 [] (.cons (.v 0) .nil)) (.cmp2 .le .le (.c (.int 1)) (.v 0) (.c (.int 13))))) .nil) }
def d_is_places : HDef := ⟨.glo "is_places", "is_places", top 18, ["value"], ["value"]⟩
/-- 5: is_place_below; slots 0:places 1:value -/
def f_is_place_below : Fn := { par := 2, slots := 2, deep := 0, ini := false, body := (.cons (.ret (.an (.call 1 [] (.cons (.v 1) .nil)) (.cmp .lt (.v 1) (.v 0)))) .nil) }
def d_is_place_below : HDef := ⟨.glo "is_place_below", "is_place_below", top 19, ["places", "value"], ["places", "value"]⟩
/-- 6: is_arrow; slots 0:places 1:value 2:tail 3:head -/
def f_is_arrow : Fn := { par := 2, slots := 4, deep := 0, ini := false, body := (.cons (.ifs (.or (.nt (.isi .tuple (.v 1))) (.cmp .ne (.b1 .len (.v 1)) (.c (.int 2)))) (.cons (.ret (.c (.bl false))) .nil) .nil) (.cons (.asg (.tup (.cons (.sl 2) (.cons (.sl 3) .nil))) (.v 1)) (.cons (.ret (.an (.call 5 [] (.cons (.v 0) (.cons (.v 2) .nil))) (.an (.call 5 [] (.cons (.v 0) (.cons (.v 3) .nil))) (.cmp .ne (.v 2) (.v 3))))) .nil))) }
def d_is_arrow : HDef := ⟨.glo "is_arrow", "is_arrow", top 20, ["places", "value", "tail", "head"], ["places", "value"]⟩
/-- 7: is_arrow_list; slots 0:places 1:value 2:arrow -/
def f_is_arrow_list : Fn := { par := 2, slots := 3, deep := 0, ini := false, body := (.cons (.ifs (.or (.nt (.call 2 [] (.cons (.v 1) .nil))) (.cmp .gt (.b1 .len (.v 1)) (.c (.int 12)))) (.cons (.ret (.c (.bl false))) .nil) .nil) (.cons (.ret (.an (.b1 .all (.comp 0 [2] (.sl 2) (.seq (.v 1)) .nil (.call 6 [] (.cons (.v 0) (.cons (.v 2) .nil))))) (.nt (.call 8 [] (.cons (.v 0) (.cons (.v 1) .nil)))))) .nil)) }
def d_is_arrow_list : HDef := ⟨.glo "is_arrow_list", "is_arrow_list", top 21, ["places", "value", "arrow"], ["places", "value"]⟩
/-- 8: has_ring; slots 0:places 1:arrows 2:left 3:_turn 4:entered 5:tail 6:head 7:place -/
def f_has_ring : Fn := { par := 2, slots := 8, deep := 0, ini := false, body := (.cons (.asg (.sl 2) (.itl false (.rng1 (.v 0)))) (.cons (.for_ (.sl 3) (.rng1 (.v 0)) (.cons (.asg (.sl 4) (.comp 0 [5, 6] (.tup (.cons (.sl 5) (.cons (.sl 6) .nil))) (.seq (.v 1)) (.cons (.cmp .in_ (.v 5) (.v 2)) .nil) (.v 6))) (.cons (.asg (.sl 2) (.comp 0 [7] (.sl 7) (.seq (.v 2)) (.cons (.cmp .in_ (.v 7) (.v 4)) .nil) (.v 7))) .nil))) (.cons (.ret (.cmp .ne (.v 2) (.lst 0 .nil))) .nil))) }
def d_has_ring : HDef := ⟨.glo "has_ring", "has_ring", top 22, ["places", "arrows", "left", "_turn", "entered", "tail", "head", "place"], ["places", "arrows"]⟩
/-- 9: is_web; slots 0:value -/
def f_is_web : Fn := { par := 1, slots := 1, deep := 0, ini := false, body := (.cons (.ret (.isi (.cls 0) (.v 0))) .nil) }
def d_is_web : HDef := ⟨.glo "is_web", "is_web", top 23, ["value"], ["value"]⟩
/-- 10: want_web; slots 0:value -/
def f_want_web : Fn := { par := 1, slots := 1, deep := 0, ini := false, body := (.cons (.ifs (.nt (.call 9 [] (.cons (.v 0) .nil))) (.cons .rse .nil) .nil) (.cons (.ret (.mv 0)) .nil)) }
def d_want_web : HDef := ⟨.glo "want_web", "want_web", top 24, ["value"], ["value"]⟩
/-- 11: turned_web; slots 0:web 1:tail 2:head -/
def f_turned_web : Fn := { par := 1, slots := 3, deep := 0, ini := false, body := (.cons (.ex (.call 10 [] (.cons (.v 0) .nil))) (.cons (.ret (.new 0 [] (.cons (.prop (.v 0) 0 33) (.cons (.comp 0 [1, 2] (.tup (.cons (.sl 1) (.cons (.sl 2) .nil))) (.seq (.meth 0 35 (.v 0) [] .nil)) .nil (.tup (.cons (.v 2) (.cons (.v 1) .nil)))) .nil)))) .nil)) }
def d_turned_web : HDef := ⟨.glo "turned_web", "turned_web", top 25, ["web", "tail", "head"], ["web"]⟩
/-- 12: is_row_of; slots 0:web 1:value 2:size -/
def f_is_row_of : Fn := { par := 2, slots := 3, deep := 0, ini := false, body := (.cons (.ifs (.or (.nt (.call 2 [] (.cons (.v 1) .nil))) (.cmp .ne (.b1 .len (.v 1)) (.prop (.v 0) 0 33))) (.cons (.ret (.c (.bl false))) .nil) .nil) (.cons (.ret (.an (.b1 .all (.comp 0 [2] (.sl 2) (.seq (.v 1)) .nil (.an (.call 1 [] (.cons (.v 2) .nil)) (.cmp .le (.v 2) (.c (.int 6)))))) (.cmp .le (.b1 .sum (.v 1)) (.c (.int 24))))) .nil)) }
def d_is_row_of : HDef := ⟨.glo "is_row_of", "is_row_of", top 30, ["web", "value", "size"], ["web", "value"]⟩
/-- 13: want_row; slots 0:web 1:value -/
def f_want_row : Fn := { par := 2, slots := 2, deep := 0, ini := false, body := (.cons (.ifs (.nt (.call 12 [] (.cons (.v 0) (.cons (.v 1) .nil)))) (.cons .rse .nil) .nil) (.cons (.ret (.b1 .list (.v 1))) .nil)) }
def d_want_row : HDef := ⟨.glo "want_row", "want_row", top 31, ["web", "value"], ["web", "value"]⟩
/-- 14: is_row; slots 0:web 1:value -/
def f_is_row : Fn := { par := 2, slots := 2, deep := 0, ini := false, body := (.cons (.ret (.call 12 [] (.cons (.call 10 [] (.cons (.v 0) .nil)) (.cons (.v 1) .nil)))) .nil) }
def d_is_row : HDef := ⟨.glo "is_row", "is_row", top 32, ["web", "value"], ["web", "value"]⟩
/-- 15: form_of; slots 0:web 1:row 2:other 3:at_places 4:size 5:more 6:tail 7:head -/
def f_form_of : Fn := { par := 3, slots := 8, deep := 0, ini := false, body := (.cons (.asg (.sl 3) (.b1 .sum (.comp 0 [4, 5] (.tup (.cons (.sl 4) (.cons (.sl 5) .nil))) (.zip (.v 1) (.v 2)) .nil (.bin .mul (.v 4) (.v 5))))) (.cons (.ret (.bin .sub (.v 3) (.b1 .sum (.comp 0 [6, 7] (.tup (.cons (.sl 6) (.cons (.sl 7) .nil))) (.seq (.meth 0 35 (.v 0) [] .nil)) .nil (.bin .mul (.pix 1 (.cons (.v 6) .nil)) (.pix 2 (.cons (.v 7) .nil))))))) .nil)) }
def d_form_of : HDef := ⟨.glo "form_of", "form_of", top 33, ["web", "row", "other", "at_places", "size", "more", "tail", "head"], ["web", "row", "other"]⟩
/-- 16: below_count; slots 0:row 1:found 2:size -/
def f_below_count : Fn := { par := 1, slots := 3, deep := 0, ini := false, body := (.cons (.asg (.sl 1) (.c (.int 1))) (.cons (.for_ (.sl 2) (.seq (.v 0)) (.cons (.asg (.sl 1) (.bin .mul (.v 1) (.bin .add (.v 2) (.c (.int 1))))) .nil)) (.cons (.ret (.mv 1)) .nil))) }
def d_below_count : HDef := ⟨.glo "below_count", "below_count", top 34, ["row", "found", "size"], ["row"]⟩
/-- 17: below_of; slots 0:web 1:row 2:found 3:place 4:longer 5:low 6:size -/
def f_below_of : Fn := { par := 2, slots := 7, deep := 2, ini := false, body := (.cons (.asg (.sl 2) (.lst 1 (.cons (.lst 0 .nil) .nil))) (.cons (.for_ (.sl 3) (.rng1 (.prop (.v 0) 0 33)) (.cons (.asg (.sl 4) (.lst 1 .nil)) (.cons (.for_ (.sl 5) (.seq (.v 2)) (.cons (.ex (.mtp .ext 4 .nil (.cons (.comp 1 [6] (.sl 6) (.rng1 (.bin .add (.pix 1 (.cons (.v 3) .nil)) (.c (.int 1)))) .nil (.bin .add (.v 5) (.lst 0 (.cons (.v 6) .nil)))) .nil))) .nil)) (.cons (.asg (.sl 2) (.mv 4)) .nil)))) (.cons (.ret (.mv 2)) .nil))) }
def d_below_of : HDef := ⟨.glo "below_of", "below_of", top 35, ["web", "row", "found", "place", "longer", "low", "size"], ["web", "row"]⟩
/-- 18: form; slots 0:web 1:row 2:other 3:told -/
def f_form : Fn := { par := 3, slots := 4, deep := 0, ini := false, body := (.cons (.asg (.sl 3) (.call 10 [] (.cons (.v 0) .nil))) (.cons (.ret (.call 15 [] (.cons (.v 3) (.cons (.call 13 [] (.cons (.v 3) (.cons (.v 1) .nil))) (.cons (.call 13 [] (.cons (.v 3) (.cons (.v 2) .nil))) .nil))))) .nil)) }
def d_form : HDef := ⟨.glo "form", "form", top 36, ["web", "row", "other", "told"], ["web", "row", "other"]⟩
/-- 19: rows_below; slots 0:web 1:row 2:told 3:sizes -/
def f_rows_below : Fn := { par := 2, slots := 4, deep := 2, ini := false, body := (.cons (.asg (.sl 2) (.call 10 [] (.cons (.v 0) .nil))) (.cons (.asg (.sl 3) (.call 13 [] (.cons (.v 2) (.cons (.v 1) .nil)))) (.cons (.ex (.call 3 [] (.cons (.c (.str "rows")) (.cons (.c (.int 400)) (.cons (.call 16 [] (.cons (.v 3) .nil)) .nil))))) (.cons (.ret (.call 17 [] (.cons (.v 2) (.cons (.v 3) .nil)))) .nil)))) }
def d_rows_below : HDef := ⟨.glo "rows_below", "rows_below", top 37, ["web", "row", "told", "sizes"], ["web", "row"]⟩
/-- 20: _law_pot; slots 0:script 1:k 2:cell 3:mixed -/
def f__law_pot : Fn := { par := 2, slots := 4, deep := 0, ini := false, body := (.cons (.asg (.sl 2) (.ife (.cmp .lt (.v 1) (.b1 .len (.v 0))) (.b1 .abs (.pix 0 (.cons (.v 1) .nil))) (.bin .add (.bin .mul (.c (.int 1103)) (.v 1)) (.c (.int 811))))) (.cons (.asg (.sl 3) (.bin .add (.bin .mod (.b1 .int (.bin .add (.bin .add (.bin .mul (.bin .mod (.b1 .int (.v 2)) (.c (.int 2147483549))) (.c (.int 41411))) (.bin .mul (.c (.int 7297)) (.v 1))) (.c (.int 743)))) (.c (.int 2147483563))) (.c (.int 1)))) (.cons (.ret (.lstL (.cons (.b2 .max (.c (.int 0)) (.bin .sub (.v 2) (.bin .pow (.c (.int 10)) (.c (.int 18))))) (.cons (.v 3) .nil)))) .nil))) }
def d__law_pot : HDef := ⟨.glo "_law_pot", "_law_pot", top 39, ["script", "k", "cell", "mixed"], ["script", "k"]⟩
/-- 21: _law_draw; slots 0:pot 1:sides 2:digit -/
def f__law_draw : Fn := { par := 2, slots := 3, deep := 0, ini := false, body := (.cons (.ifs (.cmp .gt (.pix 0 (.cons (.c (.int 0)) .nil)) (.c (.int 0))) (.cons (.asg (.tup (.cons (.pix 0 (.cons (.c (.int 0)) .nil)) (.cons (.sl 2) .nil))) (.b2 .divmod (.pix 0 (.cons (.c (.int 0)) .nil)) (.v 1))) (.cons (.ret (.mv 2)) .nil)) .nil) (.cons (.asg (.pix 0 (.cons (.c (.int 1)) .nil)) (.bin .mod (.b1 .int (.bin .add (.bin .mul (.pix 0 (.cons (.c (.int 1)) .nil)) (.c (.int 40819))) (.c (.int 30047)))) (.c (.int 2147483563)))) (.cons (.ret (.bin .mod (.b1 .int (.bin .fdiv (.bin .mod (.b1 .int (.bin .mul (.pix 0 (.cons (.c (.int 1)) .nil)) (.pix 0 (.cons (.c (.int 1)) .nil)))) (.c (.int 2147483549))) (.c (.int 23)))) (.v 1))) .nil))) }
def d__law_draw : HDef := ⟨.glo "_law_draw", "_law_draw", top 40, ["pot", "sides", "digit"], ["pot", "sides"]⟩
/-- 22: _law_pick; slots 0:pot 1:some -/
def f__law_pick : Fn := { par := 2, slots := 2, deep := 0, ini := false, body := (.cons (.ret (.pix 1 (.cons (.call 21 [] (.cons (.v 0) (.cons (.b1 .len (.v 1)) .nil))) .nil))) .nil) }
def d__law_pick : HDef := ⟨.glo "_law_pick", "_law_pick", top 41, ["pot", "some"], ["pot", "some"]⟩
/-- 23: _law_order; slots 0:pot 1:many 2:left 3:found -/
def f__law_order : Fn := { par := 2, slots := 4, deep := 0, ini := false, body := (.cons (.par [2, 3] (.cons (.itl false (.rng1 (.v 1))) (.cons (.lst 0 .nil) .nil))) (.cons (.whl (.cmp .ne (.v 2) (.lst 0 .nil)) (.cons (.ex (.mtp .app 3 .nil (.cons (.mtp .pop 2 .nil (.cons (.call 21 [] (.cons (.v 0) (.cons (.b1 .len (.v 2)) .nil))) .nil)) .nil))) .nil)) (.cons (.ret (.mv 3)) .nil))) }
def d__law_order : HDef := ⟨.glo "_law_order", "_law_order", top 42, ["pot", "many", "left", "found"], ["pot", "many"]⟩
/-- 24: _law_web; slots 0:pot 1:least 2:most 3:arrows 4:places 5:order 6:found 7:turn 8:far -/
def f__law_web : Fn := { par := 4, slots := 9, deep := 0, ini := false, body := (.cons (.asg (.sl 4) (.bin .add (.v 1) (.call 21 [] (.cons (.v 0) (.cons (.bin .sub (.bin .add (.v 2) (.c (.int 1))) (.v 1)) .nil))))) (.cons (.par [5, 6] (.cons (.call 23 [] (.cons (.v 0) (.cons (.v 4) .nil))) (.cons (.lst 0 .nil) .nil))) (.cons (.for_ (.sl 7) (.rng1 (.ife (.cmp .gt (.v 4) (.c (.int 1))) (.call 21 [] (.cons (.v 0) (.cons (.bin .add (.v 3) (.c (.int 1))) .nil))) (.c (.int 0)))) (.cons (.asg (.sl 8) (.bin .add (.c (.int 1)) (.call 21 [] (.cons (.v 0) (.cons (.bin .sub (.v 4) (.c (.int 1))) .nil))))) (.cons (.ex (.mtp .app 6 .nil (.cons (.tup (.cons (.pix 5 (.cons (.call 21 [] (.cons (.v 0) (.cons (.v 8) .nil))) .nil)) (.cons (.pix 5 (.cons (.v 8) .nil)) .nil))) .nil))) .nil))) (.cons (.ret (.tup (.cons (.v 4) (.cons (.v 6) .nil)))) .nil)))) }
def d__law_web : HDef := ⟨.glo "_law_web", "_law_web", top 43, ["pot", "least", "most", "arrows", "places", "order", "found", "turn", "far"], ["pot", "least", "most", "arrows"]⟩
/-- 25: _law_row; slots 0:pot 1:places 2:most 3:found 4:place -/
def f__law_row : Fn := { par := 3, slots := 5, deep := 0, ini := false, body := (.cons (.asg (.sl 3) (.lst 0 .nil)) (.cons (.for_ (.sl 4) (.rng1 (.v 1)) (.cons (.ex (.mtp .app 3 .nil (.cons (.call 21 [] (.cons (.v 0) (.cons (.bin .add (.v 2) (.c (.int 1))) .nil))) .nil))) .nil)) (.cons (.ret (.mv 3)) .nil))) }
def d__law_row : HDef := ⟨.glo "_law_row", "_law_row", top 44, ["pot", "places", "most", "found", "place"], ["pot", "places", "most"]⟩
/-- 26: _law_below; slots 0:row 1:found 2:size 3:longer 4:part 5:less -/
def f__law_below : Fn := { par := 1, slots := 6, deep := 0, ini := false, body := (.cons (.asg (.sl 1) (.lst 0 (.cons (.lst 0 .nil) .nil))) (.cons (.for_ (.sl 2) (.seq (.v 0)) (.cons (.asg (.sl 3) (.lst 0 .nil)) (.cons (.for_ (.sl 4) (.seq (.v 1)) (.cons (.ex (.mtp .ext 3 .nil (.cons (.comp 0 [5] (.sl 5) (.rng1 (.bin .add (.v 2) (.c (.int 1)))) .nil (.bin .add (.v 4) (.lst 0 (.cons (.v 5) .nil)))) .nil))) .nil)) (.cons (.asg (.sl 1) (.v 3)) .nil)))) (.cons (.ret (.mv 1)) .nil))) }
def d__law_below : HDef := ⟨.glo "_law_below", "_law_below", top 45, ["row", "found", "size", "longer", "part", "less"], ["row"]⟩
/-- 27: _law_other; slots 0:pot 1:places 2:arrows 3:kind 4:tail 5:head -/
def f__law_other : Fn := { par := 3, slots := 6, deep := 0, ini := false, body := (.cons (.asg (.sl 3) (.call 21 [] (.cons (.v 0) (.cons (.c (.int 6)) .nil)))) (.cons (.ifs (.cmp .eq (.v 3) (.c (.int 0))) (.cons (.ret (.tup (.cons (.v 1) (.cons (.b1 .list (.v 2)) .nil)))) .nil) .nil) (.cons (.ifs (.cmp .eq (.v 3) (.c (.int 1))) (.cons (.ret (.tup (.cons (.v 1) (.cons (.rev (.v 2)) .nil)))) .nil) .nil) (.cons (.ifs (.cmp .eq (.v 3) (.c (.int 2))) (.cons (.ret (.tup (.cons (.v 1) (.cons (.sl (.v 2) (.cons (.c (.int 1)) .nil) .nil) .nil)))) .nil) .nil) (.cons (.ifs (.cmp .eq (.v 3) (.c (.int 3))) (.cons (.ret (.tup (.cons (.bin .add (.v 1) (.c (.int 1))) (.cons (.b1 .list (.v 2)) .nil)))) .nil) .nil) (.cons (.ifs (.cmp .eq (.v 3) (.c (.int 4))) (.cons (.ret (.tup (.cons (.v 1) (.cons (.comp 0 [4, 5] (.tup (.cons (.sl 4) (.cons (.sl 5) .nil))) (.seq (.v 2)) .nil (.tup (.cons (.v 5) (.cons (.v 4) .nil)))) .nil)))) .nil) .nil) (.cons (.ret (.call 24 [] (.cons (.v 0) (.cons (.c (.int 1)) (.cons (.c (.int 4)) (.cons (.c (.int 4)) .nil)))))) .nil))))))) }
def d__law_other : HDef := ⟨.glo "_law_other", "_law_other", top 46, ["pot", "places", "arrows", "kind", "tail", "head"], ["pot", "places", "arrows"]⟩
/-- 28: _law_parts_right; slots 0:web 1:row 2:other 3:due 4:told 5:whole 6:part 7:rest 8:size 9:less -/
def f__law_parts_right : Fn := { par := 3, slots := 10, deep := 0, ini := false, body := (.cons (.asg (.sl 3) (.call 26 [] (.cons (.v 1) .nil))) (.cons (.asg (.sl 4) (.call 19 [] (.cons (.v 0) (.cons (.v 1) .nil)))) (.bor (.cons (.ifs (.or (.cmp .ne (.v 4) (.v 3)) (.cmp .ne (.call 19 [1, 0] (.cons (.b1 .tuple (.v 1)) (.cons (.v 0) .nil))) (.v 3))) (.cons (.ret (.c (.bl false))) .nil) .nil) (.cons (.ifs (.cmp .ne (.comp 0 [6] (.sl 6) (.seq (.v 4)) (.cons (.cmp .isn (.call 14 [] (.cons (.v 0) (.cons (.v 6) .nil))) (.c (.bl true))) .nil) (.v 6)) (.lst 0 .nil)) (.cons (.ret (.c (.bl false))) .nil) .nil) (.cons (.asg (.sl 5) (.call 18 [] (.cons (.v 0) (.cons (.v 1) (.cons (.v 2) .nil))))) (.cons (.for_ (.sl 6) (.seq (.sls (.v 4) (.bin .add (.c (.int 1)) (.bin .fdiv (.b1 .len (.v 4)) (.c (.int 9)))))) (.cons (.asg (.sl 7) (.comp 0 [8, 9] (.tup (.cons (.sl 8) (.cons (.sl 9) .nil))) (.zip (.v 1) (.v 6)) .nil (.bin .sub (.v 8) (.v 9)))) (.cons (.ifs (.cmp .ne (.bin .add (.call 18 [] (.cons (.v 0) (.cons (.v 6) (.cons (.v 2) .nil)))) (.call 18 [] (.cons (.v 0) (.cons (.v 7) (.cons (.v 2) .nil))))) (.v 5)) (.cons (.ret (.c (.bl false))) .nil) .nil) .nil))) .nil)))) 4 (.cons (.ex (.apc 4 (.c (.int 0)) (.c .non))) (.cons (.ex (.mtp .app 4 .nil (.cons (.lst 0 .nil) .nil))) (.cons (.ret (.cmp .eq (.call 19 [] (.cons (.v 0) (.cons (.v 1) .nil))) (.v 3))) .nil)))))) }
def d__law_parts_right : HDef := ⟨.glo "_law_parts_right", "_law_parts_right", top 47, ["web", "row", "other", "due", "told", "whole", "part", "rest", "size", "less"], ["web", "row", "other"]⟩
/-- 29: _law_alike_right; slots 0:web 1:places 2:arrows 3:told 4:two 5:is_alike 6:value -/
def f__law_alike_right : Fn := { par := 4, slots := 7, deep := 0, ini := false, body := (.cons (.asg (.sl 4) (.new 0 [] (.cons (.pix 3 (.cons (.c (.int 0)) .nil)) (.cons (.pix 3 (.cons (.c (.int 1)) .nil)) .nil)))) (.cons (.asg (.sl 5) (.cmp .eq (.tup (.cons (.v 1) (.cons (.v 2) .nil))) (.v 3))) (.cons (.ifs (.or (.cmp .ne (.ceq false 0 37 (.v 0) (.v 4)) (.v 5)) (.cmp .ne (.ceq false 0 37 (.v 4) (.v 0)) (.v 5))) (.cons (.ret (.c (.bl false))) .nil) .nil) (.cons (.ifs (.cmp .ne (.ceq false 0 37 (.call 11 [] (.cons (.v 0) .nil)) (.call 11 [] (.cons (.v 4) .nil))) (.v 5)) (.cons (.ret (.c (.bl false))) .nil) .nil) (.cons (.ret (.cmp .eq (.comp 0 [6] (.sl 6) (.seq (.lst 0 (.cons (.v 2) (.cons (.tup (.cons (.v 1) (.cons (.v 2) .nil))) (.cons (.v 1) (.cons (.c .non) .nil)))))) (.cons (.ceo 0 37 (.v 0) (.v 6)) .nil) (.v 6)) (.lst 0 .nil))) .nil))))) }
def d__law_alike_right : HDef := ⟨.glo "_law_alike_right", "_law_alike_right", top 48, ["web", "places", "arrows", "told", "two", "is_alike", "value"], ["web", "places", "arrows", "told"]⟩
/-- 30: _law_right; slots 0:pot 1:places 2:arrows 3:web 4:row 5:turn -/
def f__law_right : Fn := { par := 1, slots := 6, deep := 0, ini := false, body := (.cons (.asg (.tup (.cons (.sl 1) (.cons (.sl 2) .nil))) (.call 24 [] (.cons (.v 0) (.cons (.c (.int 1)) (.cons (.c (.int 4)) (.cons (.c (.int 5)) .nil)))))) (.cons (.par [3, 4] (.cons (.new 0 [] (.cons (.v 1) (.cons (.v 2) .nil))) (.cons (.call 25 [] (.cons (.v 0) (.cons (.v 1) (.cons (.bin .sub (.c (.int 5)) (.v 1)) .nil)))) .nil))) (.cons (.ifs (.nt (.call 28 [] (.cons (.v 3) (.cons (.v 4) (.cons (.call 25 [] (.cons (.v 0) (.cons (.v 1) (.cons (.c (.int 6)) .nil)))) .nil))))) (.cons (.ret (.c (.bl false))) .nil) .nil) (.cons (.for_ (.sl 5) (.rng1 (.c (.int 3))) (.cons (.ifs (.nt (.call 29 [] (.cons (.v 3) (.cons (.v 1) (.cons (.v 2) (.cons (.call 27 [] (.cons (.v 0) (.cons (.v 1) (.cons (.v 2) .nil)))) .nil)))))) (.cons (.ret (.c (.bl false))) .nil) .nil) .nil)) (.cons (.ret (.ceq false 0 37 (.v 3) (.new 0 [] (.cons (.v 1) (.cons (.b1 .tuple (.v 2)) .nil))))) .nil))))) }
def d__law_right : HDef := ⟨.glo "_law_right", "_law_right", top 49, ["pot", "places", "arrows", "web", "row", "turn"], ["pot"]⟩
/-- 31: law; slots 0:script -/
def f_law : Fn := { par := 1, slots := 1, deep := 0, ini := false, body := (.cons (.ret (.call 30 [] (.cons (.call 20 [] (.cons (.v 0) (.cons (.c (.int 0)) .nil))) .nil))) .nil) }
def d_law : HDef := ⟨.glo "law", "law", top 50, ["script"], ["script"]⟩
/-- 32: Web.__init__; slots 0:self 1:places 2:arrows -/
def f_WebD_initD : Fn := { par := 3, slots := 3, deep := 0, ini := true, body := (.cons (.ifs (.nt (.call 4 [] (.cons (.v 1) .nil))) (.cons .rse .nil) .nil) (.cons (.ifs (.nt (.call 7 [] (.cons (.v 1) (.cons (.v 2) .nil)))) (.cons .rse .nil) .nil) (.cons (.setf 0 0 (.v 1)) (.cons (.setf 0 1 (.b1 .tuple (.v 2))) (.cons (.setf 0 2 (.b1 .len (.v 2))) .nil))))) }
def d_WebD_initD : HDef := ⟨.mth "Web" "__init__", "Web.__init__", mem 17 0, ["self", "places", "arrows"], ["self", "places", "arrows"]⟩
/-- 33: Web.places; slots 0:self -/
def f_Web_places : Fn := { par := 1, slots := 1, deep := 0, ini := false, body := (.cons (.ret (.fld (.v 0) 0 0)) .nil) }
def d_Web_places : HDef := ⟨.prp "Web" "places", "Web.places", mem 17 1, ["self"], ["self"]⟩
/-- 34: Web.many; slots 0:self -/
def f_Web_many : Fn := { par := 1, slots := 1, deep := 0, ini := false, body := (.cons (.ret (.fld (.v 0) 0 2)) .nil) }
def d_Web_many : HDef := ⟨.prp "Web" "many", "Web.many", mem 17 2, ["self"], ["self"]⟩
/-- 35: Web.arrows; slots 0:self -/
def f_Web_arrows : Fn := { par := 1, slots := 1, deep := 0, ini := false, body := (.cons (.ret (.b1 .list (.fld (.v 0) 0 1))) .nil) }
def d_Web_arrows : HDef := ⟨.mth "Web" "arrows", "Web.arrows", mem 17 3, ["self"], ["self"]⟩
/-- 36: Web.ways; slots 0:self 1:place 2:other -/
def f_Web_ways : Fn := { par := 3, slots := 3, deep := 0, ini := false, body := (.cons .rse .nil) }
def d_Web_ways : HDef := ⟨.mth "Web" "ways", "Web.ways", mem 17 4, ["self", "place", "other"], ["self", "place", "other"]⟩
/-- 37: Web.__eq__; slots 0:self 1:other -/
def f_WebD_eqD : Fn := { par := 2, slots := 2, deep := 0, ini := false, body := (.cons (.ifs (.nt (.isi (.cls 0) (.v 1))) (.cons .rse .nil) .nil) (.cons (.ret (.cmp .eq (.tup (.cons (.fld (.v 0) 0 0) (.cons (.fld (.v 0) 0 1) .nil))) (.tup (.cons (.fld (.v 1) 0 0) (.cons (.fld (.v 1) 0 1) .nil))))) .nil)) }
def d_WebD_eqD : HDef := ⟨.mth "Web" "__eq__", "Web.__eq__", mem 17 5, ["self", "other"], ["self", "other"]⟩
def fns : List Fn := ([f_is_integer, f_is_count, f_is_list, f_want_at_most, f_is_places, f_is_place_below, f_is_arrow, f_is_arrow_list, f_has_ring, f_is_web, f_want_web, f_turned_web, f_is_row_of, f_want_row, f_is_row, f_form_of, f_below_count, f_below_of, f_form, f_rows_below, f__law_pot, f__law_draw, f__law_pick, f__law_order, f__law_web, f__law_row, f__law_below, f__law_other, f__law_parts_right, f__law_alike_right] : List Fn) ++ ([f__law_right, f_law, f_WebD_initD, f_Web_places, f_Web_many, f_Web_arrows, f_Web_ways, f_WebD_eqD] : List Fn)
def defs : List HDef := ([d_is_integer, d_is_count, d_is_list, d_want_at_most, d_is_places, d_is_place_below, d_is_arrow, d_is_arrow_list, d_has_ring, d_is_web, d_want_web, d_turned_web, d_is_row_of, d_want_row, d_is_row, d_form_of, d_below_count, d_below_of, d_form, d_rows_below, d__law_pot, d__law_draw, d__law_pick, d__law_order, d__law_web, d__law_row, d__law_below, d__law_other, d__law_parts_right, d__law_alike_right] : List HDef) ++ ([d__law_right, d_law, d_WebD_initD, d_Web_places, d_Web_many, d_Web_arrows, d_Web_ways, d_WebD_eqD] : List HDef)
def ini : Nat → Nat | 0 => 32 | _ => 100000
def pg : Pg := { fns := fns, eqn := fun _ => 0, meth := fun _ m => m, init := ini, rp := fun _ => none }
def nm : Nm := {
  fn := (["is_integer", "is_count", "is_list", "want_at_most", "is_places", "is_place_below", "is_arrow", "is_arrow_list", "has_ring", "is_web", "want_web", "turned_web", "is_row_of", "want_row", "is_row", "form_of", "below_count", "below_of", "form", "rows_below", "_law_pot", "_law_draw", "_law_pick", "_law_order", "_law_web", "_law_row", "_law_below", "_law_other", "_law_parts_right", "_law_alike_right"] : List Str) ++ (["_law_right", "law"] : List Str),
  cls := ["Web"],
  mth := [(0, 35, "arrows"), (0, 36, "ways"), (0, 37, "__eq__")],
  prp := [(0, 33, "places"), (0, 34, "many")],
  fld := [["_places", "_arrows", "_many"]],
  con := [("MOST_PLACES", .int 13), ("MOST_ARROWS", .int 12), ("MOST_SIZE", .int 6), ("MOST_SUM", .int 24), ("MOST_ROWS", .int 400)],
  blt := ["NotImplemented", "abs", "all", "bool", "divmod", "int", "isinstance", "len", "list", "max", "range", "sum", "tuple", "zip"],
  kbf := [(19, 0, ["row", "web"], [1, 0])],
  kbc := [],
  kbm := [],
  neq := [0],
  nis := [0] }
def A : Asked := ⟨nm, pg, defs⟩
end K18
end
-- PB
section
set_option maxRecDepth 100000
set_option maxHeartbeats 400000
namespace MP
/-- ints, sets -/
def TI (l : List Int) : D := .tup (l.map .int)
def LI (l : List Int) : D := .lst (l.map .int)
abbrev Tr := List Int × List Int × List Int
def TS (s : Tr) : D := .tup [TI s.1, TI s.2.1, TI s.2.2]
theorem toInts_map (l : List Int) : toInts (l.map D.int) = some l := by
  induction l with
  | nil => rfl
  | cons a l ih => simp [toInts, ih]
theorem toBls_map {α : Type} (g : α → Bool) (l : List α) : toBls (l.map fun p => D.bl (g p)) = some (l.map g) := by
  induction l with
  | nil => rfl
  | cons a l ih => simp [toBls, ih]
theorem toInts_mapg {α : Type} (g : α → Int) (l : List α) : toInts (l.map fun p => D.int (g p)) = some (l.map g) := by
  induction l with
  | nil => rfl
  | cons a l ih => simp [toInts, ih]
theorem bk {α β : Type} (a : α) (f : α → R β) : (R.ok a).bind f = f a := rfl
theorem bcg {α β : Type} {x y : R α} (f : α → R β) (h : x = y) : x.bind f = y.bind f := by rw [h]
theorem oS {α : Type} (a : α) : ofO (some a) = .ok a := rfl
theorem g_get (σ : List Sl) (μ) (i : Nat) : Sta.get ⟨σ, μ⟩ i = (match σ[i]? with | some (some p) => .ok p | _ => .bad) := rfl
theorem g_put (σ : List Sl) (μ) (i : Nat) (p) : Sta.put ⟨σ, μ⟩ i p = ⟨σ.set i (some p), μ⟩ := rfl
theorem n_lim {n : Nat} (h : n ≤ 1000) : n ≤ lim := by unfold lim; omega
theorem n_lim' {n : Nat} (h : n ≤ 999) : n < lim := by unfold lim; omega
/-- a comprehension whose body changes nothing -/
theorem loopC_of {α : Type} {f : D → Sta → R (Option (D × Nat) × Sta)} {st : Sta} (φ : α → D) (g : α → D) : ∀ {l : List α} (acc : List D), (∀ p ∈ l, f (φ p) st = .ok (some (g p, 0), st)) → acc.length + l.length ≤ 1000 → loopC 0 f (l.map φ) acc st = .ok (acc ++ l.map g, st)
  | [], acc, _, _ => by simp [loopC]
  | p :: l, acc, h, hl => by
    have hp := h p (List.mem_cons_self ..)
    simp only [List.length_cons] at hl
    have h1 : acc.length < lim := n_lim' (by omega)
    simp only [List.map_cons, loopC, hp, R.bind, fits, h1, and_true]
    have := loopC_of φ g (l := l) (acc ++ [g p]) (fun q m => h q (List.mem_cons_of_mem _ m)) (by simp; omega)
    simpa using this
theorem loopC_map {α : Type} {f : D → Sta → R (Option (D × Nat) × Sta)} {st : Sta} (φ : α → D) (g : α → D) {l : List α} (h : ∀ p ∈ l, f (φ p) st = .ok (some (g p, 0), st)) (hl : l.length ≤ 1000) : loopC 0 f (l.map φ) [] st = .ok (l.map g, st) := by
  have := loopC_of φ g [] h (by simpa using hl)
  simpa using this
theorem loopC_ifs {α : Type} {f : D → Sta → R (Option (D × Nat) × Sta)} {st : Sta} (φ : α → D) (g : α → D) (b : α → Bool) : ∀ {l : List α} (acc : List D), (∀ p ∈ l, f (φ p) st = .ok (if b p = true then some (g p, 0) else none, st)) → acc.length + l.length ≤ 1000 → loopC 0 f (l.map φ) acc st = .ok (acc ++ (l.filter b).map g, st)
  | [], acc, _, _ => by simp [loopC]
  | p :: l, acc, h, hl => by
    have hp := h p (List.mem_cons_self ..)
    simp only [List.length_cons] at hl
    have h1 : acc.length < lim := n_lim' (by omega)
    by_cases hb : b p = true
    · rw [if_pos hb] at hp
      simp only [List.map_cons, loopC, hp, R.bind, fits, h1, and_true]
      have := loopC_ifs φ g b (l := l) (acc ++ [g p]) (fun q m => h q (List.mem_cons_of_mem _ m)) (by simp; omega)
      simpa [hb] using this
    · rw [if_neg hb] at hp
      simp only [List.map_cons, loopC, hp, R.bind]
      have := loopC_ifs φ g b (l := l) acc (fun q m => h q (List.mem_cons_of_mem _ m)) (by omega)
      simpa [hb] using this
theorem loopC_if {α : Type} {f : D → Sta → R (Option (D × Nat) × Sta)} {st : Sta} (φ : α → D) (g : α → D) (b : α → Bool) {l : List α} (h : ∀ p ∈ l, f (φ p) st = .ok (if b p = true then some (g p, 0) else none, st)) (hl : l.length ≤ 1000) : loopC 0 f (l.map φ) [] st = .ok ((l.filter b).map g, st) := by
  have := loopC_ifs φ g b [] h (by simpa using hl)
  simpa using this
/-- a for loop with an invariant -/
theorem loopF_inv {α β : Type} {f : D → Sta → R (Fl × Sta)} (φ : α → D) (I : β → Sta → Prop) (h : β → α → β) : ∀ {l : List α} {b : β} {st : Sta}, (∀ b st, ∀ p ∈ l, I b st → ∃ st', f (φ p) st = .ok (.nx, st') ∧ I (h b p) st') → I b st → ∃ st', loopF f (l.map φ) st = .ok (.nx, st') ∧ I (l.foldl h b) st'
  | [], b, st, _, hi => ⟨st, rfl, hi⟩
  | p :: l, b, st, hs, hi => by
    obtain ⟨s1, e1, i1⟩ := hs b st p (List.mem_cons_self ..) hi
    obtain ⟨s2, e2, i2⟩ := loopF_inv φ I h (l := l) (fun b st q m => hs b st q (List.mem_cons_of_mem _ m)) i1
    exact ⟨s2, by simp only [List.map_cons, loopF, e1, R.bind]; exact e2, i2⟩
theorem sm {i : Int} (h : -1000 ≤ i ∧ i ≤ 1000) : small64 i = true := by
  unfold small64
  simp only [Bool.and_eq_true, decide_eq_true_eq]
  omega
def gt (a : List Int) (p : Int) : Int := a.getD p.toNat 0
theorem at_int {a : List Int} {p : Int} (h : 0 ≤ p ∧ p < a.length) : atD (a.map .int) p = some (.int (gt a p)) := by
  have h2 : p.toNat < a.length := by omega
  simp [atD, ixN, h, gt, h2]
theorem at0 (x : D) (xs : List D) : atD (x :: xs) 0 = some x := by simp [atD, ixN]
theorem run_s {P : Pg} {fu n f : Nat} {fn : Fn} {ps : List (D × Nat)} {μ : List (List D)} (h : P.fns[f]? = some fn) (h1 : ps.length = fn.par) (h2 : fn.par ≤ fn.slots) :
    run P fu (n + 1) f ps μ = (execs (P.cfg fu (run P fu n)) fn.body ⟨ps.map some ++ List.replicate (fn.slots - fn.par) none, μ⟩).bind (endF fn) := by
  simp [run, h, h1, h2]
theorem zipD_map {α β : Type} (φ : α → D) (ψ : β → D) : ∀ (l : List α) (k : List β), zipD (l.map φ) (k.map ψ) = (l.zip k).map fun q => .tup [φ q.1, ψ q.2]
  | [], _ => rfl
  | _ :: _, [] => rfl
  | a :: l, b :: k => by simp [zipD, zipD_map φ ψ l k]
theorem cut1 (xs : List D) : cutD xs (some 1) none = xs.drop 1 := by
  cases xs with
  | nil => rfl
  | cons x xs => simp [cutD, sIx]
theorem bas {α β γ : Type} (x : R α) (f : α → R β) (g : β → R γ) : (x.bind f).bind g = x.bind fun a => (f a).bind g := by cases x <;> rfl
theorem lFc {f : D → Sta → R (Fl × Sta)} {xs ys : List D} {s t : Sta} (h1 : xs = ys) (h2 : s = t) : loopF f xs s = loopF f ys t := by rw [h1, h2]
theorem lCc {k : Nat} {f : D → Sta → R (Option (D × Nat) × Sta)} {xs ys acc acc' : List D} {s t : Sta} (h1 : xs = ys) (h2 : s = t) (h3 : acc = acc') : loopC k f xs acc s = loopC k f ys acc' t := by rw [h1, h2, h3]
theorem lF0 (f : D → Sta → R (Fl × Sta)) (s : Sta) : loopF f [] s = .ok (.nx, s) := rfl
theorem lF1 (f : D → Sta → R (Fl × Sta)) (x : D) (xs : List D) (s : Sta) : loopF f (x :: xs) s = (f x s).bind fun (r, s) => match r with
    | .nx => loopF f xs s | .ct => loopF f xs s | .br => .ok (.nx, s) | .rt d k => .ok (.rt d k, s) := rfl
theorem lC0 (k) (f : D → Sta → R (Option (D × Nat) × Sta)) (acc) (s : Sta) : loopC k f [] acc s = .ok (acc, s) := rfl
theorem lC1 (k) (f : D → Sta → R (Option (D × Nat) × Sta)) (acc) (x : D) (xs : List D) (s : Sta) : loopC k f (x :: xs) acc s = (f x s).bind fun (r, s) => match r with
    | some (d, k') => if fits k (d, k') ∧ acc.length < lim then loopC k f xs (acc ++ [d]) s else .bad
    | none => loopC k f xs acc s := rfl
/-- a for loop with an invariant, and what comes behind -/
theorem lF_inv {α β γ : Type} {f : D → Sta → R (Fl × Sta)} (φ : α → D) (I : β → Sta → Prop) (h : β → α → β) {l : List α} {b : β} {st : Sta} {G : Fl × Sta → R γ} {r : R γ} (hs : ∀ b st, ∀ p ∈ l, I b st → ∃ st', f (φ p) st = .ok (.nx, st') ∧ I (h b p) st') (hi : I b st)
    (hk : ∀ st', I (l.foldl h b) st' → G (.nx, st') = r) : (loopF f (l.map φ) st).bind G = r := by
  obtain ⟨s, e, i⟩ := loopF_inv φ I h hs hi
  rw [e]; exact hk s i
/-- a for loop that returns at the first p of the kind b -/
theorem lF_find {α γ : Type} {f : D → Sta → R (Fl × Sta)} (φ : α → D) (I J : Sta → Prop) (b : α → Bool) (g : α → D) {G : Fl × Sta → R γ} {r : R γ} : ∀ {l : List α} {st : Sta}, (∀ st, ∀ p ∈ l, I st → (b p = true → ∃ st', f (φ p) st = .ok (.rt (g p) 0, st') ∧ J st') ∧ (b p = false → ∃ st', f (φ p) st = .ok (.nx, st') ∧ I st')) → I st →
    (∀ p, l.find? b = some p → ∀ st', J st' → G (.rt (g p) 0, st') = r) → (l.find? b = none → ∀ st', I st' → G (.nx, st') = r) → (loopF f (l.map φ) st).bind G = r
  | [], st, hs, hi, _, h2 => h2 rfl st hi
  | p :: l, st, hs, hi, h1, h2 => by
    obtain ⟨a1, a2⟩ := hs st p (List.mem_cons_self ..) hi
    cases hb : b p with
    | true =>
      obtain ⟨s1, e, j⟩ := a1 hb
      simp only [List.map_cons, lF1, e, R.bind]
      exact h1 p (by simp [List.find?_cons, hb]) s1 j
    | false =>
      obtain ⟨s1, e, i⟩ := a2 hb
      simp only [List.map_cons, lF1, e, R.bind]
      exact lF_find φ I J b g (l := l) (fun st q m => hs st q (List.mem_cons_of_mem _ m)) i (fun q hq => h1 q (by simpa [List.find?_cons, hb] using hq)) (fun hq => h2 (by simpa [List.find?_cons, hb] using hq))
theorem foldl_filter {α : Type} (b : α → Bool) : ∀ (l acc : List α), l.foldl (fun acc p => if b p = true then acc ++ [p] else acc) acc = acc ++ l.filter b
  | [], acc => by simp
  | p :: l, acc => by
    simp only [List.foldl_cons]
    rw [foldl_filter b l]
    by_cases h : b p = true <;> simp [h]
theorem foldl_map {α β : Type} (g : α → β) : ∀ (l : List α) (acc : List β), l.foldl (fun acc p => acc ++ [g p]) acc = acc ++ l.map g
  | [], acc => by simp
  | p :: l, acc => by simp [foldl_map g l]
theorem loopF_cnt {α β : Type} {f : D → Sta → R (Fl × Sta)} (φ : α → D) (I : Nat → β → Sta → Prop) (h : β → α → β) (N : Nat) : ∀ {l : List α} {i : Nat} {b : β} {st : Sta}, (∀ i b st, ∀ p ∈ l, i < N → I i b st → ∃ st', f (φ p) st = .ok (.nx, st') ∧ I (i + 1) (h b p) st') → I i b st → i + l.length ≤ N → ∃ st', loopF f (l.map φ) st = .ok (.nx, st') ∧ I (i + l.length) (l.foldl h b) st'
  | [], i, b, st, _, hi, _ => ⟨st, rfl, hi⟩
  | p :: l, i, b, st, hs, hi, hN => by
    simp only [List.length_cons] at hN
    obtain ⟨s1, e1, i1⟩ := hs i b st p (List.mem_cons_self ..) (by omega) hi
    obtain ⟨s2, e2, i2⟩ := loopF_cnt φ I h N (l := l) (fun i b st q m => hs i b st q (List.mem_cons_of_mem _ m)) i1 (by omega)
    refine ⟨s2, by simp only [List.map_cons, loopF, e1, R.bind]; exact e2, ?_⟩
    have : i + (p :: l).length = i + 1 + l.length := by simp only [List.length_cons]; omega
    rw [this]
    exact i2
theorem lF_cnt {α β γ : Type} {f : D → Sta → R (Fl × Sta)} (φ : α → D) (I : Nat → β → Sta → Prop) (h : β → α → β) {l : List α} {b : β} {st : Sta} {G : Fl × Sta → R γ} {r : R γ} (hs : ∀ i b st, ∀ p ∈ l, i < l.length → I i b st → ∃ st', f (φ p) st = .ok (.nx, st') ∧ I (i + 1) (h b p) st') (hi : I 0 b st)
    (hk : ∀ st', I l.length (l.foldl h b) st' → G (.nx, st') = r) : (loopF f (l.map φ) st).bind G = r := by
  obtain ⟨s, e, i⟩ := loopF_cnt φ I h l.length hs hi (by omega)
  rw [e]
  exact hk s (by simpa using i)
/-- what comes behind, not looked at until it is due -/
inductive Tag {α β : Type} (f : α → R β) : Type
  | mk
def Bd {α β : Type} (f : α → R β) (x : R α) (_ : Tag f) : R β := x.bind f
theorem toBd {α β : Type} (x : R α) (f : α → R β) : x.bind f = Bd f x .mk := rfl
theorem bkd {α β : Type} (a : α) (f : α → R β) (t : Tag f) : Bd f (R.ok a) t = f a := rfl
theorem basd {α β γ : Type} (x : R α) (f : α → R β) (g : β → R γ) (t : Tag f) (t' : Tag g) : Bd g (Bd f x t) t' = Bd (fun a => Bd g (f a) .mk) x .mk := bas x f g
theorem lC_map {α γ : Type} {f : D → Sta → R (Option (D × Nat) × Sta)} {st : Sta} (φ : α → D) (g : α → D) {l : List α} {G : List D × Sta → R γ} {t : Tag G} {r : R γ} (h : ∀ p ∈ l, f (φ p) st = .ok (some (g p, 0), st)) (hl : l.length ≤ 1000) (hk : G (l.map g, st) = r) :
    Bd G (loopC 0 f (l.map φ) [] st) t = r := by
  rw [loopC_map φ g h hl]; exact hk
theorem lC_if {α γ : Type} {f : D → Sta → R (Option (D × Nat) × Sta)} {st : Sta} (φ : α → D) (g : α → D) (b : α → Bool) {l : List α} {G : List D × Sta → R γ} {t : Tag G} {r : R γ} (h : ∀ p ∈ l, f (φ p) st = .ok (if b p = true then some (g p, 0) else none, st)) (hl : l.length ≤ 1000) (hk : G ((l.filter b).map g, st) = r) :
    Bd G (loopC 0 f (l.map φ) [] st) t = r := by
  rw [loopC_if φ g b h hl]; exact hk
theorem lF_cntB {α β γ : Type} {f : D → Sta → R (Fl × Sta)} (φ : α → D) (I : Nat → β → Sta → Prop) (h : β → α → β) {l : List α} {b : β} {st : Sta} {G : Fl × Sta → R γ} {t : Tag G} {r : R γ} (hs : ∀ i b st, ∀ p ∈ l, i < l.length → I i b st → ∃ st', f (φ p) st = .ok (.nx, st') ∧ I (i + 1) (h b p) st') (hi : I 0 b st)
    (hk : ∀ st', I l.length (l.foldl h b) st' → G (.nx, st') = r) : Bd G (loopF f (l.map φ) st) t = r := lF_cnt φ I h hs hi hk
theorem lF_findB {α γ : Type} {f : D → Sta → R (Fl × Sta)} (φ : α → D) (I J : Sta → Prop) (b : α → Bool) (g : α → D) {G : Fl × Sta → R γ} {t : Tag G} {r : R γ} {l : List α} {st : Sta} (hs : ∀ st, ∀ p ∈ l, I st → (b p = true → ∃ st', f (φ p) st = .ok (.rt (g p) 0, st') ∧ J st') ∧ (b p = false → ∃ st', f (φ p) st = .ok (.nx, st') ∧ I st')) (hi : I st)
    (h1 : ∀ p, l.find? b = some p → ∀ st', J st' → G (.rt (g p) 0, st') = r) (h2 : l.find? b = none → ∀ st', I st' → G (.nx, st') = r) : Bd G (loopF f (l.map φ) st) t = r := lF_find φ I J b g hs hi h1 h2
end MP
namespace MP
/-- a for loop, turn by turn -/
theorem lF_atx {α γ : Type} {f : D → Sta → R (Fl × Sta)} (φ : α → D) (I : Nat → Sta → Prop) {l : List α} : ∀ {k : Nat} {m : List α} {st : Sta} {G : Fl × Sta → R γ} {r : R γ}, l.drop k = m → (∀ i st p, l[i]? = some p → I i st → ∃ st', f (φ p) st = .ok (.nx, st') ∧ I (i + 1) st') → I k st → k ≤ l.length →
    (∀ st', I l.length st' → G (.nx, st') = r) → (loopF f (m.map φ) st).bind G = r
  | k, [], st, G, r, e, hs, hi, hk, h => by
    have : k = l.length := by
      have := congrArg List.length e
      simp at this; omega
    subst this
    exact h st hi
  | k, p :: m, st, G, r, e, hs, hi, hk, h => by
    have hlt : k < l.length := by
      have := congrArg List.length e
      simp at this; omega
    have hp : l[k]? = some p := by
      have : (l.drop k)[0]? = some p := by rw [e]; rfl
      simpa using this
    obtain ⟨s1, e1, i1⟩ := hs k st p hp hi
    simp only [List.map_cons, lF1, e1, R.bind]
    refine lF_atx φ I (k := k + 1) (m := m) ?_ hs i1 hlt h
    rw [← List.drop_drop, e]; rfl
theorem lF_atB {α γ : Type} {f : D → Sta → R (Fl × Sta)} (φ : α → D) (I : Nat → Sta → Prop) {l : List α} {st : Sta} {G : Fl × Sta → R γ} {t : Tag G} {r : R γ} (hs : ∀ i st p, l[i]? = some p → I i st → ∃ st', f (φ p) st = .ok (.nx, st') ∧ I (i + 1) st') (hi : I 0 st)
    (hk : ∀ st', I l.length st' → G (.nx, st') = r) : Bd G (loopF f (l.map φ) st) t = r := lF_atx φ I rfl hs hi (Nat.zero_le _) hk
end MP
namespace MP
theorem lim1 : 1 ≤ lim := n_lim (by decide)
theorem lim2 : 2 ≤ lim := n_lim (by decide)
theorem lim3 : 3 ≤ lim := n_lim (by decide)
theorem lim4 : 4 ≤ lim := n_lim (by decide)
theorem lim0' : 0 < lim := n_lim' (by decide)
theorem lim1' : 1 < lim := n_lim' (by decide)
theorem lim2' : 2 < lim := n_lim' (by decide)
theorem lim3' : 3 < lim := n_lim' (by decide)
end MP
namespace MP
/-! the same where an end is looked for -/
theorem lF_atY {α : Type} {f : D → Sta → R (Fl × Sta)} (φ : α → D) (I : Nat → Sta → Prop) {l : List α} : ∀ {k : Nat} {m : List α} {st : Sta}, l.drop k = m → (∀ i st p, l[i]? = some p → I i st → ∃ st', f (φ p) st = .ok (.nx, st') ∧ I (i + 1) st') → I k st → k ≤ l.length →
    ∃ st', loopF f (m.map φ) st = .ok (.nx, st') ∧ I l.length st'
  | k, [], st, e, hs, hi, hk => by
    have : k = l.length := by
      have := congrArg List.length e
      simp at this; omega
    subst this
    exact ⟨st, rfl, hi⟩
  | k, p :: m, st, e, hs, hi, hk => by
    have hlt : k < l.length := by
      have := congrArg List.length e
      simp at this; omega
    have hp : l[k]? = some p := by
      have : (l.drop k)[0]? = some p := by rw [e]; rfl
      simpa using this
    obtain ⟨s1, e1, i1⟩ := hs k st p hp hi
    obtain ⟨s2, e2, i2⟩ := lF_atY φ I (k := k + 1) (m := m) (by rw [← List.drop_drop, e]; rfl) hs i1 hlt
    exact ⟨s2, by simp only [List.map_cons, lF1, e1, R.bind]; exact e2, i2⟩
theorem lF_atE {α γ : Type} {f : D → Sta → R (Fl × Sta)} (φ : α → D) (I : Nat → Sta → Prop) {l : List α} {st : Sta} {G : Fl × Sta → R (Fl × γ)} {t : Tag G} {P : γ → Prop} (hs : ∀ i st p, l[i]? = some p → I i st → ∃ st', f (φ p) st = .ok (.nx, st') ∧ I (i + 1) st') (hi : I 0 st)
    (hk : ∀ st', I l.length st' → ∃ c, G (.nx, st') = .ok (.nx, c) ∧ P c) : ∃ c, Bd G (loopF f (l.map φ) st) t = .ok (.nx, c) ∧ P c := by
  obtain ⟨s, e, i⟩ := lF_atY φ I (k := 0) (m := l) rfl hs hi (Nat.zero_le _)
  unfold Bd
  rw [e]
  exact hk s i
theorem lC_mapE {α γ : Type} {f : D → Sta → R (Option (D × Nat) × Sta)} {st : Sta} (φ : α → D) (g : α → D) {l : List α} {G : List D × Sta → R (Fl × γ)} {t : Tag G} {P : γ → Prop} (h : ∀ p ∈ l, f (φ p) st = .ok (some (g p, 0), st)) (hl : l.length ≤ 1000) (hk : ∃ c, G (l.map g, st) = .ok (.nx, c) ∧ P c) :
    ∃ c, Bd G (loopC 0 f (l.map φ) [] st) t = .ok (.nx, c) ∧ P c := by
  unfold Bd
  rw [loopC_map φ g h hl]; exact hk
theorem lC_ifE {α γ : Type} {f : D → Sta → R (Option (D × Nat) × Sta)} {st : Sta} (φ : α → D) (g : α → D) (b : α → Bool) {l : List α} {G : List D × Sta → R (Fl × γ)} {t : Tag G} {P : γ → Prop} (h : ∀ p ∈ l, f (φ p) st = .ok (if b p = true then some (g p, 0) else none, st)) (hl : l.length ≤ 1000) (hk : ∃ c, G ((l.filter b).map g, st) = .ok (.nx, c) ∧ P c) :
    ∃ c, Bd G (loopC 0 f (l.map φ) [] st) t = .ok (.nx, c) ∧ P c := by
  unfold Bd
  rw [loopC_if φ g b h hl]; exact hk
end MP
namespace MP
/-- elements with a depth of their own -/
theorem loopC_ofK {α : Type} {f : D → Sta → R (Option (D × Nat) × Sta)} {st : Sta} (kk : Nat) (φ : α → D) (g : α → D) : ∀ {l : List α} (acc : List D), (∀ p ∈ l, f (φ p) st = .ok (some (g p, kk), st)) → acc.length + l.length ≤ 1000 → loopC 0 f (l.map φ) acc st = .ok (acc ++ l.map g, st)
  | [], acc, _, _ => by simp [loopC]
  | p :: l, acc, h, hl => by
    have hp := h p (List.mem_cons_self ..)
    simp only [List.length_cons] at hl
    have h1 : acc.length < lim := n_lim' (by omega)
    simp only [List.map_cons, loopC, hp, R.bind, fits, h1, and_true]
    have := loopC_ofK kk φ g (l := l) (acc ++ [g p]) (fun q m => h q (List.mem_cons_of_mem _ m)) (by simp; omega)
    simpa using this
theorem lC_mapK {α γ : Type} {f : D → Sta → R (Option (D × Nat) × Sta)} {st : Sta} (kk : Nat) (φ : α → D) (g : α → D) {l : List α} {G : List D × Sta → R γ} {t : Tag G} {r : R γ} (h : ∀ p ∈ l, f (φ p) st = .ok (some (g p, kk), st)) (hl : l.length ≤ 1000) (hk : G (l.map g, st) = r) :
    Bd G (loopC 0 f (l.map φ) [] st) t = r := by
  unfold Bd
  rw [loopC_ofK kk φ g [] h (by simpa using hl)]; exact hk
theorem lC_mapKE {α γ : Type} {f : D → Sta → R (Option (D × Nat) × Sta)} {st : Sta} (kk : Nat) (φ : α → D) (g : α → D) {l : List α} {G : List D × Sta → R (Fl × γ)} {t : Tag G} {P : γ → Prop} (h : ∀ p ∈ l, f (φ p) st = .ok (some (g p, kk), st)) (hl : l.length ≤ 1000) (hk : ∃ c, G (l.map g, st) = .ok (.nx, c) ∧ P c) :
    ∃ c, Bd G (loopC 0 f (l.map φ) [] st) t = .ok (.nx, c) ∧ P c := by
  unfold Bd
  rw [loopC_ofK kk φ g [] h (by simpa using hl)]; exact hk
end MP
namespace MP
theorem lim5 : 5 ≤ lim := n_lim (by decide)
theorem lim6 : 6 ≤ lim := n_lim (by decide)
theorem lim7 : 7 ≤ lim := n_lim (by decide)
theorem lim8 : 8 ≤ lim := n_lim (by decide)
theorem lim9 : 9 ≤ lim := n_lim (by decide)
theorem lim10 : 10 ≤ lim := n_lim (by decide)
theorem lim11 : 11 ≤ lim := n_lim (by decide)
theorem lim12 : 12 ≤ lim := n_lim (by decide)
theorem lim13 : 13 ≤ lim := n_lim (by decide)
theorem lim14 : 14 ≤ lim := n_lim (by decide)
theorem lim15 : 15 ≤ lim := n_lim (by decide)
theorem lim16 : 16 ≤ lim := n_lim (by decide)
theorem lim17 : 17 ≤ lim := n_lim (by decide)
theorem lim18 : 18 ≤ lim := n_lim (by decide)
theorem lim19 : 19 ≤ lim := n_lim (by decide)
theorem lim20 : 20 ≤ lim := n_lim (by decide)
theorem lim21 : 21 ≤ lim := n_lim (by decide)
theorem lim22 : 22 ≤ lim := n_lim (by decide)
theorem lim23 : 23 ≤ lim := n_lim (by decide)
theorem lim24 : 24 ≤ lim := n_lim (by decide)
end MP
namespace MP
theorem pm10 {α : Type} (a b : α) : permOf [1, 0] [a, b] = some [b, a] := rfl
theorem pm210 {α : Type} (a b c : α) : permOf [2, 1, 0] [a, b, c] = some [c, b, a] := rfl
theorem pm0 {α : Type} (xs : List α) : permOf [] xs = some xs := rfl
end MP
namespace MP
theorem lC_mapX {α γ δ : Type} {f : D → Sta → R (Option (D × Nat) × Sta)} {st : Sta} (φ : α → D) (g : α → D) {l : List α} {G : List D × Sta → R (δ × γ)} {t : Tag G} {v : δ} (h : ∀ p ∈ l, f (φ p) st = .ok (some (g p, 0), st)) (hl : l.length ≤ 1000) (hk : ∃ c, G (l.map g, st) = .ok (v, c)) :
    ∃ c, Bd G (loopC 0 f (l.map φ) [] st) t = .ok (v, c) := by
  unfold Bd
  rw [loopC_map φ g h hl]; exact hk
end MP
namespace MP
/-- a comprehension whose turns change the store -/
theorem loopC_inv {α : Type} {f : D → Sta → R (Option (D × Nat) × Sta)} (φ : α → D) (P : List D → Sta → Prop) : ∀ {l : List α} (acc : List D) (st : Sta), (∀ acc st, ∀ p ∈ l, P acc st → ∃ d k st', f (φ p) st = .ok (some (d, k), st') ∧ P (acc ++ [d]) st') → acc.length + l.length ≤ 1000 → P acc st →
    ∃ ys st', loopC 0 f (l.map φ) acc st = .ok (ys, st') ∧ P ys st' ∧ ys.length = acc.length + l.length
  | [], acc, st, _, _, h => ⟨acc, st, rfl, h, rfl⟩
  | p :: l, acc, st, hs, hl, h => by
    obtain ⟨d, k, st', e, h'⟩ := hs acc st p (List.mem_cons_self ..) h
    simp only [List.length_cons] at hl
    have h1 : acc.length < lim := n_lim' (by omega)
    obtain ⟨ys, st2, e2, h2, h3⟩ := loopC_inv φ P (l := l) (acc ++ [d]) st' (fun acc st q m => hs acc st q (List.mem_cons_of_mem _ m)) (by simp; omega) h'
    refine ⟨ys, st2, ?_, h2, by simp at h3 ⊢; omega⟩
    simp only [List.map_cons, loopC, e, R.bind, fits, h1, and_true]
    simpa using e2
/-- an end is looked for -/
inductive PTg {γ : Type} (P : γ → Prop) : Type
  | mk
def Ends {γ : Type} (x : R γ) (P : γ → Prop) (_ : PTg P) : Prop := ∃ c, x = .ok c ∧ P c
theorem Ends.ok {γ : Type} {c : γ} {P : γ → Prop} {t : PTg P} (h : P c) : Ends (.ok c) P t := ⟨c, rfl, h⟩
theorem Ends.of {γ : Type} {x y : R γ} {P : γ → Prop} {t t' : PTg P} (e : x = y) (h : Ends y P t) : Ends x P t' := by rw [e]; exact h
theorem Ends.mono {γ : Type} {x : R γ} {P Q : γ → Prop} {t : PTg P} {t' : PTg Q} (h : Ends x P t) (i : ∀ c, P c → Q c) : Ends x Q t' := let ⟨c, e, p⟩ := h; ⟨c, e, i c p⟩
theorem lC_N {α γ : Type} {f : D → Sta → R (Option (D × Nat) × Sta)} {st : Sta} (φ : α → D) (P : List D → Sta → Prop) {l : List α} {G : List D × Sta → R γ} {t : Tag G} {Q : γ → Prop} {u : PTg Q} (hs : ∀ acc st, ∀ p ∈ l, P acc st → Ends (f (φ p) st) (fun c => ∃ d k, c.1 = some (d, k) ∧ P (acc ++ [d]) c.2) .mk) (hl : l.length ≤ 1000) (h0 : P [] st)
    (hk : ∀ ys st', P ys st' → ys.length = l.length → Ends (G (ys, st')) Q u) : Ends (Bd G (loopC 0 f (l.map φ) [] st) t) Q u := by
  obtain ⟨ys, st', e, h1, h2⟩ := loopC_inv φ P (l := l) [] st (fun acc st p m h => by
    obtain ⟨⟨o, st'⟩, e, d, k, e1, h'⟩ := hs acc st p m h
    simp only at e1
    subst e1
    exact ⟨d, k, st', e, h'⟩) (by simpa using hl) h0
  unfold Bd
  rw [e]
  exact hk ys st' h1 (by simpa using h2)
theorem lC_mapN {α γ : Type} {f : D → Sta → R (Option (D × Nat) × Sta)} {st : Sta} (φ : α → D) (g : α → D) {l : List α} {G : List D × Sta → R γ} {t : Tag G} {Q : γ → Prop} {u : PTg Q} (h : ∀ p ∈ l, f (φ p) st = .ok (some (g p, 0), st)) (hl : l.length ≤ 1000) (hk : Ends (G (l.map g, st)) Q u) : Ends (Bd G (loopC 0 f (l.map φ) [] st) t) Q u := by
  unfold Bd
  rw [loopC_map φ g h hl]; exact hk
theorem lC_ifN {α γ : Type} {f : D → Sta → R (Option (D × Nat) × Sta)} {st : Sta} (φ : α → D) (g : α → D) (b : α → Bool) {l : List α} {G : List D × Sta → R γ} {t : Tag G} {Q : γ → Prop} {u : PTg Q} (h : ∀ p ∈ l, f (φ p) st = .ok (if b p = true then some (g p, 0) else none, st)) (hl : l.length ≤ 1000) (hk : Ends (G ((l.filter b).map g, st)) Q u) : Ends (Bd G (loopC 0 f (l.map φ) [] st) t) Q u := by
  unfold Bd
  rw [loopC_if φ g b h hl]; exact hk
theorem lF_N {α γ : Type} {f : D → Sta → R (Fl × Sta)} (φ : α → D) (I : Nat → Sta → Prop) {l : List α} {st : Sta} {G : Fl × Sta → R γ} {t : Tag G} {Q : γ → Prop} {u : PTg Q} (hs : ∀ i st p, l[i]? = some p → I i st → Ends (f (φ p) st) (fun c => c.1 = .nx ∧ I (i + 1) c.2) .mk) (hi : I 0 st)
    (hk : ∀ st', I l.length st' → Ends (G (.nx, st')) Q u) : Ends (Bd G (loopF f (l.map φ) st) t) Q u := by
  obtain ⟨s, e, i⟩ := lF_atY φ I (k := 0) (m := l) rfl (fun i st p h1 h2 => by
    obtain ⟨⟨c, st'⟩, e, e1, h'⟩ := hs i st p h1 h2
    simp only at e1
    subst e1
    exact ⟨st', e, h'⟩) hi (Nat.zero_le _)
  unfold Bd
  rw [e]
  exact hk s i
end MP
namespace MP
theorem eraseIdx_map {α β : Type} (f : α → β) : ∀ (l : List α) (i : Nat), (l.map f).eraseIdx i = (l.eraseIdx i).map f
  | [], _ => rfl
  | _ :: _, 0 => rfl
  | a :: l, i + 1 => by simp [eraseIdx_map f l i]
end MP
namespace MP
theorem loopC_invI {α : Type} {f : D → Sta → R (Option (D × Nat) × Sta)} (φ : α → D) (P : List D → Sta → Prop) {l0 : List α} (hl0 : l0.length ≤ 1000) : ∀ {l : List α} (acc : List D) (st : Sta), l0.drop acc.length = l → (∀ acc st p, l0[acc.length]? = some p → P acc st → ∃ d k st', f (φ p) st = .ok (some (d, k), st') ∧ P (acc ++ [d]) st') → acc.length ≤ l0.length → P acc st →
    ∃ ys st', loopC 0 f (l.map φ) acc st = .ok (ys, st') ∧ P ys st' ∧ ys.length = l0.length
  | [], acc, st, e, _, hk, h => ⟨acc, st, rfl, h, by
      have := congrArg List.length e
      simp at this; omega⟩
  | p :: l, acc, st, e, hs, hk, h => by
    have hlt : acc.length < l0.length := by
      have := congrArg List.length e
      simp at this; omega
    have hp : l0[acc.length]? = some p := by
      have : (l0.drop acc.length)[0]? = some p := by rw [e]; rfl
      simpa using this
    obtain ⟨d, k, st', e1, h'⟩ := hs acc st p hp h
    have h1 : acc.length < lim := n_lim' (by omega)
    obtain ⟨ys, st2, e2, h2, h3⟩ := loopC_invI φ P hl0 (l := l) (acc ++ [d]) st' (by
      rw [List.length_append, List.length_singleton, ← List.drop_drop, e]; rfl) hs (by simp; omega) h'
    refine ⟨ys, st2, ?_, h2, h3⟩
    simp only [List.map_cons, loopC, e1, R.bind, fits, h1, and_true]
    simpa using e2
theorem lC_NI {α γ : Type} {f : D → Sta → R (Option (D × Nat) × Sta)} {st : Sta} (φ : α → D) (P : List D → Sta → Prop) {l : List α} {G : List D × Sta → R γ} {t : Tag G} {Q : γ → Prop} {u : PTg Q} (hs : ∀ acc st p, l[acc.length]? = some p → P acc st → Ends (f (φ p) st) (fun c => ∃ d k, c.1 = some (d, k) ∧ P (acc ++ [d]) c.2) .mk) (hl : l.length ≤ 1000) (h0 : P [] st)
    (hk : ∀ ys st', P ys st' → ys.length = l.length → Ends (G (ys, st')) Q u) : Ends (Bd G (loopC 0 f (l.map φ) [] st) t) Q u := by
  obtain ⟨ys, st', e, h1, h2⟩ := loopC_invI φ P hl (l := l) [] st rfl (fun acc st p m h => by
    obtain ⟨⟨o, st'⟩, e, d, k, e1, h'⟩ := hs acc st p m h
    simp only at e1
    subst e1
    exact ⟨d, k, st', e, h'⟩) (Nat.zero_le _) h0
  unfold Bd
  rw [e]
  exact hk ys st' h1 h2
end MP
namespace MP
/-- the first turn freezes something -/
theorem loopC_if2 {α : Type} {f : D → Sta → R (Option (D × Nat) × Sta)} {st st' : Sta} (φ : α → D) (g : α → D) (b : α → Bool) {l : List α} (h : ∀ p ∈ l, f (φ p) st = .ok (if b p = true then some (g p, 0) else none, st')) (h' : ∀ p ∈ l, f (φ p) st' = .ok (if b p = true then some (g p, 0) else none, st')) (hl : l.length ≤ 1000) :
    ∃ s, (s = st ∨ s = st') ∧ loopC 0 f (l.map φ) [] st = .ok ((l.filter b).map g, s) := by
  cases l with
  | nil => exact ⟨st, .inl rfl, rfl⟩
  | cons p l =>
    refine ⟨st', .inr rfl, ?_⟩
    have hp := h p (List.mem_cons_self ..)
    simp only [List.length_cons] at hl
    by_cases hb : b p = true
    · rw [if_pos hb] at hp
      have h1 : (0 : Nat) < lim := lim0'
      have := loopC_ifs (st := st') φ g b (l := l) [g p] (fun q m => h' q (List.mem_cons_of_mem _ m)) (by simp; omega)
      simp only [List.map_cons, loopC, hp, R.bind, fits, List.length_nil, h1, and_true]
      simpa [hb] using this
    · rw [if_neg hb] at hp
      have := loopC_ifs (st := st') φ g b (l := l) [] (fun q m => h' q (List.mem_cons_of_mem _ m)) (by simp; omega)
      simp only [List.map_cons, loopC, hp, R.bind]
      simpa [hb] using this
theorem lC_if2N {α γ : Type} {f : D → Sta → R (Option (D × Nat) × Sta)} {st st' : Sta} (φ : α → D) (g : α → D) (b : α → Bool) {l : List α} {G : List D × Sta → R γ} {t : Tag G} {Q : γ → Prop} {u : PTg Q} (hl : l.length ≤ 1000) (h : ∀ p ∈ l, f (φ p) st = .ok (if b p = true then some (g p, 0) else none, st')) (h' : ∀ p ∈ l, f (φ p) st' = .ok (if b p = true then some (g p, 0) else none, st'))
    (hk : Ends (G ((l.filter b).map g, st)) Q u ∧ Ends (G ((l.filter b).map g, st')) Q u) : Ends (Bd G (loopC 0 f (l.map φ) [] st) t) Q u := by
  obtain ⟨s, hs, e⟩ := loopC_if2 φ g b h h' hl
  unfold Bd
  rw [e]
  rcases hs with rfl | rfl
  · exact hk.1
  · exact hk.2
end MP
end
-- PB2
section
set_option maxRecDepth 100000
namespace MP
/-- elements that the new list owns -/
theorem loopC_ofD {α : Type} {f : D → Sta → R (Option (D × Nat) × Sta)} {st : Sta} (kk : Nat) (φ : α → D) (g : α → D) : ∀ {l : List α} (acc : List D), (∀ p ∈ l, f (φ p) st = .ok (some (g p, kk), st)) → acc.length + l.length ≤ 1000 → loopC kk f (l.map φ) acc st = .ok (acc ++ l.map g, st)
  | [], acc, _, _ => by simp [loopC]
  | p :: l, acc, h, hl => by
    have h1 : fits kk (g p, kk) = true ∧ acc.length < lim := ⟨by simp [fits], n_lim' (by simp at hl; omega)⟩
    rw [List.map_cons, loopC, h p (List.mem_cons_self ..)]
    simp only [R.bind]
    rw [if_pos h1, loopC_ofD kk φ g _ (fun q m => h q (List.mem_cons_of_mem _ m)) (by simp at hl ⊢; omega)]
    simp
theorem lC_mapD {α γ : Type} {f : D → Sta → R (Option (D × Nat) × Sta)} {st : Sta} (kk : Nat) (φ : α → D) (g : α → D) {l : List α} {G : List D × Sta → R γ} {t : Tag G} {r : R γ} (h : ∀ p ∈ l, f (φ p) st = .ok (some (g p, kk), st)) (hl : l.length ≤ 1000) (hk : G (l.map g, st) = r) :
    Bd G (loopC kk f (l.map φ) [] st) t = r := by
  unfold Bd
  rw [loopC_ofD kk φ g [] h (by simpa using hl)]; exact hk
theorem lC_mapKN {α γ : Type} {f : D → Sta → R (Option (D × Nat) × Sta)} {st : Sta} (kk : Nat) (φ : α → D) (g : α → D) {l : List α} {G : List D × Sta → R γ} {t : Tag G} {Q : γ → Prop} {u : PTg Q} (h : ∀ p ∈ l, f (φ p) st = .ok (some (g p, kk), st)) (hl : l.length ≤ 1000) (hk : Ends (G (l.map g, st)) Q u) : Ends (Bd G (loopC 0 f (l.map φ) [] st) t) Q u := by
  unfold Bd
  rw [loopC_ofK kk φ g [] h (by simpa using hl)]; exact hk
end MP
end
-- PB3
section
set_option maxRecDepth 100000
namespace MP
/-! loops: longer ones, while -/
theorem n_big {n : Nat} (h : n ≤ 1000000) : n ≤ lim := by unfold lim; omega
theorem n_big' {n : Nat} (h : n ≤ 999999) : n < lim := by unfold lim; omega
theorem loopC_ofL {α : Type} {f : D → Sta → R (Option (D × Nat) × Sta)} {st : Sta} (φ : α → D) (g : α → D) : ∀ {l : List α} (acc : List D), (∀ p ∈ l, f (φ p) st = .ok (some (g p, 0), st)) → acc.length + l.length ≤ 1000000 → loopC 0 f (l.map φ) acc st = .ok (acc ++ l.map g, st)
  | [], acc, _, _ => by simp [loopC]
  | p :: l, acc, h, hl => by
    have h1 : fits 0 (g p, 0) = true ∧ acc.length < lim := ⟨by simp [fits], n_big' (by simp at hl; omega)⟩
    rw [List.map_cons, loopC, h p (List.mem_cons_self ..)]
    simp only [R.bind]
    rw [if_pos h1, loopC_ofL φ g _ (fun q m => h q (List.mem_cons_of_mem _ m)) (by simp at hl ⊢; omega)]
    simp
theorem lC_mapL {α γ : Type} {f : D → Sta → R (Option (D × Nat) × Sta)} {st : Sta} (φ : α → D) (g : α → D) {l : List α} {G : List D × Sta → R γ} {t : Tag G} {r : R γ} (h : ∀ p ∈ l, f (φ p) st = .ok (some (g p, 0), st)) (hl : l.length ≤ 1000000) (hk : G (l.map g, st) = r) :
    Bd G (loopC 0 f (l.map φ) [] st) t = r := by
  unfold Bd
  rw [loopC_ofL φ g [] h (by simpa using hl)]; exact hk
theorem loopC_ifsL {α : Type} {f : D → Sta → R (Option (D × Nat) × Sta)} {st : Sta} (φ : α → D) (g : α → D) (b : α → Bool) : ∀ {l : List α} (acc : List D), (∀ p ∈ l, f (φ p) st = .ok (if b p = true then some (g p, 0) else none, st)) → acc.length + l.length ≤ 1000000 → loopC 0 f (l.map φ) acc st = .ok (acc ++ (l.filter b).map g, st)
  | [], acc, _, _ => by simp [loopC]
  | p :: l, acc, h, hl => by
    rw [List.map_cons, loopC, h p (List.mem_cons_self ..)]
    simp only [List.length_cons] at hl
    cases hb : b p
    · simp only [Bool.false_eq_true, if_false, R.bind, List.filter_cons, hb]
      exact loopC_ifsL φ g b acc (fun q m => h q (List.mem_cons_of_mem _ m)) (by omega)
    · have h1 : fits 0 (g p, 0) = true ∧ acc.length < lim := ⟨by simp [fits], n_big' (by omega)⟩
      simp only [if_true, R.bind, List.filter_cons, hb]
      rw [if_pos h1, loopC_ifsL φ g b _ (fun q m => h q (List.mem_cons_of_mem _ m)) (by simp; omega)]
      simp
theorem lC_ifL {α γ : Type} {f : D → Sta → R (Option (D × Nat) × Sta)} {st : Sta} (φ : α → D) (g : α → D) (b : α → Bool) {l : List α} {G : List D × Sta → R γ} {t : Tag G} {r : R γ} (h : ∀ p ∈ l, f (φ p) st = .ok (if b p = true then some (g p, 0) else none, st)) (hl : l.length ≤ 1000000) (hk : G ((l.filter b).map g, st) = r) :
    Bd G (loopC 0 f (l.map φ) [] st) t = r := by
  unfold Bd
  rw [loopC_ifsL φ g b [] h (by simpa using hl)]; exact hk
theorem lC_ifLN {α γ : Type} {f : D → Sta → R (Option (D × Nat) × Sta)} {st : Sta} (φ : α → D) (g : α → D) (b : α → Bool) {l : List α} {G : List D × Sta → R γ} {t : Tag G} {Q : γ → Prop} {u : PTg Q} (h : ∀ p ∈ l, f (φ p) st = .ok (if b p = true then some (g p, 0) else none, st)) (hl : l.length ≤ 1000000) (hk : Ends (G ((l.filter b).map g, st)) Q u) :
    Ends (Bd G (loopC 0 f (l.map φ) [] st) t) Q u := by
  unfold Bd
  rw [loopC_ifsL φ g b [] h (by simpa using hl)]; exact hk
theorem lC_mapLN {α γ : Type} {f : D → Sta → R (Option (D × Nat) × Sta)} {st : Sta} (φ : α → D) (g : α → D) {l : List α} {G : List D × Sta → R γ} {t : Tag G} {Q : γ → Prop} {u : PTg Q} (h : ∀ p ∈ l, f (φ p) st = .ok (some (g p, 0), st)) (hl : l.length ≤ 1000000) (hk : Ends (G (l.map g, st)) Q u) : Ends (Bd G (loopC 0 f (l.map φ) [] st) t) Q u := by
  unfold Bd
  rw [loopC_ofL φ g [] h (by simpa using hl)]; exact hk
/-- for, an end is looked for in the turn (by an equation) -/
theorem lF_atB2 {α γ : Type} {f : D → Sta → R (Fl × Sta)} (φ : α → D) (I : Nat → Sta → Prop) {l : List α} {st : Sta} {G : Fl × Sta → R γ} {t : Tag G} {r : R γ} (hs : ∀ i st p, l[i]? = some p → I i st → Ends (f (φ p) st) (fun c => c.1 = .nx ∧ I (i + 1) c.2) .mk) (hi : I 0 st)
    (hk : ∀ st', I l.length st' → G (.nx, st') = r) : Bd G (loopF f (l.map φ) st) t = r := by
  refine lF_atB φ I (fun i st p h1 h2 => ?_) hi hk
  obtain ⟨⟨c, st'⟩, e, e1, h'⟩ := hs i st p h1 h2
  simp only at e1
  subst e1
  exact ⟨st', e, h'⟩
/-- while -/
theorem loopW_N {c : Sta → R (Bool × Sta)} {f : Sta → R (Fl × Sta)} (I : Nat → Sta → Prop) (J : Sta → Prop)
    (hs : ∀ k st, I k st → (c st = .ok (false, st) ∧ J st) ∨ (c st = .ok (true, st) ∧ Ends (f st) (fun y => y.1 = .nx ∧ ∃ j, j < k ∧ I j y.2) .mk)) : ∀ (fu k : Nat) (st : Sta), k < fu → I k st → ∃ st', loopW c f fu st = .ok (.nx, st') ∧ J st'
  | 0, k, st, h, _ => by omega
  | fu + 1, k, st, h, i => by
    rcases hs k st i with ⟨e, j⟩ | ⟨e, ⟨⟨y, st2⟩, e2, e3, j, hj, i2⟩⟩
    · exact ⟨st, by simp only [loopW, e, R.bind]; rfl, j⟩
    · simp only at e3
      subst e3
      obtain ⟨st3, e4, j3⟩ := loopW_N I J hs fu j st2 (by omega) i2
      exact ⟨st3, by simp only [loopW, e, R.bind, e2, if_true]; exact e4, j3⟩
theorem lW_B {γ : Type} {c : Sta → R (Bool × Sta)} {f : Sta → R (Fl × Sta)} (I : Nat → Sta → Prop) (J : Sta → Prop) {fu k : Nat} {st : Sta} {G : Fl × Sta → R γ} {t : Tag G} {r : R γ} (hf : k < fu) (hi : I k st)
    (hs : ∀ k st, I k st → (c st = .ok (false, st) ∧ J st) ∨ (c st = .ok (true, st) ∧ Ends (f st) (fun y => y.1 = .nx ∧ ∃ j, j < k ∧ I j y.2) .mk))
    (hk : ∀ st', J st' → G (.nx, st') = r) : Bd G (loopW c f fu st) t = r := by
  obtain ⟨s, e, j⟩ := loopW_N I J hs fu k st hf hi
  unfold Bd
  rw [e]
  exact hk s j
theorem lW_E {γ : Type} {c : Sta → R (Bool × Sta)} {f : Sta → R (Fl × Sta)} (I : Nat → Sta → Prop) (J : Sta → Prop) {fu k : Nat} {st : Sta} {G : Fl × Sta → R γ} {t : Tag G} {Q : γ → Prop} {u : PTg Q} (hf : k < fu) (hi : I k st)
    (hs : ∀ k st, I k st → (c st = .ok (false, st) ∧ J st) ∨ (c st = .ok (true, st) ∧ Ends (f st) (fun y => y.1 = .nx ∧ ∃ j, j < k ∧ I j y.2) .mk))
    (hk : ∀ st', J st' → Ends (G (.nx, st')) Q u) : Ends (Bd G (loopW c f fu st) t) Q u := by
  obtain ⟨s, e, j⟩ := loopW_N I J hs fu k st hf hi
  unfold Bd
  rw [e]
  exact hk s j
theorem enumD_mapG {α : Type} (φ : α → D) : ∀ (r : List α) (n : Nat), enumD n (r.map φ) = (r.zipIdx n).map fun q => .tup [.int ((q.2 : Nat) : Int), φ q.1]
  | [], _ => rfl
  | x :: r, n => by simp only [List.map_cons, enumD, List.zipIdx_cons, enumD_mapG φ r (n + 1)]
theorem take_snoc {α : Type} {l : List α} {i : Nat} {p : α} (h : l[i]? = some p) : l.take (i + 1) = l.take i ++ [p] := by
  rw [List.take_add_one, h]; rfl
theorem lC_mapDN {α γ : Type} {f : D → Sta → R (Option (D × Nat) × Sta)} {st : Sta} (kk : Nat) (φ : α → D) (g : α → D) {l : List α} {G : List D × Sta → R γ} {t : Tag G} {Q : γ → Prop} {u : PTg Q} (h : ∀ p ∈ l, f (φ p) st = .ok (some (g p, kk), st)) (hl : l.length ≤ 1000) (hk : Ends (G (l.map g, st)) Q u) : Ends (Bd G (loopC kk f (l.map φ) [] st) t) Q u := by
  unfold Bd
  rw [loopC_ofD kk φ g [] h (by simpa using hl)]; exact hk
theorem stepL_map {α β : Type} (f : α → β) (l : List α) (k : Int) : stepL (l.map f) k = (stepL l k).map f := by
  unfold stepL
  rw [List.length_map, List.map_filterMap]
  congr 1
  funext i
  rw [List.getElem?_map]
theorem stepL_mem {α : Type} {l : List α} {k : Int} {x : α} (h : x ∈ stepL l k) : x ∈ l := by
  unfold stepL at h
  obtain ⟨i, _, e⟩ := List.mem_filterMap.mp h
  exact List.mem_of_getElem? e
end MP
end
-- SZ0
section
set_option maxRecDepth 100000
set_option maxHeartbeats 1000000
/-! plain words of rows, webs, sure parts -/
namespace MP

def SQ (t : Bool) (l : List Int) : D := if t then TI l else LI l
theorem SQt (l : List Int) : SQ true l = .tup (l.map .int) := rfl
theorem SQf (l : List Int) : SQ false l = .lst (l.map .int) := rfl
def pD (q : Int × Int) : D := .tup [.int q.1, .int q.2]
/-- a web's tree: w its class -/
def WA (p : Int) (A : List (Int × Int)) (c : D) : D := .ins 0 [.int p, .tup (A.map pD), c]
theorem eq_int (e : Nat → Nat) (i j : Int) : eqD e (.int i) (.int j) = some (decide (i = j)) := rfl
theorem eq_bl (a b : Bool) (e : Nat → Nat) : eqD e (.bl a) (.bl b) = some (a == b) := rfl
/-- a list of ints as many as p, small -/
structure Rw (p : Int) (r : List Int) : Prop where
  len : (r.length : Int) = p
  sm : ∀ x ∈ r, -1000 ≤ x ∧ x ≤ 1000
def in6 (x : Int) : Bool := decide (0 ≤ x) && decide (x ≤ 6)
def rowB (p : Int) (r : List Int) : Bool := decide ((r.length : Int) = p) && (r.all in6 && decide (r.sum ≤ 24))
theorem rowB_ok {p : Int} {r : List Int} (h : rowB p r = true) : (r.length : Int) = p ∧ r.all in6 = true ∧ r.sum ≤ 24 := by
  simp only [rowB, Bool.and_eq_true, decide_eq_true_eq] at h
  exact ⟨h.1, h.2.1, h.2.2⟩
theorem in6_ok {x : Int} (h : in6 x = true) : 0 ≤ x ∧ x ≤ 6 := by simpa [in6] using h
theorem rowB_Rw {p : Int} {r : List Int} (h : rowB p r = true) : Rw p r := by
  obtain ⟨h1, h2, _⟩ := rowB_ok h
  exact ⟨h1, fun x m => by have := in6_ok (List.all_eq_true.mp h2 x m); omega⟩
def arrOk (p : Int) (A : List (Int × Int)) : Bool := A.all fun q => decide (0 ≤ q.1) && (decide (q.1 < p) && (decide (0 ≤ q.2) && decide (q.2 < p)))
def formF (A : List (Int × Int)) (r o : List Int) : Int := ((r.zip o).map fun q => q.1 * q.2).sum - (A.map fun q => gt r q.1 * gt o q.2).sum
theorem gt_sm {p : Int} {r : List Int} (h : Rw p r) (i : Int) : small64 (gt r i) = true := by
  have : -1000 ≤ gt r i ∧ gt r i ≤ 1000 := by
    unfold gt
    rw [List.getD_eq_getElem?_getD]
    cases e : r[i.toNat]? with
    | none => simp
    | some x => exact h.sm x (List.mem_of_getElem? e)
  exact sm this
def lessR (r o : List Int) : List Int := (r.zip o).map fun q => q.1 - q.2
/-- 0 .. x -/
def upTo (x : Int) : List Int := (List.range (x + 1).toNat).map fun (i : Nat) => (i : Int)
def stepBl (found : List (List Int)) (x : Int) : List (List Int) := found.flatMap fun low => (upTo x).map fun s => low ++ [s]
def belowP (r : List Int) : List (List Int) := r.foldl stepBl [[]]
theorem belowP_take {r : List Int} {i : Nat} {x : Int} (h : r[i]? = some x) : belowP (r.take (i + 1)) = stepBl (belowP (r.take i)) x := by
  have : r.take (i + 1) = r.take i ++ [x] := by
    rw [List.take_add_one, h]; rfl
  rw [this]
  simp [belowP]
theorem stepBl_len (found : List (List Int)) (x : Int) : (stepBl found x).length = found.length * (x + 1).toNat := by
  induction found with
  | nil => simp [stepBl]
  | cons a l ih =>
    simp only [stepBl, List.flatMap_cons, List.length_append] at ih ⊢
    rw [ih]
    simp [upTo, Nat.add_mul, Nat.add_comm]
theorem stepBl_app (a b : List (List Int)) (x : Int) : stepBl (a ++ b) x = stepBl a x ++ stepBl b x := by simp [stepBl]
theorem stepBl_one (l : List Int) (x : Int) : stepBl [l] x = (upTo x).map fun s => l ++ [s] := by simp [stepBl]
abbrev Bk := List (List Int × List (List Int))
def getB : Bk → List Int → Option (List (List Int))
  | [], _ => none
  | q :: B, k => if q.1 = k then some q.2 else getB B k
def Bk.ks (B : Bk) : List (List Int) := B.map (·.1)
def Bk.vs (B : Bk) : List D := B.map fun q => .lst (q.2.map TI)
theorem getB_ok (k : List Int) : ∀ B : Bk, getK B.ks B.vs k = (getB B k).map fun l => .lst (l.map TI)
  | [] => rfl
  | q :: B => by
    have ih := getB_ok k B
    simp only [Bk.ks, Bk.vs] at ih
    simp only [Bk.ks, Bk.vs, List.map_cons, getK, getB]
    split
    · rfl
    · exact ih
def bars0 (A : List (Int × Int)) (ps : List (List Int)) (rest : List Int) : Bool := ps.all fun o => decide (0 ≤ formF A o rest)
def sureP (A : List (Int × Int)) (B : Bk) (w q : List Int) : Option Bool := if q = w then some true else (getB B q).map fun ps => bars0 A ps (lessR w q)
def partsP (A : List (Int × Int)) (B : Bk) (w : List Int) : List (List Int) → Option (List (List Int))
  | [] => some []
  | q :: qs => match sureP A B w q, partsP A B w qs with
    | some b, some r => some (if b then q :: r else r)
    | _, _ => none
def bookP (A : List (Int × Int)) : List (List Int) → Bk → Option Bk
  | [], B => some B
  | w :: ws, B => match getB B w, partsP A B w (belowP w) with
    | none, some ps => bookP A ws (B ++ [(w, ps)])
    | _, _ => none
end MP
namespace MP
theorem rng0 {n : Nat} (h : n ≤ 1000) : rngD 0 (n : Int) n = some ((List.range n).map fun (i : Nat) => .int ((i : Nat) : Int)) := by
  unfold rngD
  rw [if_pos ⟨by decide, by decide, by omega, by omega, n_lim h⟩]
  simp
theorem rngU {x : Int} (h : -1000 ≤ x ∧ x ≤ 900) : rngD 0 (x + 1) (x + 1).toNat = some ((upTo x).map .int) := by
  unfold rngD
  rw [if_pos ⟨by decide, by decide, by omega, by omega, n_lim (by omega)⟩]
  simp [upTo, Function.comp_def]
theorem upTo_len (x : Int) : (upTo x).length = (x + 1).toNat := by simp [upTo]
end MP
namespace MP
theorem belowP_mem {r : List Int} : ∀ {q : List Int}, q ∈ belowP r → q.length = r.length := by
  have : ∀ (r : List Int) (f : List (List Int)) (n : Nat), (∀ q ∈ f, q.length = n) → ∀ q ∈ r.foldl stepBl f, q.length = n + r.length := by
    intro r
    induction r with
    | nil => intro f n h q m; simpa using h q m
    | cons x r ih =>
      intro f n h q m
      have := ih (stepBl f x) (n + 1) (fun q m => by
        simp only [stepBl, List.mem_flatMap, List.mem_map] at m
        obtain ⟨l, hl, s, _, rfl⟩ := m
        simp [h l hl]) q (by simpa using m)
      simp only [List.length_cons]; omega
  intro q m
  simpa using this r [[]] 0 (by simp) q m
theorem stepBl_take {f : List (List Int)} {i : Nat} {q : List Int} {x : Int} (h : f[i]? = some q) : stepBl (f.take (i + 1)) x = stepBl (f.take i) x ++ (upTo x).map fun s => q ++ [s] := by
  rw [List.take_add_one, h]
  simp [stepBl_app, stepBl_one]
theorem stepBl_le (f : List (List Int)) (i : Nat) (x : Int) : (stepBl (f.take i) x).length ≤ (stepBl f x).length := by
  rw [stepBl_len, stepBl_len]
  exact Nat.mul_le_mul_right _ (by simp; omega)
end MP
namespace MP
/-! what is alike -/
def gd (k : Nat) (d : D) : Prop := PySem.PyData.canLay0 (toPy d) = true ∧ (toPy d).depth ≤ k
theorem gds {k : Nat} : ∀ {xs : List D}, (∀ x ∈ xs, gd k x) → PySem.PyData.canLayAll0 (toPys xs) = true ∧ PySem.PyData.depthAll (toPys xs) ≤ k
  | [], _ => ⟨rfl, Nat.zero_le _⟩
  | x :: xs, h => by
    obtain ⟨a, b⟩ := gds (xs := xs) fun y m => h y (List.mem_cons_of_mem _ m)
    obtain ⟨c, d⟩ := h x (List.mem_cons_self ..)
    simp only [toPys, PySem.PyData.canLayAll0, PySem.PyData.depthAll, a, c, Bool.and_self, true_and]
    omega
theorem gd_tup {k : Nat} {xs : List D} (h : ∀ x ∈ xs, gd k x) : gd (k + 1) (.tup xs) := by
  obtain ⟨a, b⟩ := gds h
  exact ⟨by simpa only [toPy, PySem.PyData.canLay0] using a, by simp only [toPy, PySem.PyData.depth]; omega⟩
theorem gd_lst {k : Nat} {xs : List D} (h : ∀ x ∈ xs, gd k x) : gd (k + 1) (.lst xs) := by
  obtain ⟨a, b⟩ := gds h
  exact ⟨by simpa only [toPy, PySem.PyData.canLay0] using a, by simp only [toPy, PySem.PyData.depth]; omega⟩
theorem gd_int (i : Int) : gd 2 (.int i) := ⟨rfl, by show _ ≤ _; simp [toPy, PySem.PyData.depth]⟩
theorem gd_ints {l : List Int} : ∀ x ∈ l.map D.int, gd 2 x := fun x m => by
  obtain ⟨i, _, rfl⟩ := List.mem_map.mp m
  exact gd_int i
theorem gd_TI (l : List Int) : gd 3 (TI l) := gd_tup gd_ints
theorem gd_LI (l : List Int) : gd 3 (LI l) := gd_lst gd_ints
theorem gd_map {α : Type} {k : Nat} {φ : α → D} (h : ∀ a, gd k (φ a)) (l : List α) : gd (k + 1) (.lst (l.map φ)) := gd_lst fun x m => by
  obtain ⟨i, _, rfl⟩ := List.mem_map.mp m
  exact h i
theorem gd_mapT {α : Type} {k : Nat} {φ : α → D} (h : ∀ a, gd k (φ a)) (l : List α) : gd (k + 1) (.tup (l.map φ)) := gd_tup fun x m => by
  obtain ⟨i, _, rfl⟩ := List.mem_map.mp m
  exact h i
theorem eq_shaped {k l : Nat} {x y : D} (hx : gd k x) (hy : gd l y) (hk : k ≤ 64) (hl : l ≤ 64) (e : Nat → Nat) : eqD e x y = some (PySem.PyData.eqv (toPy x) (toPy y)) := by
  have h1 : PySem.SeqAt.shaped (toPy x) = true := by simp only [PySem.SeqAt.shaped, Bool.and_eq_true, decide_eq_true_eq]; exact ⟨hx.1, Nat.le_trans hx.2 hk⟩
  have h2 : PySem.SeqAt.shaped (toPy y) = true := by simp only [PySem.SeqAt.shaped, Bool.and_eq_true, decide_eq_true_eq]; exact ⟨hy.1, Nat.le_trans hy.2 hl⟩
  simp only [eqD, h1, h2, Bool.and_self, if_true]
theorem eqv_int (i j : Int) : PySem.PyData.eqv (.int i) (.int j) = decide (i = j) := rfl
/-- lists of like things -/
theorem eqvAll_map {α : Type} [DecidableEq α] {φ : α → D} (h : ∀ a b, PySem.PyData.eqv (toPy (φ a)) (toPy (φ b)) = decide (a = b)) : ∀ l k : List α, PySem.PyData.eqvAll (toPys (l.map φ)) (toPys (k.map φ)) = decide (l = k)
  | [], [] => rfl
  | [], _ :: _ => rfl
  | _ :: _, [] => rfl
  | a :: l, b :: k => by
    simp only [List.map_cons, toPys, PySem.PyData.eqvAll, h, eqvAll_map h l k]
    by_cases e : a = b <;> by_cases e2 : l = k <;> simp [e, e2]
theorem eqv_TI (a b : List Int) : PySem.PyData.eqv (toPy (TI a)) (toPy (TI b)) = decide (a = b) := by
  show PySem.PyData.eqvAll (toPys (a.map .int)) (toPys (b.map .int)) = _
  exact eqvAll_map (fun a b => rfl) a b
theorem eqv_LI (a b : List Int) : PySem.PyData.eqv (toPy (LI a)) (toPy (LI b)) = decide (a = b) := by
  show PySem.PyData.eqvAll (toPys (a.map .int)) (toPys (b.map .int)) = _
  exact eqvAll_map (fun a b => rfl) a b
theorem eq_TI (e : Nat → Nat) (a b : List Int) : eqD e (.tup (a.map .int)) (.tup (b.map .int)) = some (decide (a = b)) := by
  have := eq_shaped (gd_TI a) (gd_TI b) (by decide) (by decide) e
  rw [eqv_TI] at this
  exact this
theorem eq_LI (e : Nat → Nat) (a b : List Int) : eqD e (.lst (a.map .int)) (.lst (b.map .int)) = some (decide (a = b)) := by
  have := eq_shaped (gd_LI a) (gd_LI b) (by decide) (by decide) e
  rw [eqv_LI] at this
  exact this
theorem eq_LTI (e : Nat → Nat) (a b : List (List Int)) : eqD e (.lst (a.map TI)) (.lst (b.map TI)) = some (decide (a = b)) := by
  rw [eq_shaped (gd_map gd_TI a) (gd_map gd_TI b) (by decide) (by decide) e]
  show some (PySem.PyData.eqvAll (toPys (a.map TI)) (toPys (b.map TI))) = _
  rw [eqvAll_map eqv_TI]
theorem eq_LTI0 (e : Nat → Nat) (a : List (List Int)) : eqD e (.lst (a.map TI)) (.lst []) = some (decide (a = [])) := eq_LTI e a []
/-! the book, row by row -/
theorem partsP_snoc {A : List (Int × Int)} {B : Bk} {w q : List Int} : ∀ {l : List (List Int)}, partsP A B w (l ++ [q]) = match partsP A B w l, sureP A B w q with
    | some r, some b => some (if b then r ++ [q] else r)
    | _, _ => none
  | [] => by
    simp only [List.nil_append, partsP]
    cases sureP A B w q with
    | none => rfl
    | some b => cases b <;> rfl
  | a :: l => by
    simp only [List.cons_append, partsP, partsP_snoc (l := l)]
    cases sureP A B w a with
    | none => cases partsP A B w l <;> rfl
    | some b =>
      cases partsP A B w l with
      | none => rfl
      | some r =>
        cases sureP A B w q with
        | none => rfl
        | some c => cases b <;> cases c <;> rfl
theorem partsP_take {A : List (Int × Int)} {B : Bk} {w : List Int} {l ps : List (List Int)} (h : partsP A B w l = some ps) : ∀ i, ∃ acc, partsP A B w (l.take i) = some acc ∧ ∀ q, l[i]? = some q → ∃ b, sureP A B w q = some b ∧ partsP A B w (l.take (i + 1)) = some (if b then acc ++ [q] else acc) := by
  have pre : ∀ (l k : List (List Int)) ps, partsP A B w (l ++ k) = some ps → ∃ acc, partsP A B w l = some acc := by
    intro l k
    induction k generalizing l with
    | nil => intro ps h; exact ⟨ps, by simpa using h⟩
    | cons a k ih =>
      intro ps h
      obtain ⟨acc, e⟩ := ih (l ++ [a]) ps (by simpa using h)
      rw [partsP_snoc] at e
      cases e2 : partsP A B w l with
      | none => rw [e2] at e; cases e
      | some acc => exact ⟨acc, rfl⟩
  intro i
  obtain ⟨acc, e⟩ := pre (l.take i) (l.drop i) ps (by rw [List.take_append_drop]; exact h)
  refine ⟨acc, e, fun q hq => ?_⟩
  obtain ⟨acc2, e2⟩ := pre (l.take (i + 1)) (l.drop (i + 1)) ps (by rw [List.take_append_drop]; exact h)
  have et : l.take (i + 1) = l.take i ++ [q] := by rw [List.take_add_one, hq]; rfl
  rw [et, partsP_snoc, e] at e2
  cases e3 : sureP A B w q with
  | none => rw [e3] at e2; cases e2
  | some b => exact ⟨b, rfl, by rw [et, partsP_snoc, e, e3]⟩
theorem bookP_app {A : List (Int × Int)} {k : List (List Int)} : ∀ {l : List (List Int)} {B : Bk}, bookP A (l ++ k) B = (bookP A l B).bind (bookP A k)
  | [], B => rfl
  | a :: l, B => by
    simp only [List.cons_append, bookP]
    cases getB B a with
    | some _ => rfl
    | none =>
      cases partsP A B a (belowP a) with
      | none => rfl
      | some ps => exact bookP_app
theorem bookP_take {A : List (Int × Int)} {l : List (List Int)} {B B0 : Bk} (h : bookP A l B0 = some B) (i : Nat) : ∃ Bi, bookP A (l.take i) B0 = some Bi ∧ ∀ w, l[i]? = some w → getB Bi w = none ∧ ∃ ps, partsP A Bi w (belowP w) = some ps ∧ bookP A (l.take (i + 1)) B0 = some (Bi ++ [(w, ps)]) := by
  have e := h
  rw [← List.take_append_drop i l, bookP_app] at e
  cases e1 : bookP A (l.take i) B0 with
  | none => rw [e1] at e; cases e
  | some Bi =>
    rw [e1] at e
    refine ⟨Bi, rfl, fun w hw => ?_⟩
    have et : l.take (i + 1) = l.take i ++ [w] := by rw [List.take_add_one, hw]; rfl
    have ed : l.drop i = w :: l.drop (i + 1) := by
      obtain ⟨hi, e2⟩ := List.getElem?_eq_some_iff.mp hw
      rw [List.drop_eq_getElem_cons hi, e2]
    rw [ed] at e
    simp only [Option.bind_some, bookP] at e
    rw [et, bookP_app, e1]
    simp only [Option.bind_some, bookP]
    cases e2 : getB Bi w with
    | some _ => rw [e2] at e; cases e
    | none =>
      rw [e2] at e
      cases e3 : partsP A Bi w (belowP w) with
      | none => rw [e3] at e; cases e
      | some ps => exact ⟨rfl, ps, rfl, rfl⟩
theorem bookP_len {A : List (Int × Int)} : ∀ {l : List (List Int)} {B B0 : Bk}, bookP A l B0 = some B → B.length = B0.length + l.length
  | [], B, B0, h => by cases h; rfl
  | a :: l, B, B0, h => by
    simp only [bookP] at h
    cases e2 : getB B0 a with
    | some _ => rw [e2] at h; cases h
    | none =>
      rw [e2] at h
      cases e3 : partsP A B0 a (belowP a) with
      | none => rw [e3] at h; cases h
      | some ps =>
        rw [e3] at h
        have := bookP_len h
        simp at this ⊢
        omega
theorem Bk.ks_len (B : Bk) : B.ks.length = B.length := by simp [Bk.ks]
theorem Bk.vs_len (B : Bk) : B.vs.length = B.length := by simp [Bk.vs]
theorem Bk.ks_app (B C : Bk) : (B ++ C : Bk).ks = B.ks ++ C.ks := by simp [Bk.ks]
theorem Bk.vs_app (B C : Bk) : (B ++ C : Bk).vs = B.vs ++ C.vs := by simp [Bk.vs]
end MP
namespace MP
/-- q is at most r -/
def leR : List Int → List Int → Prop
  | [], [] => True
  | x :: q, y :: r => 0 ≤ x ∧ x ≤ y ∧ leR q r
  | _, _ => False
theorem leR_snoc {s x : Int} (h : 0 ≤ s ∧ s ≤ x) : ∀ {q r : List Int}, leR q r → leR (q ++ [s]) (r ++ [x])
  | [], [], _ => ⟨h.1, h.2, trivial⟩
  | _ :: _, _ :: _, ⟨a, b, c⟩ => ⟨a, b, leR_snoc h c⟩
  | [], _ :: _, e => e.elim
  | _ :: _, [], e => e.elim
theorem belowP_le {r : List Int} : ∀ {q : List Int}, q ∈ belowP r → leR q r := by
  have : ∀ (r : List Int) (f : List (List Int)) (r0 : List Int), (∀ q ∈ f, leR q r0) → ∀ q ∈ r.foldl stepBl f, leR q (r0 ++ r) := by
    intro r
    induction r with
    | nil => intro f n h q m; simpa using h q m
    | cons x r ih =>
      intro f n h q m
      have := ih (stepBl f x) (n ++ [x]) (fun q m => by
        simp only [stepBl, List.mem_flatMap, List.mem_map] at m
        obtain ⟨l, hl, s, hs, rfl⟩ := m
        refine leR_snoc ?_ (h l hl)
        simp only [upTo, List.mem_map, List.mem_range] at hs
        obtain ⟨i, hi, rfl⟩ := hs
        omega) q (by simpa using m)
      simpa using this
  intro q m
  have := this r [[]] [] (by simp [leR]) q m
  simpa using this
def prodN : List Int → Nat
  | [] => 1
  | x :: r => (x + 1).toNat * prodN r
theorem belowP_len (r : List Int) : (belowP r).length = prodN r := by
  have : ∀ (r : List Int) (f : List (List Int)), (r.foldl stepBl f).length = f.length * prodN r := by
    intro r
    induction r with
    | nil => intro f; simp [prodN]
    | cons x r ih => intro f; rw [List.foldl_cons, ih, stepBl_len, prodN, Nat.mul_assoc]
  have := this r [[]]
  rw [List.length_singleton, Nat.one_mul] at this
  exact this
theorem leR_prod : ∀ {q r : List Int}, leR q r → prodN q ≤ prodN r
  | [], [], _ => Nat.le_refl _
  | x :: q, y :: r, ⟨a, b, c⟩ => Nat.mul_le_mul (by omega) (leR_prod c)
  | [], _ :: _, e => e.elim
  | _ :: _, [], e => e.elim
theorem prod_pos : ∀ {r : List Int}, (∀ x ∈ r, 0 ≤ x) → 1 ≤ prodN r
  | [], _ => Nat.le_refl _
  | x :: r, h => by
    have h1 := prod_pos (r := r) fun y m => h y (List.mem_cons_of_mem _ m)
    have h2 := h x (List.mem_cons_self ..)
    have : 1 ≤ (x + 1).toNat := by omega
    exact Nat.mul_le_mul this h1
theorem take_prod : ∀ {r : List Int} (i : Nat), (∀ x ∈ r, 0 ≤ x) → prodN (r.take i) ≤ prodN r
  | [], i, _ => by simp [prodN]
  | x :: r, 0, h => prod_pos h
  | x :: r, i + 1, h => Nat.mul_le_mul_left _ (take_prod i fun y m => h y (List.mem_cons_of_mem _ m))
theorem leR_len : ∀ {q r : List Int}, leR q r → q.length = r.length
  | [], [], _ => rfl
  | x :: q, y :: r, ⟨a, b, c⟩ => by simp [leR_len c]
  | [], _ :: _, e => e.elim
  | _ :: _, [], e => e.elim
theorem leR_mem : ∀ {q r : List Int}, leR q r → ∀ x ∈ q, 0 ≤ x ∧ ∃ y ∈ r, x ≤ y
  | [], [], _, x, m => by cases m
  | x :: q, y :: r, ⟨a, b, c⟩, z, m => by
    rcases List.mem_cons.mp m with rfl | m
    · exact ⟨a, y, List.mem_cons_self .., b⟩
    · obtain ⟨h1, w, h2, h3⟩ := leR_mem c z m
      exact ⟨h1, w, List.mem_cons_of_mem _ h2, h3⟩
  | [], _ :: _, e, _, _ => e.elim
  | _ :: _, [], e, _, _ => e.elim
/-- rows with few rows below them -/
structure Bw (r : List Int) : Prop where
  len : r.length ≤ 100
  sz : ∀ x ∈ r, 0 ≤ x ∧ x ≤ 400
  cnt : prodN r ≤ 900
theorem Bw.few {r : List Int} (h : Bw r) (i : Nat) : (belowP (r.take i)).length ≤ 900 := by
  rw [belowP_len]
  exact Nat.le_trans (take_prod i fun x m => (h.sz x m).1) h.cnt
theorem Bw.all {r : List Int} (h : Bw r) : (belowP r).length ≤ 900 := by rw [belowP_len]; exact h.cnt
theorem Bw.below {r q : List Int} (h : Bw r) (m : q ∈ belowP r) : Bw q := by
  have l := belowP_le m
  refine ⟨by rw [leR_len l]; exact h.len, fun x mx => ?_, Nat.le_trans (leR_prod l) h.cnt⟩
  obtain ⟨h1, y, my, h2⟩ := leR_mem l x mx
  have := h.sz y my
  omega
theorem Bw.rw {r : List Int} (h : Bw r) {p : Int} (hp : (r.length : Int) = p) : Rw p r := ⟨hp, fun x m => by have := h.sz x m; omega⟩
theorem Bw.less {r q : List Int} (h : Bw r) (m : q ∈ belowP r) {p : Int} (hp : (r.length : Int) = p) : Rw p (lessR r q) := by
  refine ⟨by rw [lessR, List.length_map, List.length_zip, belowP_mem m, Nat.min_self]; exact hp, fun x mx => ?_⟩
  simp only [lessR, List.mem_map] at mx
  obtain ⟨⟨a, b⟩, mz, rfl⟩ := mx
  have h1 := h.sz a (List.of_mem_zip mz).1
  have h2 := (h.below m).sz b (List.of_mem_zip mz).2
  simp only
  omega
theorem partsP_len {A : List (Int × Int)} {B : Bk} {w : List Int} : ∀ {l ps : List (List Int)}, partsP A B w l = some ps → ps.length ≤ l.length
  | [], ps, h => by cases h; simp
  | a :: l, ps, h => by
    simp only [partsP] at h
    cases e1 : sureP A B w a with
    | none => rw [e1] at h; cases h
    | some b =>
      cases e2 : partsP A B w l with
      | none => rw [e1, e2] at h; cases h
      | some r =>
        rw [e1, e2] at h
        have := partsP_len e2
        cases b <;> cases h <;> simp <;> omega
/-- the parts in a book are rows -/
def Bk.Rws (p : Int) (B : Bk) : Prop := ∀ k l, getB B k = some l → l.length ≤ 900 ∧ ∀ o ∈ l, Rw p o
theorem getB_snoc {B : Bk} {w : List Int} {ps : List (List Int)} {k : List Int} {l : List (List Int)} (h : getB (B ++ [(w, ps)]) k = some l) : getB B k = some l ∨ l = ps := by
  induction B with
  | nil =>
    simp only [List.nil_append, getB] at h
    split at h
    · exact .inr (Option.some.inj h).symm
    · cases h
  | cons q B ih =>
    simp only [List.cons_append, getB] at h ⊢
    split at h
    · rename_i e; rw [if_pos e]; exact .inl h
    · rename_i e; rw [if_neg e]; exact ih h
theorem partsP_sub {A : List (Int × Int)} {B : Bk} {w : List Int} : ∀ {l ps : List (List Int)}, partsP A B w l = some ps → ∀ q ∈ ps, q ∈ l
  | [], ps, h, q, m => by cases h; cases m
  | a :: l, ps, h, q, m => by
    simp only [partsP] at h
    cases e1 : sureP A B w a with
    | none => rw [e1] at h; cases h
    | some b =>
      cases e2 : partsP A B w l with
      | none => rw [e1, e2] at h; cases h
      | some r =>
        rw [e1, e2] at h
        cases b
        · cases h; exact List.mem_cons_of_mem _ (partsP_sub e2 q m)
        · cases h
          rcases List.mem_cons.mp m with rfl | m
          · exact List.mem_cons_self ..
          · exact List.mem_cons_of_mem _ (partsP_sub e2 q m)
theorem bookP_rws {A : List (Int × Int)} {p : Int} : ∀ {l : List (List Int)} {B B0 : Bk}, (∀ w ∈ l, Bw w ∧ (w.length : Int) = p) → B0.Rws p → bookP A l B0 = some B → B.Rws p
  | [], B, B0, _, h0, h => by cases h; exact h0
  | a :: l, B, B0, hl, h0, h => by
    simp only [bookP] at h
    cases e2 : getB B0 a with
    | some _ => rw [e2] at h; cases h
    | none =>
      rw [e2] at h
      cases e3 : partsP A B0 a (belowP a) with
      | none => rw [e3] at h; cases h
      | some ps =>
        rw [e3] at h
        obtain ⟨b, lp⟩ := hl a (List.mem_cons_self ..)
        refine bookP_rws (fun w m => hl w (List.mem_cons_of_mem _ m)) (fun k l' hk => ?_) h
        rcases getB_snoc hk with z | rfl
        · exact h0 k l' z
        · refine ⟨Nat.le_trans (partsP_len e3) b.all, fun o mo => ?_⟩
          have mb := partsP_sub e3 o mo
          exact (b.below mb).rw (by rw [belowP_mem mb]; exact lp)
end MP
namespace MP
theorem getB_snoc2 {B : Bk} {w : List Int} {ps : List (List Int)} {k : List Int} {l : List (List Int)} (h : getB (B ++ [(w, ps)]) k = some l) : getB B k = some l ∨ (l = ps ∧ k = w) := by
  induction B with
  | nil =>
    simp only [List.nil_append, getB] at h
    split at h
    · rename_i e; exact .inr ⟨(Option.some.inj h).symm, e.symm⟩
    · cases h
  | cons q B ih =>
    simp only [List.cons_append, getB] at h ⊢
    split at h
    · rename_i e; rw [if_pos e]; exact .inl h
    · rename_i e; rw [if_neg e]; exact ih h
theorem bookP_sub {A : List (Int × Int)} : ∀ {l : List (List Int)} {B B0 : Bk}, (∀ k ps, getB B0 k = some ps → ∀ o ∈ ps, o ∈ belowP k) → bookP A l B0 = some B → ∀ k ps, getB B k = some ps → ∀ o ∈ ps, o ∈ belowP k
  | [], B, B0, h0, h => by cases h; exact h0
  | a :: l, B, B0, h0, h => by
    simp only [bookP] at h
    cases e2 : getB B0 a with
    | some _ => rw [e2] at h; cases h
    | none =>
      rw [e2] at h
      cases e3 : partsP A B0 a (belowP a) with
      | none => rw [e3] at h; cases h
      | some ps =>
        rw [e3] at h
        refine bookP_sub (fun k l' hk o mo => ?_) h
        rcases getB_snoc2 hk with z | ⟨rfl, rfl⟩
        · exact h0 k l' z o mo
        · exact partsP_sub e3 o mo
end MP
end
-- SX1
section
set_option maxRecDepth 100000
set_option maxHeartbeats 1000000
namespace K18
open MP
theorem pgm (c m : Nat) : pg.meth c m = m := rfl
theorem k_isint (fu n : Nat) (i : Int) (μ) : run pg fu (n + 1) 0 [(.int i, 0)] μ = .ok ((.bl true, 0), μ) := rfl
theorem k_cnt (fu n : Nat) (i : Int) (μ) : run pg fu (n + 2) 1 [(.int i, 0)] μ = .ok ((.bl (decide (0 ≤ i)), 0), μ) := rfl
theorem k_islist (fu n : Nat) (t : Bool) (l : List Int) (μ) : run pg fu (n + 1) 2 [(SQ t l, 0)] μ = .ok ((.bl true, 0), μ) := by cases t <;> rfl
theorem k_places (fu n : Nat) (p : Int) (A c μ) : run pg fu (n + 1) 33 [(WA p A c, 0)] μ = .ok ((.int p, 0), μ) := rfl
theorem k_arrows (fu n : Nat) (p : Int) (A c μ) : run pg fu (n + 1) 35 [(WA p A c, 0)] μ = .ok ((.lst (A.map pD), 0), μ) := rfl
theorem k_wweb (fu n : Nat) (p : Int) (A c μ) : run pg fu (n + 2) 10 [(WA p A c, 0)] μ = .ok ((WA p A c, 0), μ) := rfl
theorem k_rowof (fu n : Nat) (p : Int) (A c) (t : Bool) (r : List Int) (hp : p ≤ 100) (h : rowB p r = true) (μ) : run pg fu (n + 3) 12 [(WA p A c, 0), (SQ t r, 0)] μ = .ok ((.bl true, 0), μ) := by
  obtain ⟨h1, h2, h3⟩ := rowB_ok h
  have q1 := k_islist fu (n + 1) t r μ
  have q2 := k_places fu (n + 1) p A c μ
  have h2' : (r.map in6).all id = true := by simpa using h2
  simp only [LI, WA] at q1 q2
  rw [run_s (show pg.fns[12]? = some f_is_row_of from rfl) rfl (by decide)]
  cases t
  all_goals
    simp only [SQt, SQf] at q1
    simp -implicitDefEqProofs -dsimp [f_is_row_of, execs, exec, ev, evs, args, ↓toBd, bkd, basd, oS, bool1, arg1, vals, pm10, pm210, pm0, after, lent, endF, opd, g_get, g_put, Sta.low, Sta.shr, Pg.cfg, cmpD, Od.val, Od.share, Od.own, Sta.wipe, TI, LI, WA, SQt, SQf, evI, seqD, zipD, Sta.froz, Sta.back, frz1, stSs, stS, tgs, tgss, lF0, lF1, nav, toInts, toInt, asT, asTs, b1D, b2D, binD, flatK, cnd, prt, tyD, negD, at0, isD, mtD, okM, fits, pgm, MP.eq_int, MP.eq_bl, lim1, lim2, lim3, lim4, lim5, lim6, lim7, lim8, lim9, lim10, lim11, lim12, lim13, lim14, lim15, lim16, lim17, lim18, lim19, lim20, lim21, lim22, lim23, lim24, lim0', lim1', lim2', lim3', q1, q2, h1]
    refine lC_map .int (fun x => .bl (in6 x)) ?_ ?_ ?_
    · intro x m
      simp -implicitDefEqProofs -dsimp [f_is_row_of, execs, exec, ev, evs, args, ↓toBd, bkd, basd, oS, bool1, arg1, vals, pm10, pm210, pm0, after, lent, endF, opd, g_get, g_put, Sta.low, Sta.shr, Pg.cfg, cmpD, Od.val, Od.share, Od.own, Sta.wipe, TI, LI, WA, SQt, SQf, evI, seqD, zipD, Sta.froz, Sta.back, frz1, stSs, stS, tgs, tgss, lF0, lF1, nav, toInts, toInt, asT, asTs, b1D, b2D, binD, flatK, cnd, prt, tyD, negD, at0, isD, mtD, okM, fits, pgm, MP.eq_int, MP.eq_bl, lim1, lim2, lim3, lim4, lim5, lim6, lim7, lim8, lim9, lim10, lim11, lim12, lim13, lim14, lim15, lim16, lim17, lim18, lim19, lim20, lim21, lim22, lim23, lim24, lim0', lim1', lim2', lim3', k_cnt, in6]
      by_cases h0 : 0 ≤ x
      · simp -implicitDefEqProofs -dsimp [f_is_row_of, execs, exec, ev, evs, args, ↓toBd, bkd, basd, oS, bool1, arg1, vals, pm10, pm210, pm0, after, lent, endF, opd, g_get, g_put, Sta.low, Sta.shr, Pg.cfg, cmpD, Od.val, Od.share, Od.own, Sta.wipe, TI, LI, WA, SQt, SQf, evI, seqD, zipD, Sta.froz, Sta.back, frz1, stSs, stS, tgs, tgss, lF0, lF1, nav, toInts, toInt, asT, asTs, b1D, b2D, binD, flatK, cnd, prt, tyD, negD, at0, isD, mtD, okM, fits, pgm, MP.eq_int, MP.eq_bl, lim1, lim2, lim3, lim4, lim5, lim6, lim7, lim8, lim9, lim10, lim11, lim12, lim13, lim14, lim15, lim16, lim17, lim18, lim19, lim20, lim21, lim22, lim23, lim24, lim0', lim1', lim2', lim3', h0]
      · simp -implicitDefEqProofs -dsimp [f_is_row_of, execs, exec, ev, evs, args, ↓toBd, bkd, basd, oS, bool1, arg1, vals, pm10, pm210, pm0, after, lent, endF, opd, g_get, g_put, Sta.low, Sta.shr, Pg.cfg, cmpD, Od.val, Od.share, Od.own, Sta.wipe, TI, LI, WA, SQt, SQf, evI, seqD, zipD, Sta.froz, Sta.back, frz1, stSs, stS, tgs, tgss, lF0, lF1, nav, toInts, toInt, asT, asTs, b1D, b2D, binD, flatK, cnd, prt, tyD, negD, at0, isD, mtD, okM, fits, pgm, MP.eq_int, MP.eq_bl, lim1, lim2, lim3, lim4, lim5, lim6, lim7, lim8, lim9, lim10, lim11, lim12, lim13, lim14, lim15, lim16, lim17, lim18, lim19, lim20, lim21, lim22, lim23, lim24, lim0', lim1', lim2', lim3', h0]
    · omega
    simp -implicitDefEqProofs -dsimp [f_is_row_of, execs, exec, ev, evs, args, ↓toBd, bkd, basd, oS, bool1, arg1, vals, pm10, pm210, pm0, after, lent, endF, opd, g_get, g_put, Sta.low, Sta.shr, Pg.cfg, cmpD, Od.val, Od.share, Od.own, Sta.wipe, TI, LI, WA, SQt, SQf, evI, seqD, zipD, Sta.froz, Sta.back, frz1, stSs, stS, tgs, tgss, lF0, lF1, nav, toInts, toInt, asT, asTs, b1D, b2D, binD, flatK, cnd, prt, tyD, negD, at0, isD, mtD, okM, fits, pgm, MP.eq_int, MP.eq_bl, lim1, lim2, lim3, lim4, lim5, lim6, lim7, lim8, lim9, lim10, lim11, lim12, lim13, lim14, lim15, lim16, lim17, lim18, lim19, lim20, lim21, lim22, lim23, lim24, lim0', lim1', lim2', lim3', toBls_map, h2', toInts_map, h3]
theorem k_wrow (fu n : Nat) (p : Int) (A c) (t : Bool) (r : List Int) (hp : p ≤ 100) (h : rowB p r = true) (μ) : run pg fu (n + 4) 13 [(WA p A c, 0), (SQ t r, 0)] μ = .ok ((LI r, 0), μ) := by
  have q1 := k_rowof fu n p A c t r hp h μ
  simp only [LI, WA] at q1
  rw [run_s (show pg.fns[13]? = some f_want_row from rfl) rfl (by decide)]
  cases t
  all_goals
    simp only [SQt, SQf] at q1
    simp -implicitDefEqProofs -dsimp [f_want_row, execs, exec, ev, evs, args, ↓toBd, bkd, basd, oS, bool1, arg1, vals, pm10, pm210, pm0, after, lent, endF, opd, g_get, g_put, Sta.low, Sta.shr, Pg.cfg, cmpD, Od.val, Od.share, Od.own, Sta.wipe, TI, LI, WA, SQt, SQf, evI, seqD, zipD, Sta.froz, Sta.back, frz1, stSs, stS, tgs, tgss, lF0, lF1, nav, toInts, toInt, asT, asTs, b1D, b2D, binD, flatK, cnd, prt, tyD, negD, at0, isD, mtD, okM, fits, pgm, MP.eq_int, MP.eq_bl, lim1, lim2, lim3, lim4, lim5, lim6, lim7, lim8, lim9, lim10, lim11, lim12, lim13, lim14, lim15, lim16, lim17, lim18, lim19, lim20, lim21, lim22, lim23, lim24, lim0', lim1', lim2', lim3', q1]
theorem k_formof (fu n : Nat) (p : Int) (A c) (t1 t2 : Bool) (r o : List Int) (hp : p ≤ 100) (hA : arrOk p A = true) (hA2 : A.length ≤ 100) (h : Rw p r) (h' : Rw p o) (μ) : run pg fu (n + 2) 15 [(WA p A c, 0), (SQ t1 r, 0), (SQ t2 o, 0)] μ = .ok ((.int (formF A r o), 0), μ) := by
  have q1 := k_arrows fu n p A c μ
  have hl := h.len
  have hl' := h'.len
  simp only [LI, WA] at q1
  rw [run_s (show pg.fns[15]? = some f_form_of from rfl) rfl (by decide)]
  cases t1 <;> cases t2
  all_goals
    simp -implicitDefEqProofs -dsimp [f_form_of, execs, exec, ev, evs, args, ↓toBd, bkd, basd, oS, bool1, arg1, vals, pm10, pm210, pm0, after, lent, endF, opd, g_get, g_put, Sta.low, Sta.shr, Pg.cfg, cmpD, Od.val, Od.share, Od.own, Sta.wipe, TI, LI, WA, SQt, SQf, evI, seqD, zipD, Sta.froz, Sta.back, frz1, stSs, stS, tgs, tgss, lF0, lF1, nav, toInts, toInt, asT, asTs, b1D, b2D, binD, flatK, cnd, prt, tyD, negD, at0, isD, mtD, okM, fits, pgm, MP.eq_int, MP.eq_bl, lim1, lim2, lim3, lim4, lim5, lim6, lim7, lim8, lim9, lim10, lim11, lim12, lim13, lim14, lim15, lim16, lim17, lim18, lim19, lim20, lim21, lim22, lim23, lim24, lim0', lim1', lim2', lim3', zipD_map]
    refine lC_map (fun q : Int × Int => .tup [.int q.1, .int q.2]) (fun q => .int (q.1 * q.2)) ?_ ?_ ?_
    · intro q m
      have s1 : small64 q.1 = true := sm (h.sm _ (List.of_mem_zip m).1)
      simp -implicitDefEqProofs -dsimp [f_form_of, execs, exec, ev, evs, args, ↓toBd, bkd, basd, oS, bool1, arg1, vals, pm10, pm210, pm0, after, lent, endF, opd, g_get, g_put, Sta.low, Sta.shr, Pg.cfg, cmpD, Od.val, Od.share, Od.own, Sta.wipe, TI, LI, WA, SQt, SQf, evI, seqD, zipD, Sta.froz, Sta.back, frz1, stSs, stS, tgs, tgss, lF0, lF1, nav, toInts, toInt, asT, asTs, b1D, b2D, binD, flatK, cnd, prt, tyD, negD, at0, isD, mtD, okM, fits, pgm, MP.eq_int, MP.eq_bl, lim1, lim2, lim3, lim4, lim5, lim6, lim7, lim8, lim9, lim10, lim11, lim12, lim13, lim14, lim15, lim16, lim17, lim18, lim19, lim20, lim21, lim22, lim23, lim24, lim0', lim1', lim2', lim3', s1]
    · rw [List.length_zip]; omega
    simp -implicitDefEqProofs -dsimp [f_form_of, execs, exec, ev, evs, args, ↓toBd, bkd, basd, oS, bool1, arg1, vals, pm10, pm210, pm0, after, lent, endF, opd, g_get, g_put, Sta.low, Sta.shr, Pg.cfg, cmpD, Od.val, Od.share, Od.own, Sta.wipe, TI, LI, WA, SQt, SQf, evI, seqD, zipD, Sta.froz, Sta.back, frz1, stSs, stS, tgs, tgss, lF0, lF1, nav, toInts, toInt, asT, asTs, b1D, b2D, binD, flatK, cnd, prt, tyD, negD, at0, isD, mtD, okM, fits, pgm, MP.eq_int, MP.eq_bl, lim1, lim2, lim3, lim4, lim5, lim6, lim7, lim8, lim9, lim10, lim11, lim12, lim13, lim14, lim15, lim16, lim17, lim18, lim19, lim20, lim21, lim22, lim23, lim24, lim0', lim1', lim2', lim3', toInts_mapg, q1]
    refine lC_map pD (fun q => .int (gt r q.1 * gt o q.2)) ?_ ?_ ?_
    · intro q m
      have := List.all_eq_true.mp hA q m
      simp only [Bool.and_eq_true, decide_eq_true_eq] at this
      have a1 := at_int (a := r) (p := q.1) (by omega)
      have a2 := at_int (a := o) (p := q.2) (by omega)
      have s1 := gt_sm h q.1
      simp -implicitDefEqProofs -dsimp [f_form_of, execs, exec, ev, evs, args, ↓toBd, bkd, basd, oS, bool1, arg1, vals, pm10, pm210, pm0, after, lent, endF, opd, g_get, g_put, Sta.low, Sta.shr, Pg.cfg, cmpD, Od.val, Od.share, Od.own, Sta.wipe, TI, LI, WA, SQt, SQf, evI, seqD, zipD, Sta.froz, Sta.back, frz1, stSs, stS, tgs, tgss, lF0, lF1, nav, toInts, toInt, asT, asTs, b1D, b2D, binD, flatK, cnd, prt, tyD, negD, at0, isD, mtD, okM, fits, pgm, MP.eq_int, MP.eq_bl, lim1, lim2, lim3, lim4, lim5, lim6, lim7, lim8, lim9, lim10, lim11, lim12, lim13, lim14, lim15, lim16, lim17, lim18, lim19, lim20, lim21, lim22, lim23, lim24, lim0', lim1', lim2', lim3', pD, a1, a2, s1]
    · omega
    simp -implicitDefEqProofs -dsimp [f_form_of, execs, exec, ev, evs, args, ↓toBd, bkd, basd, oS, bool1, arg1, vals, pm10, pm210, pm0, after, lent, endF, opd, g_get, g_put, Sta.low, Sta.shr, Pg.cfg, cmpD, Od.val, Od.share, Od.own, Sta.wipe, TI, LI, WA, SQt, SQf, evI, seqD, zipD, Sta.froz, Sta.back, frz1, stSs, stS, tgs, tgss, lF0, lF1, nav, toInts, toInt, asT, asTs, b1D, b2D, binD, flatK, cnd, prt, tyD, negD, at0, isD, mtD, okM, fits, pgm, MP.eq_int, MP.eq_bl, lim1, lim2, lim3, lim4, lim5, lim6, lim7, lim8, lim9, lim10, lim11, lim12, lim13, lim14, lim15, lim16, lim17, lim18, lim19, lim20, lim21, lim22, lim23, lim24, lim0', lim1', lim2', lim3', toInts_mapg, formF]
def inL (l : List Int) (x : Int) : Bool := l.any fun y => y == x
theorem inD_ints (l : List Int) (x : Int) : inD (.int x) (l.map .int) = some (inL l x) := by
  have h : (l.map D.int).all MP.flatK = true := by simp [MP.flatK]
  have e : inD (.int x) (l.map .int) = some ((l.map D.int).any fun y => eqF y (.int x)) := by
    unfold inD
    rw [h]; rfl
  rw [e]
  congr 1
  rw [List.any_map]
  rfl
def entered (A : List (Int × Int)) (left : List Int) : List Int := (A.filter fun q => inL left q.1).map (·.2)
def stepR (A : List (Int × Int)) (left : List Int) : List Int := left.filter fun x => inL (entered A left) x
def iterR (A : List (Int × Int)) : Nat → List Int → List Int
  | 0, l => l
  | n + 1, l => stepR A (iterR A n l)
def natL (n : Nat) : List Int := (List.range n).map fun (i : Nat) => (i : Int)
def ringP (p : Int) (A : List (Int × Int)) : Bool := !(iterR A p.toNat (natL p.toNat)).isEmpty
theorem stepR_len (A : List (Int × Int)) (l : List Int) : (stepR A l).length ≤ l.length := List.length_filter_le ..
theorem iterR_len (A : List (Int × Int)) (l : List Int) : ∀ n, (iterR A n l).length ≤ l.length
  | 0 => Nat.le_refl _
  | n + 1 => Nat.le_trans (stepR_len A _) (iterR_len A l n)
theorem eq_LI0 (e : Nat → Nat) (l : List Int) : eqD e (.lst (l.map .int)) (.lst []) = some l.isEmpty := by
  have := eq_LI e l []
  rw [List.map_nil] at this
  rw [this]
  cases l <;> rfl
theorem k_ring0 (fu n : Nat) (p : Int) (A : List (Int × Int)) (hp : 0 ≤ p ∧ p ≤ 100) (hA : A.length ≤ 100) (μ) : run pg fu (n + 1) 8 [(.int p, 0), (.tup (A.map pD), 0)] μ = .ok ((.bl (ringP p A), 0), μ) := by
  have hr := rng0 (n := p.toNat) (by omega)
  have e : ((p.toNat : Nat) : Int) = p := by omega
  rw [e] at hr
  have b1 : p ≤ (lim : Int) := by unfold lim; omega
  have e2 : ((List.range p.toNat).map fun (i : Nat) => D.int (i : Int)) = (natL p.toNat).map .int := by simp [natL, Function.comp_def]
  have el : (natL p.toNat).length = p.toNat := by simp [natL]
  rw [run_s (show pg.fns[8]? = some f_has_ring from rfl) rfl (by decide)]
  simp -implicitDefEqProofs -dsimp [f_has_ring, execs, exec, ev, evs, args, ↓toBd, bkd, basd, oS, bool1, arg1, vals, pm10, pm210, pm0, after, lent, endF, opd, g_get, g_put, Sta.low, Sta.shr, Pg.cfg, cmpD, Od.val, Od.share, Od.own, Sta.wipe, TI, LI, WA, SQt, SQf, evI, seqD, zipD, Sta.froz, Sta.back, frz1, stSs, stS, tgs, tgss, lF0, lF1, nav, toInts, toInt, asT, asTs, b1D, b2D, binD, flatK, cnd, prt, tyD, negD, at0, isD, mtD, okM, fits, pgm, MP.eq_int, MP.eq_bl, lim1, lim2, lim3, lim4, lim5, lim6, lim7, lim8, lim9, lim10, lim11, lim12, lim13, lim14, lim15, lim16, lim17, lim18, lim19, lim20, lim21, lim22, lim23, lim24, lim0', lim1', lim2', lim3', hr, b1]
  refine lF_atB (fun (i : Nat) => .int ((i : Nat) : Int)) (fun i st => ∃ k x3 x4 x5 x6 x7, st = ⟨[some (.int p, 0), some (.tup (A.map pD), 0), some (.lst ((iterR A i (natL p.toNat)).map .int), k), x3, x4, x5, x6, x7], μ⟩) ?_ ?_ ?_
  · rintro i st j hj ⟨k, x3, x4, x5, x6, x7, rfl⟩
    have hl := iterR_len A (natL p.toNat) i
    cases k
    all_goals
      simp -implicitDefEqProofs -dsimp [f_has_ring, execs, exec, ev, evs, args, ↓toBd, bkd, basd, oS, bool1, arg1, vals, pm10, pm210, pm0, after, lent, endF, opd, g_get, g_put, Sta.low, Sta.shr, Pg.cfg, cmpD, Od.val, Od.share, Od.own, Sta.wipe, TI, LI, WA, SQt, SQf, evI, seqD, zipD, Sta.froz, Sta.back, frz1, stSs, stS, tgs, tgss, lF0, lF1, nav, toInts, toInt, asT, asTs, b1D, b2D, binD, flatK, cnd, prt, tyD, negD, at0, isD, mtD, okM, fits, pgm, MP.eq_int, MP.eq_bl, lim1, lim2, lim3, lim4, lim5, lim6, lim7, lim8, lim9, lim10, lim11, lim12, lim13, lim14, lim15, lim16, lim17, lim18, lim19, lim20, lim21, lim22, lim23, lim24, lim0', lim1', lim2', lim3']
      refine lC_ifE pD (fun q => .int q.2) (fun q => inL (iterR A i (natL p.toNat)) q.1) ?_ (by omega) ?_
      · intro q m
        cases hq : inL (iterR A i (natL p.toNat)) q.1
        · simp -implicitDefEqProofs -dsimp [f_has_ring, execs, exec, ev, evs, args, ↓toBd, bkd, basd, oS, bool1, arg1, vals, pm10, pm210, pm0, after, lent, endF, opd, g_get, g_put, Sta.low, Sta.shr, Pg.cfg, cmpD, Od.val, Od.share, Od.own, Sta.wipe, TI, LI, WA, SQt, SQf, evI, seqD, zipD, Sta.froz, Sta.back, frz1, stSs, stS, tgs, tgss, lF0, lF1, nav, toInts, toInt, asT, asTs, b1D, b2D, binD, flatK, cnd, prt, tyD, negD, at0, isD, mtD, okM, fits, pgm, MP.eq_int, MP.eq_bl, lim1, lim2, lim3, lim4, lim5, lim6, lim7, lim8, lim9, lim10, lim11, lim12, lim13, lim14, lim15, lim16, lim17, lim18, lim19, lim20, lim21, lim22, lim23, lim24, lim0', lim1', lim2', lim3', pD, inD_ints, inQ, hq]
        · simp -implicitDefEqProofs -dsimp [f_has_ring, execs, exec, ev, evs, args, ↓toBd, bkd, basd, oS, bool1, arg1, vals, pm10, pm210, pm0, after, lent, endF, opd, g_get, g_put, Sta.low, Sta.shr, Pg.cfg, cmpD, Od.val, Od.share, Od.own, Sta.wipe, TI, LI, WA, SQt, SQf, evI, seqD, zipD, Sta.froz, Sta.back, frz1, stSs, stS, tgs, tgss, lF0, lF1, nav, toInts, toInt, asT, asTs, b1D, b2D, binD, flatK, cnd, prt, tyD, negD, at0, isD, mtD, okM, fits, pgm, MP.eq_int, MP.eq_bl, lim1, lim2, lim3, lim4, lim5, lim6, lim7, lim8, lim9, lim10, lim11, lim12, lim13, lim14, lim15, lim16, lim17, lim18, lim19, lim20, lim21, lim22, lim23, lim24, lim0', lim1', lim2', lim3', pD, inD_ints, inQ, hq]
      have e3 : ((A.filter fun q => inL (iterR A i (natL p.toNat)) q.1).map fun q => D.int q.2) = (entered A (iterR A i (natL p.toNat))).map .int := by simp [entered, Function.comp_def]
      simp -implicitDefEqProofs -dsimp [f_has_ring, execs, exec, ev, evs, args, ↓toBd, bkd, basd, oS, bool1, arg1, vals, pm10, pm210, pm0, after, lent, endF, opd, g_get, g_put, Sta.low, Sta.shr, Pg.cfg, cmpD, Od.val, Od.share, Od.own, Sta.wipe, TI, LI, WA, SQt, SQf, evI, seqD, zipD, Sta.froz, Sta.back, frz1, stSs, stS, tgs, tgss, lF0, lF1, nav, toInts, toInt, asT, asTs, b1D, b2D, binD, flatK, cnd, prt, tyD, negD, at0, isD, mtD, okM, fits, pgm, MP.eq_int, MP.eq_bl, lim1, lim2, lim3, lim4, lim5, lim6, lim7, lim8, lim9, lim10, lim11, lim12, lim13, lim14, lim15, lim16, lim17, lim18, lim19, lim20, lim21, lim22, lim23, lim24, lim0', lim1', lim2', lim3', e3]
      refine lC_ifE .int .int (fun x => inL (entered A (iterR A i (natL p.toNat))) x) ?_ (by omega) ?_
      · intro x m
        cases hq : inL (entered A (iterR A i (natL p.toNat))) x
        · simp -implicitDefEqProofs -dsimp [f_has_ring, execs, exec, ev, evs, args, ↓toBd, bkd, basd, oS, bool1, arg1, vals, pm10, pm210, pm0, after, lent, endF, opd, g_get, g_put, Sta.low, Sta.shr, Pg.cfg, cmpD, Od.val, Od.share, Od.own, Sta.wipe, TI, LI, WA, SQt, SQf, evI, seqD, zipD, Sta.froz, Sta.back, frz1, stSs, stS, tgs, tgss, lF0, lF1, nav, toInts, toInt, asT, asTs, b1D, b2D, binD, flatK, cnd, prt, tyD, negD, at0, isD, mtD, okM, fits, pgm, MP.eq_int, MP.eq_bl, lim1, lim2, lim3, lim4, lim5, lim6, lim7, lim8, lim9, lim10, lim11, lim12, lim13, lim14, lim15, lim16, lim17, lim18, lim19, lim20, lim21, lim22, lim23, lim24, lim0', lim1', lim2', lim3', inD_ints, inQ, hq]
        · simp -implicitDefEqProofs -dsimp [f_has_ring, execs, exec, ev, evs, args, ↓toBd, bkd, basd, oS, bool1, arg1, vals, pm10, pm210, pm0, after, lent, endF, opd, g_get, g_put, Sta.low, Sta.shr, Pg.cfg, cmpD, Od.val, Od.share, Od.own, Sta.wipe, TI, LI, WA, SQt, SQf, evI, seqD, zipD, Sta.froz, Sta.back, frz1, stSs, stS, tgs, tgss, lF0, lF1, nav, toInts, toInt, asT, asTs, b1D, b2D, binD, flatK, cnd, prt, tyD, negD, at0, isD, mtD, okM, fits, pgm, MP.eq_int, MP.eq_bl, lim1, lim2, lim3, lim4, lim5, lim6, lim7, lim8, lim9, lim10, lim11, lim12, lim13, lim14, lim15, lim16, lim17, lim18, lim19, lim20, lim21, lim22, lim23, lim24, lim0', lim1', lim2', lim3', inD_ints, inQ, hq]
      simp -implicitDefEqProofs -dsimp [f_has_ring, execs, exec, ev, evs, args, ↓toBd, bkd, basd, oS, bool1, arg1, vals, pm10, pm210, pm0, after, lent, endF, opd, g_get, g_put, Sta.low, Sta.shr, Pg.cfg, cmpD, Od.val, Od.share, Od.own, Sta.wipe, TI, LI, WA, SQt, SQf, evI, seqD, zipD, Sta.froz, Sta.back, frz1, stSs, stS, tgs, tgss, lF0, lF1, nav, toInts, toInt, asT, asTs, b1D, b2D, binD, flatK, cnd, prt, tyD, negD, at0, isD, mtD, okM, fits, pgm, MP.eq_int, MP.eq_bl, lim1, lim2, lim3, lim4, lim5, lim6, lim7, lim8, lim9, lim10, lim11, lim12, lim13, lim14, lim15, lim16, lim17, lim18, lim19, lim20, lim21, lim22, lim23, lim24, lim0', lim1', lim2', lim3']
      simp [iterR, stepR]
  · exact ⟨1, none, none, none, none, none, by rw [e2]; rfl⟩
  · rintro st ⟨k, x3, x4, x5, x6, x7, rfl⟩
    simp -implicitDefEqProofs -dsimp [f_has_ring, execs, exec, ev, evs, args, ↓toBd, bkd, basd, oS, bool1, arg1, vals, pm10, pm210, pm0, after, lent, endF, opd, g_get, g_put, Sta.low, Sta.shr, Pg.cfg, cmpD, Od.val, Od.share, Od.own, Sta.wipe, TI, LI, WA, SQt, SQf, evI, seqD, zipD, Sta.froz, Sta.back, frz1, stSs, stS, tgs, tgss, lF0, lF1, nav, toInts, toInt, asT, asTs, b1D, b2D, binD, flatK, cnd, prt, tyD, negD, at0, isD, mtD, okM, fits, pgm, MP.eq_int, MP.eq_bl, lim1, lim2, lim3, lim4, lim5, lim6, lim7, lim8, lim9, lim10, lim11, lim12, lim13, lim14, lim15, lim16, lim17, lim18, lim19, lim20, lim21, lim22, lim23, lim24, lim0', lim1', lim2', lim3', eq_LI0, List.length_range]
    cases hz : (iterR A p.toNat (natL p.toNat)).isEmpty
    all_goals
      simp -implicitDefEqProofs -dsimp [f_has_ring, execs, exec, ev, evs, args, ↓toBd, bkd, basd, oS, bool1, arg1, vals, pm10, pm210, pm0, after, lent, endF, opd, g_get, g_put, Sta.low, Sta.shr, Pg.cfg, cmpD, Od.val, Od.share, Od.own, Sta.wipe, TI, LI, WA, SQt, SQf, evI, seqD, zipD, Sta.froz, Sta.back, frz1, stSs, stS, tgs, tgss, lF0, lF1, nav, toInts, toInt, asT, asTs, b1D, b2D, binD, flatK, cnd, prt, tyD, negD, at0, isD, mtD, okM, fits, pgm, MP.eq_int, MP.eq_bl, lim1, lim2, lim3, lim4, lim5, lim6, lim7, lim8, lim9, lim10, lim11, lim12, lim13, lim14, lim15, lim16, lim17, lim18, lim19, lim20, lim21, lim22, lim23, lim24, lim0', lim1', lim2', lim3', ringP, hz]
theorem k_ring1 (fu n : Nat) (p : Int) (A : List (Int × Int)) (hp : 0 ≤ p ∧ p ≤ 100) (hA : A.length ≤ 100) (μ) : run pg fu (n + 1) 8 [(.int p, 0), (.lst (A.map pD), 0)] μ = .ok ((.bl (ringP p A), 0), μ) := by
  have hr := rng0 (n := p.toNat) (by omega)
  have e : ((p.toNat : Nat) : Int) = p := by omega
  rw [e] at hr
  have b1 : p ≤ (lim : Int) := by unfold lim; omega
  have e2 : ((List.range p.toNat).map fun (i : Nat) => D.int (i : Int)) = (natL p.toNat).map .int := by simp [natL, Function.comp_def]
  have el : (natL p.toNat).length = p.toNat := by simp [natL]
  rw [run_s (show pg.fns[8]? = some f_has_ring from rfl) rfl (by decide)]
  simp -implicitDefEqProofs -dsimp [f_has_ring, execs, exec, ev, evs, args, ↓toBd, bkd, basd, oS, bool1, arg1, vals, pm10, pm210, pm0, after, lent, endF, opd, g_get, g_put, Sta.low, Sta.shr, Pg.cfg, cmpD, Od.val, Od.share, Od.own, Sta.wipe, TI, LI, WA, SQt, SQf, evI, seqD, zipD, Sta.froz, Sta.back, frz1, stSs, stS, tgs, tgss, lF0, lF1, nav, toInts, toInt, asT, asTs, b1D, b2D, binD, flatK, cnd, prt, tyD, negD, at0, isD, mtD, okM, fits, pgm, MP.eq_int, MP.eq_bl, lim1, lim2, lim3, lim4, lim5, lim6, lim7, lim8, lim9, lim10, lim11, lim12, lim13, lim14, lim15, lim16, lim17, lim18, lim19, lim20, lim21, lim22, lim23, lim24, lim0', lim1', lim2', lim3', hr, b1]
  refine lF_atB (fun (i : Nat) => .int ((i : Nat) : Int)) (fun i st => ∃ k x3 x4 x5 x6 x7, st = ⟨[some (.int p, 0), some (.lst (A.map pD), 0), some (.lst ((iterR A i (natL p.toNat)).map .int), k), x3, x4, x5, x6, x7], μ⟩) ?_ ?_ ?_
  · rintro i st j hj ⟨k, x3, x4, x5, x6, x7, rfl⟩
    have hl := iterR_len A (natL p.toNat) i
    cases k
    all_goals
      simp -implicitDefEqProofs -dsimp [f_has_ring, execs, exec, ev, evs, args, ↓toBd, bkd, basd, oS, bool1, arg1, vals, pm10, pm210, pm0, after, lent, endF, opd, g_get, g_put, Sta.low, Sta.shr, Pg.cfg, cmpD, Od.val, Od.share, Od.own, Sta.wipe, TI, LI, WA, SQt, SQf, evI, seqD, zipD, Sta.froz, Sta.back, frz1, stSs, stS, tgs, tgss, lF0, lF1, nav, toInts, toInt, asT, asTs, b1D, b2D, binD, flatK, cnd, prt, tyD, negD, at0, isD, mtD, okM, fits, pgm, MP.eq_int, MP.eq_bl, lim1, lim2, lim3, lim4, lim5, lim6, lim7, lim8, lim9, lim10, lim11, lim12, lim13, lim14, lim15, lim16, lim17, lim18, lim19, lim20, lim21, lim22, lim23, lim24, lim0', lim1', lim2', lim3']
      refine lC_ifE pD (fun q => .int q.2) (fun q => inL (iterR A i (natL p.toNat)) q.1) ?_ (by omega) ?_
      · intro q m
        cases hq : inL (iterR A i (natL p.toNat)) q.1
        · simp -implicitDefEqProofs -dsimp [f_has_ring, execs, exec, ev, evs, args, ↓toBd, bkd, basd, oS, bool1, arg1, vals, pm10, pm210, pm0, after, lent, endF, opd, g_get, g_put, Sta.low, Sta.shr, Pg.cfg, cmpD, Od.val, Od.share, Od.own, Sta.wipe, TI, LI, WA, SQt, SQf, evI, seqD, zipD, Sta.froz, Sta.back, frz1, stSs, stS, tgs, tgss, lF0, lF1, nav, toInts, toInt, asT, asTs, b1D, b2D, binD, flatK, cnd, prt, tyD, negD, at0, isD, mtD, okM, fits, pgm, MP.eq_int, MP.eq_bl, lim1, lim2, lim3, lim4, lim5, lim6, lim7, lim8, lim9, lim10, lim11, lim12, lim13, lim14, lim15, lim16, lim17, lim18, lim19, lim20, lim21, lim22, lim23, lim24, lim0', lim1', lim2', lim3', pD, inD_ints, inQ, hq]
        · simp -implicitDefEqProofs -dsimp [f_has_ring, execs, exec, ev, evs, args, ↓toBd, bkd, basd, oS, bool1, arg1, vals, pm10, pm210, pm0, after, lent, endF, opd, g_get, g_put, Sta.low, Sta.shr, Pg.cfg, cmpD, Od.val, Od.share, Od.own, Sta.wipe, TI, LI, WA, SQt, SQf, evI, seqD, zipD, Sta.froz, Sta.back, frz1, stSs, stS, tgs, tgss, lF0, lF1, nav, toInts, toInt, asT, asTs, b1D, b2D, binD, flatK, cnd, prt, tyD, negD, at0, isD, mtD, okM, fits, pgm, MP.eq_int, MP.eq_bl, lim1, lim2, lim3, lim4, lim5, lim6, lim7, lim8, lim9, lim10, lim11, lim12, lim13, lim14, lim15, lim16, lim17, lim18, lim19, lim20, lim21, lim22, lim23, lim24, lim0', lim1', lim2', lim3', pD, inD_ints, inQ, hq]
      have e3 : ((A.filter fun q => inL (iterR A i (natL p.toNat)) q.1).map fun q => D.int q.2) = (entered A (iterR A i (natL p.toNat))).map .int := by simp [entered, Function.comp_def]
      simp -implicitDefEqProofs -dsimp [f_has_ring, execs, exec, ev, evs, args, ↓toBd, bkd, basd, oS, bool1, arg1, vals, pm10, pm210, pm0, after, lent, endF, opd, g_get, g_put, Sta.low, Sta.shr, Pg.cfg, cmpD, Od.val, Od.share, Od.own, Sta.wipe, TI, LI, WA, SQt, SQf, evI, seqD, zipD, Sta.froz, Sta.back, frz1, stSs, stS, tgs, tgss, lF0, lF1, nav, toInts, toInt, asT, asTs, b1D, b2D, binD, flatK, cnd, prt, tyD, negD, at0, isD, mtD, okM, fits, pgm, MP.eq_int, MP.eq_bl, lim1, lim2, lim3, lim4, lim5, lim6, lim7, lim8, lim9, lim10, lim11, lim12, lim13, lim14, lim15, lim16, lim17, lim18, lim19, lim20, lim21, lim22, lim23, lim24, lim0', lim1', lim2', lim3', e3]
      refine lC_ifE .int .int (fun x => inL (entered A (iterR A i (natL p.toNat))) x) ?_ (by omega) ?_
      · intro x m
        cases hq : inL (entered A (iterR A i (natL p.toNat))) x
        · simp -implicitDefEqProofs -dsimp [f_has_ring, execs, exec, ev, evs, args, ↓toBd, bkd, basd, oS, bool1, arg1, vals, pm10, pm210, pm0, after, lent, endF, opd, g_get, g_put, Sta.low, Sta.shr, Pg.cfg, cmpD, Od.val, Od.share, Od.own, Sta.wipe, TI, LI, WA, SQt, SQf, evI, seqD, zipD, Sta.froz, Sta.back, frz1, stSs, stS, tgs, tgss, lF0, lF1, nav, toInts, toInt, asT, asTs, b1D, b2D, binD, flatK, cnd, prt, tyD, negD, at0, isD, mtD, okM, fits, pgm, MP.eq_int, MP.eq_bl, lim1, lim2, lim3, lim4, lim5, lim6, lim7, lim8, lim9, lim10, lim11, lim12, lim13, lim14, lim15, lim16, lim17, lim18, lim19, lim20, lim21, lim22, lim23, lim24, lim0', lim1', lim2', lim3', inD_ints, inQ, hq]
        · simp -implicitDefEqProofs -dsimp [f_has_ring, execs, exec, ev, evs, args, ↓toBd, bkd, basd, oS, bool1, arg1, vals, pm10, pm210, pm0, after, lent, endF, opd, g_get, g_put, Sta.low, Sta.shr, Pg.cfg, cmpD, Od.val, Od.share, Od.own, Sta.wipe, TI, LI, WA, SQt, SQf, evI, seqD, zipD, Sta.froz, Sta.back, frz1, stSs, stS, tgs, tgss, lF0, lF1, nav, toInts, toInt, asT, asTs, b1D, b2D, binD, flatK, cnd, prt, tyD, negD, at0, isD, mtD, okM, fits, pgm, MP.eq_int, MP.eq_bl, lim1, lim2, lim3, lim4, lim5, lim6, lim7, lim8, lim9, lim10, lim11, lim12, lim13, lim14, lim15, lim16, lim17, lim18, lim19, lim20, lim21, lim22, lim23, lim24, lim0', lim1', lim2', lim3', inD_ints, inQ, hq]
      simp -implicitDefEqProofs -dsimp [f_has_ring, execs, exec, ev, evs, args, ↓toBd, bkd, basd, oS, bool1, arg1, vals, pm10, pm210, pm0, after, lent, endF, opd, g_get, g_put, Sta.low, Sta.shr, Pg.cfg, cmpD, Od.val, Od.share, Od.own, Sta.wipe, TI, LI, WA, SQt, SQf, evI, seqD, zipD, Sta.froz, Sta.back, frz1, stSs, stS, tgs, tgss, lF0, lF1, nav, toInts, toInt, asT, asTs, b1D, b2D, binD, flatK, cnd, prt, tyD, negD, at0, isD, mtD, okM, fits, pgm, MP.eq_int, MP.eq_bl, lim1, lim2, lim3, lim4, lim5, lim6, lim7, lim8, lim9, lim10, lim11, lim12, lim13, lim14, lim15, lim16, lim17, lim18, lim19, lim20, lim21, lim22, lim23, lim24, lim0', lim1', lim2', lim3']
      simp [iterR, stepR]
  · exact ⟨1, none, none, none, none, none, by rw [e2]; rfl⟩
  · rintro st ⟨k, x3, x4, x5, x6, x7, rfl⟩
    simp -implicitDefEqProofs -dsimp [f_has_ring, execs, exec, ev, evs, args, ↓toBd, bkd, basd, oS, bool1, arg1, vals, pm10, pm210, pm0, after, lent, endF, opd, g_get, g_put, Sta.low, Sta.shr, Pg.cfg, cmpD, Od.val, Od.share, Od.own, Sta.wipe, TI, LI, WA, SQt, SQf, evI, seqD, zipD, Sta.froz, Sta.back, frz1, stSs, stS, tgs, tgss, lF0, lF1, nav, toInts, toInt, asT, asTs, b1D, b2D, binD, flatK, cnd, prt, tyD, negD, at0, isD, mtD, okM, fits, pgm, MP.eq_int, MP.eq_bl, lim1, lim2, lim3, lim4, lim5, lim6, lim7, lim8, lim9, lim10, lim11, lim12, lim13, lim14, lim15, lim16, lim17, lim18, lim19, lim20, lim21, lim22, lim23, lim24, lim0', lim1', lim2', lim3', eq_LI0, List.length_range]
    cases hz : (iterR A p.toNat (natL p.toNat)).isEmpty
    all_goals
      simp -implicitDefEqProofs -dsimp [f_has_ring, execs, exec, ev, evs, args, ↓toBd, bkd, basd, oS, bool1, arg1, vals, pm10, pm210, pm0, after, lent, endF, opd, g_get, g_put, Sta.low, Sta.shr, Pg.cfg, cmpD, Od.val, Od.share, Od.own, Sta.wipe, TI, LI, WA, SQt, SQf, evI, seqD, zipD, Sta.froz, Sta.back, frz1, stSs, stS, tgs, tgss, lF0, lF1, nav, toInts, toInt, asT, asTs, b1D, b2D, binD, flatK, cnd, prt, tyD, negD, at0, isD, mtD, okM, fits, pgm, MP.eq_int, MP.eq_bl, lim1, lim2, lim3, lim4, lim5, lim6, lim7, lim8, lim9, lim10, lim11, lim12, lim13, lim14, lim15, lim16, lim17, lim18, lim19, lim20, lim21, lim22, lim23, lim24, lim0', lim1', lim2', lim3', ringP, hz]
theorem pgi : pg.init 0 = 32 := rfl
def arr1 (p : Int) (q : Int × Int) : Bool := decide (0 ≤ q.1) && (decide (q.1 < p) && (decide (0 ≤ q.2) && (decide (q.2 < p) && decide (q.1 ≠ q.2))))
/-- a web can be made of these -/
def webB (p : Int) (A : List (Int × Int)) : Bool := decide (1 ≤ p) && (decide (p ≤ 13) && (decide (A.length ≤ 12) && (A.all (arr1 p) && !ringP p A)))
theorem webB_ok {p : Int} {A : List (Int × Int)} (h : webB p A = true) : 1 ≤ p ∧ p ≤ 13 ∧ A.length ≤ 12 ∧ A.all (arr1 p) = true ∧ ringP p A = false := by
  simpa only [webB, Bool.and_eq_true, decide_eq_true_eq, Bool.not_eq_true'] using h
theorem webB_arrOk {p : Int} {A : List (Int × Int)} (h : webB p A = true) : arrOk p A = true := by
  obtain ⟨_, _, _, h, _⟩ := webB_ok h
  refine List.all_eq_true.mpr fun q m => ?_
  have := List.all_eq_true.mp h q m
  simp only [arr1, Bool.and_eq_true, decide_eq_true_eq] at this ⊢
  exact ⟨this.1, this.2.1, this.2.2.1, this.2.2.2.1⟩
theorem k_pbelow (fu n : Nat) (p d : Int) (h : 0 ≤ d ∧ d < p) (μ) : run pg fu (n + 3) 5 [(.int p, 0), (.int d, 0)] μ = .ok ((.bl true, 0), μ) := by
  have q := k_cnt fu n d μ
  rw [run_s (show pg.fns[5]? = some f_is_place_below from rfl) rfl (by decide)]
  simp -implicitDefEqProofs -dsimp [f_is_place_below, execs, exec, ev, evs, args, ↓toBd, bkd, basd, oS, bool1, arg1, vals, pm10, pm210, pm0, after, lent, endF, opd, g_get, g_put, Sta.low, Sta.shr, Pg.cfg, cmpD, Od.val, Od.share, Od.own, Sta.wipe, TI, LI, WA, SQt, SQf, evI, seqD, zipD, Sta.froz, Sta.back, frz1, stSs, stS, tgs, tgss, lF0, lF1, nav, toInts, toInt, asT, asTs, b1D, b2D, binD, flatK, cnd, prt, tyD, negD, at0, isD, mtD, okM, fits, pgm, MP.eq_int, MP.eq_bl, lim1, lim2, lim3, lim4, lim5, lim6, lim7, lim8, lim9, lim10, lim11, lim12, lim13, lim14, lim15, lim16, lim17, lim18, lim19, lim20, lim21, lim22, lim23, lim24, lim0', lim1', lim2', lim3', q, h]
theorem k_isarrow (fu n : Nat) (p : Int) (q : Int × Int) (h : arr1 p q = true) (μ) : run pg fu (n + 4) 6 [(.int p, 0), (pD q, 0)] μ = .ok ((.bl true, 0), μ) := by
  simp only [arr1, Bool.and_eq_true, decide_eq_true_eq] at h
  have q1 := k_pbelow fu n p q.1 ⟨h.1, h.2.1⟩ μ
  have q2 := k_pbelow fu n p q.2 ⟨h.2.2.1, h.2.2.2.1⟩ μ
  have h3 := h.2.2.2.2
  rw [run_s (show pg.fns[6]? = some f_is_arrow from rfl) rfl (by decide)]
  simp -implicitDefEqProofs -dsimp [f_is_arrow, execs, exec, ev, evs, args, ↓toBd, bkd, basd, oS, bool1, arg1, vals, pm10, pm210, pm0, after, lent, endF, opd, g_get, g_put, Sta.low, Sta.shr, Pg.cfg, cmpD, Od.val, Od.share, Od.own, Sta.wipe, TI, LI, WA, SQt, SQf, evI, seqD, zipD, Sta.froz, Sta.back, frz1, stSs, stS, tgs, tgss, lF0, lF1, nav, toInts, toInt, asT, asTs, b1D, b2D, binD, flatK, cnd, prt, tyD, negD, at0, isD, mtD, okM, fits, pgm, MP.eq_int, MP.eq_bl, lim1, lim2, lim3, lim4, lim5, lim6, lim7, lim8, lim9, lim10, lim11, lim12, lim13, lim14, lim15, lim16, lim17, lim18, lim19, lim20, lim21, lim22, lim23, lim24, lim0', lim1', lim2', lim3', pD, q1, q2, h3]
theorem k_isplaces (fu n : Nat) (p : Int) (h : 1 ≤ p ∧ p ≤ 13) (μ) : run pg fu (n + 3) 4 [(.int p, 0)] μ = .ok ((.bl true, 0), μ) := by
  have q := k_cnt fu n p μ
  have h0 : 0 ≤ p := by omega
  rw [run_s (show pg.fns[4]? = some f_is_places from rfl) rfl (by decide)]
  simp -implicitDefEqProofs -dsimp [f_is_places, execs, exec, ev, evs, args, ↓toBd, bkd, basd, oS, bool1, arg1, vals, pm10, pm210, pm0, after, lent, endF, opd, g_get, g_put, Sta.low, Sta.shr, Pg.cfg, cmpD, Od.val, Od.share, Od.own, Sta.wipe, TI, LI, WA, SQt, SQf, evI, seqD, zipD, Sta.froz, Sta.back, frz1, stSs, stS, tgs, tgss, lF0, lF1, nav, toInts, toInt, asT, asTs, b1D, b2D, binD, flatK, cnd, prt, tyD, negD, at0, isD, mtD, okM, fits, pgm, MP.eq_int, MP.eq_bl, lim1, lim2, lim3, lim4, lim5, lim6, lim7, lim8, lim9, lim10, lim11, lim12, lim13, lim14, lim15, lim16, lim17, lim18, lim19, lim20, lim21, lim22, lim23, lim24, lim0', lim1', lim2', lim3', q, h, h0]
theorem k_arrlist0 (fu n : Nat) (p : Int) (A : List (Int × Int)) (h : webB p A = true) (μ) : run pg fu (n + 5) 7 [(.int p, 0), (.tup (A.map pD), 0)] μ = .ok ((.bl true, 0), μ) := by
  obtain ⟨h1, h2, h3, h4, h5⟩ := webB_ok h
  have q1 := k_ring0 fu (n + 3) p A (by omega) (by omega) μ
  have q2 : run pg fu (n + 4) 2 [(.tup (A.map pD), 0)] μ = .ok ((.bl true, 0), μ) := rfl
  have h6 : ¬ (12 : Int) < (A.length : Int) := by omega
  have h4' : (A.map (arr1 p)).all id = true := by simpa using h4
  rw [h5] at q1
  rw [run_s (show pg.fns[7]? = some f_is_arrow_list from rfl) rfl (by decide)]
  simp -implicitDefEqProofs -dsimp [f_is_arrow_list, execs, exec, ev, evs, args, ↓toBd, bkd, basd, oS, bool1, arg1, vals, pm10, pm210, pm0, after, lent, endF, opd, g_get, g_put, Sta.low, Sta.shr, Pg.cfg, cmpD, Od.val, Od.share, Od.own, Sta.wipe, TI, LI, WA, SQt, SQf, evI, seqD, zipD, Sta.froz, Sta.back, frz1, stSs, stS, tgs, tgss, lF0, lF1, nav, toInts, toInt, asT, asTs, b1D, b2D, binD, flatK, cnd, prt, tyD, negD, at0, isD, mtD, okM, fits, pgm, MP.eq_int, MP.eq_bl, lim1, lim2, lim3, lim4, lim5, lim6, lim7, lim8, lim9, lim10, lim11, lim12, lim13, lim14, lim15, lim16, lim17, lim18, lim19, lim20, lim21, lim22, lim23, lim24, lim0', lim1', lim2', lim3', q2, h6]
  refine lC_map pD (fun q => .bl (arr1 p q)) ?_ (by omega) ?_
  · intro q m
    have hq := List.all_eq_true.mp h4 q m
    have q3 := k_isarrow fu n p q hq μ
    simp -implicitDefEqProofs -dsimp [f_is_arrow_list, execs, exec, ev, evs, args, ↓toBd, bkd, basd, oS, bool1, arg1, vals, pm10, pm210, pm0, after, lent, endF, opd, g_get, g_put, Sta.low, Sta.shr, Pg.cfg, cmpD, Od.val, Od.share, Od.own, Sta.wipe, TI, LI, WA, SQt, SQf, evI, seqD, zipD, Sta.froz, Sta.back, frz1, stSs, stS, tgs, tgss, lF0, lF1, nav, toInts, toInt, asT, asTs, b1D, b2D, binD, flatK, cnd, prt, tyD, negD, at0, isD, mtD, okM, fits, pgm, MP.eq_int, MP.eq_bl, lim1, lim2, lim3, lim4, lim5, lim6, lim7, lim8, lim9, lim10, lim11, lim12, lim13, lim14, lim15, lim16, lim17, lim18, lim19, lim20, lim21, lim22, lim23, lim24, lim0', lim1', lim2', lim3', q3, hq]
  simp -implicitDefEqProofs -dsimp [f_is_arrow_list, execs, exec, ev, evs, args, ↓toBd, bkd, basd, oS, bool1, arg1, vals, pm10, pm210, pm0, after, lent, endF, opd, g_get, g_put, Sta.low, Sta.shr, Pg.cfg, cmpD, Od.val, Od.share, Od.own, Sta.wipe, TI, LI, WA, SQt, SQf, evI, seqD, zipD, Sta.froz, Sta.back, frz1, stSs, stS, tgs, tgss, lF0, lF1, nav, toInts, toInt, asT, asTs, b1D, b2D, binD, flatK, cnd, prt, tyD, negD, at0, isD, mtD, okM, fits, pgm, MP.eq_int, MP.eq_bl, lim1, lim2, lim3, lim4, lim5, lim6, lim7, lim8, lim9, lim10, lim11, lim12, lim13, lim14, lim15, lim16, lim17, lim18, lim19, lim20, lim21, lim22, lim23, lim24, lim0', lim1', lim2', lim3', toBls_map, h4', q1]
theorem k_arrlist1 (fu n : Nat) (p : Int) (A : List (Int × Int)) (h : webB p A = true) (μ) : run pg fu (n + 5) 7 [(.int p, 0), (.lst (A.map pD), 0)] μ = .ok ((.bl true, 0), μ) := by
  obtain ⟨h1, h2, h3, h4, h5⟩ := webB_ok h
  have q1 := k_ring1 fu (n + 3) p A (by omega) (by omega) μ
  have q2 : run pg fu (n + 4) 2 [(.lst (A.map pD), 0)] μ = .ok ((.bl true, 0), μ) := rfl
  have h6 : ¬ (12 : Int) < (A.length : Int) := by omega
  have h4' : (A.map (arr1 p)).all id = true := by simpa using h4
  rw [h5] at q1
  rw [run_s (show pg.fns[7]? = some f_is_arrow_list from rfl) rfl (by decide)]
  simp -implicitDefEqProofs -dsimp [f_is_arrow_list, execs, exec, ev, evs, args, ↓toBd, bkd, basd, oS, bool1, arg1, vals, pm10, pm210, pm0, after, lent, endF, opd, g_get, g_put, Sta.low, Sta.shr, Pg.cfg, cmpD, Od.val, Od.share, Od.own, Sta.wipe, TI, LI, WA, SQt, SQf, evI, seqD, zipD, Sta.froz, Sta.back, frz1, stSs, stS, tgs, tgss, lF0, lF1, nav, toInts, toInt, asT, asTs, b1D, b2D, binD, flatK, cnd, prt, tyD, negD, at0, isD, mtD, okM, fits, pgm, MP.eq_int, MP.eq_bl, lim1, lim2, lim3, lim4, lim5, lim6, lim7, lim8, lim9, lim10, lim11, lim12, lim13, lim14, lim15, lim16, lim17, lim18, lim19, lim20, lim21, lim22, lim23, lim24, lim0', lim1', lim2', lim3', q2, h6]
  refine lC_map pD (fun q => .bl (arr1 p q)) ?_ (by omega) ?_
  · intro q m
    have hq := List.all_eq_true.mp h4 q m
    have q3 := k_isarrow fu n p q hq μ
    simp -implicitDefEqProofs -dsimp [f_is_arrow_list, execs, exec, ev, evs, args, ↓toBd, bkd, basd, oS, bool1, arg1, vals, pm10, pm210, pm0, after, lent, endF, opd, g_get, g_put, Sta.low, Sta.shr, Pg.cfg, cmpD, Od.val, Od.share, Od.own, Sta.wipe, TI, LI, WA, SQt, SQf, evI, seqD, zipD, Sta.froz, Sta.back, frz1, stSs, stS, tgs, tgss, lF0, lF1, nav, toInts, toInt, asT, asTs, b1D, b2D, binD, flatK, cnd, prt, tyD, negD, at0, isD, mtD, okM, fits, pgm, MP.eq_int, MP.eq_bl, lim1, lim2, lim3, lim4, lim5, lim6, lim7, lim8, lim9, lim10, lim11, lim12, lim13, lim14, lim15, lim16, lim17, lim18, lim19, lim20, lim21, lim22, lim23, lim24, lim0', lim1', lim2', lim3', q3, hq]
  simp -implicitDefEqProofs -dsimp [f_is_arrow_list, execs, exec, ev, evs, args, ↓toBd, bkd, basd, oS, bool1, arg1, vals, pm10, pm210, pm0, after, lent, endF, opd, g_get, g_put, Sta.low, Sta.shr, Pg.cfg, cmpD, Od.val, Od.share, Od.own, Sta.wipe, TI, LI, WA, SQt, SQf, evI, seqD, zipD, Sta.froz, Sta.back, frz1, stSs, stS, tgs, tgss, lF0, lF1, nav, toInts, toInt, asT, asTs, b1D, b2D, binD, flatK, cnd, prt, tyD, negD, at0, isD, mtD, okM, fits, pgm, MP.eq_int, MP.eq_bl, lim1, lim2, lim3, lim4, lim5, lim6, lim7, lim8, lim9, lim10, lim11, lim12, lim13, lim14, lim15, lim16, lim17, lim18, lim19, lim20, lim21, lim22, lim23, lim24, lim0', lim1', lim2', lim3', toBls_map, h4', q1]
/-- Web(places, arrows) -/
theorem k_web (fu n k : Nat) (p : Int) (A : List (Int × Int)) (hk : k ≤ 1) (h : webB p A = true) (μ) : run pg fu (n + 6) 32 [(.ins 0 [], 1), (.int p, 0), (.lst (A.map pD), k)] μ = .ok ((WA p A (.int (A.length : Int)), 0), μ) := by
  obtain ⟨h1, h2, h3, h4, h5⟩ := webB_ok h
  have q1 := k_isplaces fu (n + 2) p ⟨h1, h2⟩ μ
  have q2 := k_arrlist1 fu n p A h μ
  rw [run_s (show pg.fns[32]? = some f_WebD_initD from rfl) rfl (by decide)]
  rcases k with _ | _ | k
  · simp -implicitDefEqProofs -dsimp [f_WebD_initD, execs, exec, ev, evs, args, ↓toBd, bkd, basd, oS, bool1, arg1, vals, pm10, pm210, pm0, after, lent, endF, opd, g_get, g_put, Sta.low, Sta.shr, Pg.cfg, cmpD, Od.val, Od.share, Od.own, Sta.wipe, TI, LI, WA, SQt, SQf, evI, seqD, zipD, Sta.froz, Sta.back, frz1, stSs, stS, tgs, tgss, lF0, lF1, nav, toInts, toInt, asT, asTs, b1D, b2D, binD, flatK, cnd, prt, tyD, negD, at0, isD, mtD, okM, fits, pgm, MP.eq_int, MP.eq_bl, lim1, lim2, lim3, lim4, lim5, lim6, lim7, lim8, lim9, lim10, lim11, lim12, lim13, lim14, lim15, lim16, lim17, lim18, lim19, lim20, lim21, lim22, lim23, lim24, lim0', lim1', lim2', lim3', q1, q2]
  · simp -implicitDefEqProofs -dsimp [f_WebD_initD, execs, exec, ev, evs, args, ↓toBd, bkd, basd, oS, bool1, arg1, vals, pm10, pm210, pm0, after, lent, endF, opd, g_get, g_put, Sta.low, Sta.shr, Pg.cfg, cmpD, Od.val, Od.share, Od.own, Sta.wipe, TI, LI, WA, SQt, SQf, evI, seqD, zipD, Sta.froz, Sta.back, frz1, stSs, stS, tgs, tgss, lF0, lF1, nav, toInts, toInt, asT, asTs, b1D, b2D, binD, flatK, cnd, prt, tyD, negD, at0, isD, mtD, okM, fits, pgm, MP.eq_int, MP.eq_bl, lim1, lim2, lim3, lim4, lim5, lim6, lim7, lim8, lim9, lim10, lim11, lim12, lim13, lim14, lim15, lim16, lim17, lim18, lim19, lim20, lim21, lim22, lim23, lim24, lim0', lim1', lim2', lim3', q1, q2]
  · omega
def revA (A : List (Int × Int)) : List (Int × Int) := A.map fun q => (q.2, q.1)
theorem revA_len (A : List (Int × Int)) : (revA A).length = A.length := by simp [revA]
theorem k_turned (fu n : Nat) (p : Int) (A : List (Int × Int)) (c) (h : webB p (revA A) = true) (μ) : run pg fu (n + 7) 11 [(WA p A c, 0)] μ = .ok ((WA p (revA A) (.int (A.length : Int)), 0), μ) := by
  have q1 := k_wweb fu (n + 4) p A c μ
  have q2 := k_places fu (n + 5) p A c μ
  have q3 := k_arrows fu (n + 5) p A c μ
  have q4 := k_web fu n 1 p (revA A) (by decide) h μ
  obtain ⟨_, _, h3, _, _⟩ := webB_ok h
  rw [revA_len] at q4 h3
  simp only [WA] at q1 q2 q3 q4
  rw [run_s (show pg.fns[11]? = some f_turned_web from rfl) rfl (by decide)]
  simp -implicitDefEqProofs -dsimp [f_turned_web, execs, exec, ev, evs, args, ↓toBd, bkd, basd, oS, bool1, arg1, vals, pm10, pm210, pm0, after, lent, endF, opd, g_get, g_put, Sta.low, Sta.shr, Pg.cfg, cmpD, Od.val, Od.share, Od.own, Sta.wipe, TI, LI, WA, SQt, SQf, evI, seqD, zipD, Sta.froz, Sta.back, frz1, stSs, stS, tgs, tgss, lF0, lF1, nav, toInts, toInt, asT, asTs, b1D, b2D, binD, flatK, cnd, prt, tyD, negD, at0, isD, mtD, okM, fits, pgm, MP.eq_int, MP.eq_bl, lim1, lim2, lim3, lim4, lim5, lim6, lim7, lim8, lim9, lim10, lim11, lim12, lim13, lim14, lim15, lim16, lim17, lim18, lim19, lim20, lim21, lim22, lim23, lim24, lim0', lim1', lim2', lim3', q1, q2, q3]
  refine lC_map pD (fun q => pD (q.2, q.1)) ?_ (by omega) ?_
  · intro q m
    simp -implicitDefEqProofs -dsimp [f_turned_web, execs, exec, ev, evs, args, ↓toBd, bkd, basd, oS, bool1, arg1, vals, pm10, pm210, pm0, after, lent, endF, opd, g_get, g_put, Sta.low, Sta.shr, Pg.cfg, cmpD, Od.val, Od.share, Od.own, Sta.wipe, TI, LI, WA, SQt, SQf, evI, seqD, zipD, Sta.froz, Sta.back, frz1, stSs, stS, tgs, tgss, lF0, lF1, nav, toInts, toInt, asT, asTs, b1D, b2D, binD, flatK, cnd, prt, tyD, negD, at0, isD, mtD, okM, fits, pgm, MP.eq_int, MP.eq_bl, lim1, lim2, lim3, lim4, lim5, lim6, lim7, lim8, lim9, lim10, lim11, lim12, lim13, lim14, lim15, lim16, lim17, lim18, lim19, lim20, lim21, lim22, lim23, lim24, lim0', lim1', lim2', lim3', pD]
  have e2 : (A.map fun q => pD (q.2, q.1)) = (revA A).map pD := by simp [revA, Function.comp_def]
  simp -implicitDefEqProofs -dsimp [f_turned_web, execs, exec, ev, evs, args, ↓toBd, bkd, basd, oS, bool1, arg1, vals, pm10, pm210, pm0, after, lent, endF, opd, g_get, g_put, Sta.low, Sta.shr, Pg.cfg, cmpD, Od.val, Od.share, Od.own, Sta.wipe, TI, LI, WA, SQt, SQf, evI, seqD, zipD, Sta.froz, Sta.back, frz1, stSs, stS, tgs, tgss, lF0, lF1, nav, toInts, toInt, asT, asTs, b1D, b2D, binD, flatK, cnd, prt, tyD, negD, at0, isD, mtD, okM, fits, pgm, MP.eq_int, MP.eq_bl, lim1, lim2, lim3, lim4, lim5, lim6, lim7, lim8, lim9, lim10, lim11, lim12, lim13, lim14, lim15, lim16, lim17, lim18, lim19, lim20, lim21, lim22, lim23, lim24, lim0', lim1', lim2', lim3', e2, pgi, q4]
theorem k_atmost (fu n : Nat) (s : PySem.Str) (l m : Int) (h : m ≤ l) (μ) : run pg fu (n + 1) 3 [(.str s, 0), (.int l, 0), (.int m, 0)] μ = .ok ((.non, 0), μ) := by
  have h2 : ¬ l < m := by omega
  rw [run_s (show pg.fns[3]? = some f_want_at_most from rfl) rfl (by decide)]
  simp -implicitDefEqProofs -dsimp [f_want_at_most, execs, exec, ev, evs, args, ↓toBd, bkd, basd, oS, bool1, arg1, vals, pm10, pm210, pm0, after, lent, endF, opd, g_get, g_put, Sta.low, Sta.shr, Pg.cfg, cmpD, Od.val, Od.share, Od.own, Sta.wipe, TI, LI, WA, SQt, SQf, evI, seqD, zipD, Sta.froz, Sta.back, frz1, stSs, stS, tgs, tgss, lF0, lF1, nav, toInts, toInt, asT, asTs, b1D, b2D, binD, flatK, cnd, prt, tyD, negD, at0, isD, mtD, okM, fits, pgm, MP.eq_int, MP.eq_bl, lim1, lim2, lim3, lim4, lim5, lim6, lim7, lim8, lim9, lim10, lim11, lim12, lim13, lim14, lim15, lim16, lim17, lim18, lim19, lim20, lim21, lim22, lim23, lim24, lim0', lim1', lim2', lim3', h2]
theorem foldl_cnt (r : List Int) (a : Int) : r.foldl (fun b x => b * (x + 1)) a = a * r.foldl (fun b x => b * (x + 1)) 1 := by
  induction r generalizing a with
  | nil => simp
  | cons x r ih => rw [List.foldl_cons, List.foldl_cons, ih, ih (1 * (x + 1)), Int.one_mul, Int.mul_assoc]
def cntR (r : List Int) : Int := r.foldl (fun b x => b * (x + 1)) 1
theorem k_bcount (fu n : Nat) (r : List Int) (hb : Bw r) (μ) : run pg fu (n + 1) 16 [(LI r, 0)] μ = .ok ((.int (cntR r), 0), μ) := by
  rw [run_s (show pg.fns[16]? = some f_below_count from rfl) rfl (by decide)]
  simp -implicitDefEqProofs -dsimp [f_below_count, execs, exec, ev, evs, args, ↓toBd, bkd, basd, oS, bool1, arg1, vals, pm10, pm210, pm0, after, lent, endF, opd, g_get, g_put, Sta.low, Sta.shr, Pg.cfg, cmpD, Od.val, Od.share, Od.own, Sta.wipe, TI, LI, WA, SQt, SQf, evI, seqD, zipD, Sta.froz, Sta.back, frz1, stSs, stS, tgs, tgss, lF0, lF1, nav, toInts, toInt, asT, asTs, b1D, b2D, binD, flatK, cnd, prt, tyD, negD, at0, isD, mtD, okM, fits, pgm, MP.eq_int, MP.eq_bl, lim1, lim2, lim3, lim4, lim5, lim6, lim7, lim8, lim9, lim10, lim11, lim12, lim13, lim14, lim15, lim16, lim17, lim18, lim19, lim20, lim21, lim22, lim23, lim24, lim0', lim1', lim2', lim3']
  refine lF_atB .int (fun i st => ∃ k x2, st = ⟨[some (.lst (r.map .int), 0), some (.int (cntR (r.take i)), k), x2], μ⟩) ?_ ?_ ?_
  · rintro i st x hx ⟨k, x2, rfl⟩
    have h1 := hb.sz x (List.mem_of_getElem? hx)
    have s1 : small64 (x + 1) = true := sm (by omega)
    have e : cntR (r.take (i + 1)) = cntR (r.take i) * (x + 1) := by
      have : r.take (i + 1) = r.take i ++ [x] := by rw [List.take_add_one, hx]; rfl
      rw [this]; simp [cntR]
    cases k
    all_goals
      simp -implicitDefEqProofs -dsimp [f_below_count, execs, exec, ev, evs, args, ↓toBd, bkd, basd, oS, bool1, arg1, vals, pm10, pm210, pm0, after, lent, endF, opd, g_get, g_put, Sta.low, Sta.shr, Pg.cfg, cmpD, Od.val, Od.share, Od.own, Sta.wipe, TI, LI, WA, SQt, SQf, evI, seqD, zipD, Sta.froz, Sta.back, frz1, stSs, stS, tgs, tgss, lF0, lF1, nav, toInts, toInt, asT, asTs, b1D, b2D, binD, flatK, cnd, prt, tyD, negD, at0, isD, mtD, okM, fits, pgm, MP.eq_int, MP.eq_bl, lim1, lim2, lim3, lim4, lim5, lim6, lim7, lim8, lim9, lim10, lim11, lim12, lim13, lim14, lim15, lim16, lim17, lim18, lim19, lim20, lim21, lim22, lim23, lim24, lim0', lim1', lim2', lim3', s1, e]
  · exact ⟨_, _, rfl⟩
  · rintro st ⟨k, x2, rfl⟩
    simp -implicitDefEqProofs -dsimp [f_below_count, execs, exec, ev, evs, args, ↓toBd, bkd, basd, oS, bool1, arg1, vals, pm10, pm210, pm0, after, lent, endF, opd, g_get, g_put, Sta.low, Sta.shr, Pg.cfg, cmpD, Od.val, Od.share, Od.own, Sta.wipe, TI, LI, WA, SQt, SQf, evI, seqD, zipD, Sta.froz, Sta.back, frz1, stSs, stS, tgs, tgss, lF0, lF1, nav, toInts, toInt, asT, asTs, b1D, b2D, binD, flatK, cnd, prt, tyD, negD, at0, isD, mtD, okM, fits, pgm, MP.eq_int, MP.eq_bl, lim1, lim2, lim3, lim4, lim5, lim6, lim7, lim8, lim9, lim10, lim11, lim12, lim13, lim14, lim15, lim16, lim17, lim18, lim19, lim20, lim21, lim22, lim23, lim24, lim0', lim1', lim2', lim3', List.take_length]
theorem cnt_prod : ∀ {r : List Int}, (∀ x ∈ r, 0 ≤ x) → cntR r = (prodN r : Int) := by
  intro r
  induction r with
  | nil => intro _; rfl
  | cons x r ih =>
    intro h
    have h1 := h x (List.mem_cons_self ..)
    have := ih fun y m => h y (List.mem_cons_of_mem _ m)
    simp only [cntR, List.foldl_cons] at this ⊢
    rw [foldl_cnt, this, prodN]
    have : ((x + 1).toNat : Int) = x + 1 := by omega
    rw [Int.natCast_mul, this, Int.one_mul]
theorem k_form (fu n : Nat) (p : Int) (A c) (t1 t2 : Bool) (r o : List Int) (hp : p ≤ 100) (hA : arrOk p A = true) (hA2 : A.length ≤ 100) (h : rowB p r = true) (h' : rowB p o = true) (μ) : run pg fu (n + 5) 18 [(WA p A c, 0), (SQ t1 r, 0), (SQ t2 o, 0)] μ = .ok ((.int (formF A r o), 0), μ) := by
  have q1 := k_wweb fu (n + 2) p A c μ
  have q2 := k_wrow fu n p A c t1 r hp h μ
  have q3 := k_wrow fu n p A c t2 o hp h' μ
  have q4 := k_formof fu (n + 2) p A c false false r o hp hA hA2 (rowB_Rw h) (rowB_Rw h') μ
  simp only [LI, WA, SQf] at q1 q2 q3 q4
  rw [run_s (show pg.fns[18]? = some f_form from rfl) rfl (by decide)]
  cases t1 <;> cases t2
  all_goals
    simp only [SQt, SQf] at q2 q3
    simp -implicitDefEqProofs -dsimp [f_form, execs, exec, ev, evs, args, ↓toBd, bkd, basd, oS, bool1, arg1, vals, pm10, pm210, pm0, after, lent, endF, opd, g_get, g_put, Sta.low, Sta.shr, Pg.cfg, cmpD, Od.val, Od.share, Od.own, Sta.wipe, TI, LI, WA, SQt, SQf, evI, seqD, zipD, Sta.froz, Sta.back, frz1, stSs, stS, tgs, tgss, lF0, lF1, nav, toInts, toInt, asT, asTs, b1D, b2D, binD, flatK, cnd, prt, tyD, negD, at0, isD, mtD, okM, fits, pgm, MP.eq_int, MP.eq_bl, lim1, lim2, lim3, lim4, lim5, lim6, lim7, lim8, lim9, lim10, lim11, lim12, lim13, lim14, lim15, lim16, lim17, lim18, lim19, lim20, lim21, lim22, lim23, lim24, lim0', lim1', lim2', lim3', q1, q2, q3, q4]
structure Dag (p : Int) (A : List (Int × Int)) (rk : Int → Nat) : Prop where
  ar : ∀ q ∈ A, 0 ≤ q.1 ∧ q.1 < p ∧ 0 ≤ q.2 ∧ q.2 < p ∧ rk q.1 < rk q.2 ∧ (rk q.2 : Int) < p
theorem inL_mem {l : List Int} {x : Int} : inL l x = true ↔ x ∈ l := by
  simp [inL, List.any_eq_true]
theorem iterR_rk {p : Int} {A : List (Int × Int)} {rk : Int → Nat} (h : Dag p A rk) (l : List Int) : ∀ n, ∀ x ∈ iterR A n l, n ≤ rk x ∧ (0 < n → (rk x : Int) < p)
  | 0, x, m => ⟨Nat.zero_le _, fun z => by omega⟩
  | n + 1, x, m => by
    simp only [iterR, stepR, List.mem_filter, inL_mem, entered, List.mem_map] at m
    obtain ⟨_, q, ⟨mq, hq⟩, rfl⟩ := m
    have := iterR_rk h l n q.1 hq
    have := h.ar q mq
    omega
theorem ring_no {p : Int} {A : List (Int × Int)} {rk : Int → Nat} (h : Dag p A rk) (hp : 1 ≤ p) : ringP p A = false := by
  unfold ringP
  cases e : iterR A p.toNat (natL p.toNat) with
  | nil => rfl
  | cons x l =>
    have := iterR_rk h (natL p.toNat) p.toNat x (by rw [e]; exact List.mem_cons_self ..)
    omega
theorem webB_dag {p : Int} {A : List (Int × Int)} {rk : Int → Nat} (h : Dag p A rk) (hp : 1 ≤ p ∧ p ≤ 13) (hA : A.length ≤ 12) : webB p A = true := by
  have h1 : A.all (arr1 p) = true := List.all_eq_true.mpr fun q m => by
    have := h.ar q m
    simp only [arr1, Bool.and_eq_true, decide_eq_true_eq]
    refine ⟨this.1, this.2.1, this.2.2.1, this.2.2.2.1, fun e => ?_⟩
    have := this.2.2.2.2.1
    rw [e] at this
    omega
  simp only [webB, Bool.and_eq_true, decide_eq_true_eq, ring_no h hp.1]
  exact ⟨hp.1, hp.2, hA, h1, rfl⟩
theorem Dag.rev {p : Int} {A : List (Int × Int)} {rk : Int → Nat} (h : Dag p A rk) : Dag p (revA A) fun x => p.toNat - 1 - rk x where
  ar := fun q m => by
    obtain ⟨q0, m0, rfl⟩ := List.mem_map.mp m
    have := h.ar q0 m0
    simp only
    omega
def sA (A : List (Int × Int)) (f : Int × Int → Int) : Int := (A.map f).sum
theorem sA_add (A : List (Int × Int)) (f g : Int × Int → Int) : sA A (fun q => f q + g q) = sA A f + sA A g := by
  induction A with
  | nil => rfl
  | cons q A ih =>
    simp only [sA, List.map_cons, List.sum_cons] at ih ⊢
    omega
theorem sA_congr {A : List (Int × Int)} {f g : Int × Int → Int} (h : ∀ q ∈ A, f q = g q) : sA A f = sA A g := by
  unfold sA
  rw [List.map_congr_left h]
def rg (p : Nat) (f : Int → Int) : List Int := (List.range p).map fun (i : Nat) => f (i : Int)
theorem rg_len (p : Nat) (f : Int → Int) : (rg p f).length = p := by simp [rg]
theorem rg_gt {p : Nat} {f : Int → Int} {x : Int} (h : 0 ≤ x ∧ x < p) : gt (rg p f) x = f x := by
  have : x.toNat < p := by omega
  have e : ((x.toNat : Nat) : Int) = x := by omega
  simp [gt, rg, List.getD_eq_getElem?_getD, this, e]
theorem rg_congr {p : Nat} {f g : Int → Int} (h : ∀ x : Int, 0 ≤ x → x < p → f x = g x) : rg p f = rg p g := by
  unfold rg
  refine List.map_congr_left fun i m => ?_
  have := List.mem_range.mp m
  exact h _ (by omega) (by omega)
theorem rg_self (r : List Int) : rg r.length (gt r) = r := by
  refine List.ext_getElem (by simp [rg]) fun i h1 h2 => ?_
  simp [rg, gt, List.getD_eq_getElem?_getD, h2]
def sP (p : Nat) (f : Int → Int) : Int := (rg p f).sum
theorem sP_add (p : Nat) (f g : Int → Int) : sP p (fun x => f x + g x) = sP p f + sP p g := by
  unfold sP rg
  induction (List.range p) with
  | nil => rfl
  | cons q A ih =>
    simp only [List.map_cons, List.sum_cons] at ih ⊢
    omega
theorem sP_congr {p : Nat} {f g : Int → Int} (h : ∀ x : Int, 0 ≤ x → x < p → f x = g x) : sP p f = sP p g := by
  unfold sP; rw [rg_congr h]
theorem zip_sP : ∀ (p : Nat) (f g : Int → Int), (((rg p f).zip (rg p g)).map fun q => q.1 * q.2).sum = sP p fun e => f e * g e := by
  intro p f g
  unfold sP rg
  rw [List.zip_map', List.map_map]
  rfl
/-- a form over places -/
theorem form_sP {p : Nat} {A : List (Int × Int)} {r o : List Int} (hr : r.length = p) (ho : o.length = p) : formF A r o = sP p (fun e => gt r e * gt o e) - sA A fun q => gt r q.1 * gt o q.2 := by
  unfold formF
  have e1 := rg_self r
  have e2 := rg_self o
  rw [hr] at e1
  rw [ho] at e2
  have := zip_sP p (gt r) (gt o)
  rw [e1, e2] at this
  rw [this]; rfl
def addR (r o : List Int) : List Int := (r.zip o).map fun q => q.1 + q.2
theorem addR_rg {p : Nat} {r o : List Int} (hr : r.length = p) (ho : o.length = p) : addR r o = rg p fun e => gt r e + gt o e := by
  have e1 := rg_self r
  have e2 := rg_self o
  rw [hr] at e1
  rw [ho] at e2
  unfold addR
  rw [← e1, ← e2]
  unfold rg
  rw [List.zip_map', List.map_map]
  refine List.map_congr_left fun i m => ?_
  have := List.mem_range.mp m
  have a1 := rg_gt (p := p) (f := gt r) (x := (i : Int)) (by omega)
  have a2 := rg_gt (p := p) (f := gt o) (x := (i : Int)) (by omega)
  unfold rg at a1 a2
  simp only [Function.comp]
  rw [a1, a2]
theorem form_addL {p : Nat} {A : List (Int × Int)} {r o t : List Int} (hA : ∀ q ∈ A, 0 ≤ q.1 ∧ q.1 < p) (hr : r.length = p) (ho : o.length = p) (ht : t.length = p) : formF A (addR r t) o = formF A r o + formF A t o := by
  rw [form_sP hr ho, form_sP ht ho, form_sP (p := p) (by rw [addR_rg hr ht, rg_len]) ho, addR_rg hr ht]
  have e1 : sP p (fun e => gt (rg p fun e => gt r e + gt t e) e * gt o e) = sP p (fun e => gt r e * gt o e) + sP p (fun e => gt t e * gt o e) := by
    rw [← sP_add]
    refine sP_congr fun x h1 h2 => ?_
    rw [rg_gt ⟨h1, h2⟩, Int.add_mul]
  have e2 : (sA A fun q => gt (rg p fun e => gt r e + gt t e) q.1 * gt o q.2) = (sA A fun q => gt r q.1 * gt o q.2) + sA A fun q => gt t q.1 * gt o q.2 := by
    rw [← sA_add]
    refine sA_congr fun q m => ?_
    rw [rg_gt (hA q m), Int.add_mul]
  rw [e1, e2]; omega
def pot (a b : Int) : List (List D) := [[.int a, .int b]]
theorem smod (x M : Int) (h : 0 < M ∧ M < 2 ^ 63) : small64 (x % M) = true := by
  have h1 := Int.emod_nonneg x (show M ≠ 0 by omega)
  have h2 := Int.emod_lt_of_pos x h.1
  unfold small64
  simp only [Bool.and_eq_true, decide_eq_true_eq]
  omega
theorem k_draw (fu n : Nat) (a b k : Int) (hk : 0 < k ∧ k ≤ 1000) : ∃ d a' b', run pg fu (n + 1) 21 [(.loc 0, 0), (.int k, 0)] (pot a b) = .ok ((.int d, 0), pot a' b') ∧ 0 ≤ d ∧ d < k := by
  rw [run_s (show pg.fns[21]? = some f__law_draw from rfl) rfl (by decide)]
  by_cases h : 0 < a
  · have h1 : 0 < k ∧ k < 1073741824 := by omega
    simp -implicitDefEqProofs -dsimp [f__law_draw, execs, exec, ev, evs, args, ↓toBd, bkd, basd, oS, bool1, arg1, vals, pm10, pm210, pm0, after, lent, endF, opd, g_get, g_put, Sta.low, Sta.shr, Pg.cfg, cmpD, Od.val, Od.share, Od.own, Sta.wipe, TI, LI, WA, SQt, SQf, evI, seqD, zipD, Sta.froz, Sta.back, frz1, stSs, stS, tgs, tgss, lF0, lF1, nav, toInts, toInt, asT, asTs, b1D, b2D, binD, flatK, cnd, prt, tyD, negD, at0, isD, mtD, okM, fits, pgm, MP.eq_int, MP.eq_bl, lim1, lim2, lim3, lim4, lim5, lim6, lim7, lim8, lim9, lim10, lim11, lim12, lim13, lim14, lim15, lim16, lim17, lim18, lim19, lim20, lim21, lim22, lim23, lim24, lim0', lim1', lim2', lim3', pot, atD, ixN, h, h1]
    exact ⟨Int.emod_nonneg _ (by omega), Int.emod_lt_of_pos _ hk.1⟩
  · have s1 : small64 40819 = true := by decide
    have hb := fun x => smod x 2147483563 (by decide)
    simp -implicitDefEqProofs -dsimp [f__law_draw, execs, exec, ev, evs, args, ↓toBd, bkd, basd, oS, bool1, arg1, vals, pm10, pm210, pm0, after, lent, endF, opd, g_get, g_put, Sta.low, Sta.shr, Pg.cfg, cmpD, Od.val, Od.share, Od.own, Sta.wipe, TI, LI, WA, SQt, SQf, evI, seqD, zipD, Sta.froz, Sta.back, frz1, stSs, stS, tgs, tgss, lF0, lF1, nav, toInts, toInt, asT, asTs, b1D, b2D, binD, flatK, cnd, prt, tyD, negD, at0, isD, mtD, okM, fits, pgm, MP.eq_int, MP.eq_bl, lim1, lim2, lim3, lim4, lim5, lim6, lim7, lim8, lim9, lim10, lim11, lim12, lim13, lim14, lim15, lim16, lim17, lim18, lim19, lim20, lim21, lim22, lim23, lim24, lim0', lim1', lim2', lim3', pot, atD, ixN, h, s1, hb, hk.1]
    exact ⟨Int.emod_nonneg _ (by omega), Int.emod_lt_of_pos _ hk.1⟩
theorem k_pot (fu n : Nat) (ns : List Int) : ∃ a b, run pg fu (n + 1) 20 [(.fz (ns.map .int), 0), (.int 0, 0)] [] = .ok ((.loc 0, 0), pot a b) := by
  have s1 : small64 41411 = true := by decide
  have s2 : small64 7297 = true := by decide
  have s3 : small64 1103 = true := by decide
  rw [run_s (show pg.fns[20]? = some f__law_pot from rfl) rfl (by decide)]
  cases ns with
  | nil => simp -implicitDefEqProofs -dsimp [f__law_pot, execs, exec, ev, evs, args, ↓toBd, bkd, basd, oS, bool1, arg1, vals, pm10, pm210, pm0, after, lent, endF, opd, g_get, g_put, Sta.low, Sta.shr, Pg.cfg, cmpD, Od.val, Od.share, Od.own, Sta.wipe, TI, LI, WA, SQt, SQf, evI, seqD, zipD, Sta.froz, Sta.back, frz1, stSs, stS, tgs, tgss, lF0, lF1, nav, toInts, toInt, asT, asTs, b1D, b2D, binD, flatK, cnd, prt, tyD, negD, at0, isD, mtD, okM, fits, pgm, MP.eq_int, MP.eq_bl, lim1, lim2, lim3, lim4, lim5, lim6, lim7, lim8, lim9, lim10, lim11, lim12, lim13, lim14, lim15, lim16, lim17, lim18, lim19, lim20, lim21, lim22, lim23, lim24, lim0', lim1', lim2', lim3', pot, s1, s2, s3, lim]
  | cons x ns =>
    have h0 : (0 : Int) < (ns.length : Int) + 1 := by omega
    simp -implicitDefEqProofs -dsimp [f__law_pot, execs, exec, ev, evs, args, ↓toBd, bkd, basd, oS, bool1, arg1, vals, pm10, pm210, pm0, after, lent, endF, opd, g_get, g_put, Sta.low, Sta.shr, Pg.cfg, cmpD, Od.val, Od.share, Od.own, Sta.wipe, TI, LI, WA, SQt, SQf, evI, seqD, zipD, Sta.froz, Sta.back, frz1, stSs, stS, tgs, tgss, lF0, lF1, nav, toInts, toInt, asT, asTs, b1D, b2D, binD, flatK, cnd, prt, tyD, negD, at0, isD, mtD, okM, fits, pgm, MP.eq_int, MP.eq_bl, lim1, lim2, lim3, lim4, lim5, lim6, lim7, lim8, lim9, lim10, lim11, lim12, lim13, lim14, lim15, lim16, lim17, lim18, lim19, lim20, lim21, lim22, lim23, lim24, lim0', lim1', lim2', lim3', pot, s1, s2, s3, lim, h0]
theorem erase_perm {α : Type} : ∀ (q : List α) (i : Nat) (h : i < q.length), (q[i] :: q.eraseIdx i).Perm q
  | [], i, h => by simp at h
  | x :: q, 0, h => by simp
  | x :: q, i + 1, h => by
    simp only [List.getElem_cons_succ, List.eraseIdx_cons_succ]
    exact (List.Perm.swap ..).trans ((erase_perm q i (by simpa using h)).cons x)
theorem k_order (fu n : Nat) (hfu : 100 ≤ fu) (a b : Int) (p : Nat) (hp : p ≤ 13) : Ends (run pg fu (n + 2) 23 [(.loc 0, 0), (.int (p : Int), 0)] (pot a b)) (fun c => ∃ o a' b', c = ((LI o, 0), pot a' b') ∧ o.Perm (natL p)) .mk := by
  have hr := rng0 (n := p) (by omega)
  have b1 : p ≤ lim := n_lim (by omega)
  have e2 : ((List.range p).map fun (i : Nat) => D.int (i : Int)) = (natL p).map .int := by simp [natL, Function.comp_def]
  have lp : (natL p).length = p := by simp [natL]
  rw [run_s (show pg.fns[23]? = some f__law_order from rfl) rfl (by decide)]
  simp -implicitDefEqProofs -dsimp [f__law_order, execs, exec, ev, evs, args, ↓toBd, bkd, basd, oS, bool1, arg1, vals, pm10, pm210, pm0, after, lent, endF, opd, g_get, g_put, Sta.low, Sta.shr, Pg.cfg, cmpD, Od.val, Od.share, Od.own, Sta.wipe, TI, LI, WA, SQt, SQf, evI, seqD, zipD, Sta.froz, Sta.back, frz1, stSs, stS, tgs, tgss, lF0, lF1, nav, toInts, toInt, asT, asTs, b1D, b2D, binD, flatK, cnd, prt, tyD, negD, at0, isD, mtD, okM, fits, pgm, MP.eq_int, MP.eq_bl, lim1, lim2, lim3, lim4, lim5, lim6, lim7, lim8, lim9, lim10, lim11, lim12, lim13, lim14, lim15, lim16, lim17, lim18, lim19, lim20, lim21, lim22, lim23, lim24, lim0', lim1', lim2', lim3', hr, b1, e2, lp]
  refine lW_E (fun k st => ∃ (l f : List Int) (a' b' : Int), l.length = k ∧ (f ++ l).Perm (natL p) ∧ st = ⟨[some (.loc 0, 0), some (.int (p : Int), 0), some (.lst (l.map .int), 1), some (.lst (f.map .int), 1)], pot a' b'⟩)
    (fun st => ∃ (f : List Int) (a' b' : Int) (k2 : Nat), f.Perm (natL p) ∧ st = ⟨[some (.loc 0, 0), some (.int (p : Int), 0), some (.lst [], 1), some (.lst (f.map .int), 1)], pot a' b'⟩) (k := p) ?_ ?_ ?_ ?_
  · show p < fu
    omega
  · exact ⟨natL p, [], a, b, lp, by simp, rfl⟩
  · rintro k st ⟨l, f, a', b', hl, hpm, rfl⟩
    have hlen := hpm.length_eq
    rw [List.length_append, lp] at hlen
    cases l with
    | nil =>
      have z : eqD pg.eqn (.lst []) (.lst []) = some true := eq_LI0 _ []
      refine .inl ⟨by simp -implicitDefEqProofs -dsimp [f__law_order, execs, exec, ev, evs, args, ↓toBd, bkd, basd, oS, bool1, arg1, vals, pm10, pm210, pm0, after, lent, endF, opd, g_get, g_put, Sta.low, Sta.shr, Pg.cfg, cmpD, Od.val, Od.share, Od.own, Sta.wipe, TI, LI, WA, SQt, SQf, evI, seqD, zipD, Sta.froz, Sta.back, frz1, stSs, stS, tgs, tgss, lF0, lF1, nav, toInts, toInt, asT, asTs, b1D, b2D, binD, flatK, cnd, prt, tyD, negD, at0, isD, mtD, okM, fits, pgm, MP.eq_int, MP.eq_bl, lim1, lim2, lim3, lim4, lim5, lim6, lim7, lim8, lim9, lim10, lim11, lim12, lim13, lim14, lim15, lim16, lim17, lim18, lim19, lim20, lim21, lim22, lim23, lim24, lim0', lim1', lim2', lim3', pot, z], f, a', b', 1, by simpa using hpm, rfl⟩
    | cons x l =>
      have z : eqD pg.eqn (.lst (.int x :: l.map .int)) (.lst []) = some false := eq_LI0 _ (x :: l)
      refine .inr ⟨by simp -implicitDefEqProofs -dsimp [f__law_order, execs, exec, ev, evs, args, ↓toBd, bkd, basd, oS, bool1, arg1, vals, pm10, pm210, pm0, after, lent, endF, opd, g_get, g_put, Sta.low, Sta.shr, Pg.cfg, cmpD, Od.val, Od.share, Od.own, Sta.wipe, TI, LI, WA, SQt, SQf, evI, seqD, zipD, Sta.froz, Sta.back, frz1, stSs, stS, tgs, tgss, lF0, lF1, nav, toInts, toInt, asT, asTs, b1D, b2D, binD, flatK, cnd, prt, tyD, negD, at0, isD, mtD, okM, fits, pgm, MP.eq_int, MP.eq_bl, lim1, lim2, lim3, lim4, lim5, lim6, lim7, lim8, lim9, lim10, lim11, lim12, lim13, lim14, lim15, lim16, lim17, lim18, lim19, lim20, lim21, lim22, lim23, lim24, lim0', lim1', lim2', lim3', pot, z], ?_⟩
      obtain ⟨d, a2, b3, qd, h1, h2⟩ := k_draw fu n a' b' ((x :: l).length : Int) (by simp at hlen ⊢; omega)
      obtain ⟨q, hq⟩ : ∃ q, x :: l = q := ⟨_, rfl⟩
      rw [hq] at qd h2 hl hpm hlen ⊢
      have hd : d.toNat < q.length := by omega
      have e1 : ixN q.length d = some d.toNat := by simp [ixN, h1, h2]
      have e3 : (q.map D.int).eraseIdx d.toNat = (q.eraseIdx d.toNat).map .int := MP.eraseIdx_map ..
      obtain ⟨v, hv⟩ : ∃ v, q[d.toNat] = v := ⟨_, rfl⟩
      have e4 : q[d.toNat]? = some v := by rw [← hv]; simp [hd]
      have e5 : -9223372036854775808 ≤ d := by omega
      have e6 : d < 9223372036854775808 := by omega
      have b2 : f.length < lim := n_lim' (by omega)
      simp only [pot] at qd
      simp -implicitDefEqProofs -dsimp [f__law_order, execs, exec, ev, evs, args, ↓toBd, bkd, basd, oS, bool1, arg1, vals, pm10, pm210, pm0, after, lent, endF, opd, g_get, g_put, Sta.low, Sta.shr, Pg.cfg, cmpD, Od.val, Od.share, Od.own, Sta.wipe, TI, LI, WA, SQt, SQf, evI, seqD, zipD, Sta.froz, Sta.back, frz1, stSs, stS, tgs, tgss, lF0, lF1, nav, toInts, toInt, asT, asTs, b1D, b2D, binD, flatK, cnd, prt, tyD, negD, at0, isD, mtD, okM, fits, pgm, MP.eq_int, MP.eq_bl, lim1, lim2, lim3, lim4, lim5, lim6, lim7, lim8, lim9, lim10, lim11, lim12, lim13, lim14, lim15, lim16, lim17, lim18, lim19, lim20, lim21, lim22, lim23, lim24, lim0', lim1', lim2', lim3', pot, qd, e1, e3, e4, e5, e6, b2]
      refine .ok ⟨rfl, q.length - 1, by omega, q.eraseIdx d.toNat, f ++ [v], a2, b3, by rw [List.length_eraseIdx, if_pos hd], ?_, ?_⟩
      · refine List.Perm.trans ?_ hpm
        rw [List.append_assoc]
        refine List.Perm.append_left f ?_
        rw [← hv]
        exact erase_perm q _ hd
      · simp [pot]
  · rintro st ⟨f, a', b', k2, hpm, rfl⟩
    simp -implicitDefEqProofs -dsimp [f__law_order, execs, exec, ev, evs, args, ↓toBd, bkd, basd, oS, bool1, arg1, vals, pm10, pm210, pm0, after, lent, endF, opd, g_get, g_put, Sta.low, Sta.shr, Pg.cfg, cmpD, Od.val, Od.share, Od.own, Sta.wipe, TI, LI, WA, SQt, SQf, evI, seqD, zipD, Sta.froz, Sta.back, frz1, stSs, stS, tgs, tgss, lF0, lF1, nav, toInts, toInt, asT, asTs, b1D, b2D, binD, flatK, cnd, prt, tyD, negD, at0, isD, mtD, okM, fits, pgm, MP.eq_int, MP.eq_bl, lim1, lim2, lim3, lim4, lim5, lim6, lim7, lim8, lim9, lim10, lim11, lim12, lim13, lim14, lim15, lim16, lim17, lim18, lim19, lim20, lim21, lim22, lim23, lim24, lim0', lim1', lim2', lim3', pot]
    exact .ok ⟨f, a', b', rfl, hpm⟩
theorem k_lrow (fu n : Nat) (a b : Int) (p : Nat) (m : Int) (hp : p ≤ 13) (hm : 0 ≤ m ∧ m ≤ 100) : Ends (run pg fu (n + 2) 25 [(.loc 0, 0), (.int (p : Int), 0), (.int m, 0)] (pot a b)) (fun c => ∃ r a' b', c = ((LI r, 0), pot a' b') ∧ r.length = p ∧ ∀ x ∈ r, 0 ≤ x ∧ x ≤ m) .mk := by
  have hr := rng0 (n := p) (by omega)
  rw [run_s (show pg.fns[25]? = some f__law_row from rfl) rfl (by decide)]
  simp -implicitDefEqProofs -dsimp [f__law_row, execs, exec, ev, evs, args, ↓toBd, bkd, basd, oS, bool1, arg1, vals, pm10, pm210, pm0, after, lent, endF, opd, g_get, g_put, Sta.low, Sta.shr, Pg.cfg, cmpD, Od.val, Od.share, Od.own, Sta.wipe, TI, LI, WA, SQt, SQf, evI, seqD, zipD, Sta.froz, Sta.back, frz1, stSs, stS, tgs, tgss, lF0, lF1, nav, toInts, toInt, asT, asTs, b1D, b2D, binD, flatK, cnd, prt, tyD, negD, at0, isD, mtD, okM, fits, pgm, MP.eq_int, MP.eq_bl, lim1, lim2, lim3, lim4, lim5, lim6, lim7, lim8, lim9, lim10, lim11, lim12, lim13, lim14, lim15, lim16, lim17, lim18, lim19, lim20, lim21, lim22, lim23, lim24, lim0', lim1', lim2', lim3', hr]
  refine lF_N (fun (i : Nat) => .int ((i : Nat) : Int)) (fun i st => ∃ (r : List Int) (a' b' : Int) (x4 : Sl), r.length = i ∧ (∀ x ∈ r, 0 ≤ x ∧ x ≤ m) ∧ st = ⟨[some (.loc 0, 0), some (.int (p : Int), 0), some (.int m, 0), some (.lst (r.map .int), 1), x4], pot a' b'⟩) ?_ ?_ ?_
  · rintro i st j hj ⟨r, a', b', x4, hl, hb, rfl⟩
    have hi : i < p := by simpa using (List.getElem?_eq_some_iff.mp hj).1
    obtain ⟨d, a2, b3, qd, h1, h2⟩ := k_draw fu n a' b' (m + 1) (by omega)
    have b2 : r.length < lim := n_lim' (by omega)
    simp only [pot] at qd
    simp -implicitDefEqProofs -dsimp [f__law_row, execs, exec, ev, evs, args, ↓toBd, bkd, basd, oS, bool1, arg1, vals, pm10, pm210, pm0, after, lent, endF, opd, g_get, g_put, Sta.low, Sta.shr, Pg.cfg, cmpD, Od.val, Od.share, Od.own, Sta.wipe, TI, LI, WA, SQt, SQf, evI, seqD, zipD, Sta.froz, Sta.back, frz1, stSs, stS, tgs, tgss, lF0, lF1, nav, toInts, toInt, asT, asTs, b1D, b2D, binD, flatK, cnd, prt, tyD, negD, at0, isD, mtD, okM, fits, pgm, MP.eq_int, MP.eq_bl, lim1, lim2, lim3, lim4, lim5, lim6, lim7, lim8, lim9, lim10, lim11, lim12, lim13, lim14, lim15, lim16, lim17, lim18, lim19, lim20, lim21, lim22, lim23, lim24, lim0', lim1', lim2', lim3', pot, qd, b2]
    refine .ok ⟨rfl, r ++ [d], a2, b3, some (.int (j : Int), 0), by simp [hl], ?_, by simp [pot]⟩
    intro x mx
    rcases List.mem_append.mp mx with mx | mx
    · exact hb x mx
    · rw [List.mem_singleton.mp mx]; omega
  · exact ⟨[], a, b, none, rfl, by simp, rfl⟩
  · rintro st ⟨r, a', b', x4, hl, hb, rfl⟩
    rw [List.length_range] at hl
    simp -implicitDefEqProofs -dsimp [f__law_row, execs, exec, ev, evs, args, ↓toBd, bkd, basd, oS, bool1, arg1, vals, pm10, pm210, pm0, after, lent, endF, opd, g_get, g_put, Sta.low, Sta.shr, Pg.cfg, cmpD, Od.val, Od.share, Od.own, Sta.wipe, TI, LI, WA, SQt, SQf, evI, seqD, zipD, Sta.froz, Sta.back, frz1, stSs, stS, tgs, tgss, lF0, lF1, nav, toInts, toInt, asT, asTs, b1D, b2D, binD, flatK, cnd, prt, tyD, negD, at0, isD, mtD, okM, fits, pgm, MP.eq_int, MP.eq_bl, lim1, lim2, lim3, lim4, lim5, lim6, lim7, lim8, lim9, lim10, lim11, lim12, lim13, lim14, lim15, lim16, lim17, lim18, lim19, lim20, lim21, lim22, lim23, lim24, lim0', lim1', lim2', lim3', pot]
    exact .ok ⟨r, a', b', rfl, hl, hb⟩
theorem natL_mem {p : Nat} {x : Int} : x ∈ natL p ↔ 0 ≤ x ∧ x < p := by
  simp only [natL, List.mem_map, List.mem_range]
  constructor
  · rintro ⟨i, h, rfl⟩; omega
  · rintro ⟨h1, h2⟩; exact ⟨x.toNat, by omega, by omega⟩
theorem natL_nd (p : Nat) : (natL p).Nodup := by
  show List.Pairwise _ _
  unfold natL
  rw [List.pairwise_map]
  exact (List.nodup_range (n := p)).imp fun {x y} h e => h (by omega)
theorem idx_at {o : List Int} (h : o.Nodup) {t : Nat} (ht : t < o.length) : o.idxOf o[t] = t := List.Nodup.idxOf_getElem h t ht
theorem k_lweb (fu n : Nat) (hfu : 100 ≤ fu) (a b most arrows : Int) (hm : 1 ≤ most ∧ most ≤ 13) (ha : 0 ≤ arrows ∧ arrows ≤ 12) : Ends (run pg fu (n + 3) 24 [(.loc 0, 0), (.int 1, 0), (.int most, 0), (.int arrows, 0)] (pot a b))
    (fun c => ∃ p A rk a' b', c = ((.tup [.int p, .lst (A.map pD)], 0), pot a' b') ∧ 1 ≤ p ∧ p ≤ most ∧ (A.length : Int) ≤ arrows ∧ Dag p A rk) .mk := by
  obtain ⟨d0, a1, b1, q0, u1, u2⟩ := k_draw fu (n + 1) a b most (by omega)
  obtain ⟨p, hp⟩ : ∃ p, 1 + d0 = p := ⟨_, rfl⟩
  have ep : ((p.toNat : Nat) : Int) = p := by omega
  obtain ⟨c, qo, o, a2, b2, rfl, mo⟩ := k_order fu n hfu a1 b1 p.toNat (by omega)
  rw [ep] at qo
  have ol : o.length = p.toNat := by rw [mo.length_eq]; simp [natL]
  have ond : o.Nodup := mo.nodup_iff.mpr (natL_nd p.toNat)
  have om : ∀ x ∈ o, 0 ≤ x ∧ x < p := fun x m => by have := natL_mem.mp (mo.mem_iff.mp m); omega
  have dag0 : Dag p [] (fun x => o.idxOf x) := ⟨fun q m => by cases m⟩
  simp only [pot, LI] at q0 qo
  rw [run_s (show pg.fns[24]? = some f__law_web from rfl) rfl (by decide)]
  by_cases h : 1 < p
  · obtain ⟨d, a3, b3, q1, v1, v2⟩ := k_draw fu (n + 1) a2 b2 (arrows + 1) (by omega)
    have hr := rng0 (n := d.toNat) (by omega)
    have e : ((d.toNat : Nat) : Int) = d := by omega
    rw [e] at hr
    simp only [pot] at q1
    simp -implicitDefEqProofs -dsimp [f__law_web, execs, exec, ev, evs, args, ↓toBd, bkd, basd, oS, bool1, arg1, vals, pm10, pm210, pm0, after, lent, endF, opd, g_get, g_put, Sta.low, Sta.shr, Pg.cfg, cmpD, Od.val, Od.share, Od.own, Sta.wipe, TI, LI, WA, SQt, SQf, evI, seqD, zipD, Sta.froz, Sta.back, frz1, stSs, stS, tgs, tgss, lF0, lF1, nav, toInts, toInt, asT, asTs, b1D, b2D, binD, flatK, cnd, prt, tyD, negD, at0, isD, mtD, okM, fits, pgm, MP.eq_int, MP.eq_bl, lim1, lim2, lim3, lim4, lim5, lim6, lim7, lim8, lim9, lim10, lim11, lim12, lim13, lim14, lim15, lim16, lim17, lim18, lim19, lim20, lim21, lim22, lim23, lim24, lim0', lim1', lim2', lim3', pot, q0, hp, qo, h, q1, hr]
    refine lF_N (fun (i : Nat) => .int ((i : Nat) : Int)) (fun i st => ∃ (A : List (Int × Int)) (a' b' : Int) (x7 x8 : Sl), A.length = i ∧ Dag p A (fun x => o.idxOf x) ∧ st = ⟨[some (.loc 0, 0), some (.int 1, 0), some (.int most, 0), some (.int arrows, 0), some (.int p, 0), some (.lst (o.map .int), 0), some (.lst (A.map pD), 1), x7, x8], pot a' b'⟩) ?_ ?_ ?_
    · rintro i st j hj ⟨A, a', b', x7, x8, lA, hd, rfl⟩
      have hi : i < d.toNat := by simpa using (List.getElem?_eq_some_iff.mp hj).1
      obtain ⟨t, a4, b4, qt, t1, t2⟩ := k_draw fu (n + 1) a' b' (p - 1) (by omega)
      obtain ⟨f, hf⟩ : ∃ f, 1 + t = f := ⟨_, rfl⟩
      obtain ⟨g, a5, b5, qg, g1, g2⟩ := k_draw fu (n + 1) a4 b4 f (by omega)
      have c1 := at_int (a := o) (p := g) (by omega)
      have c2 := at_int (a := o) (p := f) (by omega)
      have c3 : A.length < lim := n_lim' (by omega)
      simp only [pot] at qt qg
      simp -implicitDefEqProofs -dsimp [f__law_web, execs, exec, ev, evs, args, ↓toBd, bkd, basd, oS, bool1, arg1, vals, pm10, pm210, pm0, after, lent, endF, opd, g_get, g_put, Sta.low, Sta.shr, Pg.cfg, cmpD, Od.val, Od.share, Od.own, Sta.wipe, TI, LI, WA, SQt, SQf, evI, seqD, zipD, Sta.froz, Sta.back, frz1, stSs, stS, tgs, tgss, lF0, lF1, nav, toInts, toInt, asT, asTs, b1D, b2D, binD, flatK, cnd, prt, tyD, negD, at0, isD, mtD, okM, fits, pgm, MP.eq_int, MP.eq_bl, lim1, lim2, lim3, lim4, lim5, lim6, lim7, lim8, lim9, lim10, lim11, lim12, lim13, lim14, lim15, lim16, lim17, lim18, lim19, lim20, lim21, lim22, lim23, lim24, lim0', lim1', lim2', lim3', pot, qt, hf, qg, c1, c2, c3]
      refine .ok ⟨rfl, A ++ [(gt o g, gt o f)], a5, b5, some (.int (j : Int), 0), some (.int f, 0), by simp [lA], ⟨fun q m => ?_⟩, by simp [pot, pD]⟩
      rcases List.mem_append.mp m with m | m
      · exact hd.ar q m
      · rw [List.mem_singleton.mp m]
        have lg : g.toNat < o.length := by omega
        have lf : f.toNat < o.length := by omega
        have eg : gt o g = o[g.toNat] := by simp [gt, lg]
        have ef : gt o f = o[f.toNat] := by simp [gt, lf]
        have m1 := om _ (List.getElem_mem lg)
        have m2 := om _ (List.getElem_mem lf)
        simp only [eg, ef, idx_at ond lg, idx_at ond lf]
        omega
    · exact ⟨[], a3, b3, none, none, rfl, dag0, rfl⟩
    · rintro st ⟨A, a', b', x7, x8, lA, hd, rfl⟩
      rw [List.length_range] at lA
      simp -implicitDefEqProofs -dsimp [f__law_web, execs, exec, ev, evs, args, ↓toBd, bkd, basd, oS, bool1, arg1, vals, pm10, pm210, pm0, after, lent, endF, opd, g_get, g_put, Sta.low, Sta.shr, Pg.cfg, cmpD, Od.val, Od.share, Od.own, Sta.wipe, TI, LI, WA, SQt, SQf, evI, seqD, zipD, Sta.froz, Sta.back, frz1, stSs, stS, tgs, tgss, lF0, lF1, nav, toInts, toInt, asT, asTs, b1D, b2D, binD, flatK, cnd, prt, tyD, negD, at0, isD, mtD, okM, fits, pgm, MP.eq_int, MP.eq_bl, lim1, lim2, lim3, lim4, lim5, lim6, lim7, lim8, lim9, lim10, lim11, lim12, lim13, lim14, lim15, lim16, lim17, lim18, lim19, lim20, lim21, lim22, lim23, lim24, lim0', lim1', lim2', lim3', pot]
      exact .ok ⟨p, A, _, a', b', rfl, by omega, by omega, by omega, hd⟩
  · have hr : rngD 0 0 0 = some [] := rfl
    simp -implicitDefEqProofs -dsimp [f__law_web, execs, exec, ev, evs, args, ↓toBd, bkd, basd, oS, bool1, arg1, vals, pm10, pm210, pm0, after, lent, endF, opd, g_get, g_put, Sta.low, Sta.shr, Pg.cfg, cmpD, Od.val, Od.share, Od.own, Sta.wipe, TI, LI, WA, SQt, SQf, evI, seqD, zipD, Sta.froz, Sta.back, frz1, stSs, stS, tgs, tgss, lF0, lF1, nav, toInts, toInt, asT, asTs, b1D, b2D, binD, flatK, cnd, prt, tyD, negD, at0, isD, mtD, okM, fits, pgm, MP.eq_int, MP.eq_bl, lim1, lim2, lim3, lim4, lim5, lim6, lim7, lim8, lim9, lim10, lim11, lim12, lim13, lim14, lim15, lim16, lim17, lim18, lim19, lim20, lim21, lim22, lim23, lim24, lim0', lim1', lim2', lim3', pot, q0, hp, qo, h, hr]
    exact .ok ⟨p, [], _, a2, b2, rfl, by omega, by omega, by simpa using ha.1, dag0⟩
theorem eqv_pD (a b : Int × Int) : PySem.PyData.eqv (toPy (pD a)) (toPy (pD b)) = decide (a = b) := by
  obtain ⟨a1, a2⟩ := a
  obtain ⟨b1, b2⟩ := b
  have := eqv_TI [a1, a2] [b1, b2]
  show PySem.PyData.eqv (toPy (TI [a1, a2])) (toPy (TI [b1, b2])) = _
  rw [this]
  simp
theorem gd_pD (q : Int × Int) : gd 3 (pD q) := gd_TI [q.1, q.2]
theorem gd_webT (p : Int) (A : List (Int × Int)) : gd 5 (.tup [.int p, .tup (A.map pD)]) := gd_tup fun x m => by
  rcases List.mem_cons.mp m with rfl | m
  · exact ⟨rfl, by show _ ≤ _; simp [toPy, PySem.PyData.depth]⟩
  · rcases List.mem_cons.mp m with rfl | m
    · exact gd_mapT gd_pD A
    · cases m
theorem eq_web (e : Nat → Nat) (p q : Int) (A B : List (Int × Int)) : eqD e (.tup [.int p, .tup (A.map pD)]) (.tup [.int q, .tup (B.map pD)]) = some (decide (p = q) && decide (A = B)) := by
  rw [eq_shaped (gd_webT p A) (gd_webT q B) (by decide) (by decide)]
  have h := eqvAll_map (φ := pD) eqv_pD A B
  have h2 : PySem.PyData.eqv (toPy (.tup [.int p, .tup (A.map pD)])) (toPy (.tup [.int q, .tup (B.map pD)])) = (PySem.PyData.eqv (.int p) (.int q) && (PySem.PyData.eqv (.tuple (toPys (A.map pD))) (.tuple (toPys (B.map pD))) && true)) := by
    simp only [toPy, toPys, PySem.PyData.eqv, PySem.PyData.eqvAll]
  rw [h2, eqv_int]
  have h3 : PySem.PyData.eqv (.tuple (toPys (A.map pD))) (.tuple (toPys (B.map pD))) = PySem.PyData.eqvAll (toPys (A.map pD)) (toPys (B.map pD)) := by simp only [PySem.PyData.eqv]
  rw [h3, h, Bool.and_true]
theorem k_eqW (fu n : Nat) (p q : Int) (A B c c') (μ) : run pg fu (n + 1) 37 [(WA p A c, 0), (WA q B c', 0)] μ = .ok ((.bl (decide (p = q) && decide (A = B)), 0), μ) := by
  have h := eq_web pg.eqn p q A B
  rw [run_s (show pg.fns[37]? = some f_WebD_eqD from rfl) rfl (by decide)]
  simp -implicitDefEqProofs -dsimp [f_WebD_eqD, execs, exec, ev, evs, args, ↓toBd, bkd, basd, oS, bool1, arg1, vals, pm10, pm210, pm0, after, lent, endF, opd, g_get, g_put, Sta.low, Sta.shr, Pg.cfg, cmpD, Od.val, Od.share, Od.own, Sta.wipe, TI, LI, WA, SQt, SQf, evI, seqD, zipD, Sta.froz, Sta.back, frz1, stSs, stS, tgs, tgss, lF0, lF1, nav, toInts, toInt, asT, asTs, b1D, b2D, binD, flatK, cnd, prt, tyD, negD, at0, isD, mtD, okM, fits, pgm, MP.eq_int, MP.eq_bl, lim1, lim2, lim3, lim4, lim5, lim6, lim7, lim8, lim9, lim10, lim11, lim12, lim13, lim14, lim15, lim16, lim17, lim18, lim19, lim20, lim21, lim22, lim23, lim24, lim0', lim1', lim2', lim3', h]
theorem k_webT (fu n : Nat) (p : Int) (A : List (Int × Int)) (h : webB p A = true) (μ) : run pg fu (n + 6) 32 [(.ins 0 [], 1), (.int p, 0), (.tup (A.map pD), 0)] μ = .ok ((WA p A (.int (A.length : Int)), 0), μ) := by
  obtain ⟨h1, h2, h3, h4, h5⟩ := webB_ok h
  have q1 := k_isplaces fu (n + 2) p ⟨h1, h2⟩ μ
  have q2 := k_arrlist0 fu n p A h μ
  rw [run_s (show pg.fns[32]? = some f_WebD_initD from rfl) rfl (by decide)]
  simp -implicitDefEqProofs -dsimp [f_WebD_initD, execs, exec, ev, evs, args, ↓toBd, bkd, basd, oS, bool1, arg1, vals, pm10, pm210, pm0, after, lent, endF, opd, g_get, g_put, Sta.low, Sta.shr, Pg.cfg, cmpD, Od.val, Od.share, Od.own, Sta.wipe, TI, LI, WA, SQt, SQf, evI, seqD, zipD, Sta.froz, Sta.back, frz1, stSs, stS, tgs, tgss, lF0, lF1, nav, toInts, toInt, asT, asTs, b1D, b2D, binD, flatK, cnd, prt, tyD, negD, at0, isD, mtD, okM, fits, pgm, MP.eq_int, MP.eq_bl, lim1, lim2, lim3, lim4, lim5, lim6, lim7, lim8, lim9, lim10, lim11, lim12, lim13, lim14, lim15, lim16, lim17, lim18, lim19, lim20, lim21, lim22, lim23, lim24, lim0', lim1', lim2', lim3', q1, q2]
theorem row_bnd {p : Int} {r : List Int} {m : Int} (hl : (r.length : Int) = p) (h : ∀ x ∈ r, 0 ≤ x ∧ x ≤ m) (hm : m ≤ 6) (hs : m * p ≤ 24) : rowB p r = true := by
  have h1 : ∀ r : List Int, (∀ x ∈ r, 0 ≤ x ∧ x ≤ m) → r.sum ≤ m * r.length := by
    intro r
    induction r with
    | nil => intro _; simp
    | cons x r ih =>
      intro h
      have := ih fun y my => h y (List.mem_cons_of_mem _ my)
      have hx := h x (List.mem_cons_self ..)
      rw [List.sum_cons, List.length_cons]
      have e : m * ((r.length + 1 : Nat) : Int) = m * r.length + m := by rw [Int.natCast_add, Int.mul_add]; simp
      omega
  have h2 := h1 r h
  rw [hl] at h2
  simp only [rowB, Bool.and_eq_true, decide_eq_true_eq]
  refine ⟨hl, List.all_eq_true.mpr fun x mx => ?_, by omega⟩
  have := h x mx
  simp [in6]; omega
theorem revA_revA (A : List (Int × Int)) : revA (revA A) = A := by simp [revA, Function.comp_def]
end K18
end
-- SX2
section
set_option maxRecDepth 100000
set_option maxHeartbeats 2000000
namespace K18
open MP
/-! rows below -/
theorem k_belowD (fu n : Nat) (p : Int) (A c) (r : List Int) (hp : (r.length : Int) = p) (hp1 : 1 ≤ p) (hb : Bw r) (μ) : run pg fu (n + 2) 17 [(WA p A c, 0), (LI r, 0)] μ = .ok ((.lst ((belowP r).map LI), 2), μ) := by
  have q2 := k_places fu n p A c μ
  simp only [WA] at q2
  subst hp
  have hl := hb.len
  have hr := rng0 (n := r.length) (by omega)
  rw [run_s (show pg.fns[17]? = some f_below_of from rfl) rfl (by decide)]
  simp -implicitDefEqProofs -dsimp [f_below_of, execs, exec, ev, evs, args, ↓toBd, bkd, basd, oS, bool1, arg1, vals, pm10, pm210, pm0, after, lent, endF, opd, g_get, g_put, Sta.low, Sta.shr, Pg.cfg, cmpD, Od.val, Od.share, Od.own, Sta.wipe, TI, LI, WA, SQt, SQf, evI, seqD, zipD, Sta.froz, Sta.back, frz1, stSs, stS, tgs, tgss, lF0, lF1, nav, toInts, toInt, asT, asTs, b1D, b2D, binD, flatK, cnd, prt, tyD, negD, at0, isD, mtD, okM, fits, pgm, MP.eq_int, MP.eq_bl, lim1, lim2, lim3, lim4, lim5, lim6, lim7, lim8, lim9, lim10, lim11, lim12, lim13, lim14, lim15, lim16, lim17, lim18, lim19, lim20, lim21, lim22, lim23, lim24, lim0', lim1', lim2', lim3', q2, hr]
  refine lF_atB2 (fun (i : Nat) => .int ((i : Nat) : Int)) (fun i st => ∃ x3 x4 x5 x6, st = ⟨[some (.ins 0 [.int (r.length : Int), .tup (A.map pD), c], 0), some (.lst (r.map .int), 0), some (.lst ((belowP (r.take i)).map LI), 2), x3, x4, x5, x6], μ⟩) ?_ ?_ ?_
  · rintro i st p hp ⟨x3, x4, x5, x6, rfl⟩
    have hi : i < r.length := by simpa using (List.getElem?_eq_some_iff.mp hp).1
    obtain rfl : p = i := by
      have := (List.getElem?_eq_some_iff.mp hp).2
      simpa using this.symm
    have hx : r[p]? = some (gt r (p : Int)) := by
      simp [gt, hi]
    have hsx : -1000 ≤ gt r (p : Int) ∧ gt r (p : Int) ≤ 900 := by have := hb.sz _ (List.mem_of_getElem? hx); omega
    have hu := rngU hsx
    have ea := at_int (a := r) (p := (p : Int)) (by omega)
    have ht := belowP_take hx
    have hfew := hb.few (p + 1)
    rw [ht] at hfew
    simp -implicitDefEqProofs -dsimp [f_below_of, execs, exec, ev, evs, args, ↓toBd, bkd, basd, oS, bool1, arg1, vals, pm10, pm210, pm0, after, lent, endF, opd, g_get, g_put, Sta.low, Sta.shr, Pg.cfg, cmpD, Od.val, Od.share, Od.own, Sta.wipe, TI, LI, WA, SQt, SQf, evI, seqD, zipD, Sta.froz, Sta.back, frz1, stSs, stS, tgs, tgss, lF0, lF1, nav, toInts, toInt, asT, asTs, b1D, b2D, binD, flatK, cnd, prt, tyD, negD, at0, isD, mtD, okM, fits, pgm, MP.eq_int, MP.eq_bl, lim1, lim2, lim3, lim4, lim5, lim6, lim7, lim8, lim9, lim10, lim11, lim12, lim13, lim14, lim15, lim16, lim17, lim18, lim19, lim20, lim21, lim22, lim23, lim24, lim0', lim1', lim2', lim3']
    refine lF_N LI (fun i st => ∃ x5 x6, st = ⟨[some (.ins 0 [.int (r.length : Int), .tup (A.map pD), c], 0), some (.lst (r.map .int), 0), some (.lst ((belowP (r.take p)).map LI), 0), some (.int (p : Int), 0), some (.lst ((stepBl ((belowP (r.take p)).take i) (gt r p)).map LI), 2), x5, x6], μ⟩) ?_ ?_ ?_
    · rintro i st q hq ⟨x5, x6, rfl⟩
      have hql : q.length ≤ 100 := by
        have := belowP_mem (List.mem_of_getElem? hq)
        simp at this; omega
      have st1 := stepBl_take (x := gt r (p : Int)) hq
      have le1 := stepBl_le (belowP (r.take p)) (i + 1) (gt r (p : Int))
      rw [st1] at le1
      simp only [List.length_append, List.length_map] at le1
      have b1 : q.length + 1 ≤ lim := n_lim (by omega)
      have b2 : (stepBl ((belowP (r.take p)).take i) (gt r (p : Int))).length + (upTo (gt r (p : Int))).length ≤ lim := n_lim (by omega)
      simp -implicitDefEqProofs -dsimp [f_below_of, execs, exec, ev, evs, args, ↓toBd, bkd, basd, oS, bool1, arg1, vals, pm10, pm210, pm0, after, lent, endF, opd, g_get, g_put, Sta.low, Sta.shr, Pg.cfg, cmpD, Od.val, Od.share, Od.own, Sta.wipe, TI, LI, WA, SQt, SQf, evI, seqD, zipD, Sta.froz, Sta.back, frz1, stSs, stS, tgs, tgss, lF0, lF1, nav, toInts, toInt, asT, asTs, b1D, b2D, binD, flatK, cnd, prt, tyD, negD, at0, isD, mtD, okM, fits, pgm, MP.eq_int, MP.eq_bl, lim1, lim2, lim3, lim4, lim5, lim6, lim7, lim8, lim9, lim10, lim11, lim12, lim13, lim14, lim15, lim16, lim17, lim18, lim19, lim20, lim21, lim22, lim23, lim24, lim0', lim1', lim2', lim3', ea, hu]
      refine lC_mapDN 1 .int (fun s => LI (q ++ [s])) ?_ ?_ ?_
      · intro s m
        simp -implicitDefEqProofs -dsimp [f_below_of, execs, exec, ev, evs, args, ↓toBd, bkd, basd, oS, bool1, arg1, vals, pm10, pm210, pm0, after, lent, endF, opd, g_get, g_put, Sta.low, Sta.shr, Pg.cfg, cmpD, Od.val, Od.share, Od.own, Sta.wipe, TI, LI, WA, SQt, SQf, evI, seqD, zipD, Sta.froz, Sta.back, frz1, stSs, stS, tgs, tgss, lF0, lF1, nav, toInts, toInt, asT, asTs, b1D, b2D, binD, flatK, cnd, prt, tyD, negD, at0, isD, mtD, okM, fits, pgm, MP.eq_int, MP.eq_bl, lim1, lim2, lim3, lim4, lim5, lim6, lim7, lim8, lim9, lim10, lim11, lim12, lim13, lim14, lim15, lim16, lim17, lim18, lim19, lim20, lim21, lim22, lim23, lim24, lim0', lim1', lim2', lim3', b1]
      · omega
      simp -implicitDefEqProofs -dsimp [f_below_of, execs, exec, ev, evs, args, ↓toBd, bkd, basd, oS, bool1, arg1, vals, pm10, pm210, pm0, after, lent, endF, opd, g_get, g_put, Sta.low, Sta.shr, Pg.cfg, cmpD, Od.val, Od.share, Od.own, Sta.wipe, TI, LI, WA, SQt, SQf, evI, seqD, zipD, Sta.froz, Sta.back, frz1, stSs, stS, tgs, tgss, lF0, lF1, nav, toInts, toInt, asT, asTs, b1D, b2D, binD, flatK, cnd, prt, tyD, negD, at0, isD, mtD, okM, fits, pgm, MP.eq_int, MP.eq_bl, lim1, lim2, lim3, lim4, lim5, lim6, lim7, lim8, lim9, lim10, lim11, lim12, lim13, lim14, lim15, lim16, lim17, lim18, lim19, lim20, lim21, lim22, lim23, lim24, lim0', lim1', lim2', lim3', b2]
      refine .ok ⟨rfl, some (.lst (q.map .int), 0), none, ?_⟩
      rw [st1]
      simp [Function.comp_def, LI]
    · exact ⟨_, _, rfl⟩
    · rintro st ⟨x5, x6, rfl⟩
      rw [List.take_length]
      simp -implicitDefEqProofs -dsimp [f_below_of, execs, exec, ev, evs, args, ↓toBd, bkd, basd, oS, bool1, arg1, vals, pm10, pm210, pm0, after, lent, endF, opd, g_get, g_put, Sta.low, Sta.shr, Pg.cfg, cmpD, Od.val, Od.share, Od.own, Sta.wipe, TI, LI, WA, SQt, SQf, evI, seqD, zipD, Sta.froz, Sta.back, frz1, stSs, stS, tgs, tgss, lF0, lF1, nav, toInts, toInt, asT, asTs, b1D, b2D, binD, flatK, cnd, prt, tyD, negD, at0, isD, mtD, okM, fits, pgm, MP.eq_int, MP.eq_bl, lim1, lim2, lim3, lim4, lim5, lim6, lim7, lim8, lim9, lim10, lim11, lim12, lim13, lim14, lim15, lim16, lim17, lim18, lim19, lim20, lim21, lim22, lim23, lim24, lim0', lim1', lim2', lim3']
      refine .ok ⟨rfl, some (.int (p : Int), 0), none, x5, x6, ?_⟩
      rw [ht]
  · exact ⟨_, _, _, _, rfl⟩
  · rintro st ⟨x3, x4, x5, x6, rfl⟩
    rw [List.length_range, List.take_length]
    simp -implicitDefEqProofs -dsimp [f_below_of, execs, exec, ev, evs, args, ↓toBd, bkd, basd, oS, bool1, arg1, vals, pm10, pm210, pm0, after, lent, endF, opd, g_get, g_put, Sta.low, Sta.shr, Pg.cfg, cmpD, Od.val, Od.share, Od.own, Sta.wipe, TI, LI, WA, SQt, SQf, evI, seqD, zipD, Sta.froz, Sta.back, frz1, stSs, stS, tgs, tgss, lF0, lF1, nav, toInts, toInt, asT, asTs, b1D, b2D, binD, flatK, cnd, prt, tyD, negD, at0, isD, mtD, okM, fits, pgm, MP.eq_int, MP.eq_bl, lim1, lim2, lim3, lim4, lim5, lim6, lim7, lim8, lim9, lim10, lim11, lim12, lim13, lim14, lim15, lim16, lim17, lim18, lim19, lim20, lim21, lim22, lim23, lim24, lim0', lim1', lim2', lim3']
theorem k_lbelow (fu n : Nat) (r : List Int) (hb : Bw r) (μ) : run pg fu (n + 1) 26 [(LI r, 0)] μ = .ok ((.lst ((belowP r).map LI), 0), μ) := by
  have hl := hb.len
  rw [run_s (show pg.fns[26]? = some f__law_below from rfl) rfl (by decide)]
  simp -implicitDefEqProofs -dsimp [f__law_below, execs, exec, ev, evs, args, ↓toBd, bkd, basd, oS, bool1, arg1, vals, pm10, pm210, pm0, after, lent, endF, opd, g_get, g_put, Sta.low, Sta.shr, Pg.cfg, cmpD, Od.val, Od.share, Od.own, Sta.wipe, TI, LI, WA, SQt, SQf, evI, seqD, zipD, Sta.froz, Sta.back, frz1, stSs, stS, tgs, tgss, lF0, lF1, nav, toInts, toInt, asT, asTs, b1D, b2D, binD, flatK, cnd, prt, tyD, negD, at0, isD, mtD, okM, fits, pgm, MP.eq_int, MP.eq_bl, lim1, lim2, lim3, lim4, lim5, lim6, lim7, lim8, lim9, lim10, lim11, lim12, lim13, lim14, lim15, lim16, lim17, lim18, lim19, lim20, lim21, lim22, lim23, lim24, lim0', lim1', lim2', lim3']
  refine lF_atB2 .int (fun i st => ∃ k x2 x3 x4 x5, st = ⟨[some (.lst (r.map .int), 0), some (.lst ((belowP (r.take i)).map LI), k), x2, x3, x4, x5], μ⟩) ?_ ?_ ?_
  · rintro i st x hx ⟨k, x2, x3, x4, x5, rfl⟩
    have hsx : -1000 ≤ x ∧ x ≤ 900 := by have := hb.sz _ (List.mem_of_getElem? hx); omega
    have hu := rngU hsx
    have ht := belowP_take hx
    have hfew := hb.few (i + 1)
    rw [ht] at hfew
    cases k
    all_goals
      simp -implicitDefEqProofs -dsimp [f__law_below, execs, exec, ev, evs, args, ↓toBd, bkd, basd, oS, bool1, arg1, vals, pm10, pm210, pm0, after, lent, endF, opd, g_get, g_put, Sta.low, Sta.shr, Pg.cfg, cmpD, Od.val, Od.share, Od.own, Sta.wipe, TI, LI, WA, SQt, SQf, evI, seqD, zipD, Sta.froz, Sta.back, frz1, stSs, stS, tgs, tgss, lF0, lF1, nav, toInts, toInt, asT, asTs, b1D, b2D, binD, flatK, cnd, prt, tyD, negD, at0, isD, mtD, okM, fits, pgm, MP.eq_int, MP.eq_bl, lim1, lim2, lim3, lim4, lim5, lim6, lim7, lim8, lim9, lim10, lim11, lim12, lim13, lim14, lim15, lim16, lim17, lim18, lim19, lim20, lim21, lim22, lim23, lim24, lim0', lim1', lim2', lim3']
      refine lF_N LI (fun j st => ∃ x4 x5, st = ⟨[some (.lst (r.map .int), 0), some (.lst ((belowP (r.take i)).map LI), 0), some (.int x, 0), some (.lst ((stepBl ((belowP (r.take i)).take j) x).map LI), 1), x4, x5], μ⟩) ?_ ?_ ?_
      · rintro j st q hq ⟨x4, x5, rfl⟩
        have hql : q.length ≤ 100 := by
          have := belowP_mem (List.mem_of_getElem? hq)
          simp at this; omega
        have st1 := stepBl_take (x := x) hq
        have le1 := stepBl_le (belowP (r.take i)) (j + 1) x
        rw [st1] at le1
        simp only [List.length_append, List.length_map] at le1
        have b1 : q.length + 1 ≤ lim := n_lim (by omega)
        have b2 : (stepBl ((belowP (r.take i)).take j) x).length + (upTo x).length ≤ lim := n_lim (by omega)
        simp -implicitDefEqProofs -dsimp [f__law_below, execs, exec, ev, evs, args, ↓toBd, bkd, basd, oS, bool1, arg1, vals, pm10, pm210, pm0, after, lent, endF, opd, g_get, g_put, Sta.low, Sta.shr, Pg.cfg, cmpD, Od.val, Od.share, Od.own, Sta.wipe, TI, LI, WA, SQt, SQf, evI, seqD, zipD, Sta.froz, Sta.back, frz1, stSs, stS, tgs, tgss, lF0, lF1, nav, toInts, toInt, asT, asTs, b1D, b2D, binD, flatK, cnd, prt, tyD, negD, at0, isD, mtD, okM, fits, pgm, MP.eq_int, MP.eq_bl, lim1, lim2, lim3, lim4, lim5, lim6, lim7, lim8, lim9, lim10, lim11, lim12, lim13, lim14, lim15, lim16, lim17, lim18, lim19, lim20, lim21, lim22, lim23, lim24, lim0', lim1', lim2', lim3', hu]
        refine lC_mapKN 1 .int (fun s => LI (q ++ [s])) ?_ ?_ ?_
        · intro s m
          simp -implicitDefEqProofs -dsimp [f__law_below, execs, exec, ev, evs, args, ↓toBd, bkd, basd, oS, bool1, arg1, vals, pm10, pm210, pm0, after, lent, endF, opd, g_get, g_put, Sta.low, Sta.shr, Pg.cfg, cmpD, Od.val, Od.share, Od.own, Sta.wipe, TI, LI, WA, SQt, SQf, evI, seqD, zipD, Sta.froz, Sta.back, frz1, stSs, stS, tgs, tgss, lF0, lF1, nav, toInts, toInt, asT, asTs, b1D, b2D, binD, flatK, cnd, prt, tyD, negD, at0, isD, mtD, okM, fits, pgm, MP.eq_int, MP.eq_bl, lim1, lim2, lim3, lim4, lim5, lim6, lim7, lim8, lim9, lim10, lim11, lim12, lim13, lim14, lim15, lim16, lim17, lim18, lim19, lim20, lim21, lim22, lim23, lim24, lim0', lim1', lim2', lim3', b1]
        · omega
        simp -implicitDefEqProofs -dsimp [f__law_below, execs, exec, ev, evs, args, ↓toBd, bkd, basd, oS, bool1, arg1, vals, pm10, pm210, pm0, after, lent, endF, opd, g_get, g_put, Sta.low, Sta.shr, Pg.cfg, cmpD, Od.val, Od.share, Od.own, Sta.wipe, TI, LI, WA, SQt, SQf, evI, seqD, zipD, Sta.froz, Sta.back, frz1, stSs, stS, tgs, tgss, lF0, lF1, nav, toInts, toInt, asT, asTs, b1D, b2D, binD, flatK, cnd, prt, tyD, negD, at0, isD, mtD, okM, fits, pgm, MP.eq_int, MP.eq_bl, lim1, lim2, lim3, lim4, lim5, lim6, lim7, lim8, lim9, lim10, lim11, lim12, lim13, lim14, lim15, lim16, lim17, lim18, lim19, lim20, lim21, lim22, lim23, lim24, lim0', lim1', lim2', lim3', b2]
        refine .ok ⟨rfl, some (.lst (q.map .int), 0), none, ?_⟩
        rw [st1]
        simp [Function.comp_def, LI]
      · exact ⟨_, _, rfl⟩
      · rintro st ⟨x4, x5, rfl⟩
        rw [List.take_length]
        simp -implicitDefEqProofs -dsimp [f__law_below, execs, exec, ev, evs, args, ↓toBd, bkd, basd, oS, bool1, arg1, vals, pm10, pm210, pm0, after, lent, endF, opd, g_get, g_put, Sta.low, Sta.shr, Pg.cfg, cmpD, Od.val, Od.share, Od.own, Sta.wipe, TI, LI, WA, SQt, SQf, evI, seqD, zipD, Sta.froz, Sta.back, frz1, stSs, stS, tgs, tgss, lF0, lF1, nav, toInts, toInt, asT, asTs, b1D, b2D, binD, flatK, cnd, prt, tyD, negD, at0, isD, mtD, okM, fits, pgm, MP.eq_int, MP.eq_bl, lim1, lim2, lim3, lim4, lim5, lim6, lim7, lim8, lim9, lim10, lim11, lim12, lim13, lim14, lim15, lim16, lim17, lim18, lim19, lim20, lim21, lim22, lim23, lim24, lim0', lim1', lim2', lim3']
        refine .ok ⟨rfl, 0, some (.int x, 0), some (.lst ((stepBl (belowP (r.take i)) x).map LI), 0), x4, x5, ?_⟩
        rw [ht]
  · exact ⟨_, _, _, _, _, rfl⟩
  · rintro st ⟨k, x2, x3, x4, x5, rfl⟩
    rw [List.take_length]
    simp -implicitDefEqProofs -dsimp [f__law_below, execs, exec, ev, evs, args, ↓toBd, bkd, basd, oS, bool1, arg1, vals, pm10, pm210, pm0, after, lent, endF, opd, g_get, g_put, Sta.low, Sta.shr, Pg.cfg, cmpD, Od.val, Od.share, Od.own, Sta.wipe, TI, LI, WA, SQt, SQf, evI, seqD, zipD, Sta.froz, Sta.back, frz1, stSs, stS, tgs, tgss, lF0, lF1, nav, toInts, toInt, asT, asTs, b1D, b2D, binD, flatK, cnd, prt, tyD, negD, at0, isD, mtD, okM, fits, pgm, MP.eq_int, MP.eq_bl, lim1, lim2, lim3, lim4, lim5, lim6, lim7, lim8, lim9, lim10, lim11, lim12, lim13, lim14, lim15, lim16, lim17, lim18, lim19, lim20, lim21, lim22, lim23, lim24, lim0', lim1', lim2', lim3']
theorem k_rowsbelow (fu n : Nat) (p : Int) (A c) (t : Bool) (r : List Int) (hp1 : 1 ≤ p ∧ p ≤ 100) (hr : rowB p r = true) (hb : Bw r) (h400 : cntR r ≤ 400) (μ) : run pg fu (n + 5) 19 [(WA p A c, 0), (SQ t r, 0)] μ = .ok ((.lst ((belowP r).map LI), 2), μ) := by
  have q1 := k_wweb fu (n + 2) p A c μ
  have q2 := k_wrow fu n p A c t r hp1.2 hr μ
  have q3 := k_bcount fu (n + 3) r hb μ
  have q4 := k_atmost fu (n + 3) "rows" 400 _ h400 μ
  have q5 := k_belowD fu (n + 2) p A c r (rowB_ok hr).1 hp1.1 hb μ
  simp only [WA, LI] at q1 q2 q3 q5
  rw [run_s (show pg.fns[19]? = some f_rows_below from rfl) rfl (by decide)]
  cases t
  all_goals
    simp only [SQt, SQf] at q2
    simp -implicitDefEqProofs -dsimp [f_rows_below, execs, exec, ev, evs, args, ↓toBd, bkd, basd, oS, bool1, arg1, vals, pm10, pm210, pm0, after, lent, endF, opd, g_get, g_put, Sta.low, Sta.shr, Pg.cfg, cmpD, Od.val, Od.share, Od.own, Sta.wipe, TI, LI, WA, SQt, SQf, evI, seqD, zipD, Sta.froz, Sta.back, frz1, stSs, stS, tgs, tgss, lF0, lF1, nav, toInts, toInt, asT, asTs, b1D, b2D, binD, flatK, cnd, prt, tyD, negD, at0, isD, mtD, okM, fits, pgm, MP.eq_int, MP.eq_bl, lim1, lim2, lim3, lim4, lim5, lim6, lim7, lim8, lim9, lim10, lim11, lim12, lim13, lim14, lim15, lim16, lim17, lim18, lim19, lim20, lim21, lim22, lim23, lim24, lim0', lim1', lim2', lim3', q1, q2, q3, q4, q5]
theorem k_isrow (fu n : Nat) (p : Int) (A c) (r : List Int) (hp : p ≤ 100) (h : rowB p r = true) (μ) : run pg fu (n + 4) 14 [(WA p A c, 0), (LI r, 0)] μ = .ok ((.bl true, 0), μ) := by
  have q1 := k_wweb fu (n + 1) p A c μ
  have q2 := k_rowof fu n p A c false r hp h μ
  simp only [WA, LI, SQf] at q1 q2
  rw [run_s (show pg.fns[14]? = some f_is_row from rfl) rfl (by decide)]
  simp -implicitDefEqProofs -dsimp [f_is_row, execs, exec, ev, evs, args, ↓toBd, bkd, basd, oS, bool1, arg1, vals, pm10, pm210, pm0, after, lent, endF, opd, g_get, g_put, Sta.low, Sta.shr, Pg.cfg, cmpD, Od.val, Od.share, Od.own, Sta.wipe, TI, LI, WA, SQt, SQf, evI, seqD, zipD, Sta.froz, Sta.back, frz1, stSs, stS, tgs, tgss, lF0, lF1, nav, toInts, toInt, asT, asTs, b1D, b2D, binD, flatK, cnd, prt, tyD, negD, at0, isD, mtD, okM, fits, pgm, MP.eq_int, MP.eq_bl, lim1, lim2, lim3, lim4, lim5, lim6, lim7, lim8, lim9, lim10, lim11, lim12, lim13, lim14, lim15, lim16, lim17, lim18, lim19, lim20, lim21, lim22, lim23, lim24, lim0', lim1', lim2', lim3', q1, q2]
end K18
end
-- SX3
section
set_option maxRecDepth 100000
set_option maxHeartbeats 2000000
namespace K18
open MP
/-! the law's looks -/
theorem prodN_le {m : Nat} : ∀ {r : List Int}, (∀ x ∈ r, 0 ≤ x ∧ x ≤ (m : Int)) → prodN r ≤ (m + 1) ^ r.length
  | [], _ => by simp [prodN]
  | x :: r, h => by
    have h1 := prodN_le fun y my => h y (List.mem_cons_of_mem _ my)
    have h2 := h x (List.mem_cons_self ..)
    rw [prodN, List.length_cons, Nat.pow_succ, Nat.mul_comm]
    exact Nat.mul_le_mul h1 (by omega)
theorem less_mem : ∀ {q r : List Int}, leR q r → ∀ x ∈ lessR r q, 0 ≤ x ∧ ∃ y ∈ r, x ≤ y
  | [], [], _, x, m => by simp [lessR] at m
  | [], _ :: _, h, x, m => by simp [leR] at h
  | _ :: _, [], h, x, m => by simp [leR] at h
  | a :: q, b :: r, h, x, m => by
    obtain ⟨h1, h2, h3⟩ := h
    simp only [lessR, List.zip_cons_cons, List.map_cons, List.mem_cons] at m
    rcases m with rfl | m
    · exact ⟨by omega, b, List.mem_cons_self .., by omega⟩
    · obtain ⟨g1, y, g2, g3⟩ := less_mem h3 x m
      exact ⟨g1, y, List.mem_cons_of_mem _ g2, g3⟩
theorem add_less : ∀ {q r : List Int}, leR q r → addR q (lessR r q) = r
  | [], [], _ => rfl
  | [], _ :: _, h => by simp [leR] at h
  | _ :: _, [], h => by simp [leR] at h
  | a :: q, b :: r, h => by
    have := add_less h.2.2
    simp only [addR, lessR, List.zip_cons_cons, List.map_cons] at this ⊢
    rw [this]
    congr 1
    omega
theorem eq_LLI (e : Nat → Nat) (a b : List (List Int)) : eqD e (.lst (a.map LI)) (.lst (b.map LI)) = some (decide (a = b)) := by
  rw [eq_shaped (gd_map gd_LI a) (gd_map gd_LI b) (by decide) (by decide)]
  have h := eqvAll_map (φ := LI) eqv_LI a b
  have h3 : PySem.PyData.eqv (toPy (.lst (a.map LI))) (toPy (.lst (b.map LI))) = PySem.PyData.eqvAll (toPys (a.map LI)) (toPys (b.map LI)) := by simp only [toPy, PySem.PyData.eqv]
  rw [h3, h]
theorem lreq_len {q r : List Int} (h : leR q r) : (lessR r q).length = r.length := by
  have := leR_len h
  rw [lessR, List.length_map, List.length_zip]; omega
theorem k_parts (fu n : Nat) (p m : Int) (A c) (r o : List Int) (hp1 : 1 ≤ p ∧ p ≤ 100) (hA : arrOk p A = true) (hA2 : A.length ≤ 100) (hr : rowB p r = true) (hb : Bw r) (h400 : cntR r ≤ 400) (ho : rowB p o = true)
    (hm : ∀ x ∈ r, 0 ≤ x ∧ x ≤ m) (hm6 : m ≤ 6) (hmp : m * p ≤ 24) (μ) : run pg fu (n + 6) 28 [(WA p A c, 0), (LI r, 0), (LI o, 0)] μ = .ok ((.bl true, 0), μ) := by
  have q1 := k_lbelow fu (n + 4) r hb μ
  have q2 := k_rowsbelow fu n p A c false r hp1 hr hb h400 μ
  have q3 := k_rowsbelow fu n p A c true r hp1 hr hb h400 μ
  have hl := (rowB_ok hr).1
  have rows : ∀ q ∈ belowP r, rowB p q = true ∧ rowB p (lessR r q) = true ∧ formF A q o + formF A (lessR r q) o = formF A r o := by
    intro q mq
    have hle := belowP_le mq
    have hql := leR_len hle
    refine ⟨row_bnd (m := m) (by omega) (fun x mx => ?_) hm6 hmp, row_bnd (m := m) (by rw [lreq_len hle]; omega) (fun x mx => ?_) hm6 hmp, ?_⟩
    · obtain ⟨h1, y, h2, h3⟩ := leR_mem hle x mx
      have := hm y h2
      omega
    · obtain ⟨h1, y, h2, h3⟩ := less_mem hle x mx
      have := hm y h2
      omega
    · have := form_addL (p := p.toNat) (A := A) (r := q) (o := o) (t := lessR r q) (fun z mz => by
        have := List.all_eq_true.mp hA z mz
        simp only [Bool.and_eq_true, decide_eq_true_eq] at this
        omega) (by omega) (by have := (rowB_ok ho).1; omega) (by rw [lreq_len hle]; omega)
      rw [add_less hle] at this
      omega
  have hne : belowP r ≠ [] := fun h => by
    have h1 := belowP_len r
    have h2 : 1 ≤ prodN r := prod_pos fun x mx => (hm x mx).1
    rw [h] at h1
    simp at h1
    omega
  have hall := hb.all
  obtain ⟨q0, rest0, hL⟩ : ∃ q0 rest0, belowP r = q0 :: rest0 := by
    cases h : belowP r with
    | nil => exact absurd h hne
    | cons a b => exact ⟨a, b, rfl⟩
  have q0l : q0.length ≤ 100 := by
    have := belowP_mem (show q0 ∈ belowP r by rw [hL]; exact List.mem_cons_self ..)
    have := hb.len
    omega
  have z1 := eq_LLI pg.eqn (belowP r) (belowP r)
  have q4 := k_form fu n p A c false false r o hp1.2 hA hA2 hr ho μ
  obtain ⟨B, hB⟩ : ∃ B, belowP r = B := ⟨_, rfl⟩
  rw [hB] at q1 q2 q3 z1 rows hall hL
  have z2 : eqD pg.eqn (.lst []) (.lst []) = some true := by
    have := eq_LLI pg.eqn [] []
    simpa using this
  have q5 := fun q (hq : rowB p q = true) => k_isrow fu (n + 1) p A c q hp1.2 hq μ
  have q6 := fun q (hq : rowB p q = true) => k_form fu n p A c false false q o hp1.2 hA hA2 hq ho μ
  have k9 : (0 : Int) < 1 + (B.length : Int) / 9 := by
    have : (0 : Int) ≤ (B.length : Int) / 9 := Int.ediv_nonneg (by omega) (by omega)
    omega
  simp only [WA, LI, SQf, SQt] at q1 q2 q3 q4 q5 q6
  rw [run_s (show pg.fns[28]? = some f__law_parts_right from rfl) rfl (by decide)]
  simp -implicitDefEqProofs -dsimp [f__law_parts_right, execs, exec, ev, evs, args, ↓toBd, bkd, basd, oS, bool1, arg1, vals, pm10, pm210, pm0, after, lent, endF, opd, g_get, g_put, Sta.low, Sta.shr, Pg.cfg, cmpD, Od.val, Od.share, Od.own, Sta.wipe, TI, LI, WA, SQt, SQf, evI, seqD, zipD, Sta.froz, Sta.back, frz1, stSs, stS, tgs, tgss, lF0, lF1, nav, toInts, toInt, asT, asTs, b1D, b2D, binD, flatK, cnd, prt, tyD, negD, at0, isD, mtD, okM, fits, pgm, MP.eq_int, MP.eq_bl, lim1, lim2, lim3, lim4, lim5, lim6, lim7, lim8, lim9, lim10, lim11, lim12, lim13, lim14, lim15, lim16, lim17, lim18, lim19, lim20, lim21, lim22, lim23, lim24, lim0', lim1', lim2', lim3', q1, q2, q3, z1]
  refine lC_if LI LI (fun _ => false) ?_ (by omega) ?_
  · intro q mq
    have h1 := q5 q (rows q mq).1
    simp -implicitDefEqProofs -dsimp [f__law_parts_right, execs, exec, ev, evs, args, ↓toBd, bkd, basd, oS, bool1, arg1, vals, pm10, pm210, pm0, after, lent, endF, opd, g_get, g_put, Sta.low, Sta.shr, Pg.cfg, cmpD, Od.val, Od.share, Od.own, Sta.wipe, TI, LI, WA, SQt, SQf, evI, seqD, zipD, Sta.froz, Sta.back, frz1, stSs, stS, tgs, tgss, lF0, lF1, nav, toInts, toInt, asT, asTs, b1D, b2D, binD, flatK, cnd, prt, tyD, negD, at0, isD, mtD, okM, fits, pgm, MP.eq_int, MP.eq_bl, lim1, lim2, lim3, lim4, lim5, lim6, lim7, lim8, lim9, lim10, lim11, lim12, lim13, lim14, lim15, lim16, lim17, lim18, lim19, lim20, lim21, lim22, lim23, lim24, lim0', lim1', lim2', lim3', h1]
  have ff : B.filter (fun _ => false) = [] := by simp
  simp -implicitDefEqProofs -dsimp [f__law_parts_right, execs, exec, ev, evs, args, ↓toBd, bkd, basd, oS, bool1, arg1, vals, pm10, pm210, pm0, after, lent, endF, opd, g_get, g_put, Sta.low, Sta.shr, Pg.cfg, cmpD, Od.val, Od.share, Od.own, Sta.wipe, TI, LI, WA, SQt, SQf, evI, seqD, zipD, Sta.froz, Sta.back, frz1, stSs, stS, tgs, tgss, lF0, lF1, nav, toInts, toInt, asT, asTs, b1D, b2D, binD, flatK, cnd, prt, tyD, negD, at0, isD, mtD, okM, fits, pgm, MP.eq_int, MP.eq_bl, lim1, lim2, lim3, lim4, lim5, lim6, lim7, lim8, lim9, lim10, lim11, lim12, lim13, lim14, lim15, lim16, lim17, lim18, lim19, lim20, lim21, lim22, lim23, lim24, lim0', lim1', lim2', lim3', ff, z2, q4, k9, stepL_map]
  refine lF_atB2 LI (fun i st => ∃ x6 x7, st = ⟨[some (.ins 0 [.int p, .tup (A.map pD), c], 0), some (.lst (r.map .int), 0), some (.lst (o.map .int), 0), some (.lst (B.map LI), 0), some (.lst (B.map LI), 0), some (.int (formF A r o), 0), x6, x7, none, none], μ⟩) ?_ ?_ ?_
  · rintro i st q hq ⟨x6, x7, rfl⟩
    have mq : q ∈ B := stepL_mem (List.mem_of_getElem? hq)
    obtain ⟨h1, h2, h3⟩ := rows q mq
    have g1 := q6 q h1
    have g2 := q6 (lessR r q) h2
    have ql := (rowB_ok h1).1
    have e1 : ((r.zip q).map fun z => D.int (z.1 - z.2)) = (lessR r q).map .int := by simp [lessR, Function.comp_def]
    simp -implicitDefEqProofs -dsimp [f__law_parts_right, execs, exec, ev, evs, args, ↓toBd, bkd, basd, oS, bool1, arg1, vals, pm10, pm210, pm0, after, lent, endF, opd, g_get, g_put, Sta.low, Sta.shr, Pg.cfg, cmpD, Od.val, Od.share, Od.own, Sta.wipe, TI, LI, WA, SQt, SQf, evI, seqD, zipD, Sta.froz, Sta.back, frz1, stSs, stS, tgs, tgss, lF0, lF1, nav, toInts, toInt, asT, asTs, b1D, b2D, binD, flatK, cnd, prt, tyD, negD, at0, isD, mtD, okM, fits, pgm, MP.eq_int, MP.eq_bl, lim1, lim2, lim3, lim4, lim5, lim6, lim7, lim8, lim9, lim10, lim11, lim12, lim13, lim14, lim15, lim16, lim17, lim18, lim19, lim20, lim21, lim22, lim23, lim24, lim0', lim1', lim2', lim3', zipD_map]
    refine lC_mapN (fun z : Int × Int => .tup [.int z.1, .int z.2]) (fun z => .int (z.1 - z.2)) ?_ ?_ ?_
    · intro z mz
      simp -implicitDefEqProofs -dsimp [f__law_parts_right, execs, exec, ev, evs, args, ↓toBd, bkd, basd, oS, bool1, arg1, vals, pm10, pm210, pm0, after, lent, endF, opd, g_get, g_put, Sta.low, Sta.shr, Pg.cfg, cmpD, Od.val, Od.share, Od.own, Sta.wipe, TI, LI, WA, SQt, SQf, evI, seqD, zipD, Sta.froz, Sta.back, frz1, stSs, stS, tgs, tgss, lF0, lF1, nav, toInts, toInt, asT, asTs, b1D, b2D, binD, flatK, cnd, prt, tyD, negD, at0, isD, mtD, okM, fits, pgm, MP.eq_int, MP.eq_bl, lim1, lim2, lim3, lim4, lim5, lim6, lim7, lim8, lim9, lim10, lim11, lim12, lim13, lim14, lim15, lim16, lim17, lim18, lim19, lim20, lim21, lim22, lim23, lim24, lim0', lim1', lim2', lim3']
    · rw [List.length_zip]; omega
    rw [e1]
    simp -implicitDefEqProofs -dsimp [f__law_parts_right, execs, exec, ev, evs, args, ↓toBd, bkd, basd, oS, bool1, arg1, vals, pm10, pm210, pm0, after, lent, endF, opd, g_get, g_put, Sta.low, Sta.shr, Pg.cfg, cmpD, Od.val, Od.share, Od.own, Sta.wipe, TI, LI, WA, SQt, SQf, evI, seqD, zipD, Sta.froz, Sta.back, frz1, stSs, stS, tgs, tgss, lF0, lF1, nav, toInts, toInt, asT, asTs, b1D, b2D, binD, flatK, cnd, prt, tyD, negD, at0, isD, mtD, okM, fits, pgm, MP.eq_int, MP.eq_bl, lim1, lim2, lim3, lim4, lim5, lim6, lim7, lim8, lim9, lim10, lim11, lim12, lim13, lim14, lim15, lim16, lim17, lim18, lim19, lim20, lim21, lim22, lim23, lim24, lim0', lim1', lim2', lim3', g1, g2, h3]
    exact .ok ⟨rfl, some (.lst (q.map .int), 0), some (.lst ((lessR r q).map .int), 0), rfl⟩
  · exact ⟨_, _, rfl⟩
  · rintro st ⟨x6, x7, rfl⟩
    have l0 : q0.length < lim := n_lim' (by omega)
    have l1 : rest0.length + 1 < lim := by
      have : B.length = rest0.length + 1 := by rw [hL]; rfl
      exact n_lim' (by omega)
    rw [hL] at q2 z1 ⊢
    have i0 : ixN (rest0.length + 1) 0 = some 0 := by simp [ixN]
    simp only [List.map_cons, LI] at q2 z1
    simp -implicitDefEqProofs -dsimp [f__law_parts_right, execs, exec, ev, evs, args, ↓toBd, bkd, basd, oS, bool1, arg1, vals, pm10, pm210, pm0, after, lent, endF, opd, g_get, g_put, Sta.low, Sta.shr, Pg.cfg, cmpD, Od.val, Od.share, Od.own, Sta.wipe, TI, LI, WA, SQt, SQf, evI, seqD, zipD, Sta.froz, Sta.back, frz1, stSs, stS, tgs, tgss, lF0, lF1, nav, toInts, toInt, asT, asTs, b1D, b2D, binD, flatK, cnd, prt, tyD, negD, at0, isD, mtD, okM, fits, pgm, MP.eq_int, MP.eq_bl, lim1, lim2, lim3, lim4, lim5, lim6, lim7, lim8, lim9, lim10, lim11, lim12, lim13, lim14, lim15, lim16, lim17, lim18, lim19, lim20, lim21, lim22, lim23, lim24, lim0', lim1', lim2', lim3', flat1, i0, l0, l1, q2, z1]
theorem eq_told (e : Nat → Nat) (p q : Int) (A B : List (Int × Int)) : eqD e (.tup [.int p, .lst (A.map pD)]) (.tup [.int q, .lst (B.map pD)]) = some (decide (p = q) && decide (A = B)) := by
  have gt : ∀ (p : Int) (A : List (Int × Int)), gd 5 (.tup [.int p, .lst (A.map pD)]) := fun p A => gd_tup fun x m => by
    rcases List.mem_cons.mp m with rfl | m
    · exact ⟨rfl, by show _ ≤ _; simp [toPy, PySem.PyData.depth]⟩
    · rcases List.mem_cons.mp m with rfl | m
      · exact gd_map gd_pD A
      · cases m
  rw [eq_shaped (gt p A) (gt q B) (by decide) (by decide)]
  have h := eqvAll_map (φ := pD) eqv_pD A B
  have h2 : PySem.PyData.eqv (toPy (.tup [.int p, .lst (A.map pD)])) (toPy (.tup [.int q, .lst (B.map pD)])) = (PySem.PyData.eqv (.int p) (.int q) && (PySem.PyData.eqv (.list (toPys (A.map pD))) (.list (toPys (B.map pD))) && true)) := by
    simp only [toPy, toPys, PySem.PyData.eqv, PySem.PyData.eqvAll]
  rw [h2, eqv_int]
  have h3 : PySem.PyData.eqv (.list (toPys (A.map pD))) (.list (toPys (B.map pD))) = PySem.PyData.eqvAll (toPys (A.map pD)) (toPys (B.map pD)) := by simp only [PySem.PyData.eqv]
  rw [h3, h, Bool.and_true]
theorem rev_inj (A B : List (Int × Int)) : decide (revA A = revA B) = decide (A = B) := by
  by_cases h : A = B
  · simp [h]
  · have : revA A ≠ revA B := fun z => h (by rw [← revA_revA A, ← revA_revA B, z])
    simp [h, this]
theorem k_alike (fu n : Nat) (p q : Int) (A B : List (Int × Int)) (hA : webB p A = true) (hA2 : webB p (revA A) = true) (hB : webB q B = true) (hB2 : webB q (revA B) = true) (μ) :
    run pg fu (n + 8) 29 [(WA p A (.int (A.length : Int)), 0), (.int p, 0), (.lst (A.map pD), 0), (.tup [.int q, .lst (B.map pD)], 0)] μ = .ok ((.bl true, 0), μ) := by
  have q1 := k_web fu (n + 1) 0 q B (by decide) hB μ
  have z1 := eq_told pg.eqn p q A B
  have q2 := k_eqW fu (n + 6) p q A B (.int (A.length : Int)) (.int (B.length : Int)) μ
  have q3 := k_eqW fu (n + 6) q p B A (.int (B.length : Int)) (.int (A.length : Int)) μ
  have q4 := k_turned fu n p A (.int (A.length : Int)) hA2 μ
  have q5 := k_turned fu n q B (.int (B.length : Int)) hB2 μ
  have q6 := k_eqW fu (n + 6) p q (revA A) (revA B) (.int (A.length : Int)) (.int (B.length : Int)) μ
  have q7 := k_eqW fu (n + 6) p p A A (.int (A.length : Int)) (.int (A.length : Int)) μ
  rw [rev_inj] at q6
  have e1 : (decide (q = p) && decide (B = A)) = (decide (p = q) && decide (A = B)) := by
    congr 1
    · exact decide_eq_decide.mpr eq_comm
    · exact decide_eq_decide.mpr eq_comm
  rw [e1] at q3
  obtain ⟨bb, hbb⟩ : ∃ bb, (decide (p = q) && decide (A = B)) = bb := ⟨_, rfl⟩
  rw [hbb] at z1 q2 q3 q6
  have z2 : eqD pg.eqn (.lst []) (.lst []) = some true := by
    have := eq_LLI pg.eqn [] []
    simpa using this
  have at1 : ∀ x y : D, atD [x, y] 1 = some y := fun x y => rfl
  obtain ⟨LA, hLA⟩ : ∃ LA, A.map pD = LA := ⟨_, rfl⟩
  obtain ⟨LB, hLB⟩ : ∃ LB, B.map pD = LB := ⟨_, rfl⟩
  obtain ⟨RA, hRA⟩ : ∃ RA, (revA A).map pD = RA := ⟨_, rfl⟩
  obtain ⟨RB, hRB⟩ : ∃ RB, (revA B).map pD = RB := ⟨_, rfl⟩
  simp only [WA, hLA, hLB, hRA, hRB] at q1 q2 q3 q4 q5 q6 q7 z1 ⊢
  rw [run_s (show pg.fns[29]? = some f__law_alike_right from rfl) rfl (by decide)]
  simp -implicitDefEqProofs -dsimp [f__law_alike_right, execs, exec, ev, evs, args, ↓toBd, bkd, basd, oS, bool1, arg1, vals, pm10, pm210, pm0, after, lent, endF, opd, g_get, g_put, Sta.low, Sta.shr, Pg.cfg, cmpD, Od.val, Od.share, Od.own, Sta.wipe, TI, LI, WA, SQt, SQf, evI, seqD, zipD, Sta.froz, Sta.back, frz1, stSs, stS, tgs, tgss, lF0, lF1, nav, toInts, toInt, asT, asTs, b1D, b2D, binD, flatK, cnd, prt, tyD, negD, at0, isD, mtD, okM, fits, pgm, MP.eq_int, MP.eq_bl, lim1, lim2, lim3, lim4, lim5, lim6, lim7, lim8, lim9, lim10, lim11, lim12, lim13, lim14, lim15, lim16, lim17, lim18, lim19, lim20, lim21, lim22, lim23, lim24, lim0', lim1', lim2', lim3', at1, pgi, q1, z1, q2, q3, q4, q5, q6]
  cases bb
  all_goals
    simp -implicitDefEqProofs -dsimp [f__law_alike_right, execs, exec, ev, evs, args, ↓toBd, bkd, basd, oS, bool1, arg1, vals, pm10, pm210, pm0, after, lent, endF, opd, g_get, g_put, Sta.low, Sta.shr, Pg.cfg, cmpD, Od.val, Od.share, Od.own, Sta.wipe, TI, LI, WA, SQt, SQf, evI, seqD, zipD, Sta.froz, Sta.back, frz1, stSs, stS, tgs, tgss, lF0, lF1, nav, toInts, toInt, asT, asTs, b1D, b2D, binD, flatK, cnd, prt, tyD, negD, at0, isD, mtD, okM, fits, pgm, MP.eq_int, MP.eq_bl, lim1, lim2, lim3, lim4, lim5, lim6, lim7, lim8, lim9, lim10, lim11, lim12, lim13, lim14, lim15, lim16, lim17, lim18, lim19, lim20, lim21, lim22, lim23, lim24, lim0', lim1', lim2', lim3', otherK, q7, lC1, lC0, z2, R.bind]
theorem k_other (fu n : Nat) (hfu : 100 ≤ fu) (a b p : Int) (A : List (Int × Int)) (rk : Int → Nat) (hp : 1 ≤ p ∧ p ≤ 4) (hA : A.length ≤ 5) (hd : Dag p A rk) : Ends (run pg fu (n + 4) 27 [(.loc 0, 0), (.int p, 0), (.lst (A.map pD), 0)] (pot a b))
    (fun c => ∃ q B rk a' b', c = ((.tup [.int q, .lst (B.map pD)], 0), pot a' b') ∧ 1 ≤ q ∧ q ≤ 5 ∧ B.length ≤ 5 ∧ Dag q B rk) .mk := by
  obtain ⟨d, a1, b1, q1, u1, u2⟩ := k_draw fu (n + 2) a b 6 (by decide)
  have e1 : (A.map fun q => D.tup [.int q.2, .int q.1]) = (revA A).map pD := by simp [revA, pD, Function.comp_def]
  simp only [pot] at q1
  rw [run_s (show pg.fns[27]? = some f__law_other from rfl) rfl (by decide)]
  by_cases d0 : d = 0
  · subst d0
    simp -implicitDefEqProofs -dsimp [f__law_other, execs, exec, ev, evs, args, ↓toBd, bkd, basd, oS, bool1, arg1, vals, pm10, pm210, pm0, after, lent, endF, opd, g_get, g_put, Sta.low, Sta.shr, Pg.cfg, cmpD, Od.val, Od.share, Od.own, Sta.wipe, TI, LI, WA, SQt, SQf, evI, seqD, zipD, Sta.froz, Sta.back, frz1, stSs, stS, tgs, tgss, lF0, lF1, nav, toInts, toInt, asT, asTs, b1D, b2D, binD, flatK, cnd, prt, tyD, negD, at0, isD, mtD, okM, fits, pgm, MP.eq_int, MP.eq_bl, lim1, lim2, lim3, lim4, lim5, lim6, lim7, lim8, lim9, lim10, lim11, lim12, lim13, lim14, lim15, lim16, lim17, lim18, lim19, lim20, lim21, lim22, lim23, lim24, lim0', lim1', lim2', lim3', pot, q1]
    exact .ok ⟨p, A, rk, a1, b1, rfl, by omega, by omega, by omega, hd⟩
  by_cases d1 : d = 1
  · subst d1
    simp -implicitDefEqProofs -dsimp [f__law_other, execs, exec, ev, evs, args, ↓toBd, bkd, basd, oS, bool1, arg1, vals, pm10, pm210, pm0, after, lent, endF, opd, g_get, g_put, Sta.low, Sta.shr, Pg.cfg, cmpD, Od.val, Od.share, Od.own, Sta.wipe, TI, LI, WA, SQt, SQf, evI, seqD, zipD, Sta.froz, Sta.back, frz1, stSs, stS, tgs, tgss, lF0, lF1, nav, toInts, toInt, asT, asTs, b1D, b2D, binD, flatK, cnd, prt, tyD, negD, at0, isD, mtD, okM, fits, pgm, MP.eq_int, MP.eq_bl, lim1, lim2, lim3, lim4, lim5, lim6, lim7, lim8, lim9, lim10, lim11, lim12, lim13, lim14, lim15, lim16, lim17, lim18, lim19, lim20, lim21, lim22, lim23, lim24, lim0', lim1', lim2', lim3', pot, q1]
    exact .ok ⟨p, A.reverse, rk, a1, b1, by simp [pot], by omega, by omega, by simpa using hA, ⟨fun q m => hd.ar q (List.mem_reverse.mp m)⟩⟩
  by_cases d2 : d = 2
  · subst d2
    simp -implicitDefEqProofs -dsimp [f__law_other, execs, exec, ev, evs, args, ↓toBd, bkd, basd, oS, bool1, arg1, vals, pm10, pm210, pm0, after, lent, endF, opd, g_get, g_put, Sta.low, Sta.shr, Pg.cfg, cmpD, Od.val, Od.share, Od.own, Sta.wipe, TI, LI, WA, SQt, SQf, evI, seqD, zipD, Sta.froz, Sta.back, frz1, stSs, stS, tgs, tgss, lF0, lF1, nav, toInts, toInt, asT, asTs, b1D, b2D, binD, flatK, cnd, prt, tyD, negD, at0, isD, mtD, okM, fits, pgm, MP.eq_int, MP.eq_bl, lim1, lim2, lim3, lim4, lim5, lim6, lim7, lim8, lim9, lim10, lim11, lim12, lim13, lim14, lim15, lim16, lim17, lim18, lim19, lim20, lim21, lim22, lim23, lim24, lim0', lim1', lim2', lim3', pot, q1, cut1]
    exact .ok ⟨p, A.drop 1, rk, a1, b1, by simp [pot], by omega, by omega, by simp; omega, ⟨fun q m => hd.ar q (List.mem_of_mem_drop m)⟩⟩
  by_cases d3 : d = 3
  · subst d3
    simp -implicitDefEqProofs -dsimp [f__law_other, execs, exec, ev, evs, args, ↓toBd, bkd, basd, oS, bool1, arg1, vals, pm10, pm210, pm0, after, lent, endF, opd, g_get, g_put, Sta.low, Sta.shr, Pg.cfg, cmpD, Od.val, Od.share, Od.own, Sta.wipe, TI, LI, WA, SQt, SQf, evI, seqD, zipD, Sta.froz, Sta.back, frz1, stSs, stS, tgs, tgss, lF0, lF1, nav, toInts, toInt, asT, asTs, b1D, b2D, binD, flatK, cnd, prt, tyD, negD, at0, isD, mtD, okM, fits, pgm, MP.eq_int, MP.eq_bl, lim1, lim2, lim3, lim4, lim5, lim6, lim7, lim8, lim9, lim10, lim11, lim12, lim13, lim14, lim15, lim16, lim17, lim18, lim19, lim20, lim21, lim22, lim23, lim24, lim0', lim1', lim2', lim3', pot, q1]
    exact .ok ⟨p + 1, A, rk, a1, b1, rfl, by omega, by omega, by omega, ⟨fun q m => by have := hd.ar q m; omega⟩⟩
  by_cases d4 : d = 4
  · subst d4
    simp -implicitDefEqProofs -dsimp [f__law_other, execs, exec, ev, evs, args, ↓toBd, bkd, basd, oS, bool1, arg1, vals, pm10, pm210, pm0, after, lent, endF, opd, g_get, g_put, Sta.low, Sta.shr, Pg.cfg, cmpD, Od.val, Od.share, Od.own, Sta.wipe, TI, LI, WA, SQt, SQf, evI, seqD, zipD, Sta.froz, Sta.back, frz1, stSs, stS, tgs, tgss, lF0, lF1, nav, toInts, toInt, asT, asTs, b1D, b2D, binD, flatK, cnd, prt, tyD, negD, at0, isD, mtD, okM, fits, pgm, MP.eq_int, MP.eq_bl, lim1, lim2, lim3, lim4, lim5, lim6, lim7, lim8, lim9, lim10, lim11, lim12, lim13, lim14, lim15, lim16, lim17, lim18, lim19, lim20, lim21, lim22, lim23, lim24, lim0', lim1', lim2', lim3', pot, q1]
    refine lC_mapN pD (fun q => .tup [.int q.2, .int q.1]) ?_ (by omega) ?_
    · intro q m
      simp -implicitDefEqProofs -dsimp [f__law_other, execs, exec, ev, evs, args, ↓toBd, bkd, basd, oS, bool1, arg1, vals, pm10, pm210, pm0, after, lent, endF, opd, g_get, g_put, Sta.low, Sta.shr, Pg.cfg, cmpD, Od.val, Od.share, Od.own, Sta.wipe, TI, LI, WA, SQt, SQf, evI, seqD, zipD, Sta.froz, Sta.back, frz1, stSs, stS, tgs, tgss, lF0, lF1, nav, toInts, toInt, asT, asTs, b1D, b2D, binD, flatK, cnd, prt, tyD, negD, at0, isD, mtD, okM, fits, pgm, MP.eq_int, MP.eq_bl, lim1, lim2, lim3, lim4, lim5, lim6, lim7, lim8, lim9, lim10, lim11, lim12, lim13, lim14, lim15, lim16, lim17, lim18, lim19, lim20, lim21, lim22, lim23, lim24, lim0', lim1', lim2', lim3', pD]
    rw [e1]
    simp -implicitDefEqProofs -dsimp [f__law_other, execs, exec, ev, evs, args, ↓toBd, bkd, basd, oS, bool1, arg1, vals, pm10, pm210, pm0, after, lent, endF, opd, g_get, g_put, Sta.low, Sta.shr, Pg.cfg, cmpD, Od.val, Od.share, Od.own, Sta.wipe, TI, LI, WA, SQt, SQf, evI, seqD, zipD, Sta.froz, Sta.back, frz1, stSs, stS, tgs, tgss, lF0, lF1, nav, toInts, toInt, asT, asTs, b1D, b2D, binD, flatK, cnd, prt, tyD, negD, at0, isD, mtD, okM, fits, pgm, MP.eq_int, MP.eq_bl, lim1, lim2, lim3, lim4, lim5, lim6, lim7, lim8, lim9, lim10, lim11, lim12, lim13, lim14, lim15, lim16, lim17, lim18, lim19, lim20, lim21, lim22, lim23, lim24, lim0', lim1', lim2', lim3']
    exact .ok ⟨p, revA A, _, a1, b1, rfl, by omega, by omega, by rw [revA_len]; omega, hd.rev⟩
  · obtain ⟨c0, q2, p2, A2, rk2, a2, b2, rfl, hp1, hp5, hA2, hd2⟩ := k_lweb fu n hfu a1 b1 4 4 (by decide) (by decide)
    simp only [pot] at q2
    simp -implicitDefEqProofs -dsimp [f__law_other, execs, exec, ev, evs, args, ↓toBd, bkd, basd, oS, bool1, arg1, vals, pm10, pm210, pm0, after, lent, endF, opd, g_get, g_put, Sta.low, Sta.shr, Pg.cfg, cmpD, Od.val, Od.share, Od.own, Sta.wipe, TI, LI, WA, SQt, SQf, evI, seqD, zipD, Sta.froz, Sta.back, frz1, stSs, stS, tgs, tgss, lF0, lF1, nav, toInts, toInt, asT, asTs, b1D, b2D, binD, flatK, cnd, prt, tyD, negD, at0, isD, mtD, okM, fits, pgm, MP.eq_int, MP.eq_bl, lim1, lim2, lim3, lim4, lim5, lim6, lim7, lim8, lim9, lim10, lim11, lim12, lim13, lim14, lim15, lim16, lim17, lim18, lim19, lim20, lim21, lim22, lim23, lim24, lim0', lim1', lim2', lim3', pot, q1, d0, d1, d2, d3, d4, q2]
    exact .ok ⟨p2, A2, rk2, a2, b2, rfl, by omega, by omega, by omega, hd2⟩
theorem Dag.webB {p : Int} {A : List (Int × Int)} {rk : Int → Nat} (h : Dag p A rk) (hp : 1 ≤ p ∧ p ≤ 5) (hA : A.length ≤ 5) : webB p A = true ∧ _root_.K18.webB p (revA A) = true :=
  ⟨webB_dag h ⟨hp.1, by omega⟩ (by omega), webB_dag h.rev ⟨hp.1, by omega⟩ (by rw [revA_len]; omega)⟩
theorem k_right (fu n : Nat) (hfu : 100 ≤ fu) (a b : Int) : Ends (run pg fu (n + 9) 30 [(.loc 0, 0)] (pot a b)) (fun c => ∃ μ, c = ((.bl true, 0), μ)) .mk := by
  obtain ⟨c0, q1, p, A, rk, a1, b1, rfl, hp1, hp4, hA, hd⟩ := k_lweb fu (n + 5) hfu a b 4 5 (by decide) (by decide)
  have hA5 : A.length ≤ 5 := by omega
  obtain ⟨hw, hw2⟩ := hd.webB ⟨hp1, by omega⟩ hA5
  have ep : ((p.toNat : Nat) : Int) = p := by omega
  have q2 := fun μ => k_web fu (n + 2) 0 p A (by decide) hw μ
  have q2' := fun μ => k_webT fu (n + 2) p A hw μ
  obtain ⟨c1, q3, r, a2, b2, rfl, lr, br⟩ := k_lrow fu (n + 6) a1 b1 p.toNat (5 - p) (by omega) (by omega)
  obtain ⟨c2, q4, o, a3, b3, rfl, lo, bo⟩ := k_lrow fu (n + 6) a2 b2 p.toNat 6 (by omega) (by decide)
  rw [ep] at q3 q4
  have hmp : (5 - p) * p ≤ 24 := by
    have h : p = 1 ∨ p = 2 ∨ p = 3 ∨ p = 4 := by omega
    rcases h with rfl | rfl | rfl | rfl <;> decide
  have h1 : rowB p r = true := row_bnd (m := 5 - p) (by omega) br (by omega) hmp
  have h2 : rowB p o = true := row_bnd (m := 6) (by omega) bo (by decide) (by omega)
  have hN : prodN r ≤ 400 := by
    have := prodN_le (m := (5 - p).toNat) (r := r) fun x mx => by have := br x mx; omega
    rw [lr] at this
    refine Nat.le_trans this ?_
    have h : p = 1 ∨ p = 2 ∨ p = 3 ∨ p = 4 := by omega
    rcases h with rfl | rfl | rfl | rfl <;> decide
  have hb : Bw r := ⟨by omega, fun x mx => by have := br x mx; omega, by omega⟩
  have h400 : cntR r ≤ 400 := by
    rw [cnt_prod fun x mx => (br x mx).1]; omega
  have q5 := fun μ => k_parts fu (n + 2) p (5 - p) A (.int (A.length : Int)) r o ⟨hp1, by omega⟩ (webB_arrOk hw) (by omega) h1 hb h400 h2 br (by omega) hmp μ
  have q6 := fun q B μ => k_alike fu n p q A B hw hw2 (μ := μ)
  have q7 := fun μ => k_eqW fu (n + 7) p p A A (.int (A.length : Int)) (.int (A.length : Int)) μ
  have hr : rngD 0 3 3 = some ((List.range 3).map fun (i : Nat) => D.int (i : Int)) := rng0 (n := 3) (by decide)
  obtain ⟨LA, hLA⟩ : ∃ LA, A.map pD = LA := ⟨_, rfl⟩
  simp only [WA, LI, pot, hLA] at q1 q2 q2' q3 q4 q5 q6 q7
  rw [run_s (show pg.fns[30]? = some f__law_right from rfl) rfl (by decide)]
  simp -implicitDefEqProofs -dsimp [f__law_right, execs, exec, ev, evs, args, ↓toBd, bkd, basd, oS, bool1, arg1, vals, pm10, pm210, pm0, after, lent, endF, opd, g_get, g_put, Sta.low, Sta.shr, Pg.cfg, cmpD, Od.val, Od.share, Od.own, Sta.wipe, TI, LI, WA, SQt, SQf, evI, seqD, zipD, Sta.froz, Sta.back, frz1, stSs, stS, tgs, tgss, lF0, lF1, nav, toInts, toInt, asT, asTs, b1D, b2D, binD, flatK, cnd, prt, tyD, negD, at0, isD, mtD, okM, fits, pgm, MP.eq_int, MP.eq_bl, lim1, lim2, lim3, lim4, lim5, lim6, lim7, lim8, lim9, lim10, lim11, lim12, lim13, lim14, lim15, lim16, lim17, lim18, lim19, lim20, lim21, lim22, lim23, lim24, lim0', lim1', lim2', lim3', pot, q1, q2, pgi, q3, q4, q5, hr]
  refine lF_N (fun (i : Nat) => .int ((i : Nat) : Int)) (fun m st => ∃ x5 a' b', st = ⟨[some (.loc 0, 0), some (.int p, 0), some (.lst LA, 0), some (.ins 0 [.int p, .tup LA, .int (A.length : Int)], 0), some (.lst (r.map .int), 0), x5], [[.int a', .int b']]⟩) ?_ ?_ ?_
  · rintro m st j hj ⟨x5, a', b', rfl⟩
    obtain ⟨c3, q8, q, B, rk2, a5, b5, rfl, g1, g2, g3, hd2⟩ := k_other fu (n + 4) hfu a' b' p A rk ⟨hp1, hp4⟩ hA5 hd
    obtain ⟨hB, hB2⟩ := hd2.webB ⟨g1, g2⟩ g3
    have q9 := q6 q B [[.int a5, .int b5]] hB hB2
    simp only [pot, hLA] at q8
    simp -implicitDefEqProofs -dsimp [f__law_right, execs, exec, ev, evs, args, ↓toBd, bkd, basd, oS, bool1, arg1, vals, pm10, pm210, pm0, after, lent, endF, opd, g_get, g_put, Sta.low, Sta.shr, Pg.cfg, cmpD, Od.val, Od.share, Od.own, Sta.wipe, TI, LI, WA, SQt, SQf, evI, seqD, zipD, Sta.froz, Sta.back, frz1, stSs, stS, tgs, tgss, lF0, lF1, nav, toInts, toInt, asT, asTs, b1D, b2D, binD, flatK, cnd, prt, tyD, negD, at0, isD, mtD, okM, fits, pgm, MP.eq_int, MP.eq_bl, lim1, lim2, lim3, lim4, lim5, lim6, lim7, lim8, lim9, lim10, lim11, lim12, lim13, lim14, lim15, lim16, lim17, lim18, lim19, lim20, lim21, lim22, lim23, lim24, lim0', lim1', lim2', lim3', q8, q9]
    exact .ok ⟨rfl, some (.int (j : Int), 0), a5, b5, rfl⟩
  · exact ⟨none, _, _, rfl⟩
  · rintro st ⟨x5, a', b', rfl⟩
    simp -implicitDefEqProofs -dsimp [f__law_right, execs, exec, ev, evs, args, ↓toBd, bkd, basd, oS, bool1, arg1, vals, pm10, pm210, pm0, after, lent, endF, opd, g_get, g_put, Sta.low, Sta.shr, Pg.cfg, cmpD, Od.val, Od.share, Od.own, Sta.wipe, TI, LI, WA, SQt, SQf, evI, seqD, zipD, Sta.froz, Sta.back, frz1, stSs, stS, tgs, tgss, lF0, lF1, nav, toInts, toInt, asT, asTs, b1D, b2D, binD, flatK, cnd, prt, tyD, negD, at0, isD, mtD, okM, fits, pgm, MP.eq_int, MP.eq_bl, lim1, lim2, lim3, lim4, lim5, lim6, lim7, lim8, lim9, lim10, lim11, lim12, lim13, lim14, lim15, lim16, lim17, lim18, lim19, lim20, lim21, lim22, lim23, lim24, lim0', lim1', lim2', lim3', q2', pgi, q7]
    exact .ok ⟨_, rfl⟩
theorem k_law (fu n : Nat) (hfu : 100 ≤ fu) (ns : List Int) : ∃ k μ, run pg fu (n + 10) 31 [(.fz (ns.map .int), 0)] [] = .ok ((.bl true, k), μ) := by
  obtain ⟨a, b, q1⟩ := k_pot fu (n + 8) ns
  obtain ⟨c, q2, μ, rfl⟩ := k_right fu n hfu a b
  obtain ⟨μ1, hμ1⟩ : ∃ μ1, pot a b = μ1 := ⟨_, rfl⟩
  rw [hμ1] at q1 q2
  refine ⟨0, μ, ?_⟩
  rw [run_s (show pg.fns[31]? = some f_law from rfl) rfl (by decide)]
  simp -implicitDefEqProofs -dsimp [f_law, execs, exec, ev, evs, args, ↓toBd, bkd, basd, oS, bool1, arg1, vals, pm10, pm210, pm0, after, lent, endF, opd, g_get, g_put, Sta.low, Sta.shr, Pg.cfg, cmpD, Od.val, Od.share, Od.own, Sta.wipe, TI, LI, WA, SQt, SQf, evI, seqD, zipD, Sta.froz, Sta.back, frz1, stSs, stS, tgs, tgss, lF0, lF1, nav, toInts, toInt, asT, asTs, b1D, b2D, binD, flatK, cnd, prt, tyD, negD, at0, isD, mtD, okM, fits, pgm, MP.eq_int, MP.eq_bl, lim1, lim2, lim3, lim4, lim5, lim6, lim7, lim8, lim9, lim10, lim11, lim12, lim13, lim14, lim15, lim16, lim17, lim18, lim19, lim20, lim21, lim22, lim23, lim24, lim0', lim1', lim2', lim3', q1, q2]
end K18
end
-- F18
section
set_option maxRecDepth 100000
set_option maxHeartbeats 0
namespace K18
open MP PySem PyProof.Rows
theorem usl0 {us : List Value} (h : us.length = 0) : us = [] := by
  match us, h with
  | [], _ => exact rfl
theorem usl1 {us : List Value} (h : us.length = 1) : ∃ a, us = [a] := by
  match us, h with
  | [a], _ => exact ⟨a, rfl⟩
theorem usl2 {us : List Value} (h : us.length = 2) : ∃ a b, us = [a, b] := by
  match us, h with
  | [a, b], _ => exact ⟨a, b, rfl⟩
theorem usl3 {us : List Value} (h : us.length = 3) : ∃ a b c, us = [a, b, c] := by
  match us, h with
  | [a, b, c], _ => exact ⟨a, b, c, rfl⟩
theorem usl4 {us : List Value} (h : us.length = 4) : ∃ a b c d, us = [a, b, c, d] := by
  match us, h with
  | [a, b, c, d], _ => exact ⟨a, b, c, d, rfl⟩
theorem b_is_integer : HDef.Bnd d_is_integer := by
  intro kV doc pm an cdv ct us hl
  obtain ⟨a, rfl⟩ := usl1 hl
  kernel_rfl
theorem b_is_count : HDef.Bnd d_is_count := by
  intro kV doc pm an cdv ct us hl
  obtain ⟨a, rfl⟩ := usl1 hl
  kernel_rfl
theorem b_is_list : HDef.Bnd d_is_list := by
  intro kV doc pm an cdv ct us hl
  obtain ⟨a, rfl⟩ := usl1 hl
  kernel_rfl
theorem b_want_at_most : HDef.Bnd d_want_at_most := by
  intro kV doc pm an cdv ct us hl
  obtain ⟨a, b, c, rfl⟩ := usl3 hl
  kernel_rfl
theorem b_is_places : HDef.Bnd d_is_places := by
  intro kV doc pm an cdv ct us hl
  obtain ⟨a, rfl⟩ := usl1 hl
  kernel_rfl
theorem b_is_place_below : HDef.Bnd d_is_place_below := by
  intro kV doc pm an cdv ct us hl
  obtain ⟨a, b, rfl⟩ := usl2 hl
  kernel_rfl
theorem b_is_arrow : HDef.Bnd d_is_arrow := by
  intro kV doc pm an cdv ct us hl
  obtain ⟨a, b, rfl⟩ := usl2 hl
  kernel_rfl
theorem b_is_arrow_list : HDef.Bnd d_is_arrow_list := by
  intro kV doc pm an cdv ct us hl
  obtain ⟨a, b, rfl⟩ := usl2 hl
  kernel_rfl
theorem b_has_ring : HDef.Bnd d_has_ring := by
  intro kV doc pm an cdv ct us hl
  obtain ⟨a, b, rfl⟩ := usl2 hl
  kernel_rfl
theorem b_is_web : HDef.Bnd d_is_web := by
  intro kV doc pm an cdv ct us hl
  obtain ⟨a, rfl⟩ := usl1 hl
  kernel_rfl
theorem b_want_web : HDef.Bnd d_want_web := by
  intro kV doc pm an cdv ct us hl
  obtain ⟨a, rfl⟩ := usl1 hl
  kernel_rfl
theorem b_turned_web : HDef.Bnd d_turned_web := by
  intro kV doc pm an cdv ct us hl
  obtain ⟨a, rfl⟩ := usl1 hl
  kernel_rfl
theorem b_is_row_of : HDef.Bnd d_is_row_of := by
  intro kV doc pm an cdv ct us hl
  obtain ⟨a, b, rfl⟩ := usl2 hl
  kernel_rfl
theorem b_want_row : HDef.Bnd d_want_row := by
  intro kV doc pm an cdv ct us hl
  obtain ⟨a, b, rfl⟩ := usl2 hl
  kernel_rfl
theorem b_is_row : HDef.Bnd d_is_row := by
  intro kV doc pm an cdv ct us hl
  obtain ⟨a, b, rfl⟩ := usl2 hl
  kernel_rfl
theorem b_form_of : HDef.Bnd d_form_of := by
  intro kV doc pm an cdv ct us hl
  obtain ⟨a, b, c, rfl⟩ := usl3 hl
  kernel_rfl
theorem b_below_count : HDef.Bnd d_below_count := by
  intro kV doc pm an cdv ct us hl
  obtain ⟨a, rfl⟩ := usl1 hl
  kernel_rfl
theorem b_below_of : HDef.Bnd d_below_of := by
  intro kV doc pm an cdv ct us hl
  obtain ⟨a, b, rfl⟩ := usl2 hl
  kernel_rfl
theorem b_form : HDef.Bnd d_form := by
  intro kV doc pm an cdv ct us hl
  obtain ⟨a, b, c, rfl⟩ := usl3 hl
  kernel_rfl
theorem b_rows_below : HDef.Bnd d_rows_below := by
  intro kV doc pm an cdv ct us hl
  obtain ⟨a, b, rfl⟩ := usl2 hl
  kernel_rfl
theorem b__law_pot : HDef.Bnd d__law_pot := by
  intro kV doc pm an cdv ct us hl
  obtain ⟨a, b, rfl⟩ := usl2 hl
  kernel_rfl
theorem b__law_draw : HDef.Bnd d__law_draw := by
  intro kV doc pm an cdv ct us hl
  obtain ⟨a, b, rfl⟩ := usl2 hl
  kernel_rfl
theorem b__law_pick : HDef.Bnd d__law_pick := by
  intro kV doc pm an cdv ct us hl
  obtain ⟨a, b, rfl⟩ := usl2 hl
  kernel_rfl
theorem b__law_order : HDef.Bnd d__law_order := by
  intro kV doc pm an cdv ct us hl
  obtain ⟨a, b, rfl⟩ := usl2 hl
  kernel_rfl
theorem b__law_web : HDef.Bnd d__law_web := by
  intro kV doc pm an cdv ct us hl
  obtain ⟨a, b, c, d, rfl⟩ := usl4 hl
  kernel_rfl
theorem b__law_row : HDef.Bnd d__law_row := by
  intro kV doc pm an cdv ct us hl
  obtain ⟨a, b, c, rfl⟩ := usl3 hl
  kernel_rfl
theorem b__law_below : HDef.Bnd d__law_below := by
  intro kV doc pm an cdv ct us hl
  obtain ⟨a, rfl⟩ := usl1 hl
  kernel_rfl
theorem b__law_other : HDef.Bnd d__law_other := by
  intro kV doc pm an cdv ct us hl
  obtain ⟨a, b, c, rfl⟩ := usl3 hl
  kernel_rfl
theorem b__law_parts_right : HDef.Bnd d__law_parts_right := by
  intro kV doc pm an cdv ct us hl
  obtain ⟨a, b, c, rfl⟩ := usl3 hl
  kernel_rfl
theorem b__law_alike_right : HDef.Bnd d__law_alike_right := by
  intro kV doc pm an cdv ct us hl
  obtain ⟨a, b, c, d, rfl⟩ := usl4 hl
  kernel_rfl
theorem b__law_right : HDef.Bnd d__law_right := by
  intro kV doc pm an cdv ct us hl
  obtain ⟨a, rfl⟩ := usl1 hl
  kernel_rfl
theorem b_law : HDef.Bnd d_law := by
  intro kV doc pm an cdv ct us hl
  obtain ⟨a, rfl⟩ := usl1 hl
  kernel_rfl
theorem b_WebD_initD : HDef.Bnd d_WebD_initD := by
  intro kV doc pm an cdv ct us hl
  obtain ⟨a, b, c, rfl⟩ := usl3 hl
  kernel_rfl
theorem b_Web_places : HDef.Bnd d_Web_places := by
  intro kV doc pm an cdv ct us hl
  obtain ⟨a, rfl⟩ := usl1 hl
  kernel_rfl
theorem b_Web_many : HDef.Bnd d_Web_many := by
  intro kV doc pm an cdv ct us hl
  obtain ⟨a, rfl⟩ := usl1 hl
  kernel_rfl
theorem b_Web_arrows : HDef.Bnd d_Web_arrows := by
  intro kV doc pm an cdv ct us hl
  obtain ⟨a, rfl⟩ := usl1 hl
  kernel_rfl
theorem b_Web_ways : HDef.Bnd d_Web_ways := by
  intro kV doc pm an cdv ct us hl
  obtain ⟨a, b, c, rfl⟩ := usl3 hl
  kernel_rfl
theorem b_WebD_eqD : HDef.Bnd d_WebD_eqD := by
  intro kV doc pm an cdv ct us hl
  obtain ⟨a, b, rfl⟩ := usl2 hl
  kernel_rfl
theorem bnds : ∀ d ∈ A.defs, d.Bnd := by
  intro d m
  have m : d ∈ defs := m
  simp only [defs, List.mem_append, List.mem_cons, List.not_mem_nil, or_false, or_assoc] at m
  rcases m with rfl | rfl | rfl | rfl | rfl | rfl | rfl | rfl | rfl | rfl | rfl | rfl | rfl | rfl | rfl | rfl | rfl | rfl | rfl | rfl | rfl | rfl | rfl | rfl | rfl | rfl | rfl | rfl | rfl | rfl | rfl | rfl | rfl | rfl | rfl | rfl | rfl | rfl
  · exact b_is_integer
  · exact b_is_count
  · exact b_is_list
  · exact b_want_at_most
  · exact b_is_places
  · exact b_is_place_below
  · exact b_is_arrow
  · exact b_is_arrow_list
  · exact b_has_ring
  · exact b_is_web
  · exact b_want_web
  · exact b_turned_web
  · exact b_is_row_of
  · exact b_want_row
  · exact b_is_row
  · exact b_form_of
  · exact b_below_count
  · exact b_below_of
  · exact b_form
  · exact b_rows_below
  · exact b__law_pot
  · exact b__law_draw
  · exact b__law_pick
  · exact b__law_order
  · exact b__law_web
  · exact b__law_row
  · exact b__law_below
  · exact b__law_other
  · exact b__law_parts_right
  · exact b__law_alike_right
  · exact b__law_right
  · exact b_law
  · exact b_WebD_initD
  · exact b_Web_places
  · exact b_Web_many
  · exact b_Web_arrows
  · exact b_Web_ways
  · exact b_WebD_eqD
theorem k_19_0_row_web : HDef.Kw d_rows_below 0 ["row", "web"] [1, 0] := by
  refine ⟨by decide, ?_⟩
  intro kV doc pm an cdv ct us ws h1 h2
  obtain rfl := usl0 h1
  obtain ⟨pa, pb, rfl⟩ := usl2 h2
  kernel_rfl
theorem aok : A.Ok where
  self := by kernel_rfl
  look := by kernel_rfl
  bnd := bnds
  kbf := by
    intro f n ks pm d m e
    have m : (f, n, ks, pm) ∈ nm.kbf := m
    simp only [nm, List.mem_cons, List.not_mem_nil, or_false, Prod.mk.injEq] at m
    rcases m with ⟨rfl, rfl, rfl, rfl⟩
    · have e2 : A.defs[19]? = some d_rows_below := by kernel_rfl
      rw [e2] at e; cases e
      exact k_19_0_row_web
  kbc := fun _ _ _ _ _ m => nomatch m
  kbm := fun _ _ _ _ _ _ m => nomatch m
end K18
end
-- R18
section
set_option maxRecDepth 100000
set_option maxHeartbeats 0
namespace K18
open PySem PySem.Spec PyProof.Rows MP
abbrev RowO : PySem.W.OpenRow := PySem.W.OpenLaw.row PySem.Challenge.rw_sureparts_k18_whole_rows_below_and_webs
def adrs : List PySem.Addr := ([3, 6, 4, 21, 38, 51, 64, 76, 88, 100, 119, 128, 135, 142, 149, 203, 214, 221, 228, 233, 238, 245, 252, 257, 262, 269, 276, 281, 288, 293] : List Nat) ++ ([300, 307, 314, 321, 328, 335, 342, 349, 354, 359, 364, 369, 376, 383, 0, 20, 37, 50, 63, 75, 87, 99, 118, 127, 134, 141, 148, 202, 213, 220] : List Nat) ++ ([227, 232, 237, 244, 251, 256, 261, 268, 275, 280, 287, 292, 299, 306, 313, 320, 327, 334, 341, 348, 353, 358, 363, 368, 375, 382, 15, 16, 17, 18] : List Nat) ++ ([19, 35, 36, 39, 49, 52, 62, 74, 86, 98, 116, 117, 122, 123, 124, 125, 126, 129, 130, 131, 132, 133, 136, 137, 138, 139, 140, 143, 144, 145] : List Nat) ++ ([146, 147, 163, 171, 179, 186, 193, 200, 201, 204, 205, 208, 209, 210, 211, 212, 215, 216, 217, 218, 219, 222, 223, 224, 225, 226, 229, 230, 231, 234] : List Nat) ++ ([235, 236, 239, 240, 241, 242, 243, 246, 247, 248, 249, 250, 253, 254, 255, 258, 259, 260, 263, 264, 265, 266, 267, 270, 271, 272, 273, 274, 277, 278] : List Nat) ++ ([279, 282, 283, 284, 285, 286, 289, 290, 291, 294, 295, 296, 297, 298, 301, 302, 303, 304, 305, 308, 309, 310, 311, 312, 315, 316, 317, 318, 319, 322] : List Nat) ++ ([323, 324, 325, 326, 329, 330, 331, 332, 333, 336, 337, 338, 339, 340, 343, 344, 345, 346, 347, 350, 351, 352, 355, 356, 357, 360, 361, 362, 365, 366] : List Nat) ++ ([367, 370, 371, 372, 373, 374, 377, 378, 379, 380, 381, 34, 115, 162, 170, 178, 185, 192, 199, 29, 30, 31, 32, 33, 110, 111, 112, 113, 114, 157] : List Nat) ++ ([158, 159, 160, 161, 169, 177, 180, 181, 182, 183, 184, 187, 188, 189, 190, 191, 194, 195, 196, 197, 198, 164, 165, 166, 167, 168, 172, 173, 174, 175] : List Nat) ++ ([176, 2] : List Nat)
/-- the head's hook over a written list of addresses -/
def hkL (A : Asked) (as : List PySem.Addr) : PySem.W.Hook where
  α := He.AlD
  obs := fun s => A.obs (He.frG s.heap.get? as)
  val := fun _ => A.val
  says := fun _ h => ∃ K : PySem.W.Frag, K.In h ∧ A.Says K
  of := fun _ _ e => ⟨_, He.frG_in, e⟩
  keeps := fun _ _ _ ⟨K, hK, c⟩ k => ⟨K, PySem.W.Frag.In.keeps hK k, c⟩
abbrev hk : PySem.W.Hook := hkL A adrs
def ob (s : PySem.W.SharedT) : He.AlD := A.obs (He.frG (HandSHeadRun.getT s) adrs)
def lo0 : List Str := ["_wall", "__name__", "WebError", "LimitError", "InvalidWeb", "InvalidRow", "InvalidArrows", "InvalidPlaces", "TooMany", "is_integer", "is_count", "is_list", "want_at_most", "MOST_PLACES", "MOST_ARROWS", "Web", "is_places", "is_place_below", "is_arrow", "is_arrow_list", "has_ring", "is_web", "want_web", "turned_web", "MOST_SIZE", "MOST_SUM", "MOST_ROWS", "is_row_of", "want_row", "is_row"]
def lo1 : List Str := ["form_of", "below_count", "below_of", "form", "rows_below", "_law_pot", "_law_draw", "_law_pick", "_law_order", "_law_web", "_law_row", "_law_below", "_law_other", "_law_parts_right", "_law_alike_right", "_law_right"]
open HandSHeadRun PySem PySem.W PySem.Calls PyProof.Rows in
noncomputable def XX (w : World) (os : OsState) := endF (stepQ (denQ tabQ) RowO.prog w) 9000 RowO.prog w os
open HandSHeadRun PySem PySem.W PySem.Calls PyProof.Rows in
theorem p1 (w : World) (os : OsState) : (XX w os).map (fun s => (looksF RowO.prog (boot_heap w.params) s.abs, seenQ (PySem.W.view RowO.prog [50]) (lo0 ++ lo1) (importedModules RowO.prog.main.body) (fun s => xlAt (PySem.W.view RowO.prog [50]) [] s && recOk RowO.toRowW.records s) s.abs)) = some (true, openGood (PySem.W.view RowO.prog [50]) (lo0 ++ lo1)) := by
  kernel_rfl
theorem p2 (w : World) (os : OsState) : (XX w os).map (fun s => ob s) = some A.val := by
  kernel_rfl
theorem runEq (w : World) : HandSHeadRun.RunEq RowO (PySem.W.view RowO.prog [50]) hk ob 9000 (lo0 ++ lo1) w := by
  intro os
  have e1 := p1 w os
  have e2 := p2 w os
  show (XX w os).map _ = _
  cases hx : XX w os with
  | none => rw [hx] at e1; cases e1
  | some s =>
    rw [hx] at e1 e2
    simp only [Option.map_some, Option.some.injEq, Prod.mk.injEq] at e1 e2
    exact congrArg some (Prod.ext e1.1 (Prod.ext e1.2 e2))
end K18
end
-- H18
set_option maxRecDepth 100000
set_option maxHeartbeats 0
namespace K18
open PySem PySem.Spec PyProof.Rows MP
theorem plain : ∀ ns : List Int, ns.length ≤ 63 → ∃ k μ, MP.run A.P 1000 30 31 [(.fz (ns.map .int), 0)] [] = .ok ((.bl true, k), μ) := fun ns _ => k_law 1000 20 (by decide) ns
theorem ob_eq (s : PySem.W.SharedT) : ob s = hk.obs s.abs := by
  have e : HandSHeadRun.getT s = s.abs.heap.get? := funext (HandSHeadRun.getT_eq s)
  show A.obs (He.frG (HandSHeadRun.getT s) adrs) = A.obs (He.frG s.abs.heap.get? adrs)
  rw [e]
end K18
open PySem PySem.W PySem.Calls PyProof.Rows
theorem PySem.Challenge.cw_sureparts_k18_whole_rows_below_and_webs_holds : PySem.Challenge.rw_sureparts_k18_whole_rows_below_and_webs.Holds := by
  w_on; o_law
  refine HandSHeadRun.head_any (r := OpenLaw.row PySem.Challenge.rw_sureparts_k18_whole_rows_below_and_webs) (q := view (OpenLaw.row PySem.Challenge.rw_sureparts_k18_whole_rows_below_and_webs).prog [50]) (H := K18.hk) (ob := K18.ob) (M := 9000) (loose := K18.lo0 ++ K18.lo1) (d := HandSHeadRun.topDef (OpenLaw.row PySem.Challenge.rw_sureparts_k18_whole_rows_below_and_webs).prog 50) (kwd := []) K18.ob_eq
    (by kernel_rfl) (fun s => by kernel_rfl) K18.runEq (by kernel_rfl) (by kernel_rfl) (by kernel_rfl) (by rfl) (by first | assumption | decide +kernel) (by decide +kernel) ⟨rfl, rfl, rfl, rfl, rfl, by decide +kernel⟩ ?hw ?hc
  case hw => w_witness2
  case hc =>
    refine MP.walk_ofG (l := PySem.Challenge.rw_sureparts_k18_whole_rows_below_and_webs) (n := 63) (k := 2 * 30) (x := "script") rfl (by decide) (by kernel_rfl) ⟨⟨rfl, by decide, by decide⟩, rfl⟩ ?F
    intro w mg fa h Y G hmg0
    obtain ⟨K, KX, c⟩ := Y
    have hmg : mg ("law" : PySem.Str) = some (.ref fa) := by
      have e : (HandSHeadRun.topDef (OpenLaw.row PySem.Challenge.rw_sureparts_k18_whole_rows_below_and_webs).prog 50).name = ("law" : PySem.Str) := by kernel_rfl
      rw [← e]
      exact hmg0
    exact MP.Asked.law K18.aok c KX G (li := 31) (d := K18.d_law) (fn := K18.f_law) (by kernel_rfl) (by kernel_rfl) rfl (by kernel_rfl) rfl hmg fun ns h => K18.plain ns h
