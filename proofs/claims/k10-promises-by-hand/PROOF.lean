import PyProof.Rows.All
import PySem.Str
import HandS.ForMost
import HandS.ForExc
import HandS.Flow
import HandS.ExcIs
import HandS.IsInst
import HandS.Deep
import HandS.SortRule
import HandS.SortInts
import HandS.Style
import HandS.Wide
import HandS.Conv
import HandS.NoneIn
import HandS.Zip
import HandS.EndBits
import HandS.Walk
import HandS.More
import HandS.ExcCtx
import HandS.HotCalls
import HandS.Lambda
import HandS.TupSets
import HandS.SetFor
import HandS.Strs
import KE.KDictZip
import KE.KDictItemsList
import HandS.ExcValue
import HandS.Iter
import HandS.Nested
import HandS.HeadWalk
import KE.KNestM
import PySem.Challenge.RW_tipwebs_k10_promises_by_hand
/-! TWA -/
set_option linter.all false
namespace TW
open PySem (Str)
/-! ### values, cells, results -/
inductive Ty where
  | int | bool | str | list | tuple | dict | nont | valErr
  deriving DecidableEq, Repr
inductive U where
  | non
  | bl (b : Bool)
  | int (i : Int)
  | str (s : Str)
  | ty (t : Ty)
  | fn (i : Nat)
  | cls (i : Nat)
  | tup (us : List U)
  | fl (us : List U)
  | sc (us : List U)
  | bo (us : List U)
  | ref (n : Nat)
  | dct
  /-- a lambda: which one, what it captured -/
  | clo (k : Nat) (us : List U)
inductive O where
  | lst (us : List U)
  | ins (c : Nat) (fs : List (Nat × U))
  | dead
abbrev Sto := List O
abbrev Sl := List (Option U)
inductive R (α : Type) where
  | ok (a : α) (S : Sto)
  | ex (c : Nat) (S : Sto)
  | bad
def R.bind {α β : Type} (r : R α) (k : α → Sto → R β) : R β :=
  match r with
  | .ok a S => k a S
  | .ex c S => .ex c S
  | .bad => .bad
def R.opt {α : Type} (o : Option α) (S : Sto) : R α :=
  match o with
  | some a => .ok a S
  | none => .bad
/-- the most items that a sequence has here -/
def top : Nat := 1000000
/-! ### reading sequences -/
def rdL (S : Sto) : U → Option (List U)
  | .fl us => some us
  | .sc us => some us
  | .bo us => some us
  | .ref n => match S[n]? with
    | some (.lst us) => some us
    | _ => none
  | _ => none
/-- a list that is no script -/
def rdX (S : Sto) : U → Option (List U)
  | .fl us => some us
  | .bo us => some us
  | .ref n => match S[n]? with
    | some (.lst us) => some us
    | _ => none
  | _ => none
def isL (S : Sto) (u : U) : Bool := (rdL S u).isSome
def rdQ (S : Sto) : U → Option (List U)
  | .tup us => some us
  | u => rdL S u
def ixU (n : Nat) (i : Int) : Option Nat :=
  if 0 ≤ i then (if i < n then some i.toNat else none) else if -(n : Int) ≤ i then some (i + n).toNat else none
def sIx (n d : Nat) : Option Int → Nat
  | none => d
  | some v => if v < 0 then (v + (n : Int)).toNat else min v.toNat n
def cutU (us : List U) (lo hi : Option Int) : List U :=
  (us.drop (sIx us.length 0 lo)).take (sIx us.length us.length hi - sIx us.length 0 lo)
def every2 : List U → List U
  | [] => []
  | [a] => [a]
  | a :: _ :: r => a :: every2 r
/-! ### data: what == asks -/
inductive Dt where
  | non
  | bl (b : Bool)
  | int (i : Int)
  | str (s : Str)
  | lst (ds : List Dt)
  | tup (ds : List Dt)
mutual
def eqv : Dt → Dt → Bool
  | .non, .non => true
  | .bl a, .bl b => a == b
  | .bl a, .int j => (if a then 1 else 0) == j
  | .int i, .bl b => i == (if b then 1 else 0)
  | .int i, .int j => i == j
  | .str x, .str y => x == y
  | .lst xs, .lst ys => eqvs xs ys
  | .tup xs, .tup ys => eqvs xs ys
  | _, _ => false
def eqvs : List Dt → List Dt → Bool
  | [], [] => true
  | x :: xs, y :: ys => eqv x y && eqvs xs ys
  | _, _ => false
end
/-- a plain text: no sign beyond ASCII -/
def plainS (s : Str) : Bool := s.cps.toList.all fun c => decide (c < 128)
def mapO {α β : Type} (f : α → Option β) : List α → Option (List β)
  | [] => some []
  | a :: r => match f a with
    | some b => match mapO f r with
      | some bs => some (b :: bs)
      | none => none
    | none => none
def toD (S : Sto) : Nat → U → Option Dt
  | _, .non => some .non
  | _, .bl b => some (.bl b)
  | _, .int i => some (.int i)
  | _, .str s => if plainS s then some (.str s) else none
  | k + 1, .tup us => match mapO (toD S k) us with
    | some ds => some (.tup ds)
    | none => none
  | k + 1, .fl us => match mapO (toD S k) us with
    | some ds => some (.lst ds)
    | none => none
  | k + 1, .sc us => match mapO (toD S k) us with
    | some ds => some (.lst ds)
    | none => none
  | k + 1, .bo us => match mapO (toD S k) us with
    | some ds => some (.lst ds)
    | none => none
  | k + 1, .ref n => match S[n]? with
    | some (.lst us) => match mapO (toD S k) us with
      | some ds => some (.lst ds)
      | none => none
    | _ => none
  | _, _ => none
/-- the depth to which data is read -/
def dep : Nat := 30
def eqU (S : Sto) (a b : U) : Option Bool :=
  match toD S dep a, toD S dep b with
  | some d, some e => some (eqv d e)
  | _, _ => none
/-- x in xs -/
def inU (S : Sto) (x xs : U) : Option Bool :=
  match toD S dep x, toD S dep xs with
  | some d, some (.lst ds) => some (ds.any fun z => eqv z d)
  | _, _ => none
def idxOf (d : Dt) : List Dt → Option Nat
  | [] => none
  | z :: r => if eqv z d then some 0 else (idxOf d r).map (· + 1)
/-- xs.index(x) -/
def indexU (S : Sto) (xs x : U) : Option Nat :=
  match toD S dep x, toD S dep xs with
  | some d, some (.lst ds) => idxOf d ds
  | _, _ => none
/-! ### pure values: without cells, and without what is borrowed -/
mutual
def U.pure : U → Bool
  | .tup us => pureL us
  | .fl us => pureL us
  | .clo _ us => pureL us
  | .sc _ => false
  | .bo _ => false
  | .ref _ => false
  | _ => true
def pureL : List U → Bool
  | [] => true
  | u :: us => u.pure && pureL us
end
/-! no cells -/
mutual
def U.noRef : U → Bool
  | .tup us => noRefL us
  | .fl us => noRefL us
  | .sc us => noRefL us
  | .bo us => noRefL us
  | .clo _ us => noRefL us
  | .ref _ => false
  | _ => true
def noRefL : List U → Bool
  | [] => true
  | u :: us => u.noRef && noRefL us
end
/-- a value lent out: cells as lists that are read only -/
def lend (S : Sto) : Nat → U → Option U
  | k, u => if u.noRef then some u else match k, u with
    | k + 1, .tup us => match mapO (lend S k) us with
      | some ws => some (.tup ws)
      | none => none
    | k + 1, .fl us => match mapO (lend S k) us with
      | some ws => some (.fl ws)
      | none => none
    | k + 1, .bo us => match mapO (lend S k) us with
      | some ws => some (.bo ws)
      | none => none
    | k + 1, .ref n => match S[n]? with
      | some (.lst us) => match mapO (lend S k) us with
        | some ws => some (.bo ws)
        | none => none
      | _ => none
    | _, _ => none
/-! ### operators -/
inductive BOp where
  | add | sub | mul | fdiv | mod | pow | shl | shr
  deriving DecidableEq, Repr
inductive COp where
  | eq | ne | lt | le | gt | ge | is | isnot | inn | notin
  deriving DecidableEq, Repr
def bopI : BOp → Int → Int → Option Int
  | .add, i, j => some (i + j)
  | .sub, i, j => some (i - j)
  | .mul, i, j => if i.natAbs.log2 + j.natAbs.log2 < 100000000 then some (i * j) else none
  | .fdiv, i, j => if 0 < j ∧ j.natAbs.log2 < 9000 then some (i / j) else none
  | .mod, i, j => if 0 < j then some (i % j) else none
  | .pow, i, j => if 0 ≤ j ∧ j ≤ 1000000 ∧ i.natAbs < 2 ^ 64 then some (i ^ j.toNat) else none
  | .shl, i, j => if 0 ≤ j ∧ j ≤ 1000000 ∧ i.natAbs < 2 ^ 64 then some (i * 2 ^ j.toNat) else none
  | .shr, i, j => if 0 ≤ j then some (i / 2 ^ j.toNat) else none
def bopU : BOp → U → U → Option U
  | op, .int i, .int j => (bopI op i j).map .int
  | _, _, _ => none
def isU : U → U → Option Bool
  | .non, .non => some true
  | .bl a, .bl b => some (a == b)
  | .bl _, .non => some false
  | .int _, .non => some false
  | .str _, .non => some false
  | .tup _, .non => some false
  | .fl _, .non => some false
  | .sc _, .non => some false
  | .bo _, .non => some false
  | .ref _, .non => some false
  | _, _ => none
def cmpU (S : Sto) : COp → U → U → Option Bool
  | .eq, a, b => eqU S a b
  | .ne, a, b => (eqU S a b).map (!·)
  | .lt, .int i, .int j => some (decide (i < j))
  | .le, .int i, .int j => some (decide (i ≤ j))
  | .gt, .int i, .int j => some (decide (j < i))
  | .ge, .int i, .int j => some (decide (j ≤ i))
  | .is, a, b => isU a b
  | .isnot, a, b => (isU a b).map (!·)
  | .inn, a, b => inU S a b
  | .notin, a, b => (inU S a b).map (!·)
  | _, _, _ => none
/-! ### sorting -/
section
variable {α : Type} (le : α → α → Bool)
def merge : Nat → List α → List α → List α
  | 0, xs, ys => xs ++ ys
  | _ + 1, [], ys => ys
  | _ + 1, xs, [] => xs
  | k + 1, x :: xs, y :: ys => if le x y then x :: merge k xs (y :: ys) else y :: merge k (x :: xs) ys
def halve : List α → List α × List α
  | [] => ([], [])
  | [a] => ([a], [])
  | a :: b :: r => let p := halve r; (a :: p.1, b :: p.2)
def msort : Nat → List α → List α
  | 0, xs => xs
  | _ + 1, [] => []
  | _ + 1, [a] => [a]
  | k + 1, xs => let p := halve xs; merge le xs.length (msort k p.1) (msort k p.2)
end
/-- enough rounds for all that is sorted here -/
def rounds : Nat := 24
def leI (a b : Int) : Bool := decide (a ≤ b)
def leP (p q : Int × Int) : Bool := if p.1 = q.1 then decide (p.2 ≤ q.2) else decide (p.1 < q.1)
/-- the sorted ints, the sorted pairs -/
def srtI (ns : List Int) : List Int := msort leI rounds ns
def srtP (ps : List (Int × Int)) : List (Int × Int) := msort leP rounds ps
def asInt : U → Option Int
  | .int i => some i
  | _ => none
def asBl : U → Option Bool
  | .bl b => some b
  | _ => none
def asPair : U → Option (Int × Int)
  | .tup [.int i, .int j] => some (i, j)
  | _ => none
def pairU (p : Int × Int) : U := .tup [.int p.1, .int p.2]
def sortedU (us : List U) : Option (List U) :=
  match mapO asInt us with
  | some ns => some ((srtI ns).map .int)
  | none => match mapO asPair us with
    | some ps => some ((srtP ps).map pairU)
    | none => none
/-- of equal neighbours one alone -/
def uniq {α : Type} (eq : α → α → Bool) : List α → List α
  | [] => []
  | [a] => [a]
  | a :: b :: r => if eq a b then uniq eq (b :: r) else a :: uniq eq (b :: r)
def eqP (p q : Int × Int) : Bool := decide (p.1 = q.1) && decide (p.2 = q.2)
def eqI (a b : Int) : Bool := decide (a = b)
def lenSetU (us : List U) : Option Nat :=
  match mapO asInt us with
  | some ns => if ns.length < 64 then some (uniq eqI (srtI ns)).length else none
  | none => match mapO asPair us with
    | some ps => if ps.length < 1000 then some (uniq eqP (srtP ps)).length else none
    | none => none
def sortedSetU (us : List U) : Option (List U) :=
  match mapO asInt us with
  | some ns => if ns.length < 64 then some ((uniq eqI (srtI ns)).map .int) else none
  | none => none
/-! ### the program's classes: the parent's index, by the class's; what is straight under an exception -/
structure Pg where
  /-- is class i the class j, or under it -/
  sub : Nat → Nat → Bool
  /-- are instances of class i exceptions (ValueError's) -/
  exc : Nat → Bool
  /-- is there such a class -/
  okc : Nat → Bool
def tyOf (S : Sto) : U → Option (Ty ⊕ Nat)
  | .non => some (.inl .nont)
  | .bl _ => some (.inl .bool)
  | .int _ => some (.inl .int)
  | .str _ => some (.inl .str)
  | .tup _ => some (.inl .tuple)
  | .fl _ => some (.inl .list)
  | .sc _ => some (.inl .list)
  | .bo _ => some (.inl .list)
  | .ref n => match S[n]? with
    | some (.lst _) => some (.inl .list)
    | some (.ins c _) => some (.inr c)
    | _ => none
  | .dct => some (.inl .dict)
  | _ => none
def subTy : Ty → Ty → Bool
  | .bool, .int => true
  | a, b => decide (a = b)
/-- isinstance of the handled exception, of class k -/
def isiX (P : Pg) (k : Nat) : U → Option Bool
  | .cls j => if P.okc j && (P.okc k && P.exc k) then some (P.sub k j) else none
  | .ty .valErr => if P.okc k && P.exc k then some true else none
  | _ => none
def isiU (P : Pg) (S : Sto) (x c : U) : Option Bool :=
  match tyOf S x, c with
  | some (.inl a), .ty b => some (subTy a b)
  | some (.inl _), .cls j => if P.okc j then some false else none
  | some (.inr k), .cls j => if P.okc j && (P.okc k && !P.exc k) then some (P.sub k j) else none
  | _, _ => none
/-! ### the language -/
inductive Bi where
  | len | min2 | max2 | abs | sum | all | any | isi | index | count
  deriving DecidableEq, Repr
inductive LM where
  | append | extend | pop | popAt | insert | reverse
  deriving DecidableEq, Repr
/-- targets -/
inductive IT where
  | nm (i : Nat)
  | tp (l : IT)
  | nil
  | cons (a l : IT)
/-- what reads, and makes -/
inductive IE where
  | c (u : U)
  | v (i : Nat)
  | g (u : U)
  | bin (op : BOp) (a b : IE)
  | neg (a : IE)
  | cmp (op : COp) (a b : IE)
  | chain (op op' : COp) (a b c : IE)
  | chain3 (op op' op'' : COp) (a b c d : IE)
  | not (a : IE)
  | and (a b : IE)
  | or (a b : IE)
  | ife (t a b : IE)
  | tup (es : IE)
  | newF (n : IE)
  | newM (n : IE)
  | ix (a b : IE)
  | fld (a : IE) (f : Nat)
  | callD (m : Bool) (f : Nat) (es : IE)
  | callV (m : Bool) (i : Nat) (es : IE)
  | make (c : Nat) (es : IE)
  | meth (a : IE) (m : Nat) (es : IE)
  | bi (b : Bi) (es : IE)
  | mc (b : Bi) (a e : IE)
  | lm (m : LM) (a es : IE)
  | lm0 (m : LM) (a : IE)
  | lenSet (a : IE)
  | isE (i : Nat) (u : U)
  /-- a lambda, and the slots that it captures -/
  | lmb (k : Nat) (is : List Nat)
  -- lists of these
  | nil
  | cons (e es : IE)
  -- new lists
  | lst (es : IE)
  | comp (t : IT) (it : IE) (has : Bool) (q elt : IE) (own : List Nat)
  | listOf (a : IE)
  | sorted (a : IE)
  | sortedSet (a : IE)
  | slice (a lo hi : IE)
  | rev (a : IE)
  | step2 (a : IE)
  | cat (a b : IE)
  | rep (a b : IE)
  | lrange (a : IE)
  | lzip (a b : IE)
  | none
  | opt (a : IE)
  -- what is walked
  | wL (a : IE)
  | wT (a : IE)
  | wQ (a : IE)
  | wR1 (a : IE)
  | wR2 (a b : IE)
  | wR3 (a b c : IE)
  | wEn (a : IE)
  | wZip (a b : IE)
inductive IS where
  | asg (t : IT) (e : IE)
  | par (is : List Nat) (es : IE)
  | setix (a i e : IE)
  | setix2 (a i b j e f : IE)
  | setfld (a : IE) (f : Nat) (e : IE)
  | aug (i : Nat) (op : BOp) (e : IE)
  | expr (e : IE)
  | ret (e : IE)
  | iff (t : IE) (a b : IS)
  | for (t : IT) (it : IE) (body : IS)
  | whl (fuel : Nat) (t : IE) (body : IS)
  | raise (c : Nat)
  | tryx (e : IE) (c i : Nat) (suite : IS)
  | frz (i : Nat) (s : IS)
  | skip
  | seq (a b : IS)
/-- a walk over a list that may be a cell -/
def IE.isQ : IE → Bool
  | .wQ _ => true
  | _ => false
/-- nothing in it touches the store -/
def IE.quiet : IE → Bool
  | .c _ => true
  | .v _ => true
  | .g _ => true
  | .bin _ a b => a.quiet && b.quiet
  | .neg a => a.quiet
  | .cmp _ a b => a.quiet && b.quiet
  | .chain _ _ a b z => a.quiet && b.quiet && z.quiet
  | .and a b => a.quiet && b.quiet
  | .or a b => a.quiet && b.quiet
  | .not a => a.quiet
  | .bi _ es => es.quiet
  | .mc _ a e => a.quiet && e.quiet
  | .ix a b => a.quiet && b.quiet
  | .tup es => es.quiet
  | .listOf a => a.quiet
  | .newM n => n.quiet
  | .nil => true
  | .cons e es => e.quiet && es.quiet
  | _ => false
/-! ### running it -/
/-- a def's call; the method m of class c; the __init__ of class c -/
structure Env where
  P : Pg
  call : Bool → Nat → List U → Sto → R U
  mt : Nat → Nat → Option Nat
  init : Nat → Option Nat
  /-- is there such a def -/
  okf : Nat → Bool
  /-- is there such a lambda -/
  okl : Nat → Bool
  /-- the handled exception: its name's slot, its class -/
  hx : Option (Nat × Nat)
def bindT (S : Sto) : IT → List U → Sl → Option Sl
  | .nm i, [u], σ => some (σ.set i (some u))
  | .tp l, [.tup us], σ => bindT S l us σ
  | .tp l, [.fl us], σ => bindT S l us σ
  | .tp l, [.bo us], σ => bindT S l us σ
  | .tp l, [.ref n], σ => match S[n]? with
    | some (.lst us) => bindT S l us σ
    | _ => none
  | .nil, [], σ => some σ
  | .cons a l, u :: us, σ => match bindT S a [u] σ with
    | some σ' => bindT S l us σ'
    | none => none
  | _, _, _ => none
def wipeU (σ : Sl) : List Nat → Sl
  | [] => σ
  | v :: vs => (wipeU σ vs).set v none
/-- nothing is raised out of a comprehension -/
def R.noex {α : Type} : R α → R α
  | .ok a S => .ok a S
  | _ => .bad
/-- the turns of a comprehension -/
def compGo (f : U → Sto → R (Option U)) : List U → Sto → R (List U)
  | [], S => .ok [] S
  | u :: us, S => (f u S).noex.bind fun o S1 => (compGo f us S1).bind fun rs S2 => match o with
    | some r => .ok (r :: rs) S2
    | none => .ok rs S2
def rangeU (lo c : Int) : Nat → List U
  | 0 => []
  | n + 1 => .int lo :: rangeU (lo + c) c n
def rangeN (lo hi c : Int) : Nat := ((hi - lo + (c - 1)) / c).toNat
def enumU : Nat → List U → List U
  | _, [] => []
  | k, u :: us => .tup [.int k, u] :: enumU (k + 1) us
def zipU : List U → List U → List U
  | u :: us, w :: ws => .tup [u, w] :: zipU us ws
  | _, _ => []
def getFld (P : Pg) (S : Sto) (u : U) (f : Nat) : Option U :=
  match u with
  | .ref n => match S[n]? with
    | some (.ins c fs) => if P.okc c && !P.exc c then fs.lookup f else none
    | _ => none
  | _ => none
def putFld (f : Nat) (u : U) : List (Nat × U) → List (Nat × U)
  | [] => [(f, u)]
  | (g, w) :: r => if g = f then (g, u) :: r else (g, w) :: putFld f u r
def biU (P : Pg) (S : Sto) : Bi → List U → Option U
  | .len, [u] => (rdQ S u).map fun us => .int us.length
  | .min2, [.int i, .int j] => some (.int (if j < i then j else i))
  | .max2, [.int i, .int j] => some (.int (if j > i then j else i))
  | .abs, [.int i] => some (.int (if i < 0 then -i else i))
  | .sum, [u] => match rdL S u with
    | some us => (mapO asInt us).map fun ns => .int ns.sum
    | none => none
  | .all, [u] => match rdL S u with
    | some us => (mapO asBl us).map fun bs => .bl (bs.all id)
    | none => none
  | .any, [u] => match rdL S u with
    | some us => (mapO asBl us).map fun bs => .bl (bs.any id)
    | none => none
  | .isi, [x, c] => (isiU P S x c).map .bl
  | .index, [u, x] => (indexU S u x).map fun n => .int n
  | .count, [u, .bl b] => match rdL S u with
    | some us => (mapO asBl us).map fun bs => .int (bs.count b : Nat)
    | none => none
  | _, _ => none
def lmU (S : Sto) : LM → List U → R U
  | .append, [.ref n, u] => match S[n]? with
    | some (.lst us) => if us.length < top then .ok .non (S.set n (.lst (us ++ [u]))) else .bad
    | _ => .bad
  | .extend, [.ref n, w] => match S[n]?, rdX S w with
    | some (.lst us), some ws => if us.length + ws.length < top then .ok .non (S.set n (.lst (us ++ ws))) else .bad
    | _, _ => .bad
  | .pop, [.ref n] => match S[n]? with
    | some (.lst us) => match us[us.length - 1]? with
      | some u => .ok u (S.set n (.lst us.dropLast))
      | none => .bad
    | _ => .bad
  | .popAt, [.ref n, .int i] => match S[n]? with
    | some (.lst us) => match ixU us.length i with
      | some k => match us[k]? with
        | some u => .ok u (S.set n (.lst (us.eraseIdx k)))
        | none => .bad
      | none => .bad
    | _ => .bad
  | .insert, [.ref n, .int i, u] => match S[n]? with
    | some (.lst us) => if 0 ≤ i ∧ i < 1000000 ∧ us.length < top then .ok .non (S.set n (.lst (us.take i.toNat ++ [u] ++ us.drop i.toNat))) else .bad
    | _ => .bad
  | .reverse, [.ref n] => match S[n]? with
    | some (.lst us) => .ok .non (S.set n (.lst us.reverse))
    | _ => .bad
  | _, _ => .bad
mutual
/-- a value -/
def evE (E : Env) (σ : Sl) : IE → Sto → R U
  | .c u, S => .ok u S
  | .v i, S => match σ[i]? with
    | some (some u) => .ok u S
    | _ => .bad
  | .g u, S => .ok u S
  | .bin op a b, S => (evE E σ a S).bind fun x S1 => (evE E σ b S1).bind fun y S2 => .opt (bopU op x y) S2
  | .neg a, S => (evE E σ a S).bind fun x S1 => match x with
    | .int i => .ok (.int (-i)) S1
    | _ => .bad
  | .cmp op a b, S => (evE E σ a S).bind fun x S1 => (evE E σ b S1).bind fun y S2 => .opt ((cmpU S2 op x y).map .bl) S2
  | .chain op op' a b c, S => (evE E σ a S).bind fun x S1 => (evE E σ b S1).bind fun y S2 => match cmpU S2 op x y with
    | some true => (evE E σ c S2).bind fun z S3 => .opt ((cmpU S3 op' y z).map .bl) S3
    | some false => .ok (.bl false) S2
    | none => .bad
  | .chain3 op op' op'' a b c d, S => (evE E σ a S).bind fun x S1 => (evE E σ b S1).bind fun y S2 => match cmpU S2 op x y with
    | some true => (evE E σ c S2).bind fun z S3 => match cmpU S3 op' y z with
      | some true => (evE E σ d S3).bind fun w S4 => .opt ((cmpU S4 op'' z w).map .bl) S4
      | some false => .ok (.bl false) S3
      | none => .bad
    | some false => .ok (.bl false) S2
    | none => .bad
  | .not a, S => (evE E σ a S).bind fun x S1 => match x with
    | .bl b => .ok (.bl (!b)) S1
    | _ => .bad
  | .and a b, S => (evE E σ a S).bind fun x S1 => match x with
    | .bl true => evE E σ b S1
    | .bl false => .ok (.bl false) S1
    | _ => .bad
  | .or a b, S => (evE E σ a S).bind fun x S1 => match x with
    | .bl true => .ok (.bl true) S1
    | .bl false => evE E σ b S1
    | _ => .bad
  | .ife t a b, S => (evE E σ t S).bind fun x S1 => match x with
    | .bl true => evE E σ a S1
    | .bl false => evE E σ b S1
    | _ => .bad
  | .tup es, S => (evL E σ es S).bind fun us S1 => if us.length < top then .ok (.tup us) S1 else .bad
  | .newF n, S => (evN E σ n S).bind fun us S1 => .ok (.fl us) S1
  | .newM n, S => (evN E σ n S).bind fun us S1 => .ok (.ref S1.length) (S1 ++ [.lst us])
  | .ix a b, S => (evE E σ a S).bind fun x S1 => (evE E σ b S1).bind fun y S2 => match rdQ S2 x, y with
    | some us, .int i => match ixU us.length i with
      | some k => .opt us[k]? S2
      | none => .bad
    | _, _ => .bad
  | .fld a f, S => (evE E σ a S).bind fun x S1 => .opt (getFld E.P S1 x f) S1
  | .callD m f es, S => match E.okf f with
    | true => (evL E σ es S).bind fun us S1 => E.call m f us S1
    | false => .bad
  | .callV m i es, S => match σ[i]? with
    | some (some (.fn f)) => match E.okf f with
      | true => (evL E σ es S).bind fun us S1 => E.call m f us S1
      | false => .bad
    | some (some (.clo k cs)) => match E.okl k with
      | true => (evL E σ es S).bind fun us S1 => E.call m k (us ++ cs) S1
      | false => .bad
    | _ => .bad
  | .make c es, S => match E.init c with
    | some f => (evL E σ es S).bind fun us S1 => (E.call false f (.ref S1.length :: us) (S1 ++ [.ins c []])).bind fun u S2 => match u with
      | .non => .ok (.ref S1.length) S2
      | _ => .bad
    | none => .bad
  | .meth a m es, S => (evE E σ a S).bind fun x S1 => match x with
    | .ref n => match S1[n]? with
      | some (.ins c _) => match E.mt c m with
        | some f => (evL E σ es S1).bind fun us S2 => E.call false f (.ref n :: us) S2
        | none => .bad
      | _ => .bad
    | _ => .bad
  | .bi b es, S => (evL E σ es S).bind fun us S1 => .opt (biU E.P S1 b us) S1
  | .mc b a e, S => (evE E σ a S).bind fun x S1 => match isL S1 x with
    | true => (evE E σ e S1).bind fun y S2 => .opt (biU E.P S2 b [x, y]) S2
    | false => .bad
  | .lm m a es, S => (evE E σ a S).bind fun x S1 => match isL S1 x with
    | true => (evL E σ es S1).bind fun us S2 => lmU S2 m (x :: us)
    | false => .bad
  | .lm0 m a, S => (evE E σ a S).bind fun x S1 => match isL S1 x with
    | true => lmU S1 m [x]
    | false => .bad
  | .lenSet a, S => (evE E σ a S).bind fun x S1 => match rdL S1 x with
    | some us => .opt ((lenSetU us).map fun (n : Nat) => U.int n) S1
    | .none => .bad
  | .lmb k is, S => match mapO (fun i => (σ[i]?).join) is with
    | some us => if us.length < top then .ok (.clo k us) S else .bad
    | .none => .bad
  | .isE i u, S => match E.hx with
    | some (j, k) => if i = j then .opt ((isiX E.P k u).map .bl) S else .bad
    | .none => .bad
  | _, _ => .bad
/-- a list of values -/
def evL (E : Env) (σ : Sl) : IE → Sto → R (List U)
  | .nil, S => .ok [] S
  | .cons e es, S => (evE E σ e S).bind fun u S1 => (evL E σ es S1).bind fun us S2 => .ok (u :: us) S2
  | _, _ => .bad
/-- a bound of a slice -/
def evO (E : Env) (σ : Sl) : IE → Sto → R (Option Int)
  | .none, S => .ok .none S
  | .opt a, S => (evE E σ a S).bind fun x S1 => match x with
    | .int i => .ok (some i) S1
    | _ => .bad
  | _, _ => .bad
/-- a new list's items -/
def evN (E : Env) (σ : Sl) : IE → Sto → R (List U)
  | .lst es, S => (evL E σ es S).bind fun us S1 => if us.length < top then .ok us S1 else .bad
  | .comp t it has q elt own, S => if it.isQ && !(q.quiet && elt.quiet) then .bad else (evI E σ it S).bind fun items S1 =>
      compGo (fun u S2 => match bindT S2 t [u] (wipeU σ own) with
        | some σ2 => match has with
          | true => (evE E σ2 q S2).bind fun x S3 => match x with
            | .bl true => (evE E σ2 elt S3).bind fun r S4 => .ok (some r) S4
            | .bl false => .ok .none S3
            | _ => .bad
          | false => (evE E σ2 elt S2).bind fun r S4 => .ok (some r) S4
        | .none => .bad) items S1
  | .listOf a, S => (evE E σ a S).bind fun x S1 => .opt (rdQ S1 x) S1
  | .sorted a, S => (evE E σ a S).bind fun x S1 => match rdL S1 x with
    | some us => .opt (sortedU us) S1
    | .none => .bad
  | .sortedSet a, S => (evE E σ a S).bind fun x S1 => match rdL S1 x with
    | some us => .opt (sortedSetU us) S1
    | .none => .bad
  | .slice a lo hi, S => (evE E σ a S).bind fun x S1 => (evO E σ lo S1).bind fun l S2 => (evO E σ hi S2).bind fun h S3 => match rdL S3 x with
    | some us => .ok (cutU us l h) S3
    | .none => .bad
  | .rev a, S => (evE E σ a S).bind fun x S1 => match rdL S1 x with
    | some us => .ok us.reverse S1
    | .none => .bad
  | .step2 a, S => (evE E σ a S).bind fun x S1 => match rdL S1 x with
    | some us => .ok (every2 us) S1
    | .none => .bad
  | .cat a b, S => (evE E σ a S).bind fun x S1 => (evE E σ b S1).bind fun y S2 => match rdX S2 x, rdX S2 y with
    | some us, some ws => if us.length + ws.length < top then .ok (us ++ ws) S2 else .bad
    | _, _ => .bad
  | .rep a b, S => (evE E σ a S).bind fun x S1 => (evE E σ b S1).bind fun y S2 => match rdX S2 x, y with
    | some us, .int k => if -1000000 < k ∧ k < 1000000 ∧ us.length * k.toNat < top then .ok (List.replicate k.toNat us).flatten S2 else .bad
    | _, _ => .bad
  | .lrange a, S => (evE E σ a S).bind fun x S1 => match x with
    | .int n => if n < 1000000 ∧ -1000000 < n then .ok (rangeU 0 1 n.toNat) S1 else .bad
    | _ => .bad
  | .lzip a b, S => (evE E σ a S).bind fun x S1 => (evE E σ b S1).bind fun y S2 => match rdL S2 x, rdL S2 y with
    | some us, some ws => .ok (zipU us ws) S2
    | _, _ => .bad
  | _, _ => .bad
/-- the items of what is walked -/
def evI (E : Env) (σ : Sl) : IE → Sto → R (List U)
  | .wL a, S => (evE E σ a S).bind fun x S1 => match x with
    | .fl us => .ok us S1
    | .sc us => .ok us S1
    | .bo us => .ok us S1
    | _ => .bad
  | .wT a, S => (evE E σ a S).bind fun x S1 => match x with
    | .tup us => .ok us S1
    | _ => .bad
  | .wQ a, S => (evE E σ a S).bind fun x S1 => .opt (rdL S1 x) S1
  | .wR1 a, S => (evE E σ a S).bind fun x S1 => match x with
    | .int n => if n < 1000000 ∧ -1000000 < n then .ok (rangeU 0 1 n.toNat) S1 else .bad
    | _ => .bad
  | .wR2 a b, S => (evE E σ a S).bind fun x S1 => (evE E σ b S1).bind fun y S2 => match x, y with
    | .int l, .int h => if -1000000 < l ∧ l < 1000000 ∧ -1000000 < h ∧ h < 1000000 ∧ h - l ≤ 1000000 then .ok (rangeU l 1 (h - l).toNat) S2 else .bad
    | _, _ => .bad
  | .wR3 a b c, S => (evE E σ a S).bind fun x S1 => (evE E σ b S1).bind fun y S2 => (evE E σ c S2).bind fun z S3 => match x, y, z with
    | .int l, .int h, .int c => if (-1000000 < l ∧ l < 1000000 ∧ -1000000 < h ∧ h < 1000000 ∧ 0 < c ∧ c < 1000000) ∧ h - l ≤ 1000000 then .ok (rangeU l c (rangeN l h c)) S3 else .bad
    | _, _, _ => .bad
  | .wEn a, S => (evE E σ a S).bind fun x S1 => match x with
    | .fl us => .ok (enumU 0 us) S1
    | .sc us => .ok (enumU 0 us) S1
    | .bo us => .ok (enumU 0 us) S1
    | _ => .bad
  | .wZip a b, S => (evE E σ a S).bind fun x S1 => (evE E σ b S1).bind fun y S2 => match x, y with
    | .fl us, .fl ws => .ok (zipU us ws) S2
    | _, _ => .bad
  | _, _ => .bad
end
/-! ### statements -/
inductive Fl where
  | nx (σ : Sl)
  | rt (u : U)
/-- a for's turns -/
def forGo (f : U → Sl → Sto → R Fl) : List U → Sl → Sto → R Fl
  | [], σ, S => .ok (.nx σ) S
  | u :: us, σ, S => (f u σ S).bind fun x S1 => match x with
    | .nx σ1 => forGo f us σ1 S1
    | .rt r => .ok (.rt r) S1
/-- a while's turns -/
def whlGo (t : Sl → Sto → R U) (f : Sl → Sto → R Fl) : Nat → Sl → Sto → R Fl
  | 0, _, _ => .bad
  | k + 1, σ, S => (t σ S).bind fun x S1 => match x with
    | .bl true => (f σ S1).bind fun y S2 => match y with
      | .nx σ1 => whlGo t f k σ1 S2
      | .rt r => .ok (.rt r) S2
    | .bl false => .ok (.nx σ) S1
    | _ => .bad
def setAll : List Nat → List U → Sl → Option Sl
  | [], [], σ => some σ
  | i :: is, u :: us, σ => setAll is us (σ.set i (some u))
  | _, _, _ => none
def exS : IS → Env → Sl → Sto → R Fl
  | .asg t e, E, σ, S => (evE E σ e S).bind fun u S1 => .opt ((bindT S1 t [u] σ).map .nx) S1
  | .par is es, E, σ, S => (evL E σ es S).bind fun us S1 => .opt ((setAll is us σ).map .nx) S1
  | .setix a i e, E, σ, S => (evE E σ e S).bind fun u S1 => (evE E σ a S1).bind fun x S2 => (evE E σ i S2).bind fun y S3 => match x, y with
    | .ref n, .int k => match S3[n]? with
      | some (.lst us) => match ixU us.length k with
        | some j => .ok (.nx σ) (S3.set n (.lst (us.set j u)))
        | none => .bad
      | _ => .bad
    | _, _ => .bad
  | .setix2 a i b j e f, E, σ, S => (evE E σ e S).bind fun u S1 => (evE E σ f S1).bind fun w S2 => (evE E σ a S2).bind fun x S3 => (evE E σ i S3).bind fun y S4 => match x, y with
    | .ref n, .int k => match S4[n]? with
      | some (.lst us) => match ixU us.length k with
        | some h => (evE E σ b (S4.set n (.lst (us.set h u)))).bind fun x' S5 => (evE E σ j S5).bind fun y' S6 => match x', y' with
          | .ref n', .int k' => match S6[n']? with
            | some (.lst us') => match ixU us'.length k' with
              | some h' => .ok (.nx σ) (S6.set n' (.lst (us'.set h' w)))
              | none => .bad
            | _ => .bad
          | _, _ => .bad
        | none => .bad
      | _ => .bad
    | _, _ => .bad
  | .setfld a f e, E, σ, S => (evE E σ e S).bind fun u S1 => (evE E σ a S1).bind fun x S2 => match x with
    | .ref n => match S2[n]? with
      | some (.ins c fs) => if fs.length < 100 ∧ f < 5 ∧ (E.P.okc c && !E.P.exc c) = true then .ok (.nx σ) (S2.set n (.ins c (putFld f u fs))) else .bad
      | _ => .bad
    | _ => .bad
  | .aug i op e, E, σ, S => match σ[i]? with
    | some (some x) => (evE E σ e S).bind fun y S1 => match op, x, y with
      | .add, .int a, .int b => .ok (.nx (σ.set i (some (.int (a + b))))) S1
      | .sub, .int a, .int b => .ok (.nx (σ.set i (some (.int (a - b))))) S1
      | _, _, _ => .bad
    | _ => .bad
  | .expr e, E, σ, S => (evE E σ e S).bind fun _ S1 => .ok (.nx σ) S1
  | .ret e, E, σ, S => (evE E σ e S).bind fun u S1 => .ok (.rt u) S1
  | .iff t a b, E, σ, S => (evE E σ t S).bind fun x S1 => match x with
    | .bl true => exS a E σ S1
    | .bl false => exS b E σ S1
    | _ => .bad
  | .for t it body, E, σ, S => (evI E σ it S).bind fun items S1 =>
      forGo (fun u σ1 S2 => match bindT S2 t [u] σ1 with
        | some σ2 => exS body E σ2 S2
        | none => .bad) items σ S1
  | .whl k t body, E, σ, S => whlGo (fun σ S => evE E σ t S) (fun σ S => exS body E σ S) k σ S
  | .raise c, E, σ, S => .ex c S
  | .tryx e c i suite, E, σ, S => match evE E σ e S with
    | .ok _ S1 => .ok (.nx σ) S1
    | .ex k S1 => match (E.P.okc k && E.P.exc k) && (E.P.okc c && E.P.exc c) with
      | true => match E.P.sub k c with
        | true => (exS suite { E with hx := some (i, k) } (σ.set i none) S1).noex.bind fun x S2 => match x with
          | .nx σ2 => .ok (.nx (σ2.set i none)) S2
          | .rt u => .ok (.rt u) S2
        | false => .ex k S1
      | false => .bad
    | .bad => .bad
  | .frz i s, E, σ, S => match σ[i]? with
    | some (some (.ref n)) => match S[n]? with
      | some (.lst us) => exS s E (σ.set i (some (.fl us))) (S.set n .dead)
      | _ => .bad
    | _ => .bad
  | .skip, E, σ, S => .ok (.nx σ) S
  | .seq a b, E, σ, S => (exS a E σ S).bind fun x S1 => match x with
    | .nx σ1 => exS b E σ1 S1
    | .rt u => .ok (.rt u) S1
/-! ### defs -/
structure Df where
  np : Nat
  ns : Nat
  pm : Bool
  body : IS
structure Prg where
  P : Pg
  df : Nat → Option Df
  /-- the lambdas -/
  lf : Nat → Option Df
  mt : Nat → Nat → Option Nat
  init : Nat → Option Nat
def startU (n : Nat) (us : List U) : Sl := us.map some ++ List.replicate (n - us.length) none
def R.done : R Fl → R U
  | .ok (.nx _) S => .ok .non S
  | .ok (.rt u) S => .ok u S
  | .ex c S => .ex c S
  | .bad => .bad
/-- behind a def that ran apart: what it hands back is new; a list of its own is frozen, or becomes a cell of the caller -/
def R.shut (m : Bool) (S : Sto) : R U → R U
  | .ok u S1 => match u.pure with
    | true => .ok u S
    | false => match u with
      | .ref k => match S1[k]? with
        | some (.lst us) => match pureL us with
          | true => match m with
            | true => .ok (.ref S.length) (S ++ [.lst us])
            | false => .ok (.fl us) S
          | false => .bad
        | _ => .bad
      | _ => .bad
  | .ex c _ => .ex c S
  | .bad => .bad
def Prg.env (Q : Prg) (call : Bool → Nat → List U → Sto → R U) : Env := ⟨Q.P, call, Q.mt, Q.init, fun f => (Q.df f).isSome, fun k => (Q.df k).isNone && (Q.lf k).isSome, none⟩
/-- how deep values are lent -/
def ldep : Nat := 20
def callN (Q : Prg) : Nat → Bool → Nat → List U → Sto → R U
  | 0, _, _, _, _ => .bad
  | d + 1, m, f, us, S => match Q.df f with
    | none => match Q.lf f with
      | none => .bad
      | some D => if us.length = D.np then
          match D.pm with
          | true => match mapO (lend S ldep) us with
            | some ws => (exS D.body (Q.env (callN Q d)) (startU D.ns ws) []).done.shut m S
            | none => .bad
          | false => (exS D.body (Q.env (callN Q d)) (startU D.ns us) S).done
        else .bad
    | some D => if us.length = D.np then
        match D.pm with
        | true => match mapO (lend S ldep) us with
          | some ws => (exS D.body (Q.env (callN Q d)) (startU D.ns ws) []).done.shut m S
          | none => .bad
        | false => (exS D.body (Q.env (callN Q d)) (startU D.ns us) S).done
      else .bad
end TW
/-! TWB -/
set_option Elab.async false
set_option linter.all false
set_option maxRecDepth 100000
namespace TW
open PySem PySem.Spec PyProof.Rows L2
/-! ### weakest readings -/
section
variable (X : Cx)
def wE (e : Expr) : TE := fun σ H Q => ∀ pins s, Inv X pins σ H s → wpAny (model X.prog X.w) X.A (eval e X.env) (EP X pins σ Q) X.xe s
def wT (e : Expr) : TT := fun σ H Q => ∀ pins s, Inv X pins σ H s → wpAny (model X.prog X.w) X.A (isTrue e X.env (eval e X.env)) (TP X pins σ Q) X.xe s
def wW (e : Expr) : TT := fun σ H Q => ∀ whole pins s, Inv X pins σ H s → wpAny (model X.prog X.w) X.A (isTrue e X.env whole) (TP X pins σ Q) X.xe s
def wA (es : List Expr) : TA := fun σ H Q => ∀ pos pins s, Inv X pins σ H s → wpAny (model X.prog X.w) X.A (spliced (backTo pos (starEach es X.env))) (AP X pins σ Q) X.xe s
def wS (st : Stmt) : TS := fun D σ H => ∀ pins s, Inv X pins σ H s → wpAny (model X.prog X.w) X.A (exec st X.env) (SP X pins D) X.xe s
def wB (st : List Stmt) : TS := fun D σ H => ∀ pins s, Inv X pins σ H s → wpAny (model X.prog X.w) X.A (execs st X.env) (SP X pins D) X.xe s
def wOp (f : Value → Value → Sem Value) : R2 := fun x y H Q => ∀ pins s σ v u, Inv X pins σ H s → RelV x v → RelV y u → wpAny (model X.prog X.w) X.A (f v u) (EP X pins σ Q) X.xe s
def wCall (f : Value) : List V → Hp → VK → Prop := fun xs H Q => ∀ pins s σ us, Inv X pins σ H s → Vals xs us → wpAny (model X.prog X.w) X.A (call f us) (EP X pins σ Q) X.xe s
def wMt (id : String) : V → List V → Hp → VK → Prop := fun x xs H Q => ∀ pins s σ v us, Inv X pins σ H s → RelV x v → Vals xs us → wpAny (model X.prog X.w) X.A (call (.builtin id) (v :: us)) (EP X pins σ Q) X.xe s
end
section
variable {X : Cx} {σ : L2.St} {H : Hp}
theorem pE (e : Expr) : PE X e (wE X e) := ⟨fun pins s σ H Q I h => h pins s I⟩
theorem pT (e : Expr) : PT X e (wT X e) := ⟨fun pins s σ H Q I h => h pins s I⟩
theorem pW (e : Expr) : PW X e (wW X e) := ⟨fun wh pins s σ H Q I h => h wh pins s I⟩
theorem pA (es : List Expr) : PA X es (wA X es) := ⟨fun pos pins s σ H Q I h => h pos pins s I⟩
theorem pS (st : Stmt) : PS X st (wS X st) := ⟨fun pins s σ H D I h => h pins s I⟩
theorem pB (st : List Stmt) : PSs X st (wB X st) := ⟨fun pins s σ H D I h => h pins s I⟩
theorem pOp (f : Value → Value → Sem Value) : OpR X f (wOp X f) := fun pins s σ H x y v u Q I rx ry h => h pins s σ v u I rx ry
theorem pCall (f : Value) : CallR X f (wCall X f) := fun pins s σ H xs us Q I r h => h pins s σ us I r
theorem pMt (id : String) : MtR X id (wMt X id) := fun pins s σ H x xs v us Q I rx r h => h pins s σ v us I rx r
theorem eTo {e : Expr} {t : TE} {Q : VK} (h : PE X e t) (q : t σ H Q) : wE X e σ H Q := fun pins s I => h.run pins s σ H Q I q
theorem tTo {e : Expr} {t : TT} {Q : Bool → Hp → Prop} (h : PT X e t) (q : t σ H Q) : wT X e σ H Q := fun pins s I => h.run pins s σ H Q I q
theorem wTo {e : Expr} {t : TT} {Q : Bool → Hp → Prop} (h : PW X e t) (q : t σ H Q) : wW X e σ H Q := fun wh pins s I => h.run wh pins s σ H Q I q
theorem aTo {es : List Expr} {t : TA} {Q : List V → Hp → Prop} (h : PA X es t) (q : t σ H Q) : wA X es σ H Q := fun pos pins s I => h.run pos pins s σ H Q I q
theorem sTo {st : Stmt} {t : TS} {D : Ends} (h : PS X st t) (q : t D σ H) : wS X st D σ H := fun pins s I => h.run pins s σ H D I q
theorem bTo {st : List Stmt} {t : TS} {D : Ends} (h : PSs X st t) (q : t D σ H) : wB X st D σ H := fun pins s I => h.run pins s σ H D I q
theorem opTo {f : Value → Value → Sem Value} {r : R2} {x y : V} {Q : VK} (h : OpR X f r) (q : r x y H Q) : wOp X f x y H Q := fun pins s σ v u I rx ry => h pins s σ H x y v u Q I rx ry q
theorem callTo {f : Value} {r : List V → Hp → VK → Prop} {xs : List V} {Q : VK} (h : CallR X f r) (q : r xs H Q) : wCall X f xs H Q := fun pins s σ us I rx => h pins s σ H xs us Q I rx q
theorem mtTo {id : String} {r : V → List V → Hp → VK → Prop} {x : V} {xs : List V} {Q : VK} (h : MtR X id r) (q : r x xs H Q) : wMt X id x xs H Q := fun pins s σ v us I rx rs => h pins s σ H x xs v us Q I rx rs q
end
/-! ### how values stand in the heap -/
def tyName : Ty → String
  | .int => "int"
  | .bool => "bool"
  | .str => "str"
  | .list => "list"
  | .tuple => "tuple"
  | .dict => "dict"
  | .nont => "NoneType"
  | .valErr => "ValueError"
/-- where the text's defs and classes stand -/
structure LamW where
  params : Arguments
  body : Expr
  scope : Scope
  qual : Str
structure Wd where
  K : PySem.W.Frag
  fn : Nat → Addr
  cl : Nat → Addr
  /-- the lambdas; the tables of the defs that make some, with the name that these bear -/
  lm : Nat → LamW → Prop
  T : List (Addr × Str)
  /-- the code objects of these defs, with their tables -/
  cs : List (Addr × Addr)
/-- the object at f is this lambda's -/
def LamO (f : Addr) (L : LamW) (cl : List (Str × Addr)) (c : Addr) : HO := .ext fun h => ∃ pm ctv : Value, h.get? f = some (PySem.W.kla_obj "<lambda>" L.qual L.params L.body L.scope cl pm c ctv)
/-- what is no table -/
def NT (o : HO) : Prop := ∀ ps, o ≠ .tbl ps
mutual
inductive RV (W : Wd) (B F : Hp) (ρ : Nat → Addr) (n : Nat) : U → V → Prop
  | non : RV W B F ρ n .non .non
  | bl (b : Bool) : RV W B F ρ n (.bl b) (.bl b)
  | int (i : Int) : RV W B F ρ n (.int i) (.int i)
  | str (s : Str) : RV W B F ρ n (.str s) (.str s)
  | ty (t : Ty) : RV W B F ρ n (.ty t) (.ty (tyName t))
  | fn (i : Nat) : RV W B F ρ n (.fn i) (.ref (W.fn i))
  | cls (i : Nat) : RV W B F ρ n (.cls i) (.ref (W.cl i))
  | tup {a : Addr} {us : List U} {vs : List V} : F a = some (.tup vs) → us.length ≤ top → RVs W B F ρ n us vs → RV W B F ρ n (.tup us) (.ref a)
  | fl {a : Addr} {us : List U} {vs : List V} : F a = some (.lst vs) → us.length ≤ top → RVs W B F ρ n us vs → RV W B F ρ n (.fl us) (.ref a)
  | sc {a : Addr} {us : List U} {vs : List V} : SqL W.K B a vs → us.length ≤ top → RVs W B F ρ n us vs → RV W B F ρ n (.sc us) (.ref a)
  | bo {a : Addr} {us : List U} {vs : List V} : B a = some (.lst vs) → us.length ≤ top → RVs W B F ρ n us vs → RV W B F ρ n (.bo us) (.ref a)
  | ref {m : Nat} : m < n → RV W B F ρ n (.ref m) (.ref (ρ m))
  | dct {a : Addr} : F a = some (.dK []) → RV W B F ρ n .dct (.ref a)
  | clo {a c : Addr} {k : Nat} {L : LamW} : W.lm k L → F a = some (LamO a L [] c) → F c = some (LamX.CodeO c L.qual) → RV W B F ρ n (.clo k []) (.ref a)
inductive RVs (W : Wd) (B F : Hp) (ρ : Nat → Addr) (n : Nat) : List U → List V → Prop
  | nil : RVs W B F ρ n [] []
  | cons {u : U} {v : V} {us : List U} {vs : List V} : RV W B F ρ n u v → RVs W B F ρ n us vs → RVs W B F ρ n (u :: us) (v :: vs)
end
abbrev Sub (F F' : Hp) : Prop := ∀ a o, F a = some o → F' a = some o
theorem Sub.rd {F F' : Hp} {a : Addr} {u : HO} (e : Sub F F') (h : Rd F a u) : Rd F' a u := by
  rcases h with h | ⟨o, h⟩
  · exact .inl (e a _ h)
  · exact .inr ⟨o, e a _ h⟩
theorem Sub.l {K : PySem.W.Frag} {F F' : Hp} {a : Addr} {xs : List V} (e : Sub F F') (h : SqL K F a xs) : SqL K F' a xs := by
  rcases h with h | h
  · exact .inl (e.rd h)
  · exact .inr h
theorem Sub.refl (F : Hp) : Sub F F := fun _ _ h => h
theorem Sub.trans {F F1 F2 : Hp} (a : Sub F F1) (b : Sub F1 F2) : Sub F F2 := fun x o h => b x o (a x o h)
theorem Sub.new {F : Hp} {p : Addr} {o : HO} (h : F p = none) : Sub F (upd F p o) := fun a u e => by
  rw [upd_ne (ne_of_none e h)]
  exact e
section
variable {W : Wd} {B B' F F' : Hp} {ρ ρ' : Nat → Addr} {n n' : Nat}
mutual
theorem RV.mono (hF : Sub F F') (hn : n ≤ n') (hρ : ∀ i, i < n → ρ' i = ρ i) : ∀ {u : U} {v : V}, RV W B F ρ n u v → RV W B F' ρ' n' u v
  | _, _, .non => .non
  | _, _, .bl b => .bl b
  | _, _, .int i => .int i
  | _, _, .str s => .str s
  | _, _, .ty t => .ty t
  | _, _, .fn i => .fn i
  | _, _, .cls i => .cls i
  | _, _, .tup h l r => .tup (hF _ _ h) l (RVs.mono hF hn hρ r)
  | _, _, .fl h l r => .fl (hF _ _ h) l (RVs.mono hF hn hρ r)
  | _, _, .sc h l r => .sc h l (RVs.mono hF hn hρ r)
  | _, _, .bo h l r => .bo h l (RVs.mono hF hn hρ r)
  | _, _, .ref (m := m) h => by
    rw [← hρ m h]
    exact .ref (Nat.lt_of_lt_of_le h hn)
  | _, _, .dct h => .dct (hF _ _ h)
  | _, _, .clo h0 h1 h2 => .clo h0 (hF _ _ h1) (hF _ _ h2)
theorem RVs.mono (hF : Sub F F') (hn : n ≤ n') (hρ : ∀ i, i < n → ρ' i = ρ i) : ∀ {us : List U} {vs : List V}, RVs W B F ρ n us vs → RVs W B F' ρ' n' us vs
  | _, _, .nil => .nil
  | _, _, .cons h t => .cons (RV.mono hF hn hρ h) (RVs.mono hF hn hρ t)
end
mutual
/-- pure values hang on the store in nothing -/
theorem RV.pure : ∀ {u : U} {v : V}, RV W B F ρ n u v → u.pure = true → RV W B' F ρ' n' u v
  | _, _, .non, _ => .non
  | _, _, .bl b, _ => .bl b
  | _, _, .int i, _ => .int i
  | _, _, .str s, _ => .str s
  | _, _, .ty t, _ => .ty t
  | _, _, .fn i, _ => .fn i
  | _, _, .cls i, _ => .cls i
  | _, _, .tup h l r, p => .tup h l (RVs.pure r (by simpa [U.pure] using p))
  | _, _, .fl h l r, p => .fl h l (RVs.pure r (by simpa [U.pure] using p))
  | _, _, .sc h l r, p => by simp [U.pure] at p
  | _, _, .bo h l r, p => by simp [U.pure] at p
  | _, _, .ref h, p => by simp [U.pure] at p
  | _, _, .dct h, _ => .dct h
  | _, _, .clo h0 h1 h2, _ => .clo h0 h1 h2
theorem RVs.pure : ∀ {us : List U} {vs : List V}, RVs W B F ρ n us vs → pureL us = true → RVs W B' F ρ' n' us vs
  | _, _, .nil, _ => .nil
  | _, _, .cons h t, p => by
    rw [pureL, Bool.and_eq_true] at p
    exact .cons (RV.pure h p.1) (RVs.pure t p.2)
end
mutual
/-- values without cells are seen the same by a callee -/
theorem RV.lent0 (hB : Sub B B') : ∀ {u : U} {v : V}, RV W B F ρ n u v → u.noRef = true → RV W B' F ρ' n' u v
  | _, _, .non, _ => .non
  | _, _, .bl b, _ => .bl b
  | _, _, .int i, _ => .int i
  | _, _, .str s, _ => .str s
  | _, _, .ty t, _ => .ty t
  | _, _, .fn i, _ => .fn i
  | _, _, .cls i, _ => .cls i
  | _, _, .tup h l r, p => .tup h l (RVs.lent0 hB r (by simpa [U.noRef] using p))
  | _, _, .fl h l r, p => .fl h l (RVs.lent0 hB r (by simpa [U.noRef] using p))
  | _, _, .sc h l r, p => .sc (hB.l h) l (RVs.lent0 hB r (by simpa [U.noRef] using p))
  | _, _, .bo h l r, p => .bo (hB _ _ h) l (RVs.lent0 hB r (by simpa [U.noRef] using p))
  | _, _, .ref h, p => by simp [U.noRef] at p
  | _, _, .dct h, _ => .dct h
  | _, _, .clo h0 h1 h2, _ => .clo h0 h1 h2
theorem RVs.lent0 (hB : Sub B B') : ∀ {us : List U} {vs : List V}, RVs W B F ρ n us vs → noRefL us = true → RVs W B' F ρ' n' us vs
  | _, _, .nil, _ => .nil
  | _, _, .cons h t, p => by
    rw [noRefL, Bool.and_eq_true] at p
    exact .cons (RV.lent0 hB h p.1) (RVs.lent0 hB t p.2)
end
theorem RVs.length : ∀ {us : List U} {vs : List V}, RVs W B F ρ n us vs → us.length = vs.length
  | _, _, .nil => rfl
  | _, _, .cons _ t => by rw [List.length_cons, List.length_cons, RVs.length t]
theorem RVs.get : ∀ {us : List U} {vs : List V} {i : Nat} {u : U}, RVs W B F ρ n us vs → us[i]? = some u → ∃ v, vs[i]? = some v ∧ RV W B F ρ n u v
  | _, _, _, _, .nil, e => by simp at e
  | _, _, 0, _, .cons h _, e => by simp at e; subst e; exact ⟨_, rfl, h⟩
  | _, _, i + 1, u, .cons _ t, e => by
    obtain ⟨v, h1, h2⟩ := RVs.get (i := i) (u := u) t (by simpa using e)
    exact ⟨v, by simpa using h1, h2⟩
theorem RVs.get' : ∀ {us : List U} {vs : List V} {i : Nat} {v : V}, RVs W B F ρ n us vs → vs[i]? = some v → ∃ u, us[i]? = some u ∧ RV W B F ρ n u v
  | _, _, _, _, .nil, e => by simp at e
  | _, _, 0, _, .cons h _, e => by simp at e; subst e; exact ⟨_, rfl, h⟩
  | _, _, i + 1, u, .cons _ t, e => by
    obtain ⟨v, h1, h2⟩ := RVs.get' (i := i) t (by simpa using e)
    exact ⟨v, by simpa using h1, h2⟩
theorem RVs.append : ∀ {us ws : List U} {vs xs : List V}, RVs W B F ρ n us vs → RVs W B F ρ n ws xs → RVs W B F ρ n (us ++ ws) (vs ++ xs)
  | _, _, _, _, .nil, s => s
  | _, _, _, _, .cons r t, s => .cons r (RVs.append t s)
theorem RVs.take : ∀ {us : List U} {vs : List V} (k : Nat), RVs W B F ρ n us vs → RVs W B F ρ n (us.take k) (vs.take k)
  | _, _, 0, _ => .nil
  | _, _, _ + 1, .nil => .nil
  | _, _, k + 1, .cons r t => .cons r (RVs.take k t)
theorem RVs.drop : ∀ {us : List U} {vs : List V} (k : Nat), RVs W B F ρ n us vs → RVs W B F ρ n (us.drop k) (vs.drop k)
  | _, _, 0, r => r
  | _, _, _ + 1, .nil => .nil
  | _, _, k + 1, .cons _ t => RVs.drop k t
theorem RVs.set {u : U} {v : V} (r : RV W B F ρ n u v) : ∀ {us : List U} {vs : List V} (i : Nat), RVs W B F ρ n us vs → RVs W B F ρ n (us.set i u) (vs.set i v)
  | _, _, _, .nil => .nil
  | _, _, 0, .cons _ t => .cons r t
  | _, _, i + 1, .cons q t => .cons q (RVs.set r i t)
theorem RVs.eraseIdx : ∀ {us : List U} {vs : List V} (i : Nat), RVs W B F ρ n us vs → RVs W B F ρ n (us.eraseIdx i) (vs.eraseIdx i)
  | _, _, _, .nil => .nil
  | _, _, 0, .cons _ t => t
  | _, _, i + 1, .cons r t => .cons r (RVs.eraseIdx i t)
theorem RVs.reverse : ∀ {us : List U} {vs : List V}, RVs W B F ρ n us vs → RVs W B F ρ n us.reverse vs.reverse
  | _, _, .nil => .nil
  | _, _, .cons r t => by
    rw [List.reverse_cons, List.reverse_cons]
    exact RVs.append (RVs.reverse t) (.cons r .nil)
theorem RVs.dropLast : ∀ {us : List U} {vs : List V}, RVs W B F ρ n us vs → RVs W B F ρ n us.dropLast vs.dropLast
  | _, _, .nil => .nil
  | _, _, .cons r .nil => .nil
  | _, _, .cons r (.cons q t) => .cons r (RVs.dropLast (.cons q t))
theorem RVs.flat {k : Nat} {us : List U} {vs : List V} (r : RVs W B F ρ n us vs) : RVs W B F ρ n (List.replicate k us).flatten (List.replicate k vs).flatten := by
  induction k with
  | zero => exact .nil
  | succ k ih =>
    rw [List.replicate_succ, List.replicate_succ, List.flatten_cons, List.flatten_cons]
    exact RVs.append r ih
end
/-! ### the store in the heap -/
def O.alive : O → Bool
  | .dead => false
  | _ => true
def fldName : Nat → Str
  | 0 => "weights"
  | 1 => "bound"
  | 2 => "four"
  | 3 => "some"
  | _ => "groups"
/-- the fields of an instance -/
inductive RF (W : Wd) (B F : Hp) (ρ : Nat → Addr) (n : Nat) : List (Nat × U) → List (Str × V) → Prop
  | nil : RF W B F ρ n [] []
  | cons {f : Nat} {u : U} {v : V} {fs : List (Nat × U)} {vs : List (Str × V)} : f < 5 → RV W B F ρ n u v → RF W B F ρ n fs vs → RF W B F ρ n ((f, u) :: fs) ((fldName f, v) :: vs)
def COk (W : Wd) (B F : Hp) (ρ : Nat → Addr) (n : Nat) (H : Hp) (a : Addr) : O → Prop
  | .lst us => ∃ vs, H a = some (.lst vs) ∧ us.length ≤ top ∧ RVs W B F ρ n us vs
  | .ins c fs => ∃ dx vs, H a = some (.ins (W.cl c) dx vs) ∧ H dx = some (.own a) ∧ RF W B F ρ n fs vs
  | .dead => True
/-- the tables; their code objects are frozen -/
def TabF (T : List (Addr × Str)) (F H : Hp) : Prop := ∀ p ∈ T, ∃ ps : Array Value, H p.1 = some (.tbl ps) ∧ TriplesOk ps.toList ∧ ∀ (pos : Pos) (cv : Value), codeAmong pos ps.toList = some cv → ∃ c, cv = .ref c ∧ F c = some (LamX.CodeO c p.2)
theorem TabF.mono {T : List (Addr × Str)} {F F' H : Hp} (t : TabF T F H) (s : Sub F F') : TabF T F' H := fun q hq => by
  obtain ⟨ps, a1, a2, a3⟩ := t q hq
  refine ⟨ps, a1, a2, fun pos cv hc => ?_⟩
  obtain ⟨c, e1, e2⟩ := a3 pos cv hc
  exact ⟨c, e1, s _ _ e2⟩
theorem TabF.upd {T : List (Addr × Str)} {F H : Hp} {p : Addr} {o : HO} (t : TabF T F H) (hp : ∀ ps, H p ≠ some (.tbl ps)) : TabF T F (upd H p o) := fun q hq => by
  obtain ⟨ps, a1, a2, a3⟩ := t q hq
  refine ⟨ps, ?_, a2, a3⟩
  rw [upd_ne (fun z => by rw [z] at a1; exact hp ps a1)]
  exact a1
/-- F: what is frozen; ρ: where the cells stand; G: what stands by and is not touched -/
structure Rel (W : Wd) (B F : Hp) (ρ : Nat → Addr) (S : Sto) (G H : Hp) : Prop where
  sub : Sub F H
  cell : ∀ i c, S[i]? = some c → COk W B F ρ S.length H (ρ i) c
  sep : ∀ i c, S[i]? = some c → c.alive = true → F (ρ i) = none
  inj : ∀ i j c d, S[i]? = some c → S[j]? = some d → c.alive = true → d.alive = true → ρ i = ρ j → i = j
  fr : ∀ a o, G a = some o → H a = some o ∧ F a = none ∧ ∀ i c, S[i]? = some c → c.alive = true → ρ i ≠ a
  bor : Sub B G
  nt : ∀ a ps, H a = some (.tbl ps) → F a = none ∧ G a = none
  tab : TabF W.T F H
/-- a step forward -/
structure Stp (F : Hp) (ρ : Nat → Addr) (S : Sto) (F' : Hp) (ρ' : Nat → Addr) (S' : Sto) : Prop where
  f : Sub F F'
  r : ∀ i, i < S.length → ρ' i = ρ i
  l : S.length ≤ S'.length
section
variable {W : Wd} {B B' F F' F1 F2 G H H' : Hp} {ρ ρ' ρ1 ρ2 : Nat → Addr} {S S' S1 S2 : Sto} {n n' : Nat}
theorem Stp.refl : Stp F ρ S F ρ S := ⟨Sub.refl F, fun _ _ => rfl, Nat.le_refl _⟩
theorem Stp.trans (a : Stp F ρ S F1 ρ1 S1) (b : Stp F1 ρ1 S1 F2 ρ2 S2) : Stp F ρ S F2 ρ2 S2 :=
  ⟨a.f.trans b.f, fun i h => (b.r i (Nat.lt_of_lt_of_le h a.l)).trans (a.r i h), Nat.le_trans a.l b.l⟩
theorem Stp.rv (a : Stp F ρ S F1 ρ1 S1) {u : U} {v : V} (h : RV W B F ρ S.length u v) : RV W B F1 ρ1 S1.length u v := h.mono a.f a.l a.r
theorem Stp.rvs (a : Stp F ρ S F1 ρ1 S1) {us : List U} {vs : List V} (h : RVs W B F ρ S.length us vs) : RVs W B F1 ρ1 S1.length us vs := h.mono a.f a.l a.r
theorem RF.mono (hF : Sub F F') (hn : n ≤ n') (hρ : ∀ i, i < n → ρ' i = ρ i) : ∀ {fs : List (Nat × U)} {vs : List (Str × V)}, RF W B F ρ n fs vs → RF W B F' ρ' n' fs vs
  | _, _, .nil => .nil
  | _, _, .cons h r t => .cons h (r.mono hF hn hρ) (RF.mono hF hn hρ t)
theorem nt_upd {F G H : Hp} {p : Addr} {o : HO} (h : ∀ a ps, H a = some (.tbl ps) → F a = none ∧ G a = none) (ho : NT o) : ∀ a ps, upd H p o a = some (.tbl ps) → a ≠ p ∧ F a = none ∧ G a = none := fun a ps e => by
  by_cases z : a = p
  · rw [z, upd_same] at e
    exact absurd (Option.some.inj e) (ho ps)
  · rw [upd_ne z] at e
    exact ⟨z, h a ps e⟩
theorem rel_mem {i : Nat} {c : O} (h : S[i]? = some c) : i < S.length := (List.getElem?_eq_some_iff.mp h).1
/-- a new object p, frozen -/
theorem Rel.froz (R : Rel W B F ρ S G H) {p : Addr} {o : HO} (hp : H p = none) (ho : NT o := by intro _ z; cases z) : Rel W B (upd F p o) ρ S G (upd H p o) ∧ Stp F ρ S (upd F p o) ρ S := by
  have hFp : F p = none := by
    cases e : F p with
    | none => rfl
    | some o => rw [R.sub p o e] at hp; cases hp
  have sb : Sub F (upd F p o) := Sub.new hFp
  have ne : ∀ a u, H a = some u → a ≠ p := fun a u e => ne_of_none e hp
  have nc : ∀ i c, S[i]? = some c → c.alive = true → ρ i ≠ p := fun i c e al z => by
    have q := R.cell i c e
    cases c with
    | lst us => obtain ⟨vs, h, _⟩ := q; rw [z, hp] at h; cases h
    | ins k fs => obtain ⟨dx, vs, h, _⟩ := q; rw [z, hp] at h; cases h
    | dead => cases al
  refine ⟨⟨fun a u e => ?_, fun i c e => ?_, fun i c e al => ?_, R.inj, fun a u e => ?_, R.bor, fun a ps e => ?_, (R.tab.upd (fun ps z => by rw [hp] at z; cases z)).mono sb⟩, sb, fun _ _ => rfl, Nat.le_refl _⟩
  rotate_left 4
  · obtain ⟨z, h1, h2⟩ := nt_upd R.nt ho a ps e
    exact ⟨by rw [upd_ne z]; exact h1, h2⟩
  · by_cases h : a = p
    · subst h; rw [upd_same] at e ⊢; exact e
    · rw [upd_ne h] at e ⊢; exact R.sub a u e
  · have q := R.cell i c e
    cases c with
    | lst us =>
      obtain ⟨vs, h, l, r⟩ := q
      exact ⟨vs, by rw [upd_ne (ne _ _ h)]; exact h, l, r.mono sb (Nat.le_refl _) fun _ _ => rfl⟩
    | ins k fs =>
      obtain ⟨dx, vs, h, h2, r⟩ := q
      exact ⟨dx, vs, by rw [upd_ne (ne _ _ h)]; exact h, by rw [upd_ne (ne _ _ h2)]; exact h2, r.mono sb (Nat.le_refl _) fun _ _ => rfl⟩
    | dead => trivial
  · rw [upd_ne (nc i c e al)]; exact R.sep i c e al
  · obtain ⟨h1, h2, h3⟩ := R.fr a u e
    have na := ne a u h1
    exact ⟨by rw [upd_ne na]; exact h1, by rw [upd_ne na]; exact h2, h3⟩
/-- a new object p that stands by -/
theorem Rel.aside (R : Rel W B F ρ S G H) {p : Addr} {o : HO} (hp : H p = none) (ho : NT o := by intro _ z; cases z) : Rel W B F ρ S (upd G p o) (upd H p o) := by
  have hFp : F p = none := by
    cases e : F p with
    | none => rfl
    | some o => rw [R.sub p o e] at hp; cases hp
  have ne : ∀ a u, H a = some u → a ≠ p := fun a u e => ne_of_none e hp
  have nc : ∀ i c, S[i]? = some c → c.alive = true → ρ i ≠ p := fun i c e al z => by
    have q := R.cell i c e
    cases c with
    | lst us => obtain ⟨vs, h, _⟩ := q; rw [z, hp] at h; cases h
    | ins k fs => obtain ⟨dx, vs, h, _⟩ := q; rw [z, hp] at h; cases h
    | dead => cases al
  refine ⟨fun a u e => ?_, fun i c e => ?_, R.sep, R.inj, fun a u e => ?_, R.bor.trans (Sub.new (by cases e : G p with
    | none => rfl
    | some u => rw [(R.fr p u e).1] at hp; cases hp)), fun a ps e => ?_, R.tab.upd (fun ps z => by rw [hp] at z; cases z)⟩
  rotate_left 3
  · obtain ⟨z, h1, h2⟩ := nt_upd R.nt ho a ps e
    exact ⟨h1, by rw [upd_ne z]; exact h2⟩
  · have h := R.sub a u e
    rw [upd_ne (ne _ _ h)]; exact h
  · have q := R.cell i c e
    cases c with
    | lst us =>
      obtain ⟨vs, h, l, r⟩ := q
      exact ⟨vs, by rw [upd_ne (ne _ _ h)]; exact h, l, r⟩
    | ins k fs =>
      obtain ⟨dx, vs, h, h2, r⟩ := q
      exact ⟨dx, vs, by rw [upd_ne (ne _ _ h)]; exact h, by rw [upd_ne (ne _ _ h2)]; exact h2, r⟩
    | dead => trivial
  · by_cases h : a = p
    · subst h
      rw [upd_same] at e ⊢
      exact ⟨e, hFp, nc⟩
    · rw [upd_ne h] at e
      obtain ⟨h1, h2, h3⟩ := R.fr a u e
      exact ⟨by rw [upd_ne h]; exact h1, h2, h3⟩
/-- what stands by is written -/
theorem Rel.write (R : Rel W B F ρ S G H) {p : Addr} {xs : List V} {o' : HO} (hp : G p = some (.lst xs)) (hB : B p = none) (ho' : NT o' := by intro _ z; cases z) : Rel W B F ρ S (upd G p o') (upd H p o') := by
  obtain ⟨hH, hF, hS⟩ := R.fr p _ hp
  refine ⟨fun a u e => ?_, fun i c e => ?_, R.sep, R.inj, fun a u e => ?_, fun a u e => by rw [upd_ne (fun z => by rw [z, hB] at e; cases e)]; exact R.bor a u e, fun a ps e => ?_, R.tab.upd (fun ps z => by rw [hH] at z; cases z)⟩
  rotate_left 3
  · obtain ⟨z, h1, h2⟩ := nt_upd R.nt ho' a ps e
    exact ⟨h1, by rw [upd_ne z]; exact h2⟩
  · by_cases h : a = p
    · subst h; rw [hF] at e; cases e
    · rw [upd_ne h]; exact R.sub a u e
  · have q := R.cell i c e
    cases c with
    | lst us =>
      obtain ⟨vs, h, l, r⟩ := q
      exact ⟨vs, by rw [upd_ne (hS i _ e rfl)]; exact h, l, r⟩
    | ins k fs =>
      obtain ⟨dx, vs, h, h2, r⟩ := q
      refine ⟨dx, vs, by rw [upd_ne (hS i _ e rfl)]; exact h, ?_, r⟩
      rw [upd_ne]
      · exact h2
      · intro z; rw [z, hH] at h2; cases h2
    | dead => trivial
  · by_cases h : a = p
    · subst h
      rw [upd_same] at e ⊢
      exact ⟨e, hF, hS⟩
    · rw [upd_ne h] at e
      obtain ⟨h1, h2, h3⟩ := R.fr a u e
      exact ⟨by rw [upd_ne h]; exact h1, h2, h3⟩
/-- less stands by -/
theorem Rel.less {G' : Hp} (R : Rel W B F ρ S G H) (h : Sub G' G) (hb : Sub B G') : Rel W B F ρ S G' H := ⟨R.sub, R.cell, R.sep, R.inj, fun a o e => R.fr a o (h a o e), hb, fun a ps e => ⟨(R.nt a ps e).1, by
  cases q : G' a with
  | none => rfl
  | some u => have := h a u q; rw [(R.nt a ps e).2] at this; cases this⟩, R.tab⟩
/-- what stands by is frozen -/
theorem Rel.freeze {p : Addr} {o : HO} (R : Rel W B F ρ S (upd G p o) H) (hG : G p = none) (hb : Sub B G) : Rel W B (upd F p o) ρ S G H ∧ Stp F ρ S (upd F p o) ρ S := by
  obtain ⟨hH, hF, hS⟩ := R.fr p o upd_same
  have sb : Sub F (upd F p o) := Sub.new hF
  refine ⟨⟨fun a u e => ?_, fun i c e => ?_, fun i c e al => ?_, R.inj, fun a u e => ?_, hb, fun a ps e => ?_, R.tab.mono sb⟩, sb, fun _ _ => rfl, Nat.le_refl _⟩
  rotate_left 4
  · obtain ⟨h1, h2⟩ := R.nt a ps e
    have na : a ≠ p := fun z => by rw [z, upd_same] at h2; cases h2
    rw [upd_ne na] at h2
    exact ⟨by rw [upd_ne na]; exact h1, h2⟩
  · by_cases h : a = p
    · subst h; rw [upd_same] at e; rw [← e]; exact hH
    · rw [upd_ne h] at e; exact R.sub a u e
  · have q := R.cell i c e
    cases c with
    | lst us =>
      obtain ⟨vs, h, l, r⟩ := q
      exact ⟨vs, h, l, r.mono sb (Nat.le_refl _) fun _ _ => rfl⟩
    | ins k fs =>
      obtain ⟨dx, vs, h, h2, r⟩ := q
      exact ⟨dx, vs, h, h2, r.mono sb (Nat.le_refl _) fun _ _ => rfl⟩
    | dead => trivial
  · rw [upd_ne (hS i c e al)]; exact R.sep i c e al
  · have na : a ≠ p := ne_of_none e hG
    obtain ⟨h1, h2, h3⟩ := R.fr a u (by rw [upd_ne na]; exact e)
    exact ⟨h1, by rw [upd_ne na]; exact h2, h3⟩
/-- what stands by becomes a cell -/
theorem Rel.celled {p : Addr} {us : List U} {vs : List V} (R : Rel W B F ρ S (upd G p (.lst vs)) H) (hG : G p = none) (hb : Sub B G) (hl : us.length ≤ top) (r : RVs W B F ρ S.length us vs) :
    Rel W B F (fun i => if i = S.length then p else ρ i) (S ++ [.lst us]) G H ∧ Stp F ρ S F (fun i => if i = S.length then p else ρ i) (S ++ [.lst us]) := by
  obtain ⟨hH, hF, hS⟩ := R.fr p _ upd_same
  have hr : ∀ i, i < S.length → (if i = S.length then p else ρ i) = ρ i := fun i h => if_neg (Nat.ne_of_lt h)
  have ll : S.length ≤ (S ++ [O.lst us]).length := by rw [List.length_append]; exact Nat.le_add_right _ _
  have get : ∀ i c, (S ++ [O.lst us])[i]? = some c → (i < S.length ∧ S[i]? = some c) ∨ (i = S.length ∧ c = .lst us) := fun i c e => by
    by_cases h : i < S.length
    · rw [List.getElem?_append_left h] at e; exact .inl ⟨h, e⟩
    · have h2 : i < (S ++ [O.lst us]).length := rel_mem e
      rw [List.length_append, List.length_singleton] at h2
      have h3 : i = S.length := by omega
      subst h3
      rw [List.getElem?_append_right (Nat.le_refl _), Nat.sub_self] at e
      exact .inr ⟨rfl, (Option.some.inj e).symm⟩
  refine ⟨⟨R.sub, fun i c e => ?_, fun i c e al => ?_, fun i j c d e1 e2 a1 a2 z => ?_, fun a u e => ?_, hb, fun a ps e => ?_, R.tab⟩, Sub.refl F, hr, ll⟩
  rotate_left 4
  · obtain ⟨h1, h2⟩ := R.nt a ps e
    have na : a ≠ p := fun z => by rw [z, upd_same] at h2; cases h2
    rw [upd_ne na] at h2
    exact ⟨h1, h2⟩
  · rcases get i c e with ⟨h, e⟩ | ⟨h, rfl⟩
    · rw [hr i h]
      have q := R.cell i c e
      cases c with
      | lst us =>
        obtain ⟨vs, h, l, r⟩ := q
        exact ⟨vs, h, l, r.mono (Sub.refl F) ll hr⟩
      | ins k fs =>
        obtain ⟨dx, vs, h, h2, r⟩ := q
        exact ⟨dx, vs, h, h2, r.mono (Sub.refl F) ll hr⟩
      | dead => trivial
    · rw [h, if_pos rfl]
      exact ⟨vs, hH, hl, r.mono (Sub.refl F) ll hr⟩
  · rcases get i c e with ⟨h, e⟩ | ⟨h, rfl⟩
    · rw [hr i h]; exact R.sep i c e al
    · rw [h, if_pos rfl]; exact hF
  · rcases get i c e1 with ⟨h1, e1⟩ | ⟨h1, rfl⟩
    · rw [hr i h1] at z
      rcases get j d e2 with ⟨h2, e2⟩ | ⟨h2, rfl⟩
      · rw [hr j h2] at z; exact R.inj i j c d e1 e2 a1 a2 z
      · rw [h2, if_pos rfl] at z; exact absurd z (hS i c e1 a1)
    · rw [h1, if_pos rfl] at z
      rcases get j d e2 with ⟨h2, e2⟩ | ⟨h2, rfl⟩
      · rw [hr j h2] at z; exact absurd z.symm (hS j d e2 a2)
      · rw [h1, h2]
  · have na : a ≠ p := ne_of_none e hG
    obtain ⟨h1, h2, h3⟩ := R.fr a u (by rw [upd_ne na]; exact e)
    refine ⟨h1, h2, fun i c e al => ?_⟩
    rcases get i c e with ⟨h, e⟩ | ⟨h, rfl⟩
    · rw [hr i h]; exact h3 i c e al
    · rw [h, if_pos rfl]; exact na.symm
/-- a list cell is written -/
theorem Rel.put (R : Rel W B F ρ S G H) {k : Nat} {us us' : List U} {vs' : List V} (hk : S[k]? = some (.lst us)) (hl : us'.length ≤ top) (r : RVs W B F ρ S.length us' vs') :
    Rel W B F ρ (S.set k (.lst us')) G (upd H (ρ k) (.lst vs')) ∧ Stp F ρ S F ρ (S.set k (.lst us')) := by
  have kl := rel_mem hk
  obtain ⟨vs, hH, _, _⟩ := R.cell k _ hk
  have hF := R.sep k _ hk rfl
  have ll : (S.set k (O.lst us')).length = S.length := List.length_set
  have get : ∀ i c, (S.set k (O.lst us'))[i]? = some c → (i ≠ k ∧ S[i]? = some c) ∨ (i = k ∧ c = .lst us') := fun i c e => by
    by_cases h : i = k
    · subst h
      rw [List.getElem?_set_self kl] at e
      exact .inr ⟨rfl, (Option.some.inj e).symm⟩
    · rw [List.getElem?_set_ne (Ne.symm h)] at e; exact .inl ⟨h, e⟩
  refine ⟨⟨fun a u e => ?_, fun i c e => ?_, fun i c e al => ?_, fun i j c d e1 e2 a1 a2 z => ?_, fun a u e => ?_, R.bor, fun a ps e => (nt_upd R.nt (by intro _ z; cases z) a ps e).2, R.tab.upd (fun ps z => by rw [hH] at z; cases z)⟩, Sub.refl F, fun _ _ => rfl, Nat.le_of_eq ll.symm⟩
  · rw [upd_ne]
    · exact R.sub a u e
    · intro z; rw [z, hF] at e; cases e
  · rw [ll]
    rcases get i c e with ⟨h, e⟩ | ⟨h, rfl⟩
    · have q := R.cell i c e
      cases c with
      | lst ws =>
        obtain ⟨xs, h1, l, r1⟩ := q
        refine ⟨xs, ?_, l, r1⟩
        rw [upd_ne]
        · exact h1
        · intro z; exact h (R.inj i k _ _ e hk rfl rfl z)
      | ins c fs =>
        obtain ⟨dx, xs, h1, h2, r1⟩ := q
        refine ⟨dx, xs, ?_, ?_, r1⟩
        · rw [upd_ne]
          · exact h1
          · intro z; exact h (R.inj i k _ _ e hk rfl rfl z)
        · rw [upd_ne]
          · exact h2
          · intro z; rw [z, hH] at h2; cases h2
      | dead => trivial
    · rw [h]; exact ⟨vs', upd_same, hl, r⟩
  · rcases get i c e with ⟨h, e⟩ | ⟨h, rfl⟩
    · exact R.sep i c e al
    · rw [h]; exact hF
  · rcases get i c e1 with ⟨h1, e1⟩ | ⟨h1, rfl⟩
    · rcases get j d e2 with ⟨h2, e2⟩ | ⟨h2, rfl⟩
      · exact R.inj i j c d e1 e2 a1 a2 z
      · rw [h2] at z ⊢; exact R.inj i k c _ e1 hk a1 rfl z
    · rcases get j d e2 with ⟨h2, e2⟩ | ⟨h2, rfl⟩
      · rw [h1] at z ⊢; exact R.inj k j _ d hk e2 rfl a2 z
      · rw [h1, h2]
  · obtain ⟨h1, h2, h3⟩ := R.fr a u e
    refine ⟨?_, h2, fun i c e al => ?_⟩
    · rw [upd_ne (fun z => h3 k _ hk rfl z.symm)]; exact h1
    · rcases get i c e with ⟨h, e⟩ | ⟨h, rfl⟩
      · exact h3 i c e al
      · rw [h]; exact h3 k _ hk rfl
/-- an instance is written -/
theorem Rel.putI (R : Rel W B F ρ S G H) {k c : Nat} {fs fs' : List (Nat × U)} {dx : Addr} {vs vs' : List (Str × V)} (hk : S[k]? = some (.ins c fs)) (hH : H (ρ k) = some (.ins (W.cl c) dx vs)) (r : RF W B F ρ S.length fs' vs') :
    Rel W B F ρ (S.set k (.ins c fs')) G (upd H (ρ k) (.ins (W.cl c) dx vs')) ∧ Stp F ρ S F ρ (S.set k (.ins c fs')) := by
  have kl := rel_mem hk
  have hF := R.sep k _ hk rfl
  have hdx : H dx = some (.own (ρ k)) := by
    obtain ⟨dx', _, h1, h2, _⟩ := R.cell k _ hk
    rw [hH] at h1
    cases Option.some.inj h1
    exact h2
  have ll : (S.set k (O.ins c fs')).length = S.length := List.length_set
  have get : ∀ i d, (S.set k (O.ins c fs'))[i]? = some d → (i ≠ k ∧ S[i]? = some d) ∨ (i = k ∧ d = .ins c fs') := fun i d e => by
    by_cases h : i = k
    · subst h
      rw [List.getElem?_set_self kl] at e
      exact .inr ⟨rfl, (Option.some.inj e).symm⟩
    · rw [List.getElem?_set_ne (Ne.symm h)] at e; exact .inl ⟨h, e⟩
  refine ⟨⟨fun a u e => ?_, fun i d e => ?_, fun i d e al => ?_, fun i j d d' e1 e2 a1 a2 z => ?_, fun a u e => ?_, R.bor, fun a ps e => (nt_upd R.nt (by intro _ z; cases z) a ps e).2, R.tab.upd (fun ps z => by rw [hH] at z; cases z)⟩, Sub.refl F, fun _ _ => rfl, Nat.le_of_eq ll.symm⟩
  · rw [upd_ne]
    · exact R.sub a u e
    · intro z; rw [z, hF] at e; cases e
  · rw [ll]
    rcases get i d e with ⟨h, e⟩ | ⟨h, rfl⟩
    · have q := R.cell i d e
      cases d with
      | lst ws =>
        obtain ⟨xs, h1, l, r1⟩ := q
        refine ⟨xs, ?_, l, r1⟩
        rw [upd_ne]
        · exact h1
        · intro z; exact h (R.inj i k _ _ e hk rfl rfl z)
      | ins c' fs =>
        obtain ⟨dx', xs, h1, h2, r1⟩ := q
        refine ⟨dx', xs, ?_, ?_, r1⟩
        · rw [upd_ne]
          · exact h1
          · intro z; exact h (R.inj i k _ _ e hk rfl rfl z)
        · rw [upd_ne]
          · exact h2
          · intro z; rw [z, hH] at h2; cases h2
      | dead => trivial
    · rw [h]
      refine ⟨dx, vs', upd_same, ?_, r⟩
      rw [upd_ne]
      · exact hdx
      · intro z; rw [z, hH] at hdx; cases hdx
  · rcases get i d e with ⟨h, e⟩ | ⟨h, rfl⟩
    · exact R.sep i d e al
    · rw [h]; exact hF
  · rcases get i d e1 with ⟨h1, e1⟩ | ⟨h1, rfl⟩
    · rcases get j d' e2 with ⟨h2, e2⟩ | ⟨h2, rfl⟩
      · exact R.inj i j d d' e1 e2 a1 a2 z
      · rw [h2] at z ⊢; exact R.inj i k d _ e1 hk a1 rfl z
    · rcases get j d' e2 with ⟨h2, e2⟩ | ⟨h2, rfl⟩
      · rw [h1] at z ⊢; exact R.inj k j _ d' hk e2 rfl a2 z
      · rw [h1, h2]
  · obtain ⟨h1, h2, h3⟩ := R.fr a u e
    refine ⟨?_, h2, fun i c e al => ?_⟩
    · rw [upd_ne (fun z => h3 k _ hk rfl z.symm)]; exact h1
    · rcases get i c e with ⟨h, e⟩ | ⟨h, rfl⟩
      · exact h3 i c e al
      · rw [h]; exact h3 k _ hk rfl
/-- a cell is frozen -/
theorem Rel.frozen (R : Rel W B F ρ S G H) {k : Nat} {us : List U} {vs : List V} (hk : S[k]? = some (.lst us)) (hH : H (ρ k) = some (.lst vs)) :
    Rel W B (upd F (ρ k) (.lst vs)) ρ (S.set k .dead) G H ∧ Stp F ρ S (upd F (ρ k) (.lst vs)) ρ (S.set k .dead) := by
  have kl := rel_mem hk
  have hF := R.sep k _ hk rfl
  have sb : Sub F (upd F (ρ k) (.lst vs)) := Sub.new hF
  have ll : (S.set k O.dead).length = S.length := List.length_set
  have get : ∀ i d, (S.set k O.dead)[i]? = some d → (i ≠ k ∧ S[i]? = some d) ∨ (i = k ∧ d = .dead) := fun i d e => by
    by_cases h : i = k
    · subst h
      rw [List.getElem?_set_self kl] at e
      exact .inr ⟨rfl, (Option.some.inj e).symm⟩
    · rw [List.getElem?_set_ne (Ne.symm h)] at e; exact .inl ⟨h, e⟩
  have al0 : ∀ {i d}, (S.set k O.dead)[i]? = some d → d.alive = true → i ≠ k ∧ S[i]? = some d := fun {i d} e al => by
    rcases get i d e with h | ⟨_, rfl⟩
    · exact h
    · cases al
  refine ⟨⟨fun a u e => ?_, fun i d e => ?_, fun i d e al => ?_, fun i j d d' e1 e2 a1 a2 z => ?_, fun a u e => ?_, R.bor, fun a ps e => ⟨by rw [upd_ne (fun z => by rw [z, hH] at e; cases e)]; exact (R.nt a ps e).1, (R.nt a ps e).2⟩, R.tab.mono sb⟩, sb, fun _ _ => rfl, Nat.le_of_eq ll.symm⟩
  · by_cases h : a = ρ k
    · rw [h, upd_same] at e; rw [h, ← e]; exact hH
    · rw [upd_ne h] at e; exact R.sub a u e
  · rw [ll]
    rcases get i d e with ⟨h, e⟩ | ⟨h, rfl⟩
    · have q := R.cell i d e
      cases d with
      | lst ws =>
        obtain ⟨xs, h1, l, r1⟩ := q
        exact ⟨xs, h1, l, r1.mono sb (Nat.le_refl _) fun _ _ => rfl⟩
      | ins c fs =>
        obtain ⟨dx, xs, h1, h2, r1⟩ := q
        exact ⟨dx, xs, h1, h2, r1.mono sb (Nat.le_refl _) fun _ _ => rfl⟩
      | dead => trivial
    · trivial
  · obtain ⟨h, e⟩ := al0 e al
    rw [upd_ne (fun z => h (R.inj i k _ _ e hk al rfl z))]
    exact R.sep i d e al
  · obtain ⟨_, e1⟩ := al0 e1 a1
    obtain ⟨_, e2⟩ := al0 e2 a2
    exact R.inj i j d d' e1 e2 a1 a2 z
  · obtain ⟨h1, h2, h3⟩ := R.fr a u e
    refine ⟨h1, ?_, fun i c e al => h3 i c (al0 e al).2 al⟩
    rw [upd_ne (fun z => h3 k _ hk rfl z.symm)]; exact h2
/-- a table grows -/
theorem Rel.grow (R : Rel W B F ρ S G H) {P : Addr} {ps ps' : Array Value} (hP : H P = some (.tbl ps)) (ht : TabF W.T F (upd H P (.tbl ps'))) : Rel W B F ρ S G (upd H P (.tbl ps')) := by
  obtain ⟨n1, n2⟩ := R.nt P ps hP
  have ne : ∀ a o, H a = some o → NT o → a ≠ P := fun a o e n z => by
    rw [z, hP] at e
    exact n ps (Option.some.inj e).symm
  refine ⟨fun a u e => ?_, fun i c e => ?_, R.sep, R.inj, fun a u e => ?_, R.bor, fun a qs e => ?_, ht⟩
  · rw [upd_ne (fun z => by rw [z, n1] at e; cases e)]
    exact R.sub a u e
  · have q := R.cell i c e
    cases c with
    | lst us =>
      obtain ⟨vs, h, l, r⟩ := q
      exact ⟨vs, by rw [upd_ne (ne _ _ h fun _ z => by cases z)]; exact h, l, r⟩
    | ins k fs =>
      obtain ⟨dx, vs, h, h2, r⟩ := q
      exact ⟨dx, vs, by rw [upd_ne (ne _ _ h fun _ z => by cases z)]; exact h, by rw [upd_ne (ne _ _ h2 fun _ z => by cases z)]; exact h2, r⟩
    | dead => trivial
  · obtain ⟨h1, h2, h3⟩ := R.fr a u e
    exact ⟨by rw [upd_ne (fun z => by rw [z, n2] at e; cases e)]; exact h1, h2, h3⟩
  · by_cases z : a = P
    · rw [z]; exact ⟨n1, n2⟩
    · rw [upd_ne z] at e; exact R.nt a qs e
/-- all that is not frozen stands by: a run in an empty store -/
def asideAll (F H : Hp) : Hp := fun a => match F a with
  | none => match H a with
    | some (.tbl _) => none
    | x => x
  | some _ => none
theorem asideAll_some {F H : Hp} {a : Addr} {o : HO} : asideAll F H a = some o ↔ F a = none ∧ H a = some o ∧ NT o := by
  unfold asideAll
  cases h : F a with
  | some u => simp
  | none =>
    cases e : H a with
    | none => simp
    | some u =>
      cases u with
      | tbl ps =>
        simp only [true_and, Option.some.injEq]
        refine ⟨fun z => (nomatch z), fun ⟨z, n⟩ => absurd z.symm (n ps)⟩
      | _ =>
        simp only [true_and, Option.some.injEq]
        exact ⟨fun z => ⟨z, fun ps q => by rw [← z] at q; cases q⟩, fun z => z.1⟩
theorem asideAll_tbl {F H : Hp} {a : Addr} {ps : Array Value} (h : H a = some (.tbl ps)) : asideAll F H a = none := by
  cases e : asideAll F H a with
  | none => rfl
  | some o =>
    obtain ⟨_, h2, h3⟩ := asideAll_some.mp e
    rw [h] at h2
    exact absurd (Option.some.inj h2).symm (h3 ps)
theorem Rel.shut (R : Rel W B F ρ S G H) : Rel W (asideAll F H) F ρ1 [] (asideAll F H) H := by
  refine ⟨R.sub, fun i c e => ?_, fun i c e => ?_, fun i j c d e => ?_, fun a o e => ?_, Sub.refl _, fun a ps e => ⟨(R.nt a ps e).1, asideAll_tbl e⟩, R.tab⟩
  · simp at e
  · simp at e
  · simp at e
  · obtain ⟨h1, h2, _⟩ := asideAll_some.mp e
    exact ⟨h2, h1, fun i c q => by simp at q⟩
theorem Rel.gnt (R : Rel W B F ρ S G H) {a : Addr} {o : HO} (e : G a = some o) : NT o := fun ps z => by
  have h := (R.fr a o e).1
  rw [z] at h
  have := (R.nt a ps h).2
  rw [e] at this
  cases this
theorem Rel.back (R : Rel W B F ρ S G H) (Q : Rel W B' F' ρ1 S1 (asideAll F H) H') (sb : Sub F F') : Rel W B F' ρ S G H' ∧ Stp F ρ S F' ρ S := by
  have keep : ∀ a o, H a = some o → NT o → H' a = some o := fun a o e n => by
    cases h : F a with
    | some u =>
      have := R.sub a u h
      rw [e] at this
      cases this
      exact Q.sub a o (sb a o h)
    | none => exact (Q.fr a o (asideAll_some.mpr ⟨h, e, n⟩)).1
  have free : ∀ a o, H a = some o → NT o → F a = none → F' a = none := fun a o e n h => (Q.fr a o (asideAll_some.mpr ⟨h, e, n⟩)).2.1
  have nl : ∀ xs, NT (.lst xs) := fun xs ps z => by cases z
  have ni : ∀ c d xs, NT (.ins c d xs) := fun c d xs ps z => by cases z
  have no : ∀ x, NT (.own x) := fun x ps z => by cases z
  refine ⟨⟨Q.sub, fun i c e => ?_, fun i c e al => ?_, R.inj, fun a o e => ?_, R.bor, fun a ps e => ⟨(Q.nt a ps e).1, ?_⟩, Q.tab⟩, sb, fun _ _ => rfl, Nat.le_refl _⟩
  rotate_left 3
  · cases q : G a with
    | none => rfl
    | some u =>
      have h := keep a u (R.fr a u q).1 (R.gnt q)
      rw [e] at h
      exact absurd (Option.some.inj h).symm (R.gnt q ps)
  · have q := R.cell i c e
    cases c with
    | lst ws =>
      obtain ⟨xs, h1, l, r1⟩ := q
      exact ⟨xs, keep _ _ h1 (nl _), l, r1.mono sb (Nat.le_refl _) fun _ _ => rfl⟩
    | ins c fs =>
      obtain ⟨dx, xs, h1, h2, r1⟩ := q
      exact ⟨dx, xs, keep _ _ h1 (ni _ _ _), keep _ _ h2 (no _), r1.mono sb (Nat.le_refl _) fun _ _ => rfl⟩
    | dead => trivial
  · have q := R.cell i c e
    have s := R.sep i c e al
    cases c with
    | lst ws => obtain ⟨xs, h1, _⟩ := q; exact free _ _ h1 (nl _) s
    | ins c fs => obtain ⟨dx, xs, h1, _⟩ := q; exact free _ _ h1 (ni _ _ _) s
    | dead => cases al
  · obtain ⟨h1, h2, h3⟩ := R.fr a o e
    exact ⟨keep _ _ h1 (R.gnt e), free _ _ h1 (R.gnt e) h2, h3⟩
theorem asideAll_of (R : Rel W B F ρ S G H) : Sub B (asideAll F H) := fun a o e => by
  have g := R.bor a o e
  obtain ⟨h1, h2, _⟩ := R.fr a o g
  exact asideAll_some.mpr ⟨h2, h1, R.gnt g⟩
/-- what is lent to a callee -/
theorem RV.lent (R : Rel W B F ρ S G H) : ∀ (k : Nat) (u w : U) (v : V), lend S k u = some w → RV W B F ρ S.length u v → RV W (asideAll F H) F ρ1 n' w v := by
  intro k
  induction k with
  | zero =>
    intro u w v h r
    unfold lend at h
    split at h
    · rename_i hn
      cases h
      exact r.lent0 (asideAll_of R) hn
    · cases h
  | succ k ih =>
    have all : ∀ (us ws : List U) (vs : List V), mapO (lend S k) us = some ws → RVs W B F ρ S.length us vs → RVs W (asideAll F H) F ρ1 n' ws vs ∧ us.length = ws.length := by
      intro us
      induction us with
      | nil => intro ws vs h r; cases h; cases r; exact ⟨.nil, rfl⟩
      | cons u us ihs =>
        intro ws vs h r
        unfold mapO at h
        cases e1 : lend S k u with
        | none => rw [e1] at h; cases h
        | some w =>
          cases e2 : mapO (lend S k) us with
          | none => rw [e1, e2] at h; cases h
          | some zs =>
            rw [e1, e2] at h
            cases h
            cases r with
            | cons r1 r2 =>
              obtain ⟨a1, a2⟩ := ihs zs _ e2 r2
              exact ⟨.cons (ih _ _ _ e1 r1) a1, by rw [List.length_cons, List.length_cons, a2]⟩
    intro u w v h r
    unfold lend at h
    split at h
    · rename_i hn
      cases h
      exact r.lent0 (asideAll_of R) hn
    · cases r with
      | tup h1 h2 h3 =>
        dsimp only at h
        split at h
        · rename_i ws e
          cases h
          obtain ⟨a1, a2⟩ := all _ _ _ e h3
          exact .tup h1 (by rw [← a2]; exact h2) a1
        · cases h
      | fl h1 h2 h3 =>
        dsimp only at h
        split at h
        · rename_i ws e
          cases h
          obtain ⟨a1, a2⟩ := all _ _ _ e h3
          exact .fl h1 (by rw [← a2]; exact h2) a1
        · cases h
      | bo h1 h2 h3 =>
        dsimp only at h
        split at h
        · rename_i ws e
          cases h
          obtain ⟨a1, a2⟩ := all _ _ _ e h3
          exact .bo (asideAll_of R _ _ h1) (by rw [← a2]; exact h2) a1
        · cases h
      | @ref m hm =>
        dsimp only at h
        split at h
        · rename_i us e0
          split at h
          · rename_i ws e
            cases h
            obtain ⟨vs, c1, c2, c3⟩ := R.cell m _ e0
            obtain ⟨a1, a2⟩ := all _ _ _ e c3
            refine .bo ?_ (by rw [← a2]; exact c2) a1
            exact asideAll_some.mpr ⟨R.sep m _ e0 rfl, c1, fun ps z => by cases z⟩
          · cases h
        · cases h
      | _ => cases h
theorem RVs.lent (R : Rel W B F ρ S G H) {k : Nat} : ∀ {us ws : List U} {vs : List V}, mapO (lend S k) us = some ws → RVs W B F ρ S.length us vs → RVs W (asideAll F H) F ρ1 n' ws vs
  | [], _, _, h, r => by cases h; cases r; exact .nil
  | u :: us, ws, vs, h, r => by
    unfold mapO at h
    cases e1 : lend S k u with
    | none => rw [e1] at h; cases h
    | some w =>
      cases e2 : mapO (lend S k) us with
      | none => rw [e1, e2] at h; cases h
      | some zs =>
        rw [e1, e2] at h
        cases h
        cases r with
        | cons r1 r2 => exact .cons (RV.lent R _ _ _ _ e1 r1) (RVs.lent R e2 r2)
/-- a callee's list becomes a cell of the caller -/
theorem Rel.given {m : Nat} {us : List U} {vs : List V} (R : Rel W B F' ρ S G H') (hm : H' m = some (.lst vs)) (hF : F' m = none) (hG : G m = none) (hS : ∀ i c, S[i]? = some c → c.alive = true → ρ i ≠ m) (hl : us.length ≤ top) (r : RVs W B F' ρ S.length us vs) :
    Rel W B F' (fun i => if i = S.length then m else ρ i) (S ++ [.lst us]) G H' ∧ Stp F' ρ S F' (fun i => if i = S.length then m else ρ i) (S ++ [.lst us]) := by
  refine Rel.celled (vs := vs) ⟨R.sub, R.cell, R.sep, R.inj, fun a u e => ?_, R.bor.trans (Sub.new hG), fun a ps e => ⟨(R.nt a ps e).1, by rw [upd_ne (fun z => by rw [z, hm] at e; cases e)]; exact (R.nt a ps e).2⟩, R.tab⟩ hG R.bor hl r
  by_cases h : a = m
  · rw [h, upd_same] at e
    cases e
    rw [h]
    exact ⟨hm, hF, hS⟩
  · rw [upd_ne h] at e
    exact R.fr a u e
end
/-! ### what is left to show of a result -/
def Po {α β : Type} (W : Wd) (B : Hp) (RA : Hp → (Nat → Addr) → Nat → α → β → Prop) (XW : Nat → Hp → Prop) (r : R α) (F : Hp) (ρ : Nat → Addr) (S : Sto) (G : Hp) (Q : β → Hp → Prop) : Prop :=
  match r with
  | .ok a S' => ∀ F' ρ' H' b, Stp F ρ S F' ρ' S' → Rel W B F' ρ' S' G H' → RA F' ρ' S'.length a b → Q b H'
  | .ex c S' => ∀ F' ρ' H', Stp F ρ S F' ρ' S' → Rel W B F' ρ' S' G H' → XW c H'
  | .bad => False
section
variable {W : Wd} {α β γ δ : Type} {RA : Hp → (Nat → Addr) → Nat → α → β → Prop} {RB : Hp → (Nat → Addr) → Nat → γ → δ → Prop} {XW : Nat → Hp → Prop} {B F F1 G : Hp} {ρ ρ1 : Nat → Addr} {S S1 : Sto}
theorem Po.mono {r : R α} {Q : β → Hp → Prop} (h : Po W B RA XW r F ρ S G Q) (s : Stp F ρ S F1 ρ1 S1) : Po W B RA XW r F1 ρ1 S1 G Q := by
  cases r with
  | ok a S' => exact fun F' ρ' H' b st R q => h F' ρ' H' b (s.trans st) R q
  | ex c S' => exact fun F' ρ' H' st R => h F' ρ' H' (s.trans st) R
  | bad => exact h
theorem Po.bind {r : R α} {k : α → Sto → R γ} {Q : δ → Hp → Prop} {Q1 : β → Hp → Prop} (h : Po W B RB XW (r.bind k) F ρ S G Q)
    (hk : ∀ a S1 F1 ρ1 H1 b, Stp F ρ S F1 ρ1 S1 → Rel W B F1 ρ1 S1 G H1 → RA F1 ρ1 S1.length a b → Po W B RB XW (k a S1) F1 ρ1 S1 G Q → Q1 b H1) : Po W B RA XW r F ρ S G Q1 := by
  cases r with
  | ok a S' => exact fun F' ρ' H' b st R q => hk a S' F' ρ' H' b st R q (Po.mono h st)
  | ex c S' => exact h
  | bad => exact h
theorem Po.opt {o : Option α} {Q : β → Hp → Prop} (h : Po W B RA XW (.opt o S1) F ρ S G Q) : ∃ a, o = some a ∧ Po W B RA XW (.ok a S1) F ρ S G Q := by
  cases o with
  | none => exact h.elim
  | some a => exact ⟨a, rfl, h⟩
/-- at the state itself -/
theorem Po.here {a : α} {b : β} {Q : β → Hp → Prop} {H : Hp} (h : Po W B RA XW (.ok a S) F ρ S G Q) (R : Rel W B F ρ S G H) (r : RA F ρ S.length a b) : Q b H := h F ρ H b Stp.refl R r
end
end TW
/-! TWC -/
set_option Elab.async false
set_option linter.all false
set_option maxRecDepth 100000
namespace TW
open PySem PySem.Spec PyProof.Rows L2
/-! ### the checker: the IR against the text -/
inductive GK where
  | fn (i : Nat)
  | cls (i : Nat)
  | int (k : Int)
  deriving DecidableEq
def GK.u : GK → U
  | .fn i => .fn i
  | .cls i => .cls i
  | .int k => .int k
structure Tb where
  gt : List (Str × GK)
  bn : List Str
  P : Pg
  /-- the lambdas; the defs that make some -/
  lb : Nat → LamW → Bool
  mks : List Str
def visB (sc : Scope) (x : Str) : Bool := match sc.names.lookup x with
  | some .local => true
  | some .cell => true
  | some .free => true
  | _ => false
def locB (sc : Scope) (x : Str) : Bool := match sc.names.lookup x with
  | some .local => true
  | some .cell => true
  | _ => false
def glB (sc : Scope) (x : Str) : Bool := decide (sc.names.lookup x = some .globalImplicit)
def okN (x : Str) : Bool := !(x == ("__debug__" : Str)) && !(x == ("__classdict__" : Str)) && !(x == ("__name__" : Str))
/-- no star, no set, no slice, no other comprehension -/
def plainX : Expr → Bool
  | .Starred .. => false
  | .Set .. => false
  | .Slice .. => false
  | .SetComp .. => false
  | .DictComp .. => false
  | _ => true
/-- not the call of a name without arguments (super()) -/
def noSup : Expr → Bool
  | .Call (.Name _ _) [] [] _ => false
  | _ => true
/-- a test that has no road of its own -/
def plainT : Expr → Bool
  | .UnaryOp .Not _ _ => false
  | .BoolOp .. => false
  | .IfExp .. => false
  | .Compare .. => false
  | _ => true
def opOf : BOp → Operator
  | .add => .Add
  | .sub => .Sub
  | .mul => .Mult
  | .fdiv => .FloorDiv
  | .mod => .Mod
  | .pow => .Pow
  | .shl => .LShift
  | .shr => .RShift
def copOf : COp → CmpOp
  | .eq => .Eq
  | .ne => .NotEq
  | .lt => .Lt
  | .le => .LtE
  | .gt => .Gt
  | .ge => .GtE
  | .is => .Is
  | .isnot => .IsNot
  | .inn => .In
  | .notin => .NotIn
theorem visB_ok {sc : Scope} {x : Str} (h : visB sc x = true) : Vis sc x := by
  unfold visB at h
  unfold Vis
  split at h
  · exact .inl (by assumption)
  · exact .inr (.inl (by assumption))
  · exact .inr (.inr (by assumption))
  · cases h
theorem locB_ok {sc : Scope} {x : Str} (h : locB sc x = true) : L2.Loc sc x := by
  unfold locB at h
  unfold L2.Loc
  split at h
  · exact .inl (by assumption)
  · exact .inr (by assumption)
  · cases h
theorem okN_ok {x : Str} (h : okN x = true) : (x == ("__debug__" : Str)) = false ∧ (x == ("__classdict__" : Str)) = false ∧ x ≠ "__name__" := by
  unfold okN at h
  simp only [Bool.and_eq_true, Bool.not_eq_true'] at h
  exact ⟨h.1.1, h.1.2, fun e => by have := h.2; rw [e] at this; simp at this⟩
theorem plain_star {e : Expr} (h : plainX e = true) (es : List Expr) (env : PySem.Env) : starEach (e :: es) env = (false, eval e env) :: starEach es env := by
  cases e <;> first | rfl | cases h
theorem plain_ix {e : Expr} (h : plainX e = true) : PlainIx e := by
  intro o i
  cases e <;> first | rfl | cases h
theorem plain_in {e : Expr} (h : plainX e = true) (op : CmpOp) : behindInMarks op e = false := by
  cases e <;> first | rfl | cases h
theorem plain_fold {e : Expr} (h : plainX e = true) (env : PySem.Env) (x : Value) : foldedSetIterable e env x = pure x := by
  cases e <;> first | rfl | cases h
theorem plain_T {e : Expr} (h : plainT e = true) (env : PySem.Env) (whole : Sem Value) : isTrue e env whole = (do let v ← whole; standAt e.pos; holding [v] (truthy v)) := by
  cases e with
  | UnaryOp op a p => cases op <;> first | rfl | cases h
  | _ => first | rfl | cases h
theorem noSup_ok {e : Expr} (h : noSup e = true) (f : Str) (env : PySem.Env) (w : Sem Value) : attributeBase e f env w = w := by
  unfold attributeBase
  split
  · exact absurd h (by simp [noSup])
  · rfl
/-! ### slots -/
structure RO (W : Wd) (B F : Hp) (ρ : Nat → Addr) (n : Nat) (σ : Sl) (τ : L2.St) : Prop where
  len : σ.length = τ.length
  get : ∀ (i : Nat) u, σ[i]? = some (some u) → ∃ v, τ[i]? = some (some v) ∧ RV W B F ρ n u v
section
variable {W : Wd} {B F F' F1 G H : Hp} {ρ ρ' ρ1 : Nat → Addr} {S S1 : Sto} {n : Nat} {σ : Sl} {τ : L2.St}
theorem RO.mono (r : RO W B F ρ S.length σ τ) (s : Stp F ρ S F1 ρ1 S1) : RO W B F1 ρ1 S1.length σ τ := ⟨r.len, fun i u e => by
  obtain ⟨v, h1, h2⟩ := r.get i u e
  exact ⟨v, h1, s.rv h2⟩⟩
theorem RO.set (r : RO W B F ρ n σ τ) {u : U} {v : V} (h : RV W B F ρ n u v) (i : Nat) : RO W B F ρ n (σ.set i (some u)) (τ.set i (some v)) := by
  refine ⟨by rw [List.length_set, List.length_set]; exact r.len, fun j w e => ?_⟩
  by_cases hj : i = j
  · subst hj
    by_cases hl : i < σ.length
    · rw [List.getElem?_set_self hl] at e
      cases e
      exact ⟨v, List.getElem?_set_self (by rw [← r.len]; exact hl), h⟩
    · rw [List.getElem?_eq_none (by rw [List.length_set]; omega)] at e
      cases e
  · rw [List.getElem?_set_ne hj] at e ⊢
    exact r.get j w e
theorem RO.unset (r : RO W B F ρ n σ τ) (i : Nat) (o : Option V) : RO W B F ρ n (σ.set i none) (τ.set i o) := by
  refine ⟨by rw [List.length_set, List.length_set]; exact r.len, fun j w e => ?_⟩
  by_cases hj : i = j
  · subst hj
    by_cases hl : i < σ.length
    · rw [List.getElem?_set_self hl] at e; cases e
    · rw [List.getElem?_eq_none (by rw [List.length_set]; omega)] at e
      cases e
  · rw [List.getElem?_set_ne hj] at e ⊢
    exact r.get j w e
theorem RO.wipe (r : RO W B F ρ n σ τ) : ∀ vs : List Nat, RO W B F ρ n (wipeU σ vs) (L2.wipe τ vs)
  | [] => r
  | v :: vs => (RO.wipe r vs).unset v none
end
/-! ### what is to be shown of an expression, a list of them, a test .. -/
abbrev XWof (W : Wd) (Wx : WX) (τ : L2.St) : Nat → Hp → Prop := fun c H' => Wx (.ref (W.cl c)) none τ H'
/-- a new list -/
def PoN (W : Wd) (B : Hp) (XW : Nat → Hp → Prop) (r : R (List U)) (F : Hp) (ρ : Nat → Addr) (S : Sto) (G : Hp) (Q : VK) : Prop :=
  match r with
  | .ok us S' => ∀ F' ρ' H' p vs, Stp F ρ S F' ρ' S' → Rel W B F' ρ' S' (upd G p (.lst vs)) H' → G p = none → us.length ≤ top → RVs W B F' ρ' S'.length us vs → Q (.ref p) H'
  | .ex c S' => ∀ F' ρ' H', Stp F ρ S F' ρ' S' → Rel W B F' ρ' S' G H' → XW c H'
  | .bad => False
section
variable {W : Wd} {α β γ δ : Type} {RA : Hp → (Nat → Addr) → Nat → α → β → Prop} {XW : Nat → Hp → Prop} {B F F1 G : Hp} {ρ ρ1 : Nat → Addr} {S S1 : Sto}
theorem PoN.mono {r : R (List U)} {Q : VK} (h : PoN W B XW r F ρ S G Q) (s : Stp F ρ S F1 ρ1 S1) : PoN W B XW r F1 ρ1 S1 G Q := by
  cases r with
  | ok a S' => exact fun F' ρ' H' p vs st R => h F' ρ' H' p vs (s.trans st) R
  | ex c S' => exact fun F' ρ' H' st R => h F' ρ' H' (s.trans st) R
  | bad => exact h
theorem PoN.bind {r : R α} {k : α → Sto → R (List U)} {Q : VK} {Q1 : β → Hp → Prop} (h : PoN W B XW (r.bind k) F ρ S G Q)
    (hk : ∀ a S1 F1 ρ1 H1 b, Stp F ρ S F1 ρ1 S1 → Rel W B F1 ρ1 S1 G H1 → RA F1 ρ1 S1.length a b → PoN W B XW (k a S1) F1 ρ1 S1 G Q → Q1 b H1) : Po W B RA XW r F ρ S G Q1 := by
  cases r with
  | ok a S' => exact fun F' ρ' H' b st R q => hk a S' F' ρ' H' b st R q (PoN.mono h st)
  | ex c S' => exact h
  | bad => exact h
theorem PoN.opt {o : Option (List U)} {Q : VK} (h : PoN W B XW (.opt o S1) F ρ S G Q) : ∃ a, o = some a ∧ PoN W B XW (.ok a S1) F ρ S G Q := by
  cases o with
  | none => exact h.elim
  | some a => exact ⟨a, rfl, h⟩
/-- a new list p was laid -/
theorem PoN.here {us : List U} {vs : List V} {Q : VK} {H : Hp} {p : Addr} (h : PoN W B XW (.ok us S) F ρ S G Q) (R : Rel W B F ρ S G H) (hp : H p = none) (hl : us.length ≤ top) (r : RVs W B F ρ S.length us vs) : Q (.ref p) (upd H p (.lst vs)) := by
  refine h F ρ _ p vs Stp.refl (R.aside hp) ?_ hl r
  cases e : G p with
  | none => rfl
  | some o => rw [(R.fr p o e).1] at hp; cases hp
end
theorem top_line : top < sizeLine := by decide
theorem le_line {n : Nat} (h : n ≤ top) : n ≤ sizeLine := Nat.le_of_lt (Nat.lt_of_le_of_lt h top_line)
theorem lt_line {n : Nat} (h : n ≤ top) : n < sizeLine := Nat.lt_of_le_of_lt h top_line
end TW
/-! TWD -/
set_option Elab.async false
set_option linter.all false
set_option maxRecDepth 100000
namespace TW
open PySem PySem.Spec PyProof.Rows L2
/-! ### data -/
mutual
def pyd : Dt → PyData
  | .non => .none
  | .bl b => .bool b
  | .int i => .int i
  | .str s => .str s
  | .lst ds => .list (pyds ds)
  | .tup ds => .tuple (pyds ds)
def pyds : List Dt → List PyData
  | [] => []
  | d :: ds => pyd d :: pyds ds
end
theorem pyds_map : ∀ ds : List Dt, pyds ds = ds.map pyd
  | [] => rfl
  | d :: ds => by rw [pyds, List.map_cons, pyds_map ds]
mutual
theorem eqv_pyd : ∀ a b : Dt, PyData.eqv (pyd a) (pyd b) = eqv a b
  | .non, b => by cases b <;> simp [pyd, PyData.eqv, eqv]
  | .bl a, b => by cases b <;> simp [pyd, PyData.eqv, eqv]
  | .int i, b => by cases b <;> simp [pyd, PyData.eqv, eqv]
  | .str s, b => by cases b <;> simp [pyd, PyData.eqv, eqv]
  | .lst xs, .lst ys => by simp only [pyd, PyData.eqv, eqv]; exact eqvs_pyd xs ys
  | .tup xs, .tup ys => by simp only [pyd, PyData.eqv, eqv]; exact eqvs_pyd xs ys
  | .lst xs, .non => by simp [pyd, PyData.eqv, eqv]
  | .lst xs, .bl _ => by simp [pyd, PyData.eqv, eqv]
  | .lst xs, .int _ => by simp [pyd, PyData.eqv, eqv]
  | .lst xs, .str _ => by simp [pyd, PyData.eqv, eqv]
  | .lst xs, .tup _ => by simp [pyd, PyData.eqv, eqv]
  | .tup xs, .non => by simp [pyd, PyData.eqv, eqv]
  | .tup xs, .bl _ => by simp [pyd, PyData.eqv, eqv]
  | .tup xs, .int _ => by simp [pyd, PyData.eqv, eqv]
  | .tup xs, .str _ => by simp [pyd, PyData.eqv, eqv]
  | .tup xs, .lst _ => by simp [pyd, PyData.eqv, eqv]
theorem eqvs_pyd : ∀ xs ys : List Dt, PyData.eqvAll (pyds xs) (pyds ys) = eqvs xs ys
  | [], [] => by simp [pyds, PyData.eqvAll, eqvs]
  | [], _ :: _ => by simp [pyds, PyData.eqvAll, eqvs]
  | _ :: _, [] => by simp [pyds, PyData.eqvAll, eqvs]
  | x :: xs, y :: ys => by simp only [pyds, PyData.eqvAll, eqvs]; rw [eqv_pyd x y, eqvs_pyd xs ys]
end
theorem plainS_ok {s : Str} (h : plainS s = true) : PyData.strOk s = true := by
  unfold plainS at h
  unfold PyData.strOk
  rw [← Array.all_toList] 
  rw [List.all_eq_true] at h ⊢
  intro c hc
  have := of_decide_eq_true (h c hc)
  exact decide_eq_true (by omega)
section
variable {W : Wd} {B F G H : Hp} {ρ : Nat → Addr} {S : Sto}
theorem mapO_cons {α β : Type} {f : α → Option β} {a : α} {r : List α} {bs : List β} (h : mapO f (a :: r) = some bs) : ∃ b cs, f a = some b ∧ mapO f r = some cs ∧ bs = b :: cs := by
  unfold mapO at h
  cases e1 : f a with
  | none => rw [e1] at h; cases h
  | some b =>
    cases e2 : mapO f r with
    | none => rw [e1, e2] at h; cases h
    | some cs => rw [e1, e2] at h; cases h; exact ⟨b, cs, rfl, rfl, rfl⟩
theorem mapO_len {α β : Type} {f : α → Option β} : ∀ {as : List α} {bs : List β}, mapO f as = some bs → as.length = bs.length
  | [], bs, h => by cases h; rfl
  | a :: r, bs, h => by
    obtain ⟨b, cs, _, e2, rfl⟩ := mapO_cons h
    rw [List.length_cons, List.length_cons, mapO_len e2]
theorem toD_ok (R : Rel W B F ρ S G H) : ∀ (k : Nat) (u : U) (d : Dt) (v : V), toD S k u = some d → RV W B F ρ S.length u v → Dp W.K H v (pyd d) ∧ (pyd d).depth ≤ k ∧ (pyd d).canLay0 = true := by
  intro k
  induction k with
  | zero =>
    intro u d v h r
    cases r with
    | non => cases h; exact ⟨.non, by simp [pyd, PyData.depth], by simp [pyd, PyData.canLay0]⟩
    | bl b => cases h; exact ⟨.bl b, by simp [pyd, PyData.depth], by simp [pyd, PyData.canLay0]⟩
    | int i => cases h; exact ⟨.int i, by simp [pyd, PyData.depth], by simp [pyd, PyData.canLay0]⟩
    | str s =>
      simp only [toD] at h
      split at h
      · rename_i hp
        cases h
        exact ⟨.str s, by simp [pyd, PyData.depth], by simp only [pyd, PyData.canLay0]; exact plainS_ok hp⟩
      · cases h
    | _ => simp [toD] at h
  | succ k ih =>
    have all : ∀ (us : List U) (ds : List Dt) (vs : List V), mapO (toD S k) us = some ds → RVs W B F ρ S.length us vs → DpAll W.K H vs (pyds ds) ∧ PyData.depthAll (pyds ds) ≤ k ∧ PyData.canLayAll0 (pyds ds) = true := by
      intro us
      induction us with
      | nil =>
        intro ds vs h r
        cases h
        cases r
        exact ⟨.nil, by simp [pyds, PyData.depthAll], by simp [pyds, PyData.canLayAll0]⟩
      | cons u us ihs =>
        intro ds vs h r
        obtain ⟨d, es, e1, e2, rfl⟩ := mapO_cons h
        cases r with
        | cons r1 r2 =>
          obtain ⟨a1, a2, a3⟩ := ih u d _ e1 r1
          obtain ⟨b1, b2, b3⟩ := ihs es _ e2 r2
          refine ⟨.cons a1 b1, ?_, ?_⟩
          · simp only [pyds, PyData.depthAll]; omega
          · simp only [pyds, PyData.canLayAll0, a3, b3, Bool.and_self]
    intro u d v h r
    cases r with
    | non => cases h; exact ⟨.non, by simp [pyd, PyData.depth], by simp [pyd, PyData.canLay0]⟩
    | bl b => cases h; exact ⟨.bl b, by simp [pyd, PyData.depth], by simp [pyd, PyData.canLay0]⟩
    | int i => cases h; exact ⟨.int i, by simp [pyd, PyData.depth], by simp [pyd, PyData.canLay0]⟩
    | str s =>
      simp only [toD] at h
      split at h
      · rename_i hp
        cases h
        exact ⟨.str s, by simp [pyd, PyData.depth], by simp only [pyd, PyData.canLay0]; exact plainS_ok hp⟩
      · cases h
    | tup hf hl rs =>
      simp only [toD] at h
      split at h
      · rename_i ds e
        cases h
        obtain ⟨a1, a2, a3⟩ := all _ _ _ e rs
        refine ⟨by rw [pyd]; exact .tup (SqT.of (R.sub _ _ hf)) a1, by simp only [pyd, PyData.depth]; omega, by simp only [pyd, PyData.canLay0]; exact a3⟩
      · cases h
    | fl hf hl rs =>
      simp only [toD] at h
      split at h
      · rename_i ds e
        cases h
        obtain ⟨a1, a2, a3⟩ := all _ _ _ e rs
        refine ⟨by rw [pyd]; exact .lst (SqL.of (R.sub _ _ hf)) a1, by simp only [pyd, PyData.depth]; omega, by simp only [pyd, PyData.canLay0]; exact a3⟩
      · cases h
    | sc hf hl rs =>
      simp only [toD] at h
      split at h
      · rename_i ds e
        cases h
        obtain ⟨a1, a2, a3⟩ := all _ _ _ e rs
        refine ⟨by rw [pyd]; exact .lst ((Sub.trans R.bor fun a o e => (R.fr a o e).1).l hf) a1, by simp only [pyd, PyData.depth]; omega, by simp only [pyd, PyData.canLay0]; exact a3⟩
      · cases h
    | bo hf hl rs =>
      simp only [toD] at h
      split at h
      · rename_i ds e
        cases h
        obtain ⟨a1, a2, a3⟩ := all _ _ _ e rs
        refine ⟨by rw [pyd]; exact .lst (SqL.of (R.fr _ _ (R.bor _ _ hf)).1) a1, by simp only [pyd, PyData.depth]; omega, by simp only [pyd, PyData.canLay0]; exact a3⟩
      · cases h
    | ref hm =>
      rename_i m
      simp only [toD] at h
      split at h
      · rename_i us e0
        split at h
        · rename_i ds e
          cases h
          obtain ⟨vs, hH, hl, rs⟩ := R.cell m _ e0
          obtain ⟨a1, a2, a3⟩ := all _ _ _ e rs
          refine ⟨by rw [pyd]; exact .lst (SqL.of hH) a1, by simp only [pyd, PyData.depth]; omega, by simp only [pyd, PyData.canLay0]; exact a3⟩
        · cases h
      · cases h
    | _ => simp [toD] at h
theorem shaped_of {d : Dt} (h1 : (pyd d).depth ≤ dep) (h2 : (pyd d).canLay0 = true) : SeqAt.shaped (pyd d) = true := by
  unfold SeqAt.shaped
  have : dep = 30 := rfl
  rw [h2, decide_eq_true (show (pyd d).depth ≤ 64 by omega)]
  rfl
/-! ### operators -/
variable {X : Cx} {Q : VK} {v w : V} {a b : U}
theorem bop_ok {op : BOp} {r : U} (h : bopU op a b = some r) (ra : RV W B F ρ S.length a v) (rb : RV W B F ρ S.length b w) (q : ∀ z, RV W B F ρ S.length r z → Q z H) : wOp X (binaryOp (opOf op)) v w H Q := by
  cases ra with
  | int i =>
    cases rb with
    | int j =>
      simp only [bopU] at h
      cases e : bopI op i j with
      | none => rw [e] at h; cases h
      | some k =>
        rw [e] at h
        cases h
        have q := q _ (.int k)
        cases op with
        | add => cases e; exact opTo op_add ⟨i, j, rfl, rfl, q⟩
        | sub => cases e; exact opTo op_sub ⟨i, j, rfl, rfl, q⟩
        | mul =>
          simp only [bopI] at e
          split at e
          · rename_i hc
            cases e
            intro pins s σ v u I rx ry
            obtain ⟨t, rfl⟩ := rx
            obtain ⟨t', rfl⟩ := ry
            refine mul_int ⟨.int _, H, I.tok _, ⟨_, rfl⟩, q⟩ ?_
            have bb : ∀ x : Int, Builtin.Int.intBits x ≤ x.natAbs.log2 + 1 := fun x => by
              unfold Builtin.Int.intBits
              split <;> omega
            have h1 := bb i
            have h2 := bb j
            have e : bitsLine = 134217728 := by decide
            unfold IntMulOk
            intro z
            rw [Bool.and_eq_true] at z
            have z2 := z.2
            unfold Builtin.Int.intTooBig at z2
            have z3 := of_decide_eq_true z2
            rw [e] at z3
            omega
          · cases e
        | fdiv =>
          simp only [bopI] at e
          split at e
          · rename_i hc
            cases e
            exact opTo op_fdivW ⟨i, j, rfl, rfl, hc, q⟩
          · cases e
        | mod =>
          simp only [bopI] at e
          split at e
          · rename_i hc
            cases e
            exact opTo op_mod ⟨i, j, rfl, rfl, hc, q⟩
          · cases e
        | pow =>
          simp only [bopI] at e
          split at e
          · rename_i hc
            cases e
            exact opTo op_pow ⟨i, j, rfl, rfl, hc, q⟩
          · cases e
        | shl =>
          simp only [bopI] at e
          split at e
          · rename_i hc
            cases e
            exact opTo op_shl ⟨i, j, rfl, rfl, hc, q⟩
          · cases e
        | shr =>
          simp only [bopI] at e
          split at e
          · rename_i hc
            cases e
            exact opTo op_shr ⟨i, j, rfl, rfl, hc, q⟩
          · cases e
    | _ => cases h
  | _ => simp [bopU] at h
theorem eq_ok {t : Bool} (hK : X.K = W.K) (hu : X.A.units + 65 < cLine) (R : Rel W B F ρ S G H) (h : eqU S a b = some t) (ra : RV W B F ρ S.length a v) (rb : RV W B F ρ S.length b w) :
    ∃ d e, Dp X.K H v d ∧ Dp X.K H w e ∧ SeqAt.shaped d = true ∧ SeqAt.shaped e = true ∧ PyData.eqv d e = t := by
  unfold eqU at h
  split at h
  · rename_i d e e1 e2
    cases h
    obtain ⟨a1, a2, a3⟩ := toD_ok R _ _ _ _ e1 ra
    obtain ⟨b1, b2, b3⟩ := toD_ok R _ _ _ _ e2 rb
    rw [hK]
    exact ⟨_, _, a1, b1, shaped_of a2 a3, shaped_of b2 b3, eqv_pyd d e⟩
  · cases h
theorem in_ok {t : Bool} (hK : X.K = W.K) (R : Rel W B F ρ S G H) (h : inU S a b = some t) (ra : RV W B F ρ S.length a v) (rb : RV W B F ρ S.length b w) :
    ∃ d ds, Dp X.K H v d ∧ Dp X.K H w (.list ds) ∧ SeqAt.shaped d = true ∧ SeqAt.shaped (.list ds) = true ∧ (ds.any fun z => PyData.eqv z d) = t := by
  unfold inU at h
  split at h
  · rename_i d ds e1 e2
    cases h
    obtain ⟨a1, a2, a3⟩ := toD_ok R _ _ _ _ e1 ra
    obtain ⟨b1, b2, b3⟩ := toD_ok R _ _ _ _ e2 rb
    rw [hK]
    refine ⟨_, _, a1, by rw [pyd] at b1; exact b1, shaped_of a2 a3, by have := shaped_of b2 b3; rw [pyd] at this; exact this, ?_⟩
    rw [pyds_map, List.any_map]
    congr 1
    funext z
    exact eqv_pyd z d
  · cases h
theorem is_ok {t : Bool} (h : isU a b = some t) (ra : RV W B F ρ S.length a v) (rb : RV W B F ρ S.length b w) :
    (w = .non ∧ decide (v = .non) = t) ∨ ∃ c d : Bool, v = .bl c ∧ w = .bl d ∧ decide (c = d) = t := by
  cases ra <;> cases rb <;> simp only [isU] at h <;> first
    | (cases h; exact .inl ⟨rfl, rfl⟩)
    | (cases h; exact .inr ⟨_, _, rfl, rfl, by simp [Bool.beq_eq_decide_eq]⟩)
    | (cases h)
theorem cmp_ok {op : COp} {t : Bool} (hK : X.K = W.K) (hu : X.A.units + 65 < cLine) (R : Rel W B F ρ S G H) (h : cmpU S op a b = some t) (ra : RV W B F ρ S.length a v) (rb : RV W B F ρ S.length b w) (q : Q (.bl t) H) :
    wOp X (compareOp (copOf op)) v w H Q := by
  have hu' : X.A.units + 64 < cLine := by omega
  cases op with
  | eq =>
    obtain ⟨d, e, h1, h2, h3, h4, h5⟩ := eq_ok hK hu R h ra rb
    exact opTo (op_eqD hu') ⟨d, e, h1, h2, h3, h4, by rw [h5]; exact q⟩
  | ne =>
    simp only [cmpU] at h
    cases e0 : eqU S a b with
    | none => rw [e0] at h; cases h
    | some t' =>
      rw [e0] at h
      cases h
      obtain ⟨d, e, h1, h2, h3, h4, h5⟩ := eq_ok hK hu R e0 ra rb
      exact opTo (op_neD hu') ⟨d, e, h1, h2, h3, h4, by rw [h5]; exact q⟩
  | inn =>
    obtain ⟨d, ds, h1, h2, h3, h4, h5⟩ := in_ok (X := X) hK R h ra rb
    exact opTo (op_inD hu) ⟨d, ds, h1, h2, h3, h4, by rw [h5]; exact q⟩
  | notin =>
    simp only [cmpU] at h
    cases e0 : inU S a b with
    | none => rw [e0] at h; cases h
    | some t' =>
      rw [e0] at h
      cases h
      obtain ⟨d, ds, h1, h2, h3, h4, h5⟩ := in_ok (X := X) hK R e0 ra rb
      exact opTo (op_notInD hu) ⟨d, ds, h1, h2, h3, h4, by rw [h5]; exact q⟩
  | is =>
    rcases is_ok h ra rb with ⟨rfl, e⟩ | ⟨c, d, rfl, rfl, e⟩
    · exact opTo op_isN ⟨rfl, by rw [e]; exact q⟩
    · exact opTo op_isBl ⟨c, d, rfl, rfl, by rw [e]; exact q⟩
  | isnot =>
    simp only [cmpU] at h
    cases e0 : isU a b with
    | none => rw [e0] at h; cases h
    | some t' =>
      rw [e0] at h
      cases h
      rcases is_ok e0 ra rb with ⟨rfl, e⟩ | ⟨c, d, rfl, rfl, e⟩
      · exact opTo op_notN ⟨rfl, by rw [e]; exact q⟩
      · exact opTo op_notBl ⟨c, d, rfl, rfl, by rw [e]; exact q⟩
  | lt =>
    cases ra with
    | int i => cases rb with
      | int j => cases h; exact opTo op_lt ⟨i, j, rfl, rfl, q⟩
      | _ => cases h
    | _ => simp [cmpU] at h
  | le =>
    cases ra with
    | int i => cases rb with
      | int j => cases h; exact opTo op_le ⟨i, j, rfl, rfl, q⟩
      | _ => cases h
    | _ => simp [cmpU] at h
  | gt =>
    cases ra with
    | int i => cases rb with
      | int j => cases h; exact opTo op_gt ⟨i, j, rfl, rfl, q⟩
      | _ => cases h
    | _ => simp [cmpU] at h
  | ge =>
    cases ra with
    | int i => cases rb with
      | int j => cases h; exact opTo op_ge ⟨i, j, rfl, rfl, q⟩
      | _ => cases h
    | _ => simp [cmpU] at h
end
end TW
/-! TWE -/
set_option Elab.async false
set_option linter.all false
set_option maxRecDepth 100000
namespace TW
open PySem PySem.Spec PyProof.Rows L2
/-! ### contexts -/
structure CC where
  T : Tb
  N : List Str
  sc : Scope
  own : Scope
  hot : Bool
  no : Option Nat
  /-- the def's own name, as it leads those of what it makes -/
  q : Str
def gval (W : Wd) : GK → Value → Prop
  | .fn i, u => u = .ref (W.fn i)
  | .cls i, u => u = .ref (W.cl i)
  | .int k, u => ∃ t, u = .int k t
/-- a def's call, as the interpreter runs it -/
def CallOk (W : Wd) (E : Env) (X : Cx) (f : Nat) : Prop :=
  ∃ (fd : FuncData) (ps : List Str) (k : Nat) (sp : Sp), FnOk X.prog X.w X.K X.mg X.base (L2N.CX X.prog X.w) k (W.fn f) fd ps sp ∧ Room (k + 1) X.A ∧
    PySem.W.keepIn X.K (.ref (W.fn f)) = true ∧ Binds X.K fd ps [] ∧
    ∀ (m : Bool) (B F : Hp) (ρ : Nat → Addr) (S : Sto) (G H : Hp) (us : List U) (vs : List V) (Q : VK) (Ex : XK), Rel W B F ρ S G H → RVs W B F ρ S.length us vs →
      Po W B (RV W B) (fun c H' => Ex (.ref (W.cl c)) none H') (E.call m f us S) F ρ S G Q → sp vs H Q Ex
/-- a lambda's call, as the interpreter runs it -/
def LamOk (W : Wd) (E : Env) (X : Cx) (k : Nat) : Prop :=
  ∀ (m : Bool) (B F : Hp) (ρ : Nat → Addr) (S : Sto) (G H : Hp) (us : List U) (vs : List V) (Q : VK) (Ex : XK) (L : LamW) (f c : Addr) (outer : List PySem.Env) (s : Shared) (args : List Value), Env0 X.prog X.w X.K X.mg X.base X.A outer s H → Rel W B F ρ S G H → RVs W B F ρ S.length us vs → Vals vs args →
    W.lm k L → F f = some (LamO f L [] c) → F c = some (LamX.CodeO c L.qual) → Po W B (RV W B) (fun c H' => Ex (.ref (W.cl c)) none H') (E.call m k us S) F ρ S G Q →
    codeAny (model X.prog X.w) X.A (.call (.ref f) ⟨args, []⟩) (CR (L2N.CX X.prog X.w) outer X.prog X.w H s Q Ex) s
def lamN (q : Str) : Str := q ++ "<lambda>"
/-- a def that makes lambdas: its code object, its table -/
def Maker (W : Wd) (X : Cx) (q : Str) : Prop := ∃ c P, LamX.TabB X.base X.mg c P ∧ X.env.code = .ref c ∧ (P, lamN q) ∈ W.T ∧ ∀ p ∈ W.T, p.1 = P → p.2 = lamN q
/-- the classes, as the program's top leaves them -/
structure KF (W : Wd) (P : Pg) : Prop where
  own : ∀ (a : Ty) (j : Nat), P.okc j = true → PySem.W.kitOne W.K (.type (tyName a)) (.ref (W.cl j)) = some false
  sub : ∀ k j, P.okc k = true → P.okc j = true → PySem.W.kitOne W.K (.ref (W.cl k)) (.ref (W.cl j)) = some (P.sub k j)
  cls : ∀ k, P.okc k = true → P.exc k = false → Cls W.K (W.cl k)
  mro : ∀ k, P.okc k = true → PySem.W.mroIn W.K (W.cl k) (.type "object") = some true
  at_ : ∀ k, P.okc k = true → P.exc k = false → PySem.W.findIn W.K (.ref (W.cl k)) "__class__" = some (some (.builtin "object.__class__"))
  sp : PySem.W.specialIn W.K (.builtin "object.__class__") "__get__" = some (some (.builtin "getset_descriptor.__get__"))
  tk : PySem.W.takesIn W.K (.builtin "object.__class__") = some true
  exm : ∀ k c, P.okc k = true → P.exc k = true → P.okc c = true → P.exc c = true → PySem.W.exmOne W.K (.ref (W.cl k)) (.ref (W.cl c)) = some (P.sub k c)
  exC : ∀ k, P.okc k = true → P.exc k = true → ExcC W.K (W.cl k)
  exI : ∀ k, P.okc k = true → P.exc k = true → PySem.W.excIn W.K (W.cl k) [.type "ValueError", .type "Exception", .type "BaseException", .type "object"] "ValueError.__new__" = true
  exk : ∀ k, P.okc k = true → P.exc k = true → PySem.W.keepIn W.K (.ref (W.cl k)) = true ∧ PySem.W.subIn W.K (.ref (W.cl k)) (.type "BaseException") = some true ∧ PySem.W.typeIn W.K (.ref (W.cl k)) = some (.type "type")
  exv : ∀ k, P.okc k = true → P.exc k = true → PySem.W.kitOne W.K (.ref (W.cl k)) (.type "ValueError") = some true
/-- the classes that are made, their methods -/
structure OF (W : Wd) (P : Pg) (mt : Nat → Nat → Option Nat) (init : Nat → Option Nat) (okf : Nat → Bool) : Prop where
  na : ∀ c f, P.okc c = true → P.exc c = false → f < 5 → NoAttr W.K (W.cl c) (fldName f)
  mt : ∀ c m f, mt c m = some f → okf f = true ∧ P.okc c = true ∧ P.exc c = false ∧ Meth W.K (W.cl c) "shows" (W.fn f)
  make : ∀ c f, init c = some f → okf f = true ∧ Mk W.K (W.cl c) (W.fn f)
structure GX (C : CC) (W : Wd) (E : Env) (ξ : Option (Nat × Addr)) (Wx : WX) (X : Cx) : Prop where
  K : X.K = W.K
  N : X.N = C.N
  nd : X.N.Nodup
  sc : X.env.scope = C.sc
  gt : ∀ x k, C.T.gt.lookup x = some k → ∃ u, X.mg x = some u ∧ gval W k u
  bn : ∀ x, C.T.bn.contains x = true → X.mg x = none
  fn : ∀ x, L2.Loc C.own x → L2.Loc X.env.scope x ∧ (X.fn x = true ∨ X.env.scope.names.lookup x = some .local)
  calm : C.hot = false → X.calm = true
  un : X.A.units + 65 < cLine
  tk : L2N.Takes X Wx
  hc : C.hot = true → L2H.HotC X
  call : C.hot = false → ∀ f, E.okf f = true → CallOk W E X f
  lam : C.hot = false → ∀ k, E.okl k = true → LamOk W E X k
  qn : X.env.qual = C.q
  mks : C.hot = false → C.T.mks.contains C.q = true → Maker W X C.q
  lw : ∀ k L, C.T.lb k L = true → W.lm k L
  kf : KF W E.P
  of : OF W E.P E.mt E.init E.okf
  tp : E.P = C.T.P
  xn : ∀ i a, ξ = some (i, a) → C.no = some i
  h0 : C.hot = false → E.hx = none ∧ ξ = none
  hx : ∀ i k, E.hx = some (i, k) → ∃ a, ξ = some (i, a) ∧ C.no = some i ∧ CallR X (.builtin "isinstance") (rIsE X.K (W.cl k) a)
structure RX (W : Wd) (B F : Hp) (ρ : Nat → Addr) (n : Nat) (ξ : Option (Nat × Addr)) (σ : Sl) (τ : L2.St) : Prop where
  ro : RO W B F ρ n σ τ
  hx : ∀ i a, ξ = some (i, a) → τ[i]? = some (some (.ref a))
section
variable {W : Wd} {B F F' F1 G H : Hp} {ρ ρ' ρ1 : Nat → Addr} {S S1 : Sto} {n : Nat} {σ : Sl} {τ : L2.St} {ξ : Option (Nat × Addr)}
theorem RX.mono (r : RX W B F ρ S.length ξ σ τ) (s : Stp F ρ S F1 ρ1 S1) : RX W B F1 ρ1 S1.length ξ σ τ := ⟨r.ro.mono s, r.hx⟩
end
def SE (W : Wd) (B : Hp) (E : Env) (ξ : Option (Nat × Addr)) (Wx : WX) (X : Cx) (e : Expr) (ie : IE) : Prop := ∀ (σ : Sl) (S : Sto) (F : Hp) (ρ : Nat → Addr) (G H : Hp) (τ : L2.St) (Q : VK), Rel W B F ρ S G H → RX W B F ρ S.length ξ σ τ →
  Po W B (RV W B) (XWof W Wx τ) (evE E σ ie S) F ρ S G Q → wE X e τ H Q
def ST (W : Wd) (B : Hp) (E : Env) (ξ : Option (Nat × Addr)) (Wx : WX) (X : Cx) (e : Expr) (ie : IE) : Prop := ∀ (σ : Sl) (S : Sto) (F : Hp) (ρ : Nat → Addr) (G H : Hp) (τ : L2.St) (Q : Bool → Hp → Prop), Rel W B F ρ S G H → RX W B F ρ S.length ξ σ τ →
  Po W B (RV W B) (XWof W Wx τ) (evE E σ ie S) F ρ S G (fun v H1 => ∃ b, v = .bl b ∧ Q b H1) → wT X e τ H Q
def SL (W : Wd) (B : Hp) (E : Env) (ξ : Option (Nat × Addr)) (Wx : WX) (X : Cx) (es : List Expr) (ie : IE) : Prop := ∀ (σ : Sl) (S : Sto) (F : Hp) (ρ : Nat → Addr) (G H : Hp) (τ : L2.St) (Q : List V → Hp → Prop), Rel W B F ρ S G H → RX W B F ρ S.length ξ σ τ →
  Po W B (RVs W B) (XWof W Wx τ) (evL E σ ie S) F ρ S G Q → wA X es τ H Q
def SN (W : Wd) (B : Hp) (E : Env) (ξ : Option (Nat × Addr)) (Wx : WX) (X : Cx) (e : Expr) (ie : IE) : Prop := ∀ (σ : Sl) (S : Sto) (F : Hp) (ρ : Nat → Addr) (G H : Hp) (τ : L2.St) (Q : VK), Rel W B F ρ S G H → RX W B F ρ S.length ξ σ τ →
  PoN W B (XWof W Wx τ) (evN E σ ie S) F ρ S G Q → wE X e τ H Q
section
variable {C : CC} {W : Wd} {B : Hp} {E : Env} {ξ : Option (Nat × Addr)} {Wx : WX} {X : Cx}
/-! ### names and constants -/
theorem se_c {u : U} {e : Expr} (h : ∀ σ H Q, (∀ v H', (∀ F ρ S G, Rel W B F ρ S G H → ∃ F', Stp F ρ S F' ρ S ∧ Rel W B F' ρ S G H' ∧ RV W B F' ρ S.length u v) → Q v H') → wE X e σ H Q) : SE W B E ξ Wx X e (.c u) := by
  intro σ S F ρ G H τ Q R ro hp
  rw [evE] at hp
  refine h τ H Q fun v H' hv => ?_
  obtain ⟨F', st, R', r⟩ := hv F ρ S G R
  exact hp F' ρ H' v st R' r
theorem se_c0 {u : U} {v : V} {e : Expr} (he : PE X e (tC v)) (hv : ∀ B F ρ n, RV W B F ρ n u v) : SE W B E ξ Wx X e (.c u) := by
  intro σ S F ρ G H τ Q R ro hp
  rw [evE] at hp
  exact eTo he (hp.here R (hv _ _ _ _))
theorem se_dct {pos : Pos} : SE W B E ξ Wx X (.Dict [] [] pos) (.c .dct) := by
  intro σ S F ρ G H τ Q R ro hp
  rw [evE] at hp
  refine eTo pe_dnewK fun p hp' => ?_
  obtain ⟨R', st⟩ := R.froz (o := .dK []) hp'
  exact hp _ ρ _ _ st R' (.dct upd_same)
theorem se_g {u : U} {v : V} {e : Expr} (he : PE X e (tC v)) (hv : ∀ B F ρ n, RV W B F ρ n u v) : SE W B E ξ Wx X e (.g u) := by
  intro σ S F ρ G H τ Q R ro hp
  rw [evE] at hp
  exact eTo he (hp.here R (hv _ _ _ _))
theorem se_v (g : GX C W E ξ Wx X) {i : Nat} {x : Str} {pos : Pos} (hN : C.N[i]? = some x) (hv : visB C.sc x = true) (hk : okN x = true) : SE W B E ξ Wx X (.Name x pos) (.v i) := by
  intro σ S F ρ G H τ Q R ro hp
  rw [evE] at hp
  split at hp
  · rename_i u e
    obtain ⟨v, h1, h2⟩ := ro.ro.get i u e
    obtain ⟨k1, k2, _⟩ := okN_ok hk
    exact eTo (pe_var (i := i) (by rw [g.N]; exact hN) (by rw [g.sc]; exact visB_ok hv) k1 k2) ⟨v, h1, hp.here R h2⟩
  · exact hp.elim
/-! ### operators -/
variable {ea eb ec ed : Expr} {a b c d : IE} {pos : Pos}
theorem se_bin {op : BOp} (ha : SE W B E ξ Wx X ea a) (hb : SE W B E ξ Wx X eb b) : SE W B E ξ Wx X (.BinOp ea (opOf op) eb pos) (.bin op a b) := by
  intro σ S F ρ G H τ Q R ro h
  rw [evE] at h
  refine eTo (pe_op (pOp _) (pE ea) (pE eb)) ?_
  refine ha σ S F ρ G H τ _ R ro (h.bind (RA := RV W B) fun x S1 F1 ρ1 H1 v st1 R1 r1 h1 => ?_)
  refine hb σ S1 F1 ρ1 G H1 τ _ R1 (ro.mono st1) (h1.bind (RA := RV W B) fun y S2 F2 ρ2 H2 w st2 R2 r2 h2 => ?_)
  obtain ⟨r, e, h3⟩ := h2.opt
  exact bop_ok e (st2.rv r1) r2 fun z rz => h3.here R2 rz
theorem se_neg (ha : SE W B E ξ Wx X ea a) : SE W B E ξ Wx X (.UnaryOp .USub ea pos) (.neg a) := by
  intro σ S F ρ G H τ Q R ro h
  rw [evE] at h
  refine eTo (pe_un un_neg (pE ea)) ?_
  refine ha σ S F ρ G H τ _ R ro (h.bind (RA := RV W B) fun x S1 F1 ρ1 H1 v st1 R1 r1 h1 => ?_)
  cases r1 with
  | int i => exact ⟨i, rfl, h1.here R1 (.int _)⟩
  | _ => exact h1.elim
theorem rd_cmp {op : COp} (g : GX C W E ξ Wx X) (ha : SE W B E ξ Wx X ea a) (hb : SE W B E ξ Wx X eb b) {σ : Sl} {S : Sto} {F : Hp} {ρ : Nat → Addr} {G H : Hp} {τ : L2.St} {Q : VK} (R : Rel W B F ρ S G H) (ro : RX W B F ρ S.length ξ σ τ)
    (h : Po W B (RV W B) (XWof W Wx τ) (evE E σ (.cmp op a b) S) F ρ S G Q) : tOp (wOp X (compareOp (copOf op))) (wE X ea) (wE X eb) τ H Q := by
  rw [evE] at h
  refine ha σ S F ρ G H τ _ R ro (h.bind (RA := RV W B) fun x S1 F1 ρ1 H1 v st1 R1 r1 h1 => ?_)
  refine hb σ S1 F1 ρ1 G H1 τ _ R1 (ro.mono st1) (h1.bind (RA := RV W B) fun y S2 F2 ρ2 H2 w st2 R2 r2 h2 => ?_)
  obtain ⟨r, e, h3⟩ := h2.opt
  cases e0 : cmpU S2 op x y with
  | none => rw [e0] at e; cases e
  | some t =>
    rw [e0] at e
    cases e
    exact cmp_ok g.K g.un R2 e0 (st2.rv r1) r2 (h3.here R2 (.bl t))
theorem se_cmp {op : COp} (g : GX C W E ξ Wx X) (hp : plainX eb = true) (ha : SE W B E ξ Wx X ea a) (hb : SE W B E ξ Wx X eb b) : SE W B E ξ Wx X (.Compare ea [copOf op] [eb] pos) (.cmp op a b) := by
  intro σ S F ρ G H τ Q R ro h
  exact eTo (pe_cmpR (pOp _) (pE ea) (pE eb) (plain_in hp _)) (rd_cmp g ha hb R ro h)
theorem st_cmp {op : COp} (g : GX C W E ξ Wx X) (hp : plainX eb = true) (ha : SE W B E ξ Wx X ea a) (hb : SE W B E ξ Wx X eb b) : ST W B E ξ Wx X (.Compare ea [copOf op] [eb] pos) (.cmp op a b) := by
  intro σ S F ρ G H τ Q R ro h
  exact tTo (pt_cmpR (pOp _) (pE ea) (pE eb) (plain_in hp _)) (rd_cmp g ha hb R ro h)
/-- one link of a chain -/
theorem link_ok {op : COp} {α : Type} {k : Option Bool} {S2 : Sto} {F2 G H2 : Hp} {ρ2 : Nat → Addr} {x y : U} {v w : V} (g : GX C W E ξ Wx X) (R2 : Rel W B F2 ρ2 S2 G H2) (r1 : RV W B F2 ρ2 S2.length x v) (r2 : RV W B F2 ρ2 S2.length y w)
    {t : Bool} (e0 : cmpU S2 op x y = some t) {Q : VK} (q : Q (.bl t) H2) : wOp X (compareOp (copOf op)) v w H2 Q := cmp_ok g.K g.un R2 e0 r1 r2 q
theorem rd_chain {op op' : COp} (g : GX C W E ξ Wx X) (ha : SE W B E ξ Wx X ea a) (hb : SE W B E ξ Wx X eb b) (hc : SE W B E ξ Wx X ec c) {σ : Sl} {S : Sto} {F : Hp} {ρ : Nat → Addr} {G H : Hp} {τ : L2.St} {Q : VK} (R : Rel W B F ρ S G H) (ro : RX W B F ρ S.length ξ σ τ)
    (h : Po W B (RV W B) (XWof W Wx τ) (evE E σ (.chain op op' a b c) S) F ρ S G Q) : tChain (wOp X (compareOp (copOf op))) (wOp X (compareOp (copOf op'))) (wE X ea) (wE X eb) (wE X ec) τ H Q := by
  rw [evE] at h
  refine ha σ S F ρ G H τ _ R ro (h.bind (RA := RV W B) fun x S1 F1 ρ1 H1 v st1 R1 r1 h1 => ?_)
  refine hb σ S1 F1 ρ1 G H1 τ _ R1 (ro.mono st1) (h1.bind (RA := RV W B) fun y S2 F2 ρ2 H2 w st2 R2 r2 h2 => ?_)
  have r1' := st2.rv r1
  split at h2
  · rename_i e0
    refine cmp_ok g.K g.un R2 e0 r1' r2 ⟨true, rfl, ?_⟩
    rw [if_pos rfl]
    refine hc σ S2 F2 ρ2 G H2 τ _ R2 ((ro.mono st1).mono st2) (h2.bind (RA := RV W B) fun z S3 F3 ρ3 H3 w3 st3 R3 r3 h3 => ?_)
    obtain ⟨r, e, h4⟩ := h3.opt
    cases e1 : cmpU S3 op' y z with
    | none => rw [e1] at e; cases e
    | some t =>
      rw [e1] at e
      cases e
      exact cmp_ok g.K g.un R3 e1 (st3.rv r2) r3 (h4.here R3 (.bl t))
  · rename_i e0
    refine cmp_ok g.K g.un R2 e0 r1' r2 ⟨false, rfl, ?_⟩
    rw [if_neg Bool.false_ne_true]
    exact h2.here R2 (.bl false)
  · exact h2.elim
theorem marks2 {o o' : CmpOp} {x y : Expr} (hp : plainX y = true) : lastMarks [o, o'] [x, y] = false := by
  show behindInMarks o' y = false
  exact plain_in hp _
theorem marks3 {o o' o'' : CmpOp} {x y z : Expr} (hp : plainX z = true) : lastMarks [o, o', o''] [x, y, z] = false := by
  show behindInMarks o'' z = false
  exact plain_in hp _
theorem se_chain {op op' : COp} (g : GX C W E ξ Wx X) (hp : plainX ec = true) (ha : SE W B E ξ Wx X ea a) (hb : SE W B E ξ Wx X eb b) (hc : SE W B E ξ Wx X ec c) : SE W B E ξ Wx X (.Compare ea [copOf op, copOf op'] [eb, ec] pos) (.chain op op' a b c) := by
  intro σ S F ρ G H τ Q R ro h
  exact eTo (pe_chain (pOp _) (pOp _) (pE ea) (pE eb) (pE ec) (marks2 hp)) (rd_chain g ha hb hc R ro h)
theorem st_chain {op op' : COp} (g : GX C W E ξ Wx X) (hp : plainX ec = true) (ha : SE W B E ξ Wx X ea a) (hb : SE W B E ξ Wx X eb b) (hc : SE W B E ξ Wx X ec c) : ST W B E ξ Wx X (.Compare ea [copOf op, copOf op'] [eb, ec] pos) (.chain op op' a b c) := by
  intro σ S F ρ G H τ Q R ro h
  exact tTo (pt_chain (pOp _) (pOp _) (pE ea) (pE eb) (pE ec) (marks2 hp)) (rd_chain g ha hb hc R ro h)
end
end TW
/-! TWF -/
set_option Elab.async false
set_option linter.all false
set_option maxRecDepth 100000
namespace TW
open PySem PySem.Spec PyProof.Rows L2
/-! ### a chain of three -/
section
variable {X : Cx} {a b c d : Expr} {ta tb tc td : TE} {pos : Pos} {r r' r'' : R2}
def tChain3 (r r' r'' : R2) (ta tb tc td : TE) : TE := fun σ H Q => ta σ H fun x H1 => tb σ H1 fun y H2 => r x y H2 fun z H3 => ∃ k, z = .bl k ∧
  (if k = true then tc σ H3 fun x' H4 => r' y x' H4 fun z' H5 => ∃ k', z' = .bl k' ∧ (if k' = true then td σ H5 fun y' H6 => r'' x' y' H6 Q else Q (.bl false) H5) else Q (.bl false) H3)
theorem pe_chain3 {op op' op'' : CmpOp} (ho : OpR X (compareOp op) r) (ho' : OpR X (compareOp op') r') (ho'' : OpR X (compareOp op'') r'') (ha : PE X a ta) (hb : PE X b tb) (hc : PE X c tc) (hd : PE X d td)
    (hm : lastMarks [op, op', op''] [b, c, d] = false) : PE X (.Compare a [op, op', op''] [b, c, d] pos) (tChain3 r r' r'' ta tb tc td) := by
  refine ⟨fun pins s σ H Q I h => ?_⟩
  refine Compare_chain (thn (ha.run pins s σ H _ I h) fun v s1 ⟨x, H1, I1, r1, q1⟩ => ?_) hm
  refine chain_link (thn (hb.run pins s1 σ H1 _ I1 q1) fun u s2 ⟨y, H2, I2, r2, q2⟩ => thn (ho pins s2 σ H2 x y v u _ I2 r1 r2 q2) fun e3 s3 ⟨z, H3, I3, r3, k, e, q3⟩ => ?_)
  subst e
  cases r3
  refine wpAny_truthy_bool ?_
  cases k with
  | false => exact ite_ff ⟨.bl false, H3, I3, rfl, q3⟩
  | true =>
    refine ite_tt (chain_link (thn (hc.run pins s3 σ H3 _ I3 q3) fun u4 s4 ⟨y4, H4, I4, r4, q4⟩ => thn (ho' pins s4 σ H4 y y4 u u4 _ I4 r2 r4 q4) fun e5 s5 ⟨z5, H5, I5, r5, k5, e, q5⟩ => ?_))
    subst e
    cases r5
    refine wpAny_truthy_bool ?_
    cases k5 with
    | false => exact ite_ff ⟨.bl false, H5, I5, rfl, q5⟩
    | true => exact ite_tt (chain_last (thn (hd.run pins s5 σ H5 _ I5 q5) fun u6 s6 ⟨y6, H6, I6, r6, q6⟩ => ho'' pins s6 σ H6 y4 y6 u4 u6 Q I6 r4 r6 q6))
theorem pt_chain3 {op op' op'' : CmpOp} (ho : OpR X (compareOp op) r) (ho' : OpR X (compareOp op') r') (ho'' : OpR X (compareOp op'') r'') (ha : PE X a ta) (hb : PE X b tb) (hc : PE X c tc) (hd : PE X d td)
    (hm : lastMarks [op, op', op''] [b, c, d] = false) : PT X (.Compare a [op, op', op''] [b, c, d] pos) (tTest (tChain3 r r' r'' ta tb tc td)) := by
  refine ⟨fun pins s σ H Q I h => ?_⟩
  refine isTrue_chain (thn (ha.run pins s σ H _ I h) fun v s1 ⟨x, H1, I1, r1, q1⟩ => ?_) hm
  refine test_link (thn (hb.run pins s1 σ H1 _ I1 q1) fun u s2 ⟨y, H2, I2, r2, q2⟩ => thn (ho pins s2 σ H2 x y v u _ I2 r1 r2 q2) fun e3 s3 ⟨z, H3, I3, r3, k, e, q3⟩ => ?_)
  subst e
  cases r3
  refine wpAny_truthy_bool ?_
  cases k with
  | false => obtain ⟨k', e', q'⟩ := q3; cases e'; exact ite_ff ⟨H3, I3, q'⟩
  | true =>
    refine ite_tt (test_link (thn (hc.run pins s3 σ H3 _ I3 q3) fun u4 s4 ⟨y4, H4, I4, r4, q4⟩ => thn (ho' pins s4 σ H4 y y4 u u4 _ I4 r2 r4 q4) fun e5 s5 ⟨z5, H5, I5, r5, k5, e, q5⟩ => ?_))
    subst e
    cases r5
    refine wpAny_truthy_bool ?_
    cases k5 with
    | false => obtain ⟨k', e', q'⟩ := q5; cases e'; exact ite_ff ⟨H5, I5, q'⟩
    | true =>
      refine ite_tt (test_last (thn (hd.run pins s5 σ H5 _ I5 q5) fun u6 s6 ⟨y6, H6, I6, r6, q6⟩ => thn (ho'' pins s6 σ H6 y4 y6 u4 u6 _ I6 r4 r6 q6) fun e7 s7 ⟨z7, H7, I7, r7, k7, e, q7⟩ => ?_))
      subst e
      cases r7
      exact wpAny_truthy_bool ⟨H7, I7, q7⟩
end
section
variable {C : CC} {W : Wd} {B : Hp} {E : Env} {ξ : Option (Nat × Addr)} {Wx : WX} {X : Cx} {ea eb ec ed : Expr} {a b c d : IE} {pos : Pos}
theorem rd_chain3 {op op' op'' : COp} (g : GX C W E ξ Wx X) (ha : SE W B E ξ Wx X ea a) (hb : SE W B E ξ Wx X eb b) (hc : SE W B E ξ Wx X ec c) (hd : SE W B E ξ Wx X ed d) {σ : Sl} {S : Sto} {F : Hp} {ρ : Nat → Addr} {G H : Hp} {τ : L2.St} {Q : VK} (R : Rel W B F ρ S G H) (ro : RX W B F ρ S.length ξ σ τ)
    (h : Po W B (RV W B) (XWof W Wx τ) (evE E σ (.chain3 op op' op'' a b c d) S) F ρ S G Q) : tChain3 (wOp X (compareOp (copOf op))) (wOp X (compareOp (copOf op'))) (wOp X (compareOp (copOf op''))) (wE X ea) (wE X eb) (wE X ec) (wE X ed) τ H Q := by
  rw [evE] at h
  refine ha σ S F ρ G H τ _ R ro (h.bind (RA := RV W B) fun x S1 F1 ρ1 H1 v st1 R1 r1 h1 => ?_)
  refine hb σ S1 F1 ρ1 G H1 τ _ R1 (ro.mono st1) (h1.bind (RA := RV W B) fun y S2 F2 ρ2 H2 w st2 R2 r2 h2 => ?_)
  have r1' := st2.rv r1
  split at h2
  · rename_i e0
    refine cmp_ok g.K g.un R2 e0 r1' r2 ⟨true, rfl, ?_⟩
    rw [if_pos rfl]
    refine hc σ S2 F2 ρ2 G H2 τ _ R2 ((ro.mono st1).mono st2) (h2.bind (RA := RV W B) fun z S3 F3 ρ3 H3 w3 st3 R3 r3 h3 => ?_)
    have r2' := st3.rv r2
    split at h3
    · rename_i e1
      refine cmp_ok g.K g.un R3 e1 r2' r3 ⟨true, rfl, ?_⟩
      rw [if_pos rfl]
      refine hd σ S3 F3 ρ3 G H3 τ _ R3 (((ro.mono st1).mono st2).mono st3) (h3.bind (RA := RV W B) fun z4 S4 F4 ρ4 H4 w4 st4 R4 r4 h4 => ?_)
      obtain ⟨r, e, h5⟩ := h4.opt
      cases e2 : cmpU S4 op'' z z4 with
      | none => rw [e2] at e; cases e
      | some t =>
        rw [e2] at e
        cases e
        exact cmp_ok g.K g.un R4 e2 (st4.rv r3) r4 (h5.here R4 (.bl t))
    · rename_i e1
      refine cmp_ok g.K g.un R3 e1 r2' r3 ⟨false, rfl, ?_⟩
      rw [if_neg Bool.false_ne_true]
      exact h3.here R3 (.bl false)
    · exact h3.elim
  · rename_i e0
    refine cmp_ok g.K g.un R2 e0 r1' r2 ⟨false, rfl, ?_⟩
    rw [if_neg Bool.false_ne_true]
    exact h2.here R2 (.bl false)
  · exact h2.elim
theorem se_chain3 {op op' op'' : COp} (g : GX C W E ξ Wx X) (hp : plainX ed = true) (ha : SE W B E ξ Wx X ea a) (hb : SE W B E ξ Wx X eb b) (hc : SE W B E ξ Wx X ec c) (hd : SE W B E ξ Wx X ed d) : SE W B E ξ Wx X (.Compare ea [copOf op, copOf op', copOf op''] [eb, ec, ed] pos) (.chain3 op op' op'' a b c d) := by
  intro σ S F ρ G H τ Q R ro h
  exact eTo (pe_chain3 (pOp _) (pOp _) (pOp _) (pE ea) (pE eb) (pE ec) (pE ed) (marks3 hp)) (rd_chain3 g ha hb hc hd R ro h)
theorem st_chain3 {op op' op'' : COp} (g : GX C W E ξ Wx X) (hp : plainX ed = true) (ha : SE W B E ξ Wx X ea a) (hb : SE W B E ξ Wx X eb b) (hc : SE W B E ξ Wx X ec c) (hd : SE W B E ξ Wx X ed d) : ST W B E ξ Wx X (.Compare ea [copOf op, copOf op', copOf op''] [eb, ec, ed] pos) (.chain3 op op' op'' a b c d) := by
  intro σ S F ρ G H τ Q R ro h
  exact tTo (pt_chain3 (pOp _) (pOp _) (pOp _) (pE ea) (pE eb) (pE ec) (pE ed) (marks3 hp)) (rd_chain3 g ha hb hc hd R ro h)
/-! ### a value as a test -/
theorem st_of (hp : plainT ea = true) (ha : SE W B E ξ Wx X ea a) : ST W B E ξ Wx X ea a := by
  intro σ S F ρ G H τ Q R ro h
  exact tTo (pt_val (pE ea) fun w => plain_T hp X.env w) (ha σ S F ρ G H τ _ R ro h)
/-! ### not, and, or, if else -/
theorem se_not (ha : SE W B E ξ Wx X ea a) : SE W B E ξ Wx X (.UnaryOp .Not ea pos) (.not a) := by
  intro σ S F ρ G H τ Q R ro h
  rw [evE] at h
  refine eTo (pe_not (pE ea)) (ha σ S F ρ G H τ _ R ro (h.bind (RA := RV W B) fun x S1 F1 ρ1 H1 v st1 R1 r1 h1 => ?_))
  cases r1 with
  | bl t => exact ⟨t, rfl, h1.here R1 (.bl _)⟩
  | _ => exact h1.elim
theorem st_not (ha : ST W B E ξ Wx X ea a) : ST W B E ξ Wx X (.UnaryOp .Not ea pos) (.not a) := by
  intro σ S F ρ G H τ Q R ro h
  rw [evE] at h
  refine tTo (pt_not (pT ea)) (ha σ S F ρ G H τ _ R ro (h.bind (RA := RV W B) fun x S1 F1 ρ1 H1 v st1 R1 r1 h1 => ?_))
  cases r1 with
  | bl t =>
    obtain ⟨k, e, q⟩ := h1.here R1 (.bl _)
    cases e
    exact ⟨t, rfl, q⟩
  | _ => exact h1.elim
theorem se_one {op : PySem.BoolOp} (ha : SE W B E ξ Wx X ea a) : SE W B E ξ Wx X (.BoolOp op [ea] pos) a := by
  intro σ S F ρ G H τ Q R ro h
  exact eTo (pe_one (pE ea)) (ha σ S F ρ G H τ _ R ro h)
theorem se_and {rest : List Expr} (ha : SE W B E ξ Wx X ea a) (hb : SE W B E ξ Wx X (.BoolOp .And (eb :: rest) pos) b) : SE W B E ξ Wx X (.BoolOp .And (ea :: eb :: rest) pos) (.and a b) := by
  intro σ S F ρ G H τ Q R ro h
  rw [evE] at h
  refine eTo (pe_and (pE ea) (pE _)) (ha σ S F ρ G H τ _ R ro (h.bind (RA := RV W B) fun x S1 F1 ρ1 H1 v st1 R1 r1 h1 => ?_))
  cases r1 with
  | bl t =>
    refine ⟨t, rfl, ?_⟩
    cases t with
    | true => rw [if_pos rfl]; exact hb σ S1 F1 ρ1 G H1 τ _ R1 (ro.mono st1) h1
    | false => rw [if_neg Bool.false_ne_true]; exact h1.here R1 (.bl _)
  | _ => exact h1.elim
theorem se_or {rest : List Expr} (ha : SE W B E ξ Wx X ea a) (hb : SE W B E ξ Wx X (.BoolOp .Or (eb :: rest) pos) b) : SE W B E ξ Wx X (.BoolOp .Or (ea :: eb :: rest) pos) (.or a b) := by
  intro σ S F ρ G H τ Q R ro h
  rw [evE] at h
  refine eTo (pe_or (pE ea) (pE _)) (ha σ S F ρ G H τ _ R ro (h.bind (RA := RV W B) fun x S1 F1 ρ1 H1 v st1 R1 r1 h1 => ?_))
  cases r1 with
  | bl t =>
    refine ⟨t, rfl, ?_⟩
    cases t with
    | true => rw [if_pos rfl]; exact h1.here R1 (.bl _)
    | false => rw [if_neg Bool.false_ne_true]; exact hb σ S1 F1 ρ1 G H1 τ _ R1 (ro.mono st1) h1
  | _ => exact h1.elim
/-- tests whatever stands around them -/
def SW (W : Wd) (B : Hp) (E : Env) (ξ : Option (Nat × Addr)) (Wx : WX) (X : Cx) (e : Expr) (ie : IE) : Prop := ∀ (σ : Sl) (S : Sto) (F : Hp) (ρ : Nat → Addr) (G H : Hp) (τ : L2.St) (Q : Bool → Hp → Prop), Rel W B F ρ S G H → RX W B F ρ S.length ξ σ τ →
  Po W B (RV W B) (XWof W Wx τ) (evE E σ ie S) F ρ S G (fun v H1 => ∃ b, v = .bl b ∧ Q b H1) → wW X e τ H Q
theorem SW.st (h : SW W B E ξ Wx X ea a) : ST W B E ξ Wx X ea a := fun σ S F ρ G H τ Q R ro p => tTo (pW ea).pt (h σ S F ρ G H τ Q R ro p)
theorem sw_and1 (ha : ST W B E ξ Wx X ea a) : SW W B E ξ Wx X (.BoolOp .And [ea] pos) a := by
  intro σ S F ρ G H τ Q R ro h
  exact wTo (pw_and1 (pT ea)) (ha σ S F ρ G H τ _ R ro h)
theorem sw_or1 (ha : ST W B E ξ Wx X ea a) : SW W B E ξ Wx X (.BoolOp .Or [ea] pos) a := by
  intro σ S F ρ G H τ Q R ro h
  exact wTo (pw_or1 (pT ea)) (ha σ S F ρ G H τ _ R ro h)
theorem sw_and {rest : List Expr} (ha : ST W B E ξ Wx X ea a) (hb : SW W B E ξ Wx X (.BoolOp .And (eb :: rest) pos) b) : SW W B E ξ Wx X (.BoolOp .And (ea :: eb :: rest) pos) (.and a b) := by
  intro σ S F ρ G H τ Q R ro h
  rw [evE] at h
  refine wTo (pw_and (pT ea) (pW _)) (ha σ S F ρ G H τ _ R ro (h.bind (RA := RV W B) fun x S1 F1 ρ1 H1 v st1 R1 r1 h1 => ?_))
  cases r1 with
  | bl t =>
    refine ⟨t, rfl, ?_⟩
    cases t with
    | true => rw [if_pos rfl]; exact hb σ S1 F1 ρ1 G H1 τ _ R1 (ro.mono st1) h1
    | false =>
      rw [if_neg Bool.false_ne_true]
      obtain ⟨k, e, q⟩ := h1.here R1 (.bl _)
      cases e
      exact q
  | _ => exact h1.elim
theorem sw_or {rest : List Expr} (ha : ST W B E ξ Wx X ea a) (hb : SW W B E ξ Wx X (.BoolOp .Or (eb :: rest) pos) b) : SW W B E ξ Wx X (.BoolOp .Or (ea :: eb :: rest) pos) (.or a b) := by
  intro σ S F ρ G H τ Q R ro h
  rw [evE] at h
  refine wTo (pw_or (pT ea) (pW _)) (ha σ S F ρ G H τ _ R ro (h.bind (RA := RV W B) fun x S1 F1 ρ1 H1 v st1 R1 r1 h1 => ?_))
  cases r1 with
  | bl t =>
    refine ⟨t, rfl, ?_⟩
    cases t with
    | true =>
      rw [if_pos rfl]
      obtain ⟨k, e, q⟩ := h1.here R1 (.bl _)
      cases e
      exact q
    | false => rw [if_neg Bool.false_ne_true]; exact hb σ S1 F1 ρ1 G H1 τ _ R1 (ro.mono st1) h1
  | _ => exact h1.elim
theorem se_ife (hc : ST W B E ξ Wx X ec c) (ha : SE W B E ξ Wx X ea a) (hb : SE W B E ξ Wx X eb b) : SE W B E ξ Wx X (.IfExp ec ea eb pos) (.ife c a b) := by
  intro σ S F ρ G H τ Q R ro h
  rw [evE] at h
  refine eTo (pe_ifExp (pT ec) (pE ea) (pE eb)) (hc σ S F ρ G H τ _ R ro (h.bind (RA := RV W B) fun x S1 F1 ρ1 H1 v st1 R1 r1 h1 => ?_))
  cases r1 with
  | bl t =>
    refine ⟨t, rfl, ?_⟩
    cases t with
    | true => rw [if_pos rfl]; exact ha σ S1 F1 ρ1 G H1 τ _ R1 (ro.mono st1) h1
    | false => rw [if_neg Bool.false_ne_true]; exact hb σ S1 F1 ρ1 G H1 τ _ R1 (ro.mono st1) h1
  | _ => exact h1.elim
/-! ### lists of expressions, displays -/
theorem sl_nil : SL W B E ξ Wx X [] .nil := by
  intro σ S F ρ G H τ Q R ro h
  rw [evL] at h
  exact aTo pa_nil (h.here R .nil)
theorem sl_cons {es : List Expr} (hp : plainX ea = true) (ha : SE W B E ξ Wx X ea a) (hb : SL W B E ξ Wx X es b) : SL W B E ξ Wx X (ea :: es) (.cons a b) := by
  intro σ S F ρ G H τ Q R ro h
  rw [evL] at h
  refine aTo (pa_cons (pE ea) (pA es) (plain_star hp es X.env)) (ha σ S F ρ G H τ _ R ro (h.bind (RA := RV W B) fun x S1 F1 ρ1 H1 v st1 R1 r1 h1 => ?_))
  refine hb σ S1 F1 ρ1 G H1 τ _ R1 (ro.mono st1) (h1.bind (RA := RVs W B) fun y S2 F2 ρ2 H2 w st2 R2 r2 h2 => ?_)
  exact h2.here R2 (.cons (st2.rv r1) r2)
theorem se_tup {es : List Expr} {k : Nat} (ha : SL W B E ξ Wx X es a) : SE W B E ξ Wx X (.Tuple es k pos) (.tup a) := by
  intro σ S F ρ G H τ Q R ro h
  rw [evE] at h
  refine eTo (pe_tup (pA es)) (ha σ S F ρ G H τ _ R ro (h.bind (RA := RVs W B) fun us S1 F1 ρ1 H1 vs st1 R1 r1 h1 => ?_))
  split at h1
  · rename_i hl
    refine ⟨by rw [← r1.length]; exact le_line (Nat.le_of_lt hl), fun p hp => ?_⟩
    obtain ⟨R', st⟩ := R1.froz (o := .tup vs) hp
    exact h1 _ ρ1 _ _ st R' (.tup upd_same (Nat.le_of_lt hl) (st.rvs r1))
  · exact h1.elim
theorem sn_lst {es : List Expr} (ha : SL W B E ξ Wx X es a) : SN W B E ξ Wx X (.List es pos) (.lst a) := by
  intro σ S F ρ G H τ Q R ro h
  rw [evN] at h
  refine eTo (pe_lst (pA es)) (ha σ S F ρ G H τ _ R ro (h.bind (RA := RVs W B) fun us S1 F1 ρ1 H1 vs st1 R1 r1 h1 => ?_))
  split at h1
  · rename_i hl
    exact ⟨by rw [← r1.length]; exact le_line (Nat.le_of_lt hl), fun p hp => h1.here R1 hp (Nat.le_of_lt hl) r1⟩
  · exact h1.elim
/-- a new list, frozen -/
theorem se_newF (ha : SN W B E ξ Wx X ea a) : SE W B E ξ Wx X ea (.newF a) := by
  intro σ S F ρ G H τ Q R ro h
  rw [evE] at h
  refine ha σ S F ρ G H τ _ R ro ?_
  cases e : evN E σ a S with
  | ok us S1 =>
    rw [e] at h
    intro F' ρ' H' p vs st R' hG hl r
    obtain ⟨R2, st2⟩ := R'.freeze hG R.bor
    exact h _ ρ' H' _ (st.trans st2) R2 (.fl upd_same hl (st2.rvs r))
  | ex k S1 => rw [e] at h; exact h
  | bad => rw [e] at h; exact h
/-- .. as a cell -/
theorem se_newM (ha : SN W B E ξ Wx X ea a) : SE W B E ξ Wx X ea (.newM a) := by
  intro σ S F ρ G H τ Q R ro h
  rw [evE] at h
  refine ha σ S F ρ G H τ _ R ro ?_
  cases e : evN E σ a S with
  | ok us S1 =>
    rw [e] at h
    intro F' ρ' H' p vs st R' hG hl r
    obtain ⟨R2, st2⟩ := R'.celled hG R.bor hl r
    refine h _ _ H' _ (st.trans st2) R2 ?_
    have := RV.ref (W := W) (B := B) (F := F') (ρ := fun i => if i = S1.length then p else ρ' i) (n := (S1 ++ [O.lst us]).length) (m := S1.length) (by rw [List.length_append]; exact Nat.lt_succ_self _)
    rwa [if_pos rfl] at this
  | ex k S1 => rw [e] at h; exact h
  | bad => rw [e] at h; exact h
end
end TW
/-! TWM -/
set_option Elab.async false
set_option linter.all false
namespace TW
/-! ### sorting -/
section
variable {α : Type} {le : α → α → Bool}
theorem merge_perm : ∀ (k : Nat) (xs ys : List α), (merge le k xs ys).Perm (xs ++ ys)
  | 0, xs, ys => .refl _
  | k + 1, [], ys => by rw [merge]; exact .refl _
  | k + 1, x :: xs, [] => by rw [merge, List.append_nil]; simp
  | k + 1, x :: xs, y :: ys => by
    rw [merge]
    split
    · exact .cons _ (merge_perm k xs (y :: ys))
    · refine (List.Perm.cons _ (merge_perm k (x :: xs) ys)).trans ?_
      exact (List.perm_middle (a := y) (l₁ := x :: xs) (l₂ := ys)).symm
theorem halve_perm : ∀ xs : List α, ((halve xs).1 ++ (halve xs).2).Perm xs
  | [] => by simp [halve]
  | [a] => by simp [halve]
  | a :: b :: r => by
    rw [halve]
    dsimp only
    refine List.Perm.cons _ ?_
    refine (List.perm_middle (a := b) (l₁ := (halve r).1) (l₂ := (halve r).2)).trans ?_
    exact .cons _ (halve_perm r)
theorem halve_len : ∀ xs : List α, (halve xs).1.length = (xs.length + 1) / 2 ∧ (halve xs).2.length = xs.length / 2
  | [] => by simp [halve]
  | [a] => by simp [halve]
  | a :: b :: r => by
    obtain ⟨h1, h2⟩ := halve_len r
    rw [halve]
    dsimp only
    simp only [List.length_cons, h1, h2]
    omega
theorem msort_perm : ∀ (k : Nat) (xs : List α), (msort le k xs).Perm xs
  | 0, xs => .refl _
  | k + 1, [] => by rw [msort]
  | k + 1, [a] => by rw [msort]
  | k + 1, a :: b :: r => by
    show (merge le (a :: b :: r).length (msort le k (halve (a :: b :: r)).1) (msort le k (halve (a :: b :: r)).2)).Perm _
    refine (merge_perm _ _ _).trans ?_
    refine ((msort_perm k _).append (msort_perm k _)).trans ?_
    exact halve_perm _
theorem merge_sorted (ht : ∀ a b, le a b = true ∨ le b a = true) (htr : ∀ a b c, le a b = true → le b c = true → le a c = true) : ∀ (k : Nat) (xs ys : List α), xs.length + ys.length ≤ k → xs.Pairwise (fun a b => le a b = true) → ys.Pairwise (fun a b => le a b = true) → (merge le k xs ys).Pairwise (fun a b => le a b = true)
  | 0, xs, ys, h, h1, h2 => by
    have e1 : xs = [] := List.eq_nil_of_length_eq_zero (by omega)
    have e2 : ys = [] := List.eq_nil_of_length_eq_zero (by omega)
    subst e1 e2
    simp [merge]
  | k + 1, [], ys, h, h1, h2 => by rw [merge]; exact h2
  | k + 1, x :: xs, [], h, h1, h2 => by rw [merge]; exact h1; simp
  | k + 1, x :: xs, y :: ys, h, h1, h2 => by
    rw [merge]
    simp only [List.length_cons] at h
    split
    · rename_i c
      refine List.pairwise_cons.mpr ⟨fun z hz => ?_, merge_sorted ht htr k xs (y :: ys) (by simp only [List.length_cons]; omega) (List.pairwise_cons.mp h1).2 h2⟩
      rcases List.mem_append.mp ((merge_perm k xs (y :: ys)).mem_iff.mp hz) with m | m
      · exact (List.pairwise_cons.mp h1).1 z m
      · rcases List.mem_cons.mp m with rfl | m
        · exact c
        · exact htr _ _ _ c ((List.pairwise_cons.mp h2).1 z m)
    · rename_i c
      have c' : le y x = true := by
        rcases ht x y with d | d
        · exact absurd d c
        · exact d
      refine List.pairwise_cons.mpr ⟨fun z hz => ?_, merge_sorted ht htr k (x :: xs) ys (by simp only [List.length_cons]; omega) h1 (List.pairwise_cons.mp h2).2⟩
      rcases List.mem_append.mp ((merge_perm k (x :: xs) ys).mem_iff.mp hz) with m | m
      · rcases List.mem_cons.mp m with rfl | m
        · exact c'
        · exact htr _ _ _ c' ((List.pairwise_cons.mp h1).1 z m)
      · exact (List.pairwise_cons.mp h2).1 z m
theorem msort_sorted (ht : ∀ a b, le a b = true ∨ le b a = true) (htr : ∀ a b c, le a b = true → le b c = true → le a c = true) : ∀ (k : Nat) (xs : List α), xs.length ≤ 2 ^ k → (msort le k xs).Pairwise (fun a b => le a b = true)
  | 0, xs, h => by
    rw [msort]
    match xs, h with
    | [], _ => exact .nil
    | [a], _ => simp
  | k + 1, [], h => by rw [msort]; exact .nil
  | k + 1, [a], h => by rw [msort]; simp
  | k + 1, a :: b :: r, h => by
    obtain ⟨l1, l2⟩ := halve_len (a :: b :: r)
    have e : (2 : Nat) ^ (k + 1) = 2 * 2 ^ k := by rw [Nat.pow_succ]; omega
    show (merge le (a :: b :: r).length (msort le k (halve (a :: b :: r)).1) (msort le k (halve (a :: b :: r)).2)).Pairwise _
    refine merge_sorted ht htr _ _ _ ?_ (msort_sorted ht htr k _ (by rw [l1]; omega)) (msort_sorted ht htr k _ (by rw [l2]; omega))
    have p1 := (msort_perm (le := le) k (halve (a :: b :: r)).1).length_eq
    have p2 := (msort_perm (le := le) k (halve (a :: b :: r)).2).length_eq
    rw [p1, p2, l1, l2]
    omega
/-- two sorted arrangements of one list are one -/
theorem sorted_unique (ha : ∀ a b, le a b = true → le b a = true → a = b) : ∀ (xs ys : List α), xs.Perm ys → xs.Pairwise (fun a b => le a b = true) → ys.Pairwise (fun a b => le a b = true) → xs = ys
  | [], ys, p, _, _ => by
    have := p.length_eq
    exact (List.eq_nil_of_length_eq_zero (by simpa using this.symm)).symm
  | x :: xs, [], p, _, _ => by have := p.length_eq; simp at this
  | x :: xs, y :: ys, p, h1, h2 => by
    have hx := List.pairwise_cons.mp h1
    have hy := List.pairwise_cons.mp h2
    have e : x = y := by
      have m1 : x ∈ y :: ys := p.mem_iff.mp List.mem_cons_self
      have m2 : y ∈ x :: xs := p.mem_iff.mpr List.mem_cons_self
      rcases List.mem_cons.mp m1 with e | m1
      · exact e
      · rcases List.mem_cons.mp m2 with e | m2
        · exact e.symm
        · exact ha _ _ (hx.1 _ m2) (hy.1 _ m1)
    subst e
    rw [sorted_unique ha xs ys (List.Perm.cons_inv p) hx.2 hy.2]
end
theorem leI_tot (a b : Int) : leI a b = true ∨ leI b a = true := by
  unfold leI
  rcases Int.le_total a b with h | h
  · exact .inl (decide_eq_true h)
  · exact .inr (decide_eq_true h)
theorem leI_trans (a b c : Int) (h1 : leI a b = true) (h2 : leI b c = true) : leI a c = true := by
  unfold leI at *
  have := of_decide_eq_true h1
  have := of_decide_eq_true h2
  exact decide_eq_true (by omega)
theorem leI_anti (a b : Int) (h1 : leI a b = true) (h2 : leI b a = true) : a = b := by
  unfold leI at *
  have := of_decide_eq_true h1
  have := of_decide_eq_true h2
  omega
theorem leP_iff (p q : Int × Int) : leP p q = true ↔ p.1 < q.1 ∨ (p.1 = q.1 ∧ p.2 ≤ q.2) := by
  unfold leP
  split
  · rename_i h; rw [decide_eq_true_eq]; omega
  · rename_i h; rw [decide_eq_true_eq]; omega
theorem leP_tot (a b : Int × Int) : leP a b = true ∨ leP b a = true := by rw [leP_iff, leP_iff]; omega
theorem leP_trans (a b c : Int × Int) (h1 : leP a b = true) (h2 : leP b c = true) : leP a c = true := by rw [leP_iff] at *; omega
theorem leP_anti (a b : Int × Int) (h1 : leP a b = true) (h2 : leP b a = true) : a = b := by
  rw [leP_iff] at h1 h2
  exact Prod.ext (by omega) (by omega)
theorem srtI_perm (ns : List Int) : (srtI ns).Perm ns := msort_perm _ _
theorem srtP_perm (ns : List (Int × Int)) : (srtP ns).Perm ns := msort_perm _ _
theorem rounds_top {n : Nat} (h : n ≤ top) : n ≤ 2 ^ rounds := Nat.le_trans h (by decide)
theorem srtI_sorted {ns : List Int} (h : ns.length ≤ top) : (srtI ns).Pairwise (fun a b => leI a b = true) := msort_sorted leI_tot leI_trans _ _ (rounds_top h)
theorem srtP_sorted {ns : List (Int × Int)} (h : ns.length ≤ top) : (srtP ns).Pairwise (fun a b => leP a b = true) := msort_sorted leP_tot leP_trans _ _ (rounds_top h)
theorem srtI_unique {ns ns' : List Int} (h : ns.length ≤ top) (p : ns'.Perm ns) (s : ns'.Pairwise (fun a b => leI a b = true)) : ns' = srtI ns :=
  sorted_unique leI_anti _ _ (p.trans (srtI_perm ns).symm) s (srtI_sorted h)
theorem srtP_unique {ns ns' : List (Int × Int)} (h : ns.length ≤ top) (p : ns'.Perm ns) (s : ns'.Pairwise (fun a b => leP a b = true)) : ns' = srtP ns :=
  sorted_unique leP_anti _ _ (p.trans (srtP_perm ns).symm) s (srtP_sorted h)
end TW
/-! TWG -/
set_option Elab.async false
set_option linter.all false
set_option maxRecDepth 100000
namespace TW
open PySem PySem.Spec PyProof.Rows L2
/-! ### sequences that are read -/
section
variable {W : Wd} {B F G H : Hp} {ρ : Nat → Addr} {S : Sto} {u : U} {v : V} {us : List U}
theorem Rel.bH (R : Rel W B F ρ S G H) : Sub B H := Sub.trans R.bor fun a o e => (R.fr a o e).1
theorem rdL_ok (R : Rel W B F ρ S G H) (h : rdL S u = some us) (r : RV W B F ρ S.length u v) : ∃ a vs, v = .ref a ∧ SqL W.K H a vs ∧ us.length ≤ top ∧ RVs W B F ρ S.length us vs := by
  cases r with
  | fl h1 h2 h3 => cases h; exact ⟨_, _, rfl, SqL.of (R.sub _ _ h1), h2, h3⟩
  | sc h1 h2 h3 => cases h; exact ⟨_, _, rfl, R.bH.l h1, h2, h3⟩
  | bo h1 h2 h3 => cases h; exact ⟨_, _, rfl, SqL.of (R.bH _ _ h1), h2, h3⟩
  | @ref m hm =>
    simp only [rdL] at h
    split at h
    · rename_i ws e
      cases h
      obtain ⟨vs, h1, h2, h3⟩ := R.cell m _ e
      exact ⟨_, _, rfl, SqL.of h1, h2, h3⟩
    · cases h
  | _ => cases h
theorem rdX_ok (R : Rel W B F ρ S G H) (h : rdX S u = some us) (r : RV W B F ρ S.length u v) : ∃ a vs, v = .ref a ∧ H a = some (.lst vs) ∧ us.length ≤ top ∧ RVs W B F ρ S.length us vs := by
  cases r with
  | fl h1 h2 h3 => cases h; exact ⟨_, _, rfl, R.sub _ _ h1, h2, h3⟩
  | bo h1 h2 h3 => cases h; exact ⟨_, _, rfl, R.bH _ _ h1, h2, h3⟩
  | @ref m hm =>
    simp only [rdX] at h
    split at h
    · rename_i ws e
      cases h
      obtain ⟨vs, h1, h2, h3⟩ := R.cell m _ e
      exact ⟨_, _, rfl, h1, h2, h3⟩
    · cases h
  | _ => cases h
theorem rdQ_ok (R : Rel W B F ρ S G H) (h : rdQ S u = some us) (r : RV W B F ρ S.length u v) : ∃ a vs, v = .ref a ∧ (SqL W.K H a vs ∨ SqT W.K H a vs) ∧ us.length ≤ top ∧ RVs W B F ρ S.length us vs := by
  cases u with
  | tup ws =>
    cases r with
    | tup h1 h2 h3 => cases h; exact ⟨_, _, rfl, .inr (SqT.of (R.sub _ _ h1)), h2, h3⟩
  | _ =>
    obtain ⟨a, vs, h1, h2, h3⟩ := rdL_ok R (by rw [← h]; rfl) r
    exact ⟨a, vs, h1, .inl h2, h3⟩
theorem asInt_ok : ∀ {us : List U} {ns : List Int} {vs : List V}, mapO asInt us = some ns → RVs W B F ρ S.length us vs → vs = ns.map V.int
  | [], _, _, h, r => by cases h; cases r; rfl
  | u :: us, ns, vs, h, r => by
    obtain ⟨b, cs, h1, h2, rfl⟩ := mapO_cons h
    cases r with
    | cons r1 r2 =>
      rw [asInt_ok h2 r2]
      cases r1 with
      | int i => cases h1; rfl
      | _ => cases h1
theorem asBl_ok : ∀ {us : List U} {ns : List Bool} {vs : List V}, mapO asBl us = some ns → RVs W B F ρ S.length us vs → vs = ns.map V.bl
  | [], _, _, h, r => by cases h; cases r; rfl
  | u :: us, ns, vs, h, r => by
    obtain ⟨b, cs, h1, h2, rfl⟩ := mapO_cons h
    cases r with
    | cons r1 r2 =>
      rw [asBl_ok h2 r2]
      cases r1 with
      | bl i => cases h1; rfl
      | _ => cases h1
theorem RVs.ints : ∀ ns : List Int, RVs W B F ρ S.length (ns.map U.int) (ns.map V.int)
  | [] => .nil
  | n :: ns => .cons (.int n) (RVs.ints ns)
/-- a pair in the heap -/
def IsP (F : Hp) (v : V) (p : Int × Int) : Prop := ∃ t, v = V.ref t ∧ F t = some (.tup [.int p.1, .int p.2])
theorem asPair_ok : ∀ {us : List U} {ps : List (Int × Int)} {vs : List V}, mapO asPair us = some ps → RVs W B F ρ S.length us vs → Paired (IsP F) vs ps
  | [], _, _, h, r => by cases h; cases r; exact .nil
  | u :: us, ns, vs, h, r => by
    obtain ⟨b, cs, h1, h2, rfl⟩ := mapO_cons h
    cases r with
    | cons r1 r2 =>
      refine .cons ?_ (asPair_ok h2 r2)
      unfold asPair at h1
      split at h1
      · cases h1
        cases r1 with
        | tup hf hl rs =>
          cases rs with
          | cons q1 q2 => cases q2 with
            | cons q3 q4 =>
              cases q4
              cases q1
              cases q3
              exact ⟨_, rfl, hf⟩
      · cases h1
theorem pairs_rv : ∀ {ps : List (Int × Int)} {vs : List V}, Paired (IsP F) vs ps → RVs W B F ρ S.length (ps.map pairU) vs
  | _, _, .nil => .nil
  | _, _, .cons h t => by
    obtain ⟨a, rfl, e⟩ := h
    exact .cons (.tup e (by show 2 ≤ top; decide) (.cons (.int _) (.cons (.int _) .nil))) (pairs_rv t)
end
section
variable {C : CC} {W : Wd} {B : Hp} {E : Env} {ξ : Option (Nat × Addr)} {Wx : WX} {X : Cx} {ea eb ec ed : Expr} {a b c d : IE} {pos p1 p2 p3 : Pos}
/-! ### subscripts -/
theorem se_ix (g : GX C W E ξ Wx X) (hp : plainX eb = true) (ha : SE W B E ξ Wx X ea a) (hb : SE W B E ξ Wx X eb b) : SE W B E ξ Wx X (.Subscript ea eb pos) (.ix a b) := by
  intro σ S F ρ G H τ Q R ro h
  rw [evE] at h
  refine eTo (pe_ix ix_seq (pE ea) (pE eb) (plain_ix hp)) ?_
  refine ha σ S F ρ G H τ _ R ro (h.bind (RA := RV W B) fun x S1 F1 ρ1 H1 v st1 R1 r1 h1 => ?_)
  refine hb σ S1 F1 ρ1 G H1 τ _ R1 (ro.mono st1) (h1.bind (RA := RV W B) fun y S2 F2 ρ2 H2 w st2 R2 r2 h2 => ?_)
  have r1' := st2.rv r1
  cases e : rdQ S2 x with
  | none => rw [e] at h2; exact h2.elim
  | some us =>
    rw [e] at h2
    cases r2 with
    | int i =>
      dsimp only at h2
      cases ek : ixU us.length i with
      | none => rw [ek] at h2; exact h2.elim
      | some k =>
        rw [ek] at h2
        obtain ⟨z, ez, h3⟩ := h2.opt
        obtain ⟨p, vs, rfl, hq, hl, rs⟩ := rdQ_ok R2 e r1'
        obtain ⟨vz, hz, rz⟩ := rs.get ez
        have hat : atI vs i = some vz := by
          unfold atI
          rw [show ixN vs.length i = some k from by rw [← rs.length]; exact ek]
          exact hz
        rw [← g.K] at hq
        rcases hq with hq | hq
        · exact .inl ⟨p, vs, i, vz, rfl, rfl, hq, hat, h3.here R2 rz⟩
        · exact .inr (.inl ⟨p, vs, i, vz, rfl, rfl, hq, hat, h3.here R2 rz⟩)
    | _ => exact h2.elim
/-! ### parts of a slice -/
def EqO : Hp → (Nat → Addr) → Nat → Option Int → Option Int → Prop := fun _ _ _ x y => x = y
def SO (W : Wd) (B : Hp) (E : Env) (ξ : Option (Nat × Addr)) (Wx : WX) (X : Cx) (o : Option Expr) (ie : IE) : Prop := ∃ tl : TO, PO X o tl ∧ ∀ (σ : Sl) (S : Sto) (F : Hp) (ρ : Nat → Addr) (G H : Hp) (τ : L2.St) (Q : Option Int → Hp → Prop), Rel W B F ρ S G H → RX W B F ρ S.length ξ σ τ →
  Po W B EqO (XWof W Wx τ) (evO E σ ie S) F ρ S G Q → tl τ H Q
theorem so_none : SO W B E ξ Wx X none .none := by
  refine ⟨_, po_none, fun σ S F ρ G H τ Q R ro h => ?_⟩
  rw [evO] at h
  exact h.here R rfl
theorem so_opt (ha : SE W B E ξ Wx X ea a) : SO W B E ξ Wx X (some ea) (.opt a) := by
  refine ⟨_, po_some (pE ea), fun σ S F ρ G H τ Q R ro h => ?_⟩
  rw [evO] at h
  refine ha σ S F ρ G H τ _ R ro (h.bind (RA := RV W B) fun x S1 F1 ρ1 H1 v st1 R1 r1 h1 => ?_)
  cases r1 with
  | int i => exact ⟨i, rfl, h1.here R1 rfl⟩
  | _ => exact h1.elim
/-- what is made of a list that is read: a new list -/
theorem PoN.made {XW : Nat → Hp → Prop} {F G H : Hp} {ρ : Nat → Addr} {S : Sto} {us : List U} {vs : List V} {Q : VK} (h : PoN W B XW (.ok us S) F ρ S G Q) (R : Rel W B F ρ S G H) (hl : us.length ≤ top) (r : RVs W B F ρ S.length us vs) : ∀ p, H p = none → Q (.ref p) (upd H p (.lst vs)) :=
  fun p hp => h.here R hp hl r
theorem sn_slice {lo hi : Option Expr} (g : GX C W E ξ Wx X) (ha : SE W B E ξ Wx X ea a) (hl : SO W B E ξ Wx X lo b) (hh : SO W B E ξ Wx X hi c) : SN W B E ξ Wx X (.Subscript ea (.Slice lo hi none p2) pos) (.slice a b c) := by
  intro σ S F ρ G H τ Q R ro h
  obtain ⟨tl, pl, ql⟩ := hl
  obtain ⟨th, ph, qh⟩ := hh
  rw [evN] at h
  refine eTo (pe_slice sl_list (pE ea) pl ph) ?_
  refine ha σ S F ρ G H τ _ R ro (h.bind (RA := RV W B) fun x S1 F1 ρ1 H1 v st1 R1 r1 h1 => ?_)
  refine ql σ S1 F1 ρ1 G H1 τ _ R1 (ro.mono st1) (h1.bind (RA := EqO) fun l S2 F2 ρ2 H2 l' st2 R2 r2 h2 => ?_)
  refine qh σ S2 F2 ρ2 G H2 τ _ R2 ((ro.mono st1).mono st2) (h2.bind (RA := EqO) fun m S3 F3 ρ3 H3 m' st3 R3 r3 h3 => ?_)
  cases r2
  cases r3
  have r1' := st3.rv (st2.rv r1)
  cases e : rdL S3 x with
  | none => rw [e] at h3; exact h3.elim
  | some us =>
    rw [e] at h3
    obtain ⟨p, vs, rfl, hq, hl, rs⟩ := rdL_ok R3 e r1'
    rw [← g.K] at hq
    refine ⟨p, vs, rfl, hq, ?_⟩
    refine h3.made R3 ?_ ?_
    · unfold cutU
      rw [List.length_take, List.length_drop]
      omega
    · unfold cutU cutV
      have e1 : ∀ d o, sIx us.length d o = HT.sIx vs.length d o := fun d o => by rw [← rs.length]; cases o <;> rfl
      rw [e1, e1, rs.length]
      exact (rs.drop _).take _
theorem sn_rev {k : Nat} (g : GX C W E ξ Wx X) (ha : SE W B E ξ Wx X ea a) : SN W B E ξ Wx X (.Subscript ea (.Slice none none (some (.UnaryOp .USub (.Constant (.int 1) k p1) p2)) p3) pos) (.rev a) := by
  intro σ S F ρ G H τ Q R ro h
  rw [evN] at h
  refine eTo (pe_revL (pE ea)) ?_
  refine ha σ S F ρ G H τ _ R ro (h.bind (RA := RV W B) fun x S1 F1 ρ1 H1 v st1 R1 r1 h1 => ?_)
  cases e : rdL S1 x with
  | none => rw [e] at h1; exact h1.elim
  | some us =>
    rw [e] at h1
    obtain ⟨p, vs, rfl, hq, hl, rs⟩ := rdL_ok R1 e r1
    rw [← g.K] at hq
    exact ⟨p, vs, rfl, hq, h1.made R1 (by rw [List.length_reverse]; exact hl) rs.reverse⟩
theorem sn_cat (ha : SE W B E ξ Wx X ea a) (hb : SE W B E ξ Wx X eb b) : SN W B E ξ Wx X (.BinOp ea .Add eb pos) (.cat a b) := by
  intro σ S F ρ G H τ Q R ro h
  rw [evN] at h
  refine eTo (pe_op op_cat (pE ea) (pE eb)) ?_
  refine ha σ S F ρ G H τ _ R ro (h.bind (RA := RV W B) fun x S1 F1 ρ1 H1 v st1 R1 r1 h1 => ?_)
  refine hb σ S1 F1 ρ1 G H1 τ _ R1 (ro.mono st1) (h1.bind (RA := RV W B) fun y S2 F2 ρ2 H2 w st2 R2 r2 h2 => ?_)
  have r1' := st2.rv r1
  split at h2
  · rename_i us ws e1 e2
    split at h2
    · rename_i hl
      obtain ⟨p, vs, rfl, hq, hl1, rs⟩ := rdX_ok R2 e1 r1'
      obtain ⟨q, xs, rfl, hq', hl2, rs'⟩ := rdX_ok R2 e2 r2
      refine ⟨p, q, vs, xs, rfl, rfl, hq, hq', ?_, h2.made R2 (by rw [List.length_append]; exact Nat.le_of_lt hl) (rs.append rs')⟩
      rw [← rs.length, ← rs'.length]
      exact le_line (Nat.le_of_lt hl)
    · exact h2.elim
  · exact h2.elim
theorem sn_rep (ha : SE W B E ξ Wx X ea a) (hb : SE W B E ξ Wx X eb b) : SN W B E ξ Wx X (.BinOp ea .Mult eb pos) (.rep a b) := by
  intro σ S F ρ G H τ Q R ro h
  rw [evN] at h
  refine eTo (pe_op op_rep (pE ea) (pE eb)) ?_
  refine ha σ S F ρ G H τ _ R ro (h.bind (RA := RV W B) fun x S1 F1 ρ1 H1 v st1 R1 r1 h1 => ?_)
  refine hb σ S1 F1 ρ1 G H1 τ _ R1 (ro.mono st1) (h1.bind (RA := RV W B) fun y S2 F2 ρ2 H2 w st2 R2 r2 h2 => ?_)
  have r1' := st2.rv r1
  cases e1 : rdX S2 x with
  | none => rw [e1] at h2; exact h2.elim
  | some us =>
    rw [e1] at h2
    cases r2 with
    | int k =>
      dsimp only at h2
      split at h2
      · rename_i hk
        obtain ⟨p, vs, rfl, hq, hl1, rs⟩ := rdX_ok R2 e1 r1'
        refine ⟨p, k, vs, rfl, rfl, hq, by omega, by omega, ?_, h2.made R2 ?_ rs.flat⟩
        · rw [← rs.length]
          exact le_line (Nat.le_of_lt hk.2.2)
        · rw [List.length_flatten, List.map_replicate, List.sum_replicate_nat]
          rw [Nat.mul_comm]
          exact Nat.le_of_lt hk.2.2
      · exact h2.elim
    | _ => exact h2.elim
/-! ### names of built-ins -/
def bnB (C : CC) (x : Str) : Bool := glB C.sc x && C.T.bn.contains x
theorem gl_ok (g : GX C W E ξ Wx X) {x : Str} (h : glB C.sc x = true) : Gl X x := by
  unfold glB at h
  have := of_decide_eq_true h
  show X.env.scope.names.lookup x = some .globalImplicit
  rw [g.sc]
  exact this
theorem bn_ok (g : GX C W E ξ Wx X) {x : Str} (h : bnB C x = true) : Gl X x ∧ X.mg x = none := by
  unfold bnB at h
  rw [Bool.and_eq_true] at h
  exact ⟨gl_ok g h.1, g.bn x h.2⟩
theorem sn_listOf (g : GX C W E ξ Wx X) (hb : bnB C "list" = true) (hp : plainX ea = true) (ha : SE W B E ξ Wx X ea a) : SN W B E ξ Wx X (.Call (.Name "list" p1) [ea] [] pos) (.listOf a) := by
  intro σ S F ρ G H τ Q R ro h
  obtain ⟨hg, hm⟩ := bn_ok g hb
  rw [evN] at h
  refine eTo (pe_callTy call_list_of hg hm boot_list (pa_cons (pE ea) pa_nil (plain_star hp [] X.env)) (he := plain_star hp [] X.env)) ?_
  refine ha σ S F ρ G H τ _ R ro (h.bind (RA := RV W B) fun x S1 F1 ρ1 H1 v st1 R1 r1 h1 => ?_)
  obtain ⟨us, e, h2⟩ := h1.opt
  obtain ⟨p, vs, rfl, hq, hl, rs⟩ := rdQ_ok R1 e r1
  rw [← g.K] at hq
  exact ⟨p, vs, rfl, hq, h2.made R1 hl rs⟩
def kOf (H : Hp) : V → Int × Int
  | .ref t => match H t with
    | some (.tup [.int i, .int j]) => (i, j)
    | _ => (0, 0)
  | _ => (0, 0)
theorem kOf_isP {H : Hp} {v : V} {p : Int × Int} (h : IsP H v p) : kOf H v = p := by
  obtain ⟨t, rfl, e⟩ := h
  unfold kOf
  dsimp only
  rw [e]
theorem IsP.mono {F H : Hp} {v : V} {p : Int × Int} (s : Sub F H) (h : IsP F v p) : IsP H v p := by
  obtain ⟨t, rfl, e⟩ := h
  exact ⟨t, rfl, s _ _ e⟩
theorem kOf_all {F H : Hp} (s : Sub F H) : ∀ {vs : List V} {ps : List (Int × Int)}, Paired (IsP F) vs ps → vs.map (kOf H) = ps ∧ ∀ v ∈ vs, IsP F v (kOf H v)
  | _, _, .nil => ⟨rfl, fun v h => by simp at h⟩
  | _, _, .cons h t => by
    obtain ⟨e1, e2⟩ := kOf_all s t
    have e := kOf_isP (h.mono s)
    refine ⟨by rw [List.map_cons, e1, e], fun v hv => ?_⟩
    rcases List.mem_cons.mp hv with rfl | hv
    · rw [e]; exact h
    · exact e2 v hv
theorem paired_map {α β : Type} {R : α → β → Prop} {k : α → β} : ∀ {vs : List α}, (∀ v ∈ vs, R v (k v)) → Paired R vs (vs.map k)
  | [], _ => .nil
  | v :: vs, h => .cons (h v List.mem_cons_self) (paired_map fun w hw => h w (List.mem_cons_of_mem _ hw))
theorem mapO_len' {α β : Type} {f : α → Option β} {as : List α} {bs : List β} (h : mapO f as = some bs) : bs.length = as.length := (mapO_len h).symm
theorem sn_sorted (g : GX C W E ξ Wx X) (hb : bnB C "sorted" = true) (hp : plainX ea = true) (ha : SE W B E ξ Wx X ea a) : SN W B E ξ Wx X (.Call (.Name "sorted" p1) [ea] [] pos) (.sorted a) := by
  intro σ S F ρ G H τ Q R ro h
  obtain ⟨hg, hm⟩ := bn_ok g hb
  rw [evN] at h
  refine eTo (pe_callB (CallR.or cr_sortedI cr_sortedPO) hg hm boot_sorted (pa_cons (pE ea) pa_nil (plain_star hp [] X.env)) (he := plain_star hp [] X.env)) ?_
  refine ha σ S F ρ G H τ _ R ro (h.bind (RA := RV W B) fun x S1 F1 ρ1 H1 v st1 R1 r1 h1 => ?_)
  cases e : rdL S1 x with
  | none => rw [e] at h1; exact h1.elim
  | some us =>
    rw [e] at h1
    obtain ⟨zs, ez, h2⟩ := h1.opt
    obtain ⟨p, vs, rfl, hq, hl, rs⟩ := rdL_ok R1 e r1
    rw [← g.K] at hq
    unfold sortedU at ez
    split at ez
    · rename_i ns en
      cases ez
      have ev := asInt_ok en rs
      subst ev
      have hl2 : ns.length ≤ top := by rw [mapO_len' en]; exact hl
      refine .inl ⟨p, ns, rfl, hq, fun ns' q hp1 hp2 hq' => ?_⟩
      have e2 : ns' = srtI ns := srtI_unique hl2 hp1 (hp2.imp fun {a b} h => decide_eq_true h)
      subst e2
      refine h2.made R1 ?_ (RVs.ints _) q hq'
      rw [List.length_map, (srtI_perm ns).length_eq]
      exact hl2
    · split at ez
      · rename_i ps en
        cases ez
        have pr := asPair_ok en rs
        obtain ⟨e1, e2⟩ := kOf_all R1.sub pr
        have hl2 : ps.length ≤ top := by rw [mapO_len' en]; exact hl
        refine .inr ⟨p, vs, kOf H1, rfl, hq, fun z hz => ?_, fun ys q hs ht hq' => ?_⟩
        · obtain ⟨t, h3, h4⟩ := (e2 z hz).mono R1.sub
          exact ⟨t, h3, h4⟩
        · have e3 : ys.map (kOf H1) = srtP ps := by
            refine srtP_unique hl2 ?_ ?_
            · rw [← e1]
              exact ht.perm.map _
            · rw [List.pairwise_map]
              refine List.Pairwise.imp (fun {x y} h => ?_) hs
              have := SrtO.lexB_no.mp h
              rw [leP_iff]
              omega
          refine h2.made R1 ?_ ?_ q hq'
          · rw [List.length_map, (srtP_perm ps).length_eq]
            exact hl2
          · rw [← e3]
            exact pairs_rv (paired_map fun v hv => e2 v (ht.perm.mem_iff.mp hv))
      · cases ez
theorem rangeU_eq (lo : Int) : ∀ (n : Nat) (k : Nat), rangeU (lo + k) 1 n = (List.range' k n).map fun (i : Nat) => U.int (lo + i)
  | 0, _ => rfl
  | n + 1, k => by
    have := rangeU_eq lo n (k + 1)
    rw [rangeU, List.range'_succ, List.map_cons, ← this]
    congr 2
    omega
theorem RVs.rng {F : Hp} {ρ : Nat → Addr} {n : Nat} (lo : Int) : ∀ l : List Nat, RVs W B F ρ n (l.map fun (i : Nat) => U.int (lo + i)) (l.map fun (i : Nat) => V.int (lo + i))
  | [] => .nil
  | i :: l => .cons (.int _) (RVs.rng lo l)
theorem sn_lrange (g : GX C W E ξ Wx X) (hh : C.hot = false) (hb : bnB C "list" = true) (hb2 : bnB C "range" = true) (hp : plainX ea = true) (ha : SE W B E ξ Wx X ea a) : SN W B E ξ Wx X (.Call (.Name "list" p1) [.Call (.Name "range" p2) [ea] [] p3] [] pos) (.lrange a) := by
  intro σ S F ρ G H τ Q R ro h
  obtain ⟨hg, hm⟩ := bn_ok g hb
  obtain ⟨hg2, hm2⟩ := bn_ok g hb2
  rw [evN] at h
  refine eTo (pe_listRg (g.calm hh) hg hm (prg_1 hg2 hm2 (pE ea) (plain_star hp [] X.env)) (plain_star rfl [] X.env)) ?_
  refine ha σ S F ρ G H τ _ R ro (h.bind (RA := RV W B) fun x S1 F1 ρ1 H1 v st1 R1 r1 h1 => ?_)
  cases r1 with
  | int n =>
    dsimp only at h1
    split at h1
    · rename_i hn
      refine ⟨n, rfl, ⟨by omega, by omega, by omega, by omega, by omega⟩, ?_⟩
      have e1 := rangeU_eq 0 n.toNat 0
      rw [show (0 : Int) + ((0 : Nat) : Int) = 0 from rfl, ← List.range_eq_range'] at e1
      rw [e1] at h1
      refine h1.made R1 ?_ ?_
      · rw [List.length_map, List.length_range]
        show n.toNat ≤ 1000000
        omega
      · unfold rgV
        rw [Int.sub_zero]
        exact RVs.rng 0 _
    · exact h1.elim
  | _ => exact h1.elim
end
end TW
/-! TWK -/
set_option Elab.async false
set_option linter.all false
set_option maxRecDepth 100000
/-! what the text's classes must say -/
namespace TW
open PySem PySem.Spec PyProof.Rows L2
theorem kitB_ok (a b : Ty) : kitB (tyName a) (tyName b) = some (subTy a b) := by
  cases a <;> cases b <;> decide +kernel
section
variable {W : Wd} {P : Pg} {B F G H : Hp} {ρ : Nat → Addr} {S : Sto} {x c : U} {v w : V} {t : Bool}
theorem isi_ok (kf : KF W P) (R : Rel W B F ρ S G H) (h : isiU P S x c = some t) (rx : RV W B F ρ S.length x v) (rc : RV W B F ρ S.length c w) :
    ∃ (ty u : Value), ClsV w u ∧ TyX W.K H v ty ∧ PySem.W.kitOne W.K ty u = some t := by
  have key : ∀ a : Ty, tyOf S x = some (.inl a) → TyX W.K H v (.type (tyName a)) → ∃ (ty u : Value), ClsV w u ∧ TyX W.K H v ty ∧ PySem.W.kitOne W.K ty u = some t := by
    intro a e ty
    unfold isiU at h
    rw [e] at h
    cases rc with
    | ty b =>
      cases h
      exact ⟨_, _, .ty _, ty, kit_ty (kitB_ok a b)⟩
    | cls j =>
      dsimp only at h
      split at h
      · rename_i hj
        cases h
        exact ⟨_, _, .own _, ty, kf.own a j hj⟩
      · cases h
    | _ => cases h
  cases rx with
  | non => exact key .nont rfl (.base .non)
  | bl b => exact key .bool rfl (.base (.bl b))
  | int i => exact key .int rfl (.base (.int i))
  | str z => exact key .str rfl (.base (.str z))
  | tup h1 h2 h3 => exact key .tuple rfl (.base (.tup (R.sub _ _ h1)))
  | fl h1 h2 h3 => exact key .list rfl (.base (.lst (R.sub _ _ h1)))
  | sc h1 h2 h3 =>
    refine key .list rfl ?_
    rcases R.bH.l h1 with (q | ⟨o, q⟩) | ⟨o, its, n, q, q2, _⟩
    · exact .base (.lst q)
    · exact .base (.frz q)
    · exact .kList q q2
  | bo h1 h2 h3 => exact key .list rfl (.base (.lst (R.bH _ _ h1)))
  | dct h1 => exact key .dict rfl (.base (.dK (R.sub _ _ h1)))
  | @ref m hm =>
    cases e : S[m]? with
    | none =>
      unfold isiU tyOf at h
      simp only [e] at h
      cases h
    | some o =>
      cases o with
      | lst us =>
        obtain ⟨vs, h1, _⟩ := R.cell m _ e
        exact key .list (by unfold tyOf; simp only [e]) (.base (.lst h1))
      | ins k fs =>
        obtain ⟨dx, vs, h1, _⟩ := R.cell m _ e
        unfold isiU tyOf at h
        simp only [e] at h
        cases rc with
        | cls j =>
          dsimp only at h
          split at h
          · rename_i hj
            cases h
            simp only [Bool.and_eq_true, Bool.not_eq_true'] at hj
            obtain ⟨j1, j2, j3⟩ := hj
            exact ⟨_, _, .own _, .base (.ins h1 (kf.cls k j2 j3) (kf.at_ k j2 j3) kf.sp kf.tk (kf.mro k j2)), kf.sub k j j2 j1⟩
          · cases h
        | _ => cases h
      | dead =>
        unfold isiU tyOf at h
        simp only [e] at h
        cases h
  | ty _ => unfold isiU tyOf at h; cases h
  | fn _ => unfold isiU tyOf at h; cases h
  | cls _ => unfold isiU tyOf at h; cases h
  | clo _ _ _ => unfold isiU tyOf at h; cases h
end
/-! ### count of equal ones -/
section
variable {X : Cx}
def rCountD (K : PySem.W.Frag) : V → List V → Hp → VK → Prop := fun x xs H Q => ∃ (a : Addr) (y : V) (d : PyData) (ds : List PyData), x = V.ref a ∧ xs = [y] ∧ Dp K H (V.ref a) (.list ds) ∧ Dp K H y d ∧
  SeqAt.shaped (.list ds) = true ∧ SeqAt.shaped d = true ∧ Q (.int (ds.countP (fun z => PyData.eqv z d) : Nat)) H
theorem mt_countD (hu : X.A.units + 65 < cLine) : MtR X "list.count" (rCountD X.K) := by
  rintro pins s σ H _ _ v us Q I rx rxs ⟨a, y, d, ds, rfl, rfl, hl, hy, sl, sd, q⟩
  cases rx
  obtain ⟨uy, rfl, ry⟩ := rxs.one
  obtain ⟨bs, rd⟩ := Dp.reads I d y uy hy ry
  have lay : PyData.canLayAll0 ds = true := SeqAt.canLay_of_shaped sl
  cases hl with
  | lst hs ha =>
    obtain ⟨its, rv, ⟨⟨cls, dd, data, sls⟩, n, ho, hc, hdn, hdt⟩, hlen⟩ := I.list hs
    simp only at hc hdt
    subst hc hdt
    obtain ⟨as, h4⟩ := Dp.readsAll I ds _ its ha rv
    have hmap := SeqAt.readsAll_map ds its as lay h4
    refine call_meets PySem.F.slot_list_count ⟨_, ho, rfl⟩ PySem.F.entry_list_count (PySem.F.args_list_count_2 _ _) (SeqAt.list_countAt a its.toArray n dd sls uy (fun u => PyData.eqv (SeqAt.readOf s.heap u) d))
      ⟨ho, SeqAt.items_eqAt (vs := its.toArray) (show ReadsAll s.heap its.toArray.toList ds as from h4) rd lay (SeqAt.canLay_of_shaped sd) (room_in_shaped sd hu), ⟨.int _, H, I.tok _, ⟨s.toks, ?_⟩, q⟩⟩
    have e : its.countP (fun u => PyData.eqv (SeqAt.readOf s.heap u) d) = ds.countP (fun z => PyData.eqv z d) := by
      rw [← hmap, List.countP_map]
      rfl
    show Value.int ((its.countP (fun u => PyData.eqv (SeqAt.readOf s.heap u) d) : Nat) : Int) s.toks = _
    rw [e]
end
end TW
/-! TWH -/
set_option Elab.async false
set_option linter.all false
set_option maxRecDepth 100000
namespace TW
open PySem PySem.Spec PyProof.Rows L2
/-! ### arguments without a star -/
def plainL (es : List Expr) : Bool := es.all plainX
theorem plain_any {pos : Pos} {env : PySem.Env} : ∀ {es : List Expr}, plainL es = true → (backTo pos (starEach es env)).any (·.1) = false
  | [], _ => rfl
  | e :: es, h => by
    unfold plainL at h
    rw [List.all_cons, Bool.and_eq_true] at h
    rw [plain_star h.1]
    exact plain_any (es := es) h.2
theorem plain_all {pos : Pos} {env : PySem.Env} : ∀ {es : List Expr}, plainL es = true → (backTo pos (starEach es env)).all (fun x => !x.1) = true
  | [], _ => rfl
  | e :: es, h => by
    unfold plainL at h
    rw [List.all_cons, Bool.and_eq_true] at h
    rw [plain_star h.1]
    exact plain_all (es := es) h.2
theorem plain_few {pos : Pos} {env : PySem.Env} {es : List Expr} (h : plainL es = true) (hl : es.length < 30) : ((backTo pos (starEach es env)).all (fun x => !x.1) && (backToKw pos (keywordEach [] env)).all (fun x => x.1.isSome)
      && decide (es.length + ([] : List Keyword).length + (if ([] : List Keyword).isEmpty then 0 else 1) < 30)) = true := by
  rw [plain_all h]
  simp [backToKw, keywordEach]
  exact hl
section
variable {C : CC} {W : Wd} {B : Hp} {E : Env} {ξ : Option (Nat × Addr)} {Wx : WX} {X : Cx} {ea eb ec ed : Expr} {es : List Expr} {a b c d : IE} {pos apos p1 p2 p3 : Pos}
/-! ### built-in functions -/
/-- what a rule of a built-in must be for the interpreter's word -/
def BiOk (W : Wd) (P : Pg) (b : Bi) (r : List V → Hp → VK → Prop) : Prop := ∀ (B F : Hp) (ρ : Nat → Addr) (S : Sto) (G H : Hp) (us : List U) (vs : List V) (t : U) (Q : VK), Rel W B F ρ S G H → RVs W B F ρ S.length us vs → biU P S b us = some t →
  (∀ z, RV W B F ρ S.length t z → Q z H) → r vs H Q
theorem se_bi {x : Str} {id : String} {bi : Bi} {r : List V → Hp → VK → Prop} (g : GX C W E ξ Wx X) (hx : bnB C x = true) (hk : okN x = true) (hv : bootBuiltins x = some (.builtin id)) (hc : CallR X (.builtin id) r) (hr : BiOk W E.P bi r)
    (hp : plainL (ea :: es) = true) (ha : SL W B E ξ Wx X (ea :: es) a) : SE W B E ξ Wx X (.Call (.Name x p1) (ea :: es) [] pos) (.bi bi a) := by
  intro σ S F ρ G H τ Q R ro h
  obtain ⟨hg, hm⟩ := bn_ok g hx
  obtain ⟨k1, _, k3⟩ := okN_ok hk
  have hp' := hp
  unfold plainL at hp'
  rw [List.all_cons, Bool.and_eq_true] at hp'
  rw [evE] at h
  refine eTo (pe_callB hc hg hm hv (pA (ea :: es)) k3 k1 (plain_star hp'.1 es X.env) (plain_any hp'.2)) ?_
  refine ha σ S F ρ G H τ _ R ro (h.bind (RA := RVs W B) fun us S1 F1 ρ1 H1 vs st1 R1 r1 h1 => ?_)
  obtain ⟨t, e, h2⟩ := h1.opt
  exact hr B F1 ρ1 S1 G H1 us vs t Q R1 r1 e fun z rz => h2.here R1 rz
theorem one_of {f : Bi} {P : Pg} {S : Sto} {us : List U} {t : U} (e : biU P S f us = some t) (hf : f = .len ∨ f = .abs ∨ f = .sum ∨ f = .all ∨ f = .any) : ∃ u, us = [u] := by
  match us, e with
  | [], e => rcases hf with rfl | rfl | rfl | rfl | rfl <;> simp [biU] at e
  | [u], _ => exact ⟨u, rfl⟩
  | u :: w :: r, e => rcases hf with rfl | rfl | rfl | rfl | rfl <;> simp [biU] at e
theorem bi_len (P : Pg) (hK : X.K = W.K) : BiOk W P .len (fun xs H Q => ∃ p ys, xs = [.ref p] ∧ (SqL X.K H p ys ∨ SqT X.K H p ys) ∧ Q (.int ys.length) H) := by
  intro B F ρ S G H us vs t Q R rs e q
  obtain ⟨u, rfl⟩ := one_of e (.inl rfl)
  cases rs with
  | cons r1 r2 =>
    cases r2
    simp only [biU] at e
    cases eu : rdQ S u with
    | none => rw [eu] at e; cases e
    | some ws =>
      rw [eu] at e
      cases e
      obtain ⟨p, xs, rfl, hq, hl, rr⟩ := rdQ_ok R eu r1
      rw [hK]
      exact ⟨p, xs, rfl, hq, by rw [← rr.length]; exact q _ (.int _)⟩
theorem bi_min (P : Pg) : BiOk W P .min2 (fun xs H Q => ∃ i j, xs = [.int i, .int j] ∧ Q (.int (if j < i then j else i)) H) := by
  intro B F ρ S G H us vs t Q R rs e q
  unfold biU at e
  split at e <;> first | (rename_i h; cases h; done) | skip
  · rename_i i j _
    cases e
    cases rs with
    | cons r1 r2 => cases r2 with
      | cons r3 r4 => cases r4; cases r1; cases r3; exact ⟨i, j, rfl, q _ (.int _)⟩
  · cases e
theorem bi_max (P : Pg) : BiOk W P .max2 (fun xs H Q => ∃ i j, xs = [.int i, .int j] ∧ Q (.int (if j > i then j else i)) H) := by
  intro B F ρ S G H us vs t Q R rs e q
  unfold biU at e
  split at e <;> first | (rename_i h; cases h; done) | skip
  · rename_i i j _
    cases e
    cases rs with
    | cons r1 r2 => cases r2 with
      | cons r3 r4 => cases r4; cases r1; cases r3; exact ⟨i, j, rfl, q _ (.int _)⟩
  · cases e
theorem bi_abs (P : Pg) : BiOk W P .abs (fun xs H Q => ∃ i, xs = [.int i] ∧ Q (.int (if i < 0 then -i else i)) H) := by
  intro B F ρ S G H us vs t Q R rs e q
  unfold biU at e
  split at e <;> first | (rename_i h; cases h; done) | skip
  · rename_i i _
    cases e
    cases rs with
    | cons r1 r2 => cases r2; cases r1; exact ⟨i, rfl, q _ (.int _)⟩
  · cases e
theorem bi_sum (P : Pg) (hK : X.K = W.K) : BiOk W P .sum (rSum X.K) := by
  intro B F ρ S G H us vs t Q R rs e q
  obtain ⟨u, rfl⟩ := one_of e (.inr (.inr (.inl rfl)))
  cases rs with
  | cons r1 r2 =>
    cases r2
    simp only [biU] at e
    cases eu : rdL S u with
    | none => rw [eu] at e; cases e
    | some ws =>
      rw [eu] at e
      dsimp only at e
      cases en : mapO asInt ws with
      | none => rw [en] at e; cases e
      | some ns =>
        rw [en] at e
        cases e
        obtain ⟨p, xs, rfl, hq, hl, rr⟩ := rdL_ok R eu r1
        have ev := asInt_ok en rr
        subst ev
        rw [← hK] at hq
        exact ⟨p, ns, rfl, hq, q _ (.int _)⟩
theorem bi_all (P : Pg) (hK : X.K = W.K) : BiOk W P .all (rAll X.K) := by
  intro B F ρ S G H us vs t Q R rs e q
  obtain ⟨u, rfl⟩ := one_of e (.inr (.inr (.inr (.inl rfl))))
  cases rs with
  | cons r1 r2 =>
    cases r2
    simp only [biU] at e
    cases eu : rdL S u with
    | none => rw [eu] at e; cases e
    | some ws =>
      rw [eu] at e
      dsimp only at e
      cases en : mapO asBl ws with
      | none => rw [en] at e; cases e
      | some ns =>
        rw [en] at e
        cases e
        obtain ⟨p, xs, rfl, hq, hl, rr⟩ := rdL_ok R eu r1
        have ev := asBl_ok en rr
        subst ev
        rw [← hK] at hq
        exact ⟨p, ns, rfl, hq, q _ (.bl _)⟩
theorem bi_any (P : Pg) (hK : X.K = W.K) : BiOk W P .any (rAny X.K) := by
  intro B F ρ S G H us vs t Q R rs e q
  obtain ⟨u, rfl⟩ := one_of e (.inr (.inr (.inr (.inr rfl))))
  cases rs with
  | cons r1 r2 =>
    cases r2
    simp only [biU] at e
    cases eu : rdL S u with
    | none => rw [eu] at e; cases e
    | some ws =>
      rw [eu] at e
      dsimp only at e
      cases en : mapO asBl ws with
      | none => rw [en] at e; cases e
      | some ns =>
        rw [en] at e
        cases e
        obtain ⟨p, xs, rfl, hq, hl, rr⟩ := rdL_ok R eu r1
        have ev := asBl_ok en rr
        subst ev
        rw [← hK] at hq
        exact ⟨p, ns, rfl, hq, q _ (.bl _)⟩
theorem bi_isi {P : Pg} (kf : KF W P) (hK : X.K = W.K) : BiOk W P .isi (rIsi X.K) := by
  intro B F ρ S G H us vs t Q R rs e q
  unfold biU at e
  split at e <;> first | (rename_i h; cases h; done) | skip
  · rename_i x c _
    cases ei : isiU P S x c with
    | none => rw [ei] at e; cases e
    | some t' =>
      rw [ei] at e
      cases e
      cases rs with
      | cons r1 r2 => cases r2 with
        | cons r3 r4 =>
          cases r4
          obtain ⟨ty, u, h1, h2, h3⟩ := isi_ok kf R ei r1 r3
          rw [hK]
          exact ⟨_, _, ty, u, t', rfl, h1, h2, h3, q _ (.bl _)⟩
  · cases e
/-! ### methods of lists that read -/
theorem isL_ok {F G H : Hp} {ρ : Nat → Addr} {S : Sto} {x : U} {v : V} (R : Rel W B F ρ S G H) (h : isL S x = true) (r : RV W B F ρ S.length x v) (hK : X.K = W.K) : tyV X.K "list" v H := by
  unfold isL at h
  cases e : rdL S x with
  | none => rw [e] at h; cases h
  | some us =>
    obtain ⟨p, vs, rfl, hq, _⟩ := rdL_ok R e r
    rw [← hK] at hq
    exact .inl ⟨rfl, vs, hq⟩
theorem idx_spec (d : Dt) : ∀ (ds : List Dt) (j : Nat), idxOf d ds = some j → (∃ z, ds[j]? = some z ∧ eqv z d = true) ∧ ∀ m z, m < j → ds[m]? = some z → eqv z d = false
  | [], j, h => by cases h
  | y :: ds, j, h => by
    unfold idxOf at h
    split at h
    · rename_i hy
      cases h
      exact ⟨⟨y, rfl, hy⟩, fun m z hm => absurd hm (Nat.not_lt_zero _)⟩
    · rename_i hy
      cases e : idxOf d ds with
      | none => rw [e] at h; cases h
      | some i =>
        rw [e] at h
        cases h
        obtain ⟨⟨z, h1, h2⟩, h3⟩ := idx_spec d ds i e
        refine ⟨⟨z, by simpa using h1, h2⟩, fun m w hm hw => ?_⟩
        cases m with
        | zero =>
          have : y = w := by simpa using hw
          rw [← this]
          exact Bool.eq_false_iff.mpr hy
        | succ m => exact h3 m w (Nat.lt_of_succ_lt_succ hm) (by simpa using hw)
theorem se_index (g : GX C W E ξ Wx X) (hp : plainX eb = true) (hs : noSup ea = true) (hline : (apos.endLine == pos.line) = true) (ha : SE W B E ξ Wx X ea a) (hb : SE W B E ξ Wx X eb b) : SE W B E ξ Wx X (.Call (.Attribute ea "index" apos) [eb] [] pos) (.mc .index a b) := by
  intro σ S F ρ G H τ Q R ro h
  rw [evE] at h
  refine eTo (pe_bm PySem.F.plainAttrs_list PySem.F.slot_list_index PySem.F.type_list_index (mt_indexD g.un) (pE ea) (pa_cons (pE eb) pa_nil (plain_star hp [] X.env)) (noSup_ok hs _ _ _) (plain_few (by unfold plainL; simp [hp]) (by show 1 < 30; decide)) hline (plain_star hp [] X.env) rfl) ?_
  refine ha σ S F ρ G H τ _ R ro (h.bind (RA := RV W B) fun x S1 F1 ρ1 H1 v st1 R1 r1 h1 => ?_)
  cases ei : isL S1 x with
  | false => rw [ei] at h1; exact h1.elim
  | true =>
    rw [ei] at h1
    refine ⟨isL_ok R1 ei r1 g.K, ?_⟩
    refine hb σ S1 F1 ρ1 G H1 τ _ R1 (ro.mono st1) (h1.bind (RA := RV W B) fun y S2 F2 ρ2 H2 w st2 R2 r2 h2 => ?_)
    obtain ⟨t, e, h3⟩ := h2.opt
    simp only [biU] at e
    cases en : indexU S2 x y with
    | none => rw [en] at e; cases e
    | some n =>
      rw [en] at e
      cases e
      unfold indexU at en
      split at en
      · rename_i d' ds e1 e2
        obtain ⟨a1, a2, a3⟩ := toD_ok R2 _ _ _ _ e1 r2
        obtain ⟨b1, b2, b3⟩ := toD_ok R2 _ _ _ _ e2 (st2.rv r1)
        obtain ⟨⟨z, z1, z2⟩, z3⟩ := idx_spec _ _ _ en
        rw [pyd] at b1
        have sb := shaped_of b2 b3
        rw [pyd] at sb
        rw [g.K]
        cases b1 with
        | lst q1 q2 =>
          refine ⟨_, _, pyd d', pyds ds, n, pyd z, rfl, rfl, .lst q1 q2, a1, sb, shaped_of a2 a3, ?_, ?_, ?_, h3.here R2 (.int _)⟩
          · rw [pyds_map, List.getElem?_map, z1]; rfl
          · rw [eqv_pyd]; exact z2
          · intro m z' hm hz'
            rw [pyds_map, List.getElem?_map] at hz'
            cases ez : ds[m]? with
            | none => rw [ez] at hz'; cases hz'
            | some w' =>
              rw [ez] at hz'
              cases hz'
              rw [eqv_pyd]
              exact z3 m w' hm ez
      · cases en
theorem bl_data {F G H : Hp} {ρ : Nat → Addr} {S : Sto} {K : PySem.W.Frag} : ∀ bs : List Bool, DpAll K H (bs.map V.bl) (bs.map PyData.bool)
  | [] => .nil
  | b :: bs => .cons (.bl b) (bl_data (F := F) (G := G) (ρ := ρ) (S := S) bs)
theorem bl_lay : ∀ bs : List Bool, PyData.canLayAll0 (bs.map PyData.bool) = true ∧ PyData.depthAll (bs.map PyData.bool) ≤ 1
  | [] => by simp [PyData.canLayAll0, PyData.depthAll]
  | b :: bs => by
    obtain ⟨h1, h2⟩ := bl_lay bs
    simp only [List.map_cons, PyData.canLayAll0, PyData.depthAll, PyData.canLay0, PyData.depth, h1, Bool.and_self, true_and]
    omega
theorem se_count (g : GX C W E ξ Wx X) (hp : plainX eb = true) (hs : noSup ea = true) (hline : (apos.endLine == pos.line) = true) (ha : SE W B E ξ Wx X ea a) (hb : SE W B E ξ Wx X eb b) : SE W B E ξ Wx X (.Call (.Attribute ea "count" apos) [eb] [] pos) (.mc .count a b) := by
  intro σ S F ρ G H τ Q R ro h
  rw [evE] at h
  refine eTo (pe_bm PySem.F.plainAttrs_list PySem.F.slot_list_count PySem.F.type_list_count (mt_countD g.un) (pE ea) (pa_cons (pE eb) pa_nil (plain_star hp [] X.env)) (noSup_ok hs _ _ _) (plain_few (by unfold plainL; simp [hp]) (by show 1 < 30; decide)) hline (plain_star hp [] X.env) rfl) ?_
  refine ha σ S F ρ G H τ _ R ro (h.bind (RA := RV W B) fun x S1 F1 ρ1 H1 v st1 R1 r1 h1 => ?_)
  cases ei : isL S1 x with
  | false => rw [ei] at h1; exact h1.elim
  | true =>
    rw [ei] at h1
    refine ⟨isL_ok R1 ei r1 g.K, ?_⟩
    refine hb σ S1 F1 ρ1 G H1 τ _ R1 (ro.mono st1) (h1.bind (RA := RV W B) fun y S2 F2 ρ2 H2 w st2 R2 r2 h2 => ?_)
    obtain ⟨t, e, h3⟩ := h2.opt
    cases r2 with
    | bl k =>
      simp only [biU] at e
      cases eu : rdL S2 x with
      | none => rw [eu] at e; cases e
      | some ws =>
        rw [eu] at e
        dsimp only at e
        cases en : mapO asBl ws with
        | none => rw [en] at e; cases e
        | some bs =>
          rw [en] at e
          cases e
          obtain ⟨p, xs, rfl, hq, hl, rr⟩ := rdL_ok R2 eu (st2.rv r1)
          have ev := asBl_ok en rr
          subst ev
          rw [← g.K] at hq
          have dd := (bl_lay bs).2
          refine ⟨p, _, .bool k, bs.map PyData.bool, rfl, rfl, .lst hq (bl_data (F := F) (G := G) (ρ := ρ) (S := S) bs), .bl k, ?_, by cases k <;> rfl, ?_⟩
          · unfold SeqAt.shaped
            have q1 : (PyData.list (bs.map PyData.bool)).canLay0 = true := by simp only [PyData.canLay0]; exact (bl_lay bs).1
            have q2 : (PyData.list (bs.map PyData.bool)).depth ≤ 64 := by simp only [PyData.depth]; omega
            rw [q1, decide_eq_true q2]
            rfl
          · have ec : (bs.map PyData.bool).countP (fun z => PyData.eqv z (.bool k)) = bs.count k := by
              rw [List.countP_map, List.count]
              congr 1
            rw [ec]
            exact h3.here R2 (.int _)
    | _ => simp [biU] at e
end
end TW
/-! TWI -/
set_option Elab.async false
set_option linter.all false
set_option maxRecDepth 100000
namespace TW
open PySem PySem.Spec PyProof.Rows L2
section
variable {C : CC} {W : Wd} {B : Hp} {E : Env} {ξ : Option (Nat × Addr)} {Wx : WX} {X : Cx} {ea eb ec ed : Expr} {es : List Expr} {a b c d : IE} {pos apos p1 p2 p3 : Pos}
/-! ### methods of lists that write -/
def LmOk (W : Wd) (m : LM) (r : V → List V → Hp → VK → Prop) : Prop := ∀ (B F : Hp) (ρ : Nat → Addr) (S : Sto) (G H : Hp) (x : U) (us : List U) (v : V) (vs : List V) (XW : Nat → Hp → Prop) (Q : VK), Rel W B F ρ S G H → RV W B F ρ S.length x v → RVs W B F ρ S.length us vs →
  Po W B (RV W B) XW (lmU S m (x :: us)) F ρ S G Q → r v vs H Q
theorem se_lm {m : LM} {name : Str} {id : String} {r : V → List V → Hp → VK → Prop} (g : GX C W E ξ Wx X) (slot : Slot "list" name id) (hty : typeOf (.builtin id) = pure (.type "method_descriptor")) (hm : MtR X id r) (hr : LmOk W m r)
    (hp : plainL (eb :: es) = true) (hl : (eb :: es).length < 30) (hs : noSup ea = true) (hline : (apos.endLine == pos.line) = true) (ha : SE W B E ξ Wx X ea a) (hb : SL W B E ξ Wx X (eb :: es) b) : SE W B E ξ Wx X (.Call (.Attribute ea name apos) (eb :: es) [] pos) (.lm m a b) := by
  intro σ S F ρ G H τ Q R ro h
  rw [evE] at h
  have hp' := hp
  unfold plainL at hp'
  rw [List.all_cons, Bool.and_eq_true] at hp'
  refine eTo (pe_bm PySem.F.plainAttrs_list slot hty hm (pE ea) (pA (eb :: es)) (noSup_ok hs _ _ _) (plain_few hp hl) hline (plain_star hp'.1 es X.env) (plain_any hp'.2)) ?_
  refine ha σ S F ρ G H τ _ R ro (h.bind (RA := RV W B) fun x S1 F1 ρ1 H1 v st1 R1 r1 h1 => ?_)
  cases ei : isL S1 x with
  | false => rw [ei] at h1; exact h1.elim
  | true =>
    rw [ei] at h1
    refine ⟨isL_ok R1 ei r1 g.K, ?_⟩
    refine hb σ S1 F1 ρ1 G H1 τ _ R1 (ro.mono st1) (h1.bind (RA := RVs W B) fun us S2 F2 ρ2 H2 vs st2 R2 r2 h2 => ?_)
    exact hr B F2 ρ2 S2 G H2 x us v vs _ Q R2 (st2.rv r1) r2 h2
theorem se_lm0 {m : LM} {name : Str} {id : String} {r : V → List V → Hp → VK → Prop} (g : GX C W E ξ Wx X) (slot : Slot "list" name id) (hty : typeOf (.builtin id) = pure (.type "method_descriptor")) (hm : MtR X id r) (hr : LmOk W m r)
    (hs : noSup ea = true) (hline : (apos.endLine == pos.line) = true) (ha : SE W B E ξ Wx X ea a) : SE W B E ξ Wx X (.Call (.Attribute ea name apos) [] [] pos) (.lm0 m a) := by
  intro σ S F ρ G H τ Q R ro h
  rw [evE] at h
  refine eTo (pe_bm0 PySem.F.plainAttrs_list slot hty hm (pE ea) (noSup_ok hs _ _ _) (hline := hline)) ?_
  refine ha σ S F ρ G H τ _ R ro (h.bind (RA := RV W B) fun x S1 F1 ρ1 H1 v st1 R1 r1 h1 => ?_)
  cases ei : isL S1 x with
  | false => rw [ei] at h1; exact h1.elim
  | true =>
    rw [ei] at h1
    refine ⟨isL_ok R1 ei r1 g.K, ?_⟩
    exact hr B F1 ρ1 S1 G H1 x [] v [] _ Q R1 r1 .nil h1
/-- the cell that is written -/
theorem put_ok {F G H : Hp} {ρ : Nat → Addr} {S : Sto} {n : Nat} {us us' : List U} {vs' : List V} {XW : Nat → Hp → Prop} {u : U} {v : V} {Q : VK} (R : Rel W B F ρ S G H) (hk : S[n]? = some (.lst us)) (hl : us'.length ≤ top) (r : RVs W B F ρ S.length us' vs') (ru : RV W B F ρ S.length u v)
    (h : Po W B (RV W B) XW (.ok u (S.set n (.lst us'))) F ρ S G Q) : Q v (upd H (ρ n) (.lst vs')) := by
  obtain ⟨R', st⟩ := R.put hk hl r
  exact h F ρ _ v st R' (st.rv ru)
theorem cell_lst {F G H : Hp} {ρ : Nat → Addr} {S : Sto} {n : Nat} {us : List U} (R : Rel W B F ρ S G H) (hk : S[n]? = some (.lst us)) : ∃ vs, H (ρ n) = some (.lst vs) ∧ us.length ≤ top ∧ RVs W B F ρ S.length us vs := R.cell n _ hk
theorem lm_append : LmOk W .append rAppend := by
  intro B F ρ S G H x us v vs XW Q R rx rs h
  match us, rs, h with
  | [], _, h => cases rx <;> exact h.elim
  | [u], rs, h =>
    cases rs with
    | cons r1 r2 =>
      cases r2
      cases rx with
      | @ref n hn =>
        unfold lmU at h
        dsimp only at h
        split at h
        · rename_i ws e
          split at h
          · rename_i hl
            obtain ⟨xs, h1, h2, h3⟩ := cell_lst R e
            refine ⟨_, xs, _, rfl, rfl, h1, by rw [← h3.length]; exact lt_line h2, ?_⟩
            exact put_ok R e (by rw [List.length_append, List.length_singleton]; exact hl) (h3.append (.cons r1 .nil)) .non h
          · exact h.elim
        · exact h.elim
      | _ => exact h.elim
  | _ :: _ :: _, _, h => cases rx <;> exact h.elim
theorem lm_extend : LmOk W .extend rExtend := by
  intro B F ρ S G H x us v vs XW Q R rx rs h
  match us, rs, h with
  | [], _, h => cases rx <;> exact h.elim
  | [u], rs, h =>
    cases rs with
    | cons r1 r2 =>
      cases r2
      cases rx with
      | @ref n hn =>
        unfold lmU at h
        dsimp only at h
        split at h
        · rename_i ws zs e e2
          split at h
          · rename_i hl
            obtain ⟨xs, h1, h2, h3⟩ := cell_lst R e
            obtain ⟨p, ys, rfl, k1, k2, k3⟩ := rdX_ok R e2 r1
            refine ⟨_, p, xs, ys, rfl, rfl, h1, k1, by rw [← h3.length, ← k3.length]; exact le_line (Nat.le_of_lt hl), ?_⟩
            exact put_ok R e (by rw [List.length_append]; exact Nat.le_of_lt hl) (h3.append k3) .non h
          · exact h.elim
        · exact h.elim
      | _ => exact h.elim
  | _ :: _ :: _, _, h => cases rx <;> exact h.elim
theorem lm_pop : LmOk W .pop rPop := by
  intro B F ρ S G H x us v vs XW Q R rx rs h
  match us, rs, h with
  | [], rs, h =>
    cases rs
    cases rx with
    | @ref n hn =>
      unfold lmU at h
      dsimp only at h
      split at h
      · rename_i ws e
        split at h
        · rename_i u eu
          obtain ⟨xs, h1, h2, h3⟩ := cell_lst R e
          obtain ⟨y, y1, y2⟩ := h3.get eu
          refine ⟨_, xs, y, rfl, rfl, h1, by rw [← h3.length]; exact y1, ?_⟩
          exact put_ok R e (by rw [List.length_dropLast]; omega) h3.dropLast y2 h
        · exact h.elim
      · exact h.elim
    | _ => exact h.elim
  | _ :: _, _, h => cases rx <;> exact h.elim
theorem seqIx {n : Nat} {i : Int} {k : Nat} (h : ixU n i = some k) (hn : n ≤ top) : seqIndex? i n = some k ∧ -(2 ^ 63) ≤ i ∧ i < 2 ^ 63 ∧ k < n := by
  unfold ixU at h
  have ht : top = 1000000 := rfl
  unfold seqIndex?
  dsimp only
  split at h
  · split at h
    · rename_i h1 h2
      cases h
      refine ⟨?_, by omega, by omega, by omega⟩
      rw [if_neg (show ¬ i < 0 by omega), if_pos (by simp only [Bool.and_eq_true, decide_eq_true_eq]; omega)]
    · cases h
  · split at h
    · rename_i h1 h2
      cases h
      refine ⟨?_, by omega, by omega, by omega⟩
      rw [if_pos (show i < 0 by omega), if_pos (by simp only [Bool.and_eq_true, decide_eq_true_eq]; omega)]
    · cases h
theorem lm_popAt : LmOk W .popAt rPopAt := by
  intro B F ρ S G H x us v vs XW Q R rx rs h
  match us, rs, h with
  | [], _, h => cases rx <;> exact h.elim
  | [u], rs, h =>
    cases rs with
    | cons r1 r2 =>
      cases r2
      cases rx with
      | @ref n hn =>
        cases r1 with
        | int i =>
          unfold lmU at h
          dsimp only at h
          split at h
          · rename_i ws e
            split at h
            · rename_i k ek
              split at h
              · rename_i w ew
                obtain ⟨xs, h1, h2, h3⟩ := cell_lst R e
                obtain ⟨y, y1, y2⟩ := h3.get ew
                obtain ⟨s1, s2, s3, s4⟩ := seqIx ek h2
                refine ⟨_, xs, i, k, y, rfl, rfl, h1, s2, s3, by rw [← h3.length]; exact s1, y1, ?_⟩
                exact put_ok R e (by rw [List.length_eraseIdx]; split <;> omega) (h3.eraseIdx k) y2 h
              · exact h.elim
            · exact h.elim
          · exact h.elim
        | _ => exact h.elim
      | _ => cases u <;> exact h.elim
  | z :: _ :: _, _, h => cases rx <;> cases z <;> exact h.elim
theorem lm_insert : LmOk W .insert (fun x vs H Q => ∃ (l : Addr) (xs : List V) (i : Int) (y : V), x = .ref l ∧ vs = [.int i, y] ∧ H l = some (.lst xs) ∧ xs.length < sizeLine ∧ 0 ≤ i ∧ i < 2 ^ 63 ∧ Q .non (upd H l (.lst (xs.take i.toNat ++ [y] ++ xs.drop i.toNat)))) := by
  intro B F ρ S G H x us v vs XW Q R rx rs h
  match us, rs, h with
  | [], _, h => cases rx <;> exact h.elim
  | [u], _, h => cases rx <;> cases u <;> exact h.elim
  | [u, w], rs, h =>
    cases rs with
    | cons r1 r2 => cases r2 with
      | cons r2 r3 =>
        cases r3
        cases rx with
        | @ref n hn =>
          cases r1 with
          | int i =>
            unfold lmU at h
            dsimp only at h
            split at h
            · rename_i ws e
              split at h
              · rename_i hl
                obtain ⟨xs, h1, h2, h3⟩ := cell_lst R e
                refine ⟨_, xs, i, _, rfl, rfl, h1, by rw [← h3.length]; exact lt_line h2, hl.1, by omega, ?_⟩
                refine put_ok R e ?_ (((h3.take _).append (.cons r2 .nil)).append (h3.drop _)) .non h
                rw [List.length_append, List.length_append, List.length_singleton, List.length_take, List.length_drop]
                omega
              · exact h.elim
            · exact h.elim
          | _ => exact h.elim
        | _ => cases u <;> exact h.elim
  | z :: _ :: _ :: _, _, h => cases rx <;> cases z <;> exact h.elim
theorem lm_reverse : LmOk W .reverse rReverse := by
  intro B F ρ S G H x us v vs XW Q R rx rs h
  match us, rs, h with
  | [], rs, h =>
    cases rs
    cases rx with
    | @ref n hn =>
      unfold lmU at h
      dsimp only at h
      split at h
      · rename_i ws e
        obtain ⟨xs, h1, h2, h3⟩ := cell_lst R e
        refine ⟨_, xs, rfl, rfl, h1, ?_⟩
        exact put_ok R e (by rw [List.length_reverse]; exact h2) h3.reverse .non h
      · exact h.elim
    | _ => exact h.elim
  | _ :: _, _, h => cases rx <;> exact h.elim
/-! ### calls of the text's defs -/
theorem se_callD {m : Bool} {f : Nat} {x : Str} (g : GX C W E ξ Wx X) (hh : C.hot = false) (hx : glB C.sc x = true) (hk : okN x = true) (hT : C.T.gt.lookup x = some (.fn f)) (hp : plainL (ea :: es) = true) (ha : SL W B E ξ Wx X (ea :: es) a) :
    SE W B E ξ Wx X (.Call (.Name x p1) (ea :: es) [] pos) (.callD m f a) := by
  intro σ S F ρ G H τ Q R ro h
  obtain ⟨k1, _, k3⟩ := okN_ok hk
  obtain ⟨u, hu, hv⟩ := g.gt x _ hT
  cases hv
  have hp' := hp
  unfold plainL at hp'
  rw [List.all_cons, Bool.and_eq_true] at hp'
  rw [evE] at h
  cases ek : E.okf f with
  | false => rw [ek] at h; exact h.elim
  | true =>
    rw [ek] at h
    obtain ⟨fd, ps, k, sp, F1, hr, hkp, hb, hsp⟩ := g.call hh f ek
    refine eTo (pe_callS (E := WE Wx) F1 (hr.mono (Nat.le_succ _)) (gl_ok g hx) hu hkp hb (fun σ => L2N.passAt g.tk σ) (pA (ea :: es)) k1 (plain_star hp'.1 es X.env) (plain_any hp'.2)) ?_
    refine ha σ S F ρ G H τ _ R ro (h.bind (RA := RVs W B) fun us S1 F1 ρ1 H1 vs st1 R1 r1 h1 => ?_)
    exact hsp m B F1 ρ1 S1 G H1 us vs Q (WE Wx τ) R1 r1 h1
/-- a def without arguments -/
theorem se_callD0 {m : Bool} {f : Nat} {x : Str} (g : GX C W E ξ Wx X) (hh : C.hot = false) (hx : glB C.sc x = true) (hk : okN x = true) (hT : C.T.gt.lookup x = some (.fn f)) : SE W B E ξ Wx X (.Call (.Name x p1) [] [] pos) (.callD m f .nil) := by
  intro σ S F ρ G H τ Q R ro h
  obtain ⟨k1, _, k3⟩ := okN_ok hk
  obtain ⟨u, hu, hv⟩ := g.gt x _ hT
  cases hv
  rw [evE] at h
  cases ek : E.okf f with
  | false => rw [ek] at h; exact h.elim
  | true =>
    rw [ek] at h
    simp only [evL, TW.R.bind] at h
    obtain ⟨fd, ps, k, sp, F1, hr, hkp, hb, hsp⟩ := g.call hh f ek
    intro pins s I
    refine wpAny_Call_Name_kw (ld_glob I (gl_ok g hx) hu ?_ k1)
    refine PySem.W.callWith_K0 I.kIn hkp ?_
    exact run_fnS (vs := []) (E := WE Wx) F1 (hr.mono (Nat.le_succ _)) hb (L2N.passAt g.tk τ) I .nil (hsp m B F ρ S G H [] [] Q (WE Wx τ) R .nil h)
/-- a lambda is run -/
theorem run_lam {m : Bool} {k : Nat} {F G H : Hp} {ρ : Nat → Addr} {S : Sto} {us : List U} {vs : List V} {Q : VK} {l : LamW} {f c : Addr} {pins : List (Addr × Obj)} {τ : L2.St} {s : Shared} {args : List Value} (L : LamOk W E X k) (tk : L2N.Takes X Wx) (I : Inv X pins τ H s) (R : Rel W B F ρ S G H) (rv : RVs W B F ρ S.length us vs)
    (ra : Vals vs args) (hl : W.lm k l) (hf : F f = some (LamO f l [] c)) (hc : F c = some (LamX.CodeO c l.qual)) (h : Po W B (RV W B) (XWof W Wx τ) (E.call m k us S) F ρ S G Q) : wpAny (model X.prog X.w) X.A (call (.ref f) args) (EP X pins τ Q) X.xe s := by
  refine wpAny_call (codeAny_mono (L m B F ρ S G H us vs Q (WE Wx τ) l f c X.stack s args I.env0 R rv ra hl hf hc h) fun r s' hq => ?_)
  match r, hq with
  | .error e, hq => exact L2N.passAt tk τ pins H s e s' I hq
  | .ok (.ret u), hq => exact I.after hq
  | .ok .next, hq => exact hq.elim
  | .ok .brk, hq => exact hq.elim
  | .ok .cont, hq => exact hq.elim
/-- the object of a lambda that is known -/
theorem lamO_fn {F G H : Hp} {ρ : Nat → Addr} {S : Sto} {f c : Addr} {L : LamW} {cl : List (Str × Addr)} {pins : List (Addr × Obj)} {τ : L2.St} {s : Shared} (I : Inv X pins τ H s) (R : Rel W B F ρ S G H) (hf : F f = some (LamO f L cl c)) : PySem.W.FnAt f s.heap := by
  obtain ⟨⟨pm, ctv, e⟩, _, _⟩ := I.hok f _ (R.sub _ _ hf)
  exact ⟨_, _, _, _, e⟩
/-- a def, or a lambda, that a name of the def's own holds -/
theorem se_callV {m : Bool} {i : Nat} {x : Str} (g : GX C W E ξ Wx X) (hh : C.hot = false) (hN : C.N[i]? = some x) (hv : visB C.sc x = true) (hk : okN x = true) (hp : plainL (ea :: es) = true) (ha : SL W B E ξ Wx X (ea :: es) a) :
    SE W B E ξ Wx X (.Call (.Name x p1) (ea :: es) [] pos) (.callV m i a) := by
  intro σ S F ρ G H τ Q R ro h
  obtain ⟨k1, k2, k3⟩ := okN_ok hk
  have hp' := hp
  unfold plainL at hp'
  rw [List.all_cons, Bool.and_eq_true] at hp'
  rw [evE] at h
  split at h
  · rename_i f e
    cases ek : E.okf f with
    | false => rw [ek] at h; exact h.elim
    | true =>
      rw [ek] at h
      obtain ⟨fd, ps, k, sp, F1, hr, hkp, hb, hsp⟩ := g.call hh f ek
      obtain ⟨v, hv1, hv2⟩ := ro.ro.get i _ e
      cases hv2
      intro pins s I
      refine wpAny_Call_Name_kw (thn ((pe_var (pos := p1) (i := i) (by rw [g.N]; exact hN) (by rw [g.sc]; exact visB_ok hv) k1 k2).run pins s τ H (fun v H1 => v = .ref (W.fn f) ∧ H1 = H) I ⟨_, hv1, rfl, rfl⟩) fun u s1 ⟨v, H1, I1, r1, q1, q2⟩ => ?_)
      subst q1 q2
      cases r1
      have hA := (pA (X := X) (ea :: es)).run pos pins s1 τ H1 (fun vs H2 => sp vs H2 Q (WE Wx τ)) I1 (ha σ S F ρ G H1 τ _ R ro (h.bind (RA := RVs W B) fun us S1 F1 ρ1 H2 vs st1 R1 r1 h1 => hsp m B F1 ρ1 S1 G H2 us vs Q (WE Wx τ) R1 r1 h1))
      refine PySem.W.callWith_K (h₀ := X.base) I.ok.mod.kin hkp (thn hA fun us s2 ⟨vs, H2, I2, r, q⟩ => ⟨I2.kIn, ?_⟩) (plain_star hp'.1 es X.env) (plain_any hp'.2)
      exact run_fnS (E := WE Wx) F1 (hr.mono (Nat.le_succ _)) hb (L2N.passAt g.tk τ) I2 r q
  · rename_i k cs e
    cases ek : E.okl k with
    | false => rw [ek] at h; exact h.elim
    | true =>
      rw [ek] at h
      obtain ⟨v, hv1, hv2⟩ := ro.ro.get i _ e
      cases hv2 with
      | @clo f c _ l hw hf hc =>
      have h : Po W B (RV W B) (XWof W Wx τ) ((evL E σ a S).bind fun us S1 => E.call m k (us ++ []) S1) F ρ S G Q := h
      simp only [List.append_nil] at h
      intro pins s I
      refine wpAny_Call_Name_kw (thn ((pe_var (pos := p1) (i := i) (by rw [g.N]; exact hN) (by rw [g.sc]; exact visB_ok hv) k1 k2).run pins s τ H (fun v H1 => v = .ref f ∧ H1 = H) I ⟨_, hv1, rfl, rfl⟩) fun u s1 ⟨v, H1, I1, r1, q1, q2⟩ => ?_)
      subst q1 q2
      cases r1
      have hA := (pA (X := X) (ea :: es)).run pos pins s1 τ H1 (fun vs H2 => ∃ us S1 F1 ρ1, Rel W B F1 ρ1 S1 G H2 ∧ RVs W B F1 ρ1 S1.length us vs ∧ Stp F ρ S F1 ρ1 S1 ∧ Po W B (RV W B) (XWof W Wx τ) (E.call m k us S1) F1 ρ1 S1 G Q) I1 (ha σ S F ρ G H1 τ _ R ro (h.bind (RA := RVs W B) fun us S1 F1 ρ1 H2 vs st1 R1 r1 h1 => ⟨us, S1, F1, ρ1, R1, r1, st1, h1⟩))
      refine PySem.W.callWith_F (lamO_fn I1 R hf) (thn hA fun args s2 ⟨vs, H2, I2, ra, us, S1, F1, ρ1, R1, r1, st1, h1⟩ => ⟨lamO_fn I2 R1 (st1.f _ _ hf), ?_⟩) (plain_star hp'.1 es X.env) (plain_any hp'.2)
      exact run_lam (g.lam hh k ek) g.tk I2 R1 r1 ra hw (st1.f _ _ hf) (st1.f _ _ hc) h1
  · exact h.elim
/-- the same without arguments -/
theorem se_callV0 {m : Bool} {i : Nat} {x : Str} (g : GX C W E ξ Wx X) (hh : C.hot = false) (hN : C.N[i]? = some x) (hv : visB C.sc x = true) (hk : okN x = true) : SE W B E ξ Wx X (.Call (.Name x p1) [] [] pos) (.callV m i .nil) := by
  intro σ S F ρ G H τ Q R ro h
  obtain ⟨k1, k2, k3⟩ := okN_ok hk
  rw [evE] at h
  split at h
  · rename_i f e
    cases ek : E.okf f with
    | false => rw [ek] at h; exact h.elim
    | true =>
      rw [ek] at h
      simp only [evL, TW.R.bind] at h
      obtain ⟨fd, ps, k, sp, F1, hr, hkp, hb, hsp⟩ := g.call hh f ek
      obtain ⟨v, hv1, hv2⟩ := ro.ro.get i _ e
      cases hv2
      intro pins s I
      refine wpAny_Call_Name_kw (thn ((pe_var (pos := p1) (i := i) (by rw [g.N]; exact hN) (by rw [g.sc]; exact visB_ok hv) k1 k2).run pins s τ H (fun v H1 => v = .ref (W.fn f) ∧ H1 = H) I ⟨_, hv1, rfl, rfl⟩) fun u s1 ⟨v, H1, I1, r1, q1, q2⟩ => ?_)
      subst q1 q2
      cases r1
      refine PySem.W.callWith_K0 I1.kIn hkp ?_
      exact run_fnS (vs := []) (E := WE Wx) F1 (hr.mono (Nat.le_succ _)) hb (L2N.passAt g.tk τ) I1 .nil (hsp m B F ρ S G H1 [] [] Q (WE Wx τ) R .nil h)
  · rename_i k cs e
    cases ek : E.okl k with
    | false => rw [ek] at h; exact h.elim
    | true =>
      rw [ek] at h
      obtain ⟨v, hv1, hv2⟩ := ro.ro.get i _ e
      cases hv2 with
      | @clo f c _ l hw hf hc =>
      simp only [evL, TW.R.bind] at h
      intro pins s I
      refine wpAny_Call_Name_kw (thn ((pe_var (pos := p1) (i := i) (by rw [g.N]; exact hN) (by rw [g.sc]; exact visB_ok hv) k1 k2).run pins s τ H (fun v H1 => v = .ref f ∧ H1 = H) I ⟨_, hv1, rfl, rfl⟩) fun u s1 ⟨v, H1, I1, r1, q1, q2⟩ => ?_)
      subst q1 q2
      cases r1
      exact PySem.W.callWith_F0 (lamO_fn I1 R hf) (run_lam (g.lam hh k ek) g.tk I1 R .nil .nil hw hf hc h)
  · exact h.elim
/-! ### isinstance of the error that is handled -/
theorem se_isE {i : Nat} {u : U} {v : V} {x : Str} (g : GX C W E ξ Wx X) (hb : bnB C "isinstance" = true) (hN : C.N[i]? = some x) (hv : visB C.sc x = true) (hk : okN x = true) (hp : plainX eb = true)
    (he : PE X eb (tC v)) (hu : (∃ j, u = .cls j ∧ v = .ref (W.cl j)) ∨ (u = .ty .valErr ∧ v = .ty "ValueError")) : SE W B E ξ Wx X (.Call (.Name "isinstance" p1) [.Name x p2, eb] [] pos) (.isE i u) := by
  intro σ S F ρ G H τ Q R ro h
  obtain ⟨hg, hm⟩ := bn_ok g hb
  obtain ⟨k1, k2, k3⟩ := okN_ok hk
  rw [evE] at h
  split at h
  · rename_i j k e
    split at h
    · rename_i hij
      subst hij
      obtain ⟨a, e1, _, cr⟩ := g.hx i k e
      have ht := ro.hx i a e1
      obtain ⟨t, et, h2⟩ := h.opt
      cases ei : isiX E.P k u with
      | none => rw [ei] at et; cases et
      | some t' =>
        rw [ei] at et
        cases et
        refine eTo (pe_callB cr hg hm boot_isinstance (pa_cons (pe_var (i := i) (by rw [g.N]; exact hN) (by rw [g.sc]; exact visB_ok hv) k1 k2) (pa_cons he pa_nil (plain_star hp [] X.env)) (plain_star rfl [eb] X.env)) (he := plain_star rfl [eb] X.env) (hpl := plain_any (by unfold plainL; simp [hp]))) ?_
        refine ⟨_, ht, ?_⟩
        have h3 := h2.here R (.bl t')
        rcases hu with ⟨j, rfl, rfl⟩ | ⟨rfl, rfl⟩
        · unfold isiX at ei
          dsimp only at ei
          split at ei
          · rename_i hj
            cases ei
            simp only [Bool.and_eq_true] at hj
            rw [g.K]
            exact ⟨_, _, _, rfl, fun u r => r, g.kf.sub k j hj.2.1 hj.1, h3⟩
          · cases ei
        · unfold isiX at ei
          dsimp only at ei
          split at ei
          · rename_i hj
            cases ei
            simp only [Bool.and_eq_true] at hj
            rw [g.K]
            exact ⟨_, _, _, rfl, fun u r => r, g.kf.exv k hj.1 hj.2, h3⟩
          · cases ei
    · exact h.elim
  · exact h.elim
end
end TW
/-! TWJ -/
set_option Elab.async false
set_option linter.all false
set_option maxRecDepth 100000
namespace TW
open PySem PySem.Spec PyProof.Rows L2
/-! ### targets -/
def IT.slots : IT → List Nat
  | .nm i => [i]
  | .tp l => l.slots
  | .nil => []
  | .cons a l => a.slots ++ l.slots
section
variable {C : CC} {W : Wd} {B : Hp} {E : Env} {ξ : Option (Nat × Addr)} {Wx : WX} {X : Cx} {ea eb ec ed : Expr} {es : List Expr} {a b c d : IE} {pos apos p1 p2 p3 : Pos}
theorem PG.or {tg : Expr} {g g' : TG} (h : PG X tg g) (h' : PG X tg g') : PG X tg (fun v σ H Q => g v σ H Q ∨ g' v σ H Q) :=
  ⟨fun pins s σ H v u Q I r q => q.elim (h.run pins s σ H v u Q I r) (h'.run pins s σ H v u Q I r)⟩
/-- a target takes what the interpreter binds -/
def SG (W : Wd) (B : Hp) (ξ : Option (Nat × Addr)) (X : Cx) (tg : Expr) (it : IT) : Prop := ∃ g : TG, PG X tg g ∧ ∀ (σ σ' : Sl) (τ : L2.St) (S : Sto) (F : Hp) (ρ : Nat → Addr) (G H : Hp) (u : U) (v : V) (Q : L2.St → Hp → Prop), Rel W B F ρ S G H → RX W B F ρ S.length ξ σ τ →
  RV W B F ρ S.length u v → bindT S it [u] σ = some σ' → (∀ τ', RX W B F ρ S.length ξ σ' τ' → (∀ vs, (∀ i ∈ it.slots, i ∈ vs) → L2.wipe τ' vs = L2.wipe τ vs) → Q τ' H) → g v τ H Q
def SGs (W : Wd) (B : Hp) (ξ : Option (Nat × Addr)) (X : Cx) (tgs : List Expr) (it : IT) : Prop := ∃ g : TGs, PGs X tgs g ∧ (assignEach tgs X.env).findIdx? (·.1) = none ∧ (assignEach tgs X.env).length = tgs.length ∧
  (∀ S us σ σ', bindT S it us σ = some σ' → us.length = tgs.length) ∧
  ∀ (σ σ' : Sl) (τ : L2.St) (S : Sto) (F : Hp) (ρ : Nat → Addr) (G H : Hp) (us : List U) (vs : List V) (Q : L2.St → Hp → Prop), Rel W B F ρ S G H → RX W B F ρ S.length ξ σ τ →
  RVs W B F ρ S.length us vs → bindT S it us σ = some σ' → (∀ τ', RX W B F ρ S.length ξ σ' τ' → (∀ vs, (∀ i ∈ it.slots, i ∈ vs) → L2.wipe τ' vs = L2.wipe τ vs) → Q τ' H) → g vs τ H Q
theorem set_wipe {τ : L2.St} {i : Nat} {o : Option V} : ∀ {vs : List Nat}, i ∈ vs → L2.wipe (τ.set i o) vs = L2.wipe τ vs
  | [], h => by simp at h
  | v :: vs, h => by
    rw [L2.wipe, L2.wipe]
    by_cases hv : i ∈ vs
    · rw [set_wipe hv]
    · rcases List.mem_cons.mp h with e | e
      · subst e
        have : ∀ (ws : List Nat), (L2.wipe (τ.set i o) ws).set i none = (L2.wipe τ ws).set i none := by
          intro ws
          induction ws with
          | nil => rw [L2.wipe, L2.wipe, List.set_set]
          | cons w ws ih =>
            rw [L2.wipe, L2.wipe]
            by_cases e : w = i
            · subst e
              rw [List.set_set, List.set_set]
              exact ih
            · rw [List.set_comm _ _ e, List.set_comm _ _ e, ih]
        exact this vs
      · exact absurd e hv
theorem RX.set {F : Hp} {ρ : Nat → Addr} {n i : Nat} {σ : Sl} {τ : L2.St} {u : U} {v : V} (r : RX W B F ρ n ξ σ τ) (h : RV W B F ρ n u v) (hi : ∀ j a, ξ = some (j, a) → j ≠ i) : RX W B F ρ n ξ (σ.set i (some u)) (τ.set i (some v)) :=
  ⟨r.ro.set h i, fun j a e => by rw [List.getElem?_set_ne (Ne.symm (hi j a e))]; exact r.hx j a e⟩
theorem sg_nm (g : GX C W E ξ Wx X) {i : Nat} {x : Str} (hN : C.N[i]? = some x) (hx : locB C.own x = true) (hn : C.no ≠ some i) : SG W B ξ X (.Name x pos) (.nm i) := by
  have hl := g.fn x (locB_ok hx)
  refine ⟨gName i, pg_name (i := i) g.nd (by rw [g.N]; exact hN) hl.1 hl.2, fun σ σ' τ S F ρ G H u v Q R ro r e q => ?_⟩
  simp only [bindT] at e
  cases e
  exact q _ (ro.set r fun j a z e => hn (by rw [← e]; exact g.xn j a z)) fun vs hv => set_wipe (hv i (by simp [IT.slots]))
theorem sgs_nil : SGs W B ξ X [] .nil := by
  refine ⟨gNil, pgs_nil, rfl, rfl, fun S us σ σ' e => ?_, fun σ σ' τ S F ρ G H us vs Q R ro r e q => ?_⟩
  · match us, e with
    | [], _ => rfl
    | _ :: _, e => simp [bindT] at e
  · match us, r, e with
    | [], r, e =>
      cases r
      simp only [bindT] at e
      cases e
      exact ⟨rfl, q τ ro fun _ _ => rfl⟩
    | _ :: _, _, e => simp [bindT] at e
theorem plain_asg {t : Expr} (h : plainX t = true) (rest : List Expr) (env : PySem.Env) : assignEach (t :: rest) env = (false, assign t env) :: assignEach rest env := by
  cases t <;> first | rfl | cases h
theorem sgs_cons {tg : Expr} {tgs : List Expr} {t l : IT} (hp : plainX tg = true) (h1 : SG W B ξ X tg t) (h2 : SGs W B ξ X tgs l) : SGs W B ξ X (tg :: tgs) (.cons t l) := by
  obtain ⟨g, pg, k⟩ := h1
  obtain ⟨gs, pgs, e1, e2, len, ks⟩ := h2
  have pa := plain_asg hp tgs X.env
  refine ⟨gCons g gs, pgs_cons pg pgs (by rw [pa]; rfl), ?_, by rw [pa, List.length_cons, e2, List.length_cons], fun S us σ σ' e => ?_, fun σ σ' τ S F ρ G H us vs Q R ro r e q => ?_⟩
  · rw [pa, List.findIdx?_cons, e1]
    rfl
  · match us, e with
    | [], e => simp [bindT] at e
    | u :: us, e =>
      simp only [bindT] at e
      split at e
      · rw [List.length_cons, List.length_cons, len _ _ _ _ e]
      · cases e
  · match us, r, e with
    | [], _, e => simp [bindT] at e
    | u :: us, r, e =>
      cases r with
      | cons r1 r2 =>
        simp only [bindT] at e
        split at e
        · rename_i σ1 eb
          refine ⟨_, _, rfl, ?_⟩
          refine k σ σ1 τ S F ρ G H u _ _ R ro r1 eb fun τ1 ro1 w1 => ?_
          refine ks σ1 σ' τ1 S F ρ G H us _ Q R ro1 r2 e fun τ' ro' w' => ?_
          refine q τ' ro' fun vs hv => ?_
          rw [w' vs fun i hi => hv i (by simp [IT.slots, hi]), w1 vs fun i hi => hv i (by simp [IT.slots, hi])]
        · cases e
theorem sg_tp {tgs : List Expr} {l : IT} {k : Nat} (g : GX C W E ξ Wx X) (hh : C.hot = false) (h : SGs W B ξ X tgs l) : SG W B ξ X (.Tuple tgs k pos) (.tp l) := by
  obtain ⟨gs, pgs, e1, e2, len, ks⟩ := h
  refine ⟨_, PG.or (pg_tup (g.calm hh) pgs e2 e1) (pg_unl (g.calm hh) pgs e2 e1), fun σ σ' τ S F ρ G H u v Q R ro r e q => ?_⟩
  have key : ∀ us vs, RVs W B F ρ S.length us vs → bindT S l us σ = some σ' → vs.length = tgs.length ∧ gs vs τ H Q := fun us vs rs eb =>
    ⟨by rw [← rs.length]; exact len _ _ _ _ eb, ks σ σ' τ S F ρ G H us vs Q R ro rs eb fun τ' ro' w' => q τ' ro' fun vs hv => w' vs hv⟩
  cases r with
  | tup h1 h2 h3 =>
    simp only [bindT] at e
    obtain ⟨k1, k2⟩ := key _ _ h3 e
    exact .inl ⟨_, _, rfl, SqT.of (R.sub _ _ h1), k1, k2⟩
  | fl h1 h2 h3 =>
    simp only [bindT] at e
    obtain ⟨k1, k2⟩ := key _ _ h3 e
    exact .inr ⟨_, _, rfl, SqL.of (R.sub _ _ h1), k1, k2⟩
  | bo h1 h2 h3 =>
    simp only [bindT] at e
    obtain ⟨k1, k2⟩ := key _ _ h3 e
    exact .inr ⟨_, _, rfl, SqL.of (R.bH _ _ h1), k1, k2⟩
  | @ref m hm =>
    simp only [bindT] at e
    split at e
    · rename_i us em
      obtain ⟨vs, c1, c2, c3⟩ := R.cell m _ em
      obtain ⟨k1, k2⟩ := key _ _ c3 e
      exact .inr ⟨_, _, rfl, SqL.of c1, k1, k2⟩
    · cases e
  | _ => simp [bindT] at e
/-! ### what is walked -/
/-- the store has only grown -/
def Ext (S S1 : Sto) : Prop := ∃ T, S1 = S ++ T
theorem Ext.refl {S : Sto} : Ext S S := ⟨[], (List.append_nil S).symm⟩
theorem Ext.trans {S S1 S2 : Sto} (h : Ext S S1) (k : Ext S1 S2) : Ext S S2 := by
  obtain ⟨T, rfl⟩ := h
  obtain ⟨U, rfl⟩ := k
  exact ⟨T ++ U, List.append_assoc ..⟩
/-- J gives the items us, as long as the list that is walked stands -/
def WalkOk (W : Wd) (B : Hp) (q : Bool) (us : List U) (F : Hp) (ρ : Nat → Addr) (S : Sto) (J : It) : Prop := us.length ≤ top ∧ ∃ (Gd : Hp → Prop) (Y : Nat → Hp → V → Hp → Prop), Walk J us.length Gd Y ∧
  ∀ (F1 : Hp) (ρ1 : Nat → Addr) (S1 : Sto) (G1 H1 : Hp), Stp F ρ S F1 ρ1 S1 → Rel W B F1 ρ1 S1 G1 H1 → (q = true → Ext S S1) → Gd H1 ∧
    ∀ (i : Nat) (x : V) (H2 : Hp) (u : U), us[i]? = some u → Y i H1 x H2 → ∃ F2, Stp F1 ρ1 S1 F2 ρ1 S1 ∧ Rel W B F2 ρ1 S1 G1 H2 ∧ RV W B F2 ρ1 S1.length u x
def PoI (W : Wd) (B : Hp) (q : Bool) (XW : Nat → Hp → Prop) (r : R (List U)) (F : Hp) (ρ : Nat → Addr) (S : Sto) (G : Hp) (Q : It → Hp → Prop) : Prop :=
  match r with
  | .ok us S' => ∀ F' ρ' H' J, Stp F ρ S F' ρ' S' → Rel W B F' ρ' S' G H' → WalkOk W B q us F' ρ' S' J → Q J H'
  | .ex c S' => ∀ F' ρ' H', Stp F ρ S F' ρ' S' → Rel W B F' ρ' S' G H' → XW c H'
  | .bad => False
theorem PoI.mono {q : Bool} {XW : Nat → Hp → Prop} {r : R (List U)} {F F1 G : Hp} {ρ ρ1 : Nat → Addr} {S S1 : Sto} {Q : It → Hp → Prop} (h : PoI W B q XW r F ρ S G Q) (s : Stp F ρ S F1 ρ1 S1) : PoI W B q XW r F1 ρ1 S1 G Q := by
  cases r with
  | ok a S' => exact fun F' ρ' H' J st R w => h F' ρ' H' J (s.trans st) R w
  | ex c S' => exact fun F' ρ' H' st R => h F' ρ' H' (s.trans st) R
  | bad => exact h
theorem PoI.bind {α β : Type} {RA : Hp → (Nat → Addr) → Nat → α → β → Prop} {q : Bool} {XW : Nat → Hp → Prop} {r : R α} {k : α → Sto → R (List U)} {F G : Hp} {ρ : Nat → Addr} {S : Sto} {Q : It → Hp → Prop} {Q1 : β → Hp → Prop} (h : PoI W B q XW (r.bind k) F ρ S G Q)
    (hk : ∀ a S1 F1 ρ1 H1 b, Stp F ρ S F1 ρ1 S1 → Rel W B F1 ρ1 S1 G H1 → RA F1 ρ1 S1.length a b → PoI W B q XW (k a S1) F1 ρ1 S1 G Q → Q1 b H1) : Po W B RA XW r F ρ S G Q1 := by
  cases r with
  | ok a S' => exact fun F' ρ' H' b st R r => hk a S' F' ρ' H' b st R r (PoI.mono h st)
  | ex c S' => exact h
  | bad => exact h
theorem PoI.opt {q : Bool} {XW : Nat → Hp → Prop} {o : Option (List U)} {F G : Hp} {ρ : Nat → Addr} {S S1 : Sto} {Q : It → Hp → Prop} (h : PoI W B q XW (.opt o S1) F ρ S G Q) : ∃ a, o = some a ∧ PoI W B q XW (.ok a S1) F ρ S G Q := by
  cases o with
  | none => exact h.elim
  | some a => exact ⟨a, rfl, h⟩
theorem PoI.here {q : Bool} {XW : Nat → Hp → Prop} {us : List U} {F G H : Hp} {ρ : Nat → Addr} {S : Sto} {Q : It → Hp → Prop} {J : It} (h : PoI W B q XW (.ok us S) F ρ S G Q) (R : Rel W B F ρ S G H) (w : WalkOk W B q us F ρ S J) : Q J H := h F ρ H J Stp.refl R w
def SI (W : Wd) (B : Hp) (E : Env) (ξ : Option (Nat × Addr)) (Wx : WX) (X : Cx) (tg iter : Expr) (ie : IE) : Prop := ∃ wi : TI, PI X tg iter wi ∧ ∀ (σ : Sl) (S : Sto) (F : Hp) (ρ : Nat → Addr) (G H : Hp) (τ : L2.St) (Q : It → Hp → Prop), Rel W B F ρ S G H → RX W B F ρ S.length ξ σ τ →
  PoI W B ie.isQ (XWof W Wx τ) (evI E σ ie S) F ρ S G Q → wi τ H Q
/-- a list, as it stands at each turn -/
theorem walk_dyn {K : PySem.W.Frag} {a : Addr} {n : Nat} : Walk (Itl K a) n (fun H => ∃ vs, SqL K H a vs ∧ vs.length = n) (fun i H x H' => H' = H ∧ ∀ vs, SqL K H a vs → vs[i]? = some x) :=
  ⟨fun i H hi ⟨vs, q, e⟩ => ⟨vs, vs[i]'(by omega), q, by simp [show i < vs.length by omega]⟩, fun H ⟨vs, q, e⟩ => ⟨vs, q, by omega⟩, fun _ _ _ _ _ _ y => y⟩
theorem walk_dynT {K : PySem.W.Frag} {a : Addr} {n : Nat} : Walk (Itt K a) n (fun H => ∃ vs, SqT K H a vs ∧ vs.length = n) (fun i H x H' => H' = H ∧ ∀ vs, SqT K H a vs → vs[i]? = some x) :=
  ⟨fun i H hi ⟨vs, q, e⟩ => ⟨vs, vs[i]'(by omega), q, by simp [show i < vs.length by omega]⟩, fun H ⟨vs, q, e⟩ => ⟨vs, q, by omega⟩, fun _ _ _ _ _ _ y => y⟩
theorem walk_dynE {K : PySem.W.Frag} {a : Addr} {n : Nat} : Walk (Ite K a) n (fun H => ∃ vs, SqL K H a vs ∧ vs.length = n) (fun i H v H' => ∃ T x, v = .ref T ∧ H T = none ∧ H' = upd H T (.tup [.int (i : Nat), x]) ∧ ∀ xs, SqL K H a xs → xs[i]? = some x) :=
  ⟨fun i H hi ⟨vs, q, e⟩ => ⟨vs, vs[i]'(by omega), q, by simp [show i < vs.length by omega]⟩, fun H ⟨vs, q, e⟩ => ⟨vs, q, by omega⟩, fun _ _ _ _ _ _ y => y⟩
theorem rdL_stays {F F1 : Hp} {ρ ρ1 : Nat → Addr} {S S1 : Sto} {u : U} {v : V} {us : List U} {G1 H1 : Hp} (h : rdL S u = some us) (r : RV W B F ρ S.length u v) (hq : Ext S S1 ∨ ∀ n, u ≠ .ref n) (st : Stp F ρ S F1 ρ1 S1) (R1 : Rel W B F1 ρ1 S1 G1 H1) :
    ∃ a vs, v = .ref a ∧ SqL W.K H1 a vs ∧ RVs W B F1 ρ1 S1.length us vs := by
  have h1 : rdL S1 u = some us := by
    rcases hq with ⟨T, rfl⟩ | hq
    · cases u with
      | ref n =>
        have h : (match S[n]? with | some (.lst us) => some us | _ => none) = some us := h
        show (match (S ++ T)[n]? with | some (.lst us) => some us | _ => none) = some us
        cases e : S[n]? with
        | none => rw [e] at h; cases h
        | some o =>
          rw [e] at h
          rw [List.getElem?_append_left (List.getElem?_eq_some_iff.mp e).1, e]
          exact h
      | _ => exact h
    · cases u <;> first | exact h | exact absurd rfl (hq _)
  obtain ⟨a, vs, e, q, _, rs⟩ := rdL_ok R1 h1 (st.rv r)
  exact ⟨a, vs, e, q, rs⟩
theorem wok_list {q : Bool} {F : Hp} {ρ : Nat → Addr} {S : Sto} {u : U} {a : Addr} {us : List U} (hl : us.length ≤ top) (h : rdL S u = some us) (r : RV W B F ρ S.length u (.ref a)) (hq : q = true ∨ ∀ n, u ≠ .ref n) : WalkOk W B q us F ρ S (Itl W.K a) := by
  refine ⟨hl, _, _, walk_dyn, fun F1 ρ1 S1 G1 H1 st R1 hS => ?_⟩
  obtain ⟨a', vs, e, hs, rs⟩ := rdL_stays h r (hq.imp (fun z => hS z) id) st R1
  cases e
  refine ⟨⟨vs, hs, rs.length.symm⟩, fun i x H2 w hw y => ?_⟩
  obtain ⟨e, y⟩ := y
  subst e
  obtain ⟨v, hv, rv⟩ := rs.get hw
  have := y vs hs
  rw [hv] at this
  cases this
  exact ⟨F1, Stp.refl, R1, rv⟩
theorem si_wQ (g : GX C W E ξ Wx X) {tg : Expr} (ha : SE W B E ξ Wx X ea a) : SI W B E ξ Wx X tg ea (.wQ a) := by
  refine ⟨_, pi_list (pE ea), fun σ S F ρ G H τ Q R ro h => ?_⟩
  rw [evI] at h
  refine ha σ S F ρ G H τ _ R ro (h.bind (RA := RV W B) fun x S1 F1 ρ1 H1 v st1 R1 r1 h1 => ?_)
  obtain ⟨us, e, h2⟩ := h1.opt
  obtain ⟨p, vs, rfl, hq, hl, rs⟩ := rdL_ok R1 e r1
  rw [g.K]
  exact ⟨p, rfl, ⟨vs, hq⟩, h2.here R1 (wok_list hl e r1 (.inl rfl))⟩
theorem si_wL (g : GX C W E ξ Wx X) {tg : Expr} (ha : SE W B E ξ Wx X ea a) : SI W B E ξ Wx X tg ea (.wL a) := by
  refine ⟨_, pi_list (pE ea), fun σ S F ρ G H τ Q R ro h => ?_⟩
  rw [evI] at h
  refine ha σ S F ρ G H τ _ R ro (h.bind (RA := RV W B) fun x S1 F1 ρ1 H1 v st1 R1 r1 h1 => ?_)
  have key : ∀ us, rdL S1 x = some us → (∀ n, x ≠ .ref n) → PoI W B false (XWof W Wx τ) (.ok us S1) F1 ρ1 S1 G Q → ∃ a, v = .ref a ∧ (∃ xs, SqL X.K H1 a xs) ∧ Q (Itl X.K a) H1 := by
    intro us e hn h2
    obtain ⟨p, vs, rfl, hq, hl, rs⟩ := rdL_ok R1 e r1
    rw [g.K]
    exact ⟨p, rfl, ⟨vs, hq⟩, h2.here R1 (wok_list hl e r1 (.inr hn))⟩
  cases x with
  | fl us => exact key us rfl (fun n z => nomatch z) h1
  | sc us => exact key us rfl (fun n z => nomatch z) h1
  | bo us => exact key us rfl (fun n z => nomatch z) h1
  | _ => exact h1.elim
theorem si_wT (g : GX C W E ξ Wx X) {tg : Expr} (ha : SE W B E ξ Wx X ea a) : SI W B E ξ Wx X tg ea (.wT a) := by
  refine ⟨_, pi_tup (pE ea), fun σ S F ρ G H τ Q R ro h => ?_⟩
  rw [evI] at h
  refine ha σ S F ρ G H τ _ R ro (h.bind (RA := RV W B) fun x S1 F1 ρ1 H1 v st1 R1 r1 h1 => ?_)
  cases r1 with
  | tup k1 k2 k3 =>
    rw [g.K]
    refine ⟨_, rfl, ⟨_, SqT.of (R1.sub _ _ k1)⟩, h1.here R1 ⟨k2, _, _, walk_dynT, fun F2 ρ2 S2 G2 H2 st R2 hS => ?_⟩⟩
    have hs : SqT W.K H2 _ _ := SqT.of (R2.sub _ _ (st.f _ _ k1))
    have rs := st.rvs k3
    refine ⟨⟨_, hs, rs.length.symm⟩, fun i x H3 w hw y => ?_⟩
    obtain ⟨e, y⟩ := y
    subst e
    obtain ⟨v, hv, rv⟩ := rs.get hw
    have := y _ hs
    rw [hv] at this
    cases this
    exact ⟨F2, Stp.refl, R2, rv⟩
  | _ => exact h1.elim
theorem rangeU_get (lo c : Int) : ∀ (n i : Nat) (u : U), (rangeU lo c n)[i]? = some u → u = .int (lo + i * c)
  | 0, i, u, h => by simp [rangeU] at h
  | n + 1, 0, u, h => by simp [rangeU] at h; rw [← h]; simp
  | n + 1, i + 1, u, h => by
    rw [rangeU, List.getElem?_cons_succ] at h
    have := rangeU_get (lo + c) c n i u h
    rw [this]
    congr 1
    rw [Int.natCast_add, Int.add_mul]
    omega
theorem rangeU_len (lo c : Int) : ∀ n : Nat, (rangeU lo c n).length = n
  | 0 => rfl
  | n + 1 => by rw [rangeU, List.length_cons, rangeU_len (lo + c) c n]
theorem wok_range {q : Bool} {F : Hp} {ρ : Nat → Addr} {S : Sto} {lo : Int} {n : Nat} (hn : n ≤ top) : WalkOk W B q (rangeU lo 1 n) F ρ S (Itr lo n) := by
  refine ⟨by rw [rangeU_len]; exact hn, _, _, by rw [rangeU_len]; exact walk_range, fun F1 ρ1 S1 G1 H1 st R1 hS => ⟨trivial, fun i x H2 u hu y => ?_⟩⟩
  obtain ⟨e, y⟩ := y
  subst e y
  rw [rangeU_get _ _ _ _ _ hu, Int.mul_one]
  exact ⟨F1, Stp.refl, R1, .int _⟩
theorem si_wR1 (g : GX C W E ξ Wx X) {tg : Expr} (hb : bnB C "range" = true) (hp : plainX ea = true) (ha : SE W B E ξ Wx X ea a) : SI W B E ξ Wx X tg (.Call (.Name "range" p1) [ea] [] pos) (.wR1 a) := by
  obtain ⟨hg, hm⟩ := bn_ok g hb
  refine ⟨_, pi_range1 hg hm (pa_cons (pE ea) pa_nil (plain_star hp [] X.env)) (plain_star hp [] X.env), fun σ S F ρ G H τ Q R ro h => ?_⟩
  rw [evI] at h
  refine ha σ S F ρ G H τ _ R ro (h.bind (RA := RV W B) fun x S1 F1 ρ1 H1 v st1 R1 r1 h1 => ?_)
  cases r1 with
  | int n =>
    dsimp only at h1
    split at h1
    · rename_i hn
      exact ⟨n, rfl, by omega, by omega, h1.here R1 (wok_range (by show n.toNat ≤ 1000000; omega))⟩
    · exact h1.elim
  | _ => exact h1.elim
theorem si_wR2 (g : GX C W E ξ Wx X) {tg : Expr} (hb : bnB C "range" = true) (hp : plainX ea = true) (hp2 : plainX eb = true) (ha : SE W B E ξ Wx X ea a) (hbb : SE W B E ξ Wx X eb b) : SI W B E ξ Wx X tg (.Call (.Name "range" p1) [ea, eb] [] pos) (.wR2 a b) := by
  obtain ⟨hg, hm⟩ := bn_ok g hb
  have e2 := plain_star hp2 [] X.env
  have e1 := plain_star hp [eb] X.env
  refine ⟨_, pi_range2 hg hm (pa_cons (pE ea) (pa_cons (pE eb) pa_nil e2) e1) (by rw [e1, e2]; rfl) e2, fun σ S F ρ G H τ Q R ro h => ?_⟩
  rw [evI] at h
  refine ha σ S F ρ G H τ _ R ro (h.bind (RA := RV W B) fun x S1 F1 ρ1 H1 v st1 R1 r1 h1 => ?_)
  refine hbb σ S1 F1 ρ1 G H1 τ _ R1 (ro.mono st1) (h1.bind (RA := RV W B) fun y S2 F2 ρ2 H2 w st2 R2 r2 h2 => ?_)
  cases r1 with
  | int l =>
    cases r2 with
    | int n =>
      dsimp only at h2
      split at h2
      · rename_i hn
        exact ⟨l, n, rfl, ⟨by omega, by omega, by omega, by omega⟩, h2.here R2 (wok_range (by show (n - l).toNat ≤ 1000000; omega))⟩
      · exact h2.elim
    | _ => exact h2.elim
  | _ => exact h2.elim
theorem enumU_get : ∀ (k : Nat) (us : List U) (i : Nat) (u : U), (enumU k us)[i]? = some u → ∃ w, us[i]? = some w ∧ u = .tup [.int ((k + i : Nat) : Int), w]
  | k, [], i, u, h => by simp [enumU] at h
  | k, w :: us, 0, u, h => by simp [enumU] at h; exact ⟨w, rfl, h.symm⟩
  | k, w :: us, i + 1, u, h => by
    rw [enumU, List.getElem?_cons_succ] at h
    obtain ⟨z, h1, h2⟩ := enumU_get (k + 1) us i u h
    exact ⟨z, by simpa using h1, by rw [h2]; congr 4; omega⟩
theorem enumU_len : ∀ (k : Nat) (us : List U), (enumU k us).length = us.length
  | _, [] => rfl
  | k, w :: us => by rw [enumU, List.length_cons, enumU_len (k + 1) us, List.length_cons]
theorem si_wEn (g : GX C W E ξ Wx X) {elts : List Expr} {kk : Nat} {tpos : Pos} (hb : bnB C "enumerate" = true) (hp : plainX ea = true) (ha : SE W B E ξ Wx X ea a) : SI W B E ξ Wx X (.Tuple elts kk tpos) (.Call (.Name "enumerate" p1) [ea] [] pos) (.wEn a) := by
  obtain ⟨hg, hm⟩ := bn_ok g hb
  refine ⟨_, pi_enum hg hm (pa_cons (pE ea) pa_nil (plain_star hp [] X.env)) (plain_star hp [] X.env), fun σ S F ρ G H τ Q R ro h => ?_⟩
  rw [evI] at h
  refine ha σ S F ρ G H τ _ R ro (h.bind (RA := RV W B) fun x S1 F1 ρ1 H1 v st1 R1 r1 h1 => ?_)
  have key : ∀ us, rdL S1 x = some us → (∀ n, x ≠ .ref n) → PoI W B false (XWof W Wx τ) (.ok (enumU 0 us) S1) F1 ρ1 S1 G Q → ∃ a xs, [v] = [.ref a] ∧ SqL X.K H1 a xs ∧ Q (Ite X.K a) H1 := by
    intro us e hn h2
    obtain ⟨p, vs, rfl, hq, hl, rs⟩ := rdL_ok R1 e r1
    rw [g.K]
    refine ⟨p, vs, rfl, hq, h2.here R1 ⟨by rw [enumU_len]; exact hl, _, _, by rw [enumU_len]; exact walk_dynE, fun F2 ρ2 S2 G2 H2 st R2 hS => ?_⟩⟩
    obtain ⟨a', vs', e', hs, rs'⟩ := rdL_stays e r1 (.inr hn) st R2
    cases e'
    refine ⟨⟨vs', hs, rs'.length.symm⟩, fun i z H3 w hw y => ?_⟩
    obtain ⟨T, x', rfl, hT, rfl, hy⟩ := y
    obtain ⟨w', hw', rfl⟩ := enumU_get _ _ _ _ hw
    obtain ⟨v', hv', rv'⟩ := rs'.get hw'
    have := hy vs' hs
    rw [hv'] at this
    cases this
    obtain ⟨R3, st3⟩ := R2.froz (o := .tup [.int (i : Nat), x']) hT
    refine ⟨_, st3, R3, .tup upd_same (by show 2 ≤ top; decide) (.cons ?_ (.cons (st3.rv rv') .nil))⟩
    rw [Nat.zero_add]
    exact .int _
  cases x with
  | fl us => exact key us rfl (fun n z => nomatch z) h1
  | sc us => exact key us rfl (fun n z => nomatch z) h1
  | bo us => exact key us rfl (fun n z => nomatch z) h1
  | _ => exact h1.elim
theorem zipU_get : ∀ (us ws : List U) (i : Nat) (u : U), (zipU us ws)[i]? = some u → ∃ x y, us[i]? = some x ∧ ws[i]? = some y ∧ u = .tup [x, y]
  | [], ws, i, u, h => by simp [zipU] at h
  | x :: us, [], i, u, h => by simp [zipU] at h
  | x :: us, y :: ws, 0, u, h => by simp [zipU] at h; exact ⟨x, y, rfl, rfl, h.symm⟩
  | x :: us, y :: ws, i + 1, u, h => by
    rw [zipU, List.getElem?_cons_succ] at h
    obtain ⟨z, z', h1, h2, h3⟩ := zipU_get us ws i u h
    exact ⟨z, z', by simpa using h1, by simpa using h2, h3⟩
theorem zipU_len : ∀ (us ws : List U), (zipU us ws).length = min us.length ws.length
  | [], ws => by simp [zipU]
  | x :: us, [] => by simp [zipU]
  | x :: us, y :: ws => by rw [zipU, List.length_cons, zipU_len us ws, List.length_cons, List.length_cons]; omega
theorem walk_dynZ {K : PySem.W.Frag} {a b : Addr} {n : Nat} : Walk (Itz K a b) n (fun H => ∃ xs ys, SqL K H a xs ∧ SqL K H b ys ∧ n = min xs.length ys.length)
    (fun i H v H' => ∃ T x y, v = .ref T ∧ H T = none ∧ H' = upd H T (.tup [x, y]) ∧ (∀ xs, SqL K H a xs → xs[i]? = some x) ∧ ∀ ys, SqL K H b ys → ys[i]? = some y) :=
  ⟨fun i H hi ⟨xs, ys, q, q', e⟩ => ⟨xs, ys, xs[i]'(by omega), ys[i]'(by omega), q, q', by simp [show i < xs.length by omega], by simp [show i < ys.length by omega]⟩, fun H ⟨xs, ys, q, q', e⟩ => ⟨xs, ys, q, q', by omega⟩, fun _ _ _ _ _ _ y => y⟩
theorem si_wZip (g : GX C W E ξ Wx X) {elts : List Expr} {kk : Nat} {tpos : Pos} (hb : bnB C "zip" = true) (hp : plainX ea = true) (hp2 : plainX eb = true) (ha : SE W B E ξ Wx X ea a) (hbb : SE W B E ξ Wx X eb b) :
    SI W B E ξ Wx X (.Tuple elts kk tpos) (.Call (.Name "zip" p1) [ea, eb] [] pos) (.wZip a b) := by
  obtain ⟨hg, hm⟩ := bn_ok g hb
  have e2 := plain_star hp2 [] X.env
  have e1 := plain_star hp [eb] X.env
  refine ⟨_, pi_zip hg hm (pa_cons (pE ea) (pa_cons (pE eb) pa_nil e2) e1) e1 (plain_any (by unfold plainL; simp [hp2])), fun σ S F ρ G H τ Q R ro h => ?_⟩
  rw [evI] at h
  refine ha σ S F ρ G H τ _ R ro (h.bind (RA := RV W B) fun x S1 F1 ρ1 H1 v st1 R1 r1 h1 => ?_)
  refine hbb σ S1 F1 ρ1 G H1 τ _ R1 (ro.mono st1) (h1.bind (RA := RV W B) fun y S2 F2 ρ2 H2 w st2 R2 r2 h2 => ?_)
  have r1' := st2.rv r1
  cases r1' with
  | @fl pa us vs k1 k2 k3 =>
    cases r2 with
    | @fl pb us' vs' l1 l2 l3 =>
      rw [g.K]
      refine ⟨pa, pb, vs, vs', rfl, SqL.of (R2.sub _ _ k1), SqL.of (R2.sub _ _ l1), h2.here R2 ⟨by rw [zipU_len]; omega, _, _, walk_dynZ, fun F3 ρ3 S3 G3 H3 st R3 hS => ?_⟩⟩
      have s1 : SqL W.K H3 pa vs := SqL.of (R3.sub _ _ (st.f _ _ k1))
      have s2 : SqL W.K H3 pb vs' := SqL.of (R3.sub _ _ (st.f _ _ l1))
      refine ⟨⟨vs, vs', s1, s2, by rw [zipU_len, k3.length, l3.length]⟩, fun i z H4 u hu y => ?_⟩
      obtain ⟨T, x, x', rfl, hT, rfl, y1, y2⟩ := y
      obtain ⟨w1, w2, hw1, hw2, rfl⟩ := zipU_get _ _ _ _ hu
      obtain ⟨v1, hv1, rv1⟩ := (st.rvs k3).get hw1
      obtain ⟨v2, hv2, rv2⟩ := (st.rvs l3).get hw2
      have e1 := y1 vs s1
      rw [hv1] at e1
      cases e1
      have e2 := y2 vs' s2
      rw [hv2] at e2
      cases e2
      obtain ⟨R4, st4⟩ := R3.froz (o := .tup [x, x']) hT
      exact ⟨_, st4, R4, .tup upd_same (by show 2 ≤ top; decide) (.cons (st4.rv rv1) (.cons (st4.rv rv2) .nil))⟩
    | _ => exact h2.elim
  | _ => exact h2.elim
end
end TW
/-! TWL -/
set_option Elab.async false
set_option linter.all false
set_option maxRecDepth 100000
namespace TW
open PySem PySem.Spec PyProof.Rows L2
/-! ### what leaves the store as it is -/
theorem bind_ok {α β : Type} {r : R α} {k : α → Sto → R β} {b : β} {S2 : Sto} (h : r.bind k = .ok b S2) : ∃ a S1, r = .ok a S1 ∧ k a S1 = .ok b S2 := by
  cases r with
  | ok a S1 => exact ⟨a, S1, rfl, h⟩
  | ex c S1 => cases h
  | bad => cases h
theorem opt_ok {α : Type} {o : Option α} {S S2 : Sto} {b : α} (h : R.opt o S = .ok b S2) : S2 = S := by
  cases o with
  | none => cases h
  | some a => cases h; rfl
theorem quiet_ext {E : Env} : ∀ ie : IE, ie.quiet = true → (∀ (σ : Sl) S u S', evE E σ ie S = .ok u S' → Ext S S') ∧ (∀ (σ : Sl) S us S', evL E σ ie S = .ok us S' → Ext S S') ∧ (∀ (σ : Sl) S us S', evN E σ ie S = .ok us S' → Ext S S') := by
  intro ie
  induction ie with
  | c u => intro _; exact ⟨fun σ S u S' h => by rw [evE] at h; cases h; exact .refl, fun σ S us S' h => by simp [evL] at h, fun σ S us S' h => by simp [evN] at h⟩
  | g u => intro _; exact ⟨fun σ S u S' h => by rw [evE] at h; cases h; exact .refl, fun σ S us S' h => by simp [evL] at h, fun σ S us S' h => by simp [evN] at h⟩
  | v i =>
    intro _
    refine ⟨fun σ S u S' h => ?_, fun σ S us S' h => by simp [evL] at h, fun σ S us S' h => by simp [evN] at h⟩
    rw [evE] at h
    split at h
    · cases h; exact .refl
    · cases h
  | bin op a b iha ihb =>
    intro q
    rw [IE.quiet, Bool.and_eq_true] at q
    refine ⟨fun σ S u S' h => ?_, fun σ S us S' h => by simp [evL] at h, fun σ S us S' h => by simp [evN] at h⟩
    rw [evE] at h
    obtain ⟨x, S1, h1, h⟩ := bind_ok h
    obtain ⟨y, S2, h2, h⟩ := bind_ok h
    rw [opt_ok h]
    exact ((iha q.1).1 _ _ _ _ h1).trans ((ihb q.2).1 _ _ _ _ h2)
  | neg a iha =>
    intro q
    refine ⟨fun σ S u S' h => ?_, fun σ S us S' h => by simp [evL] at h, fun σ S us S' h => by simp [evN] at h⟩
    rw [evE] at h
    obtain ⟨x, S1, h1, h⟩ := bind_ok h
    cases x <;> first | (cases h; exact (iha q).1 _ _ _ _ h1) | cases h
  | cmp op a b iha ihb =>
    intro q
    rw [IE.quiet, Bool.and_eq_true] at q
    refine ⟨fun σ S u S' h => ?_, fun σ S us S' h => by simp [evL] at h, fun σ S us S' h => by simp [evN] at h⟩
    rw [evE] at h
    obtain ⟨x, S1, h1, h⟩ := bind_ok h
    obtain ⟨y, S2, h2, h⟩ := bind_ok h
    rw [opt_ok h]
    exact ((iha q.1).1 _ _ _ _ h1).trans ((ihb q.2).1 _ _ _ _ h2)
  | chain op op' a b c iha ihb ihc =>
    intro q
    rw [IE.quiet, Bool.and_eq_true, Bool.and_eq_true] at q
    refine ⟨fun σ S u S' h => ?_, fun σ S us S' h => by simp [evL] at h, fun σ S us S' h => by simp [evN] at h⟩
    rw [evE] at h
    obtain ⟨x, S1, h1, h⟩ := bind_ok h
    obtain ⟨y, S2, h2, h⟩ := bind_ok h
    have e : Ext S S2 := ((iha q.1.1).1 _ _ _ _ h1).trans ((ihb q.1.2).1 _ _ _ _ h2)
    split at h
    · obtain ⟨z, S3, h3, h⟩ := bind_ok h
      rw [opt_ok h]
      exact e.trans ((ihc q.2).1 _ _ _ _ h3)
    · cases h; exact e
    · cases h
  | and a b iha ihb =>
    intro q
    rw [IE.quiet, Bool.and_eq_true] at q
    refine ⟨fun σ S u S' h => ?_, fun σ S us S' h => by simp [evL] at h, fun σ S us S' h => by simp [evN] at h⟩
    rw [evE] at h
    obtain ⟨x, S1, h1, h⟩ := bind_ok h
    have e := (iha q.1).1 _ _ _ _ h1
    split at h
    · exact e.trans ((ihb q.2).1 _ _ _ _ h)
    · cases h; exact e
    · cases h
  | or a b iha ihb =>
    intro q
    rw [IE.quiet, Bool.and_eq_true] at q
    refine ⟨fun σ S u S' h => ?_, fun σ S us S' h => by simp [evL] at h, fun σ S us S' h => by simp [evN] at h⟩
    rw [evE] at h
    obtain ⟨x, S1, h1, h⟩ := bind_ok h
    have e := (iha q.1).1 _ _ _ _ h1
    split at h
    · cases h; exact e
    · exact e.trans ((ihb q.2).1 _ _ _ _ h)
    · cases h
  | not a iha =>
    intro q
    refine ⟨fun σ S u S' h => ?_, fun σ S us S' h => by simp [evL] at h, fun σ S us S' h => by simp [evN] at h⟩
    rw [evE] at h
    obtain ⟨x, S1, h1, h⟩ := bind_ok h
    cases x <;> first | (cases h; exact (iha q).1 _ _ _ _ h1) | cases h
  | bi b es ih =>
    intro q
    refine ⟨fun σ S u S' h => ?_, fun σ S us S' h => by simp [evL] at h, fun σ S us S' h => by simp [evN] at h⟩
    rw [evE] at h
    obtain ⟨x, S1, h1, h⟩ := bind_ok h
    rw [opt_ok h]
    exact (ih q).2.1 _ _ _ _ h1
  | mc b a e iha ihe =>
    intro q
    rw [IE.quiet, Bool.and_eq_true] at q
    refine ⟨fun σ S u S' h => ?_, fun σ S us S' h => by simp [evL] at h, fun σ S us S' h => by simp [evN] at h⟩
    rw [evE] at h
    obtain ⟨x, S1, h1, h⟩ := bind_ok h
    split at h
    · obtain ⟨y, S2, h2, h⟩ := bind_ok h
      rw [opt_ok h]
      exact ((iha q.1).1 _ _ _ _ h1).trans ((ihe q.2).1 _ _ _ _ h2)
    · cases h
  | ix a b iha ihb =>
    intro q
    rw [IE.quiet, Bool.and_eq_true] at q
    refine ⟨fun σ S u S' h => ?_, fun σ S us S' h => by simp [evL] at h, fun σ S us S' h => by simp [evN] at h⟩
    rw [evE] at h
    obtain ⟨x, S1, h1, h⟩ := bind_ok h
    obtain ⟨y, S2, h2, h⟩ := bind_ok h
    have e : Ext S S2 := ((iha q.1).1 _ _ _ _ h1).trans ((ihb q.2).1 _ _ _ _ h2)
    split at h
    · split at h
      · rw [opt_ok h]; exact e
      · cases h
    · cases h
  | tup es ih =>
    intro q
    refine ⟨fun σ S u S' h => ?_, fun σ S us S' h => by simp [evL] at h, fun σ S us S' h => by simp [evN] at h⟩
    rw [evE] at h
    obtain ⟨x, S1, h1, h⟩ := bind_ok h
    split at h
    · cases h; exact (ih q).2.1 _ _ _ _ h1
    · cases h
  | listOf a iha =>
    intro q
    refine ⟨fun σ S u S' h => by simp [evE] at h, fun σ S us S' h => by simp [evL] at h, fun σ S us S' h => ?_⟩
    rw [evN] at h
    obtain ⟨x, S1, h1, h⟩ := bind_ok h
    rw [opt_ok h]
    exact (iha q).1 _ _ _ _ h1
  | newM n ih =>
    intro q
    refine ⟨fun σ S u S' h => ?_, fun σ S us S' h => by simp [evL] at h, fun σ S us S' h => by simp [evN] at h⟩
    rw [evE] at h
    obtain ⟨x, S1, h1, h⟩ := bind_ok h
    cases h
    exact ((ih q).2.2 _ _ _ _ h1).trans ⟨_, rfl⟩
  | nil => intro _; exact ⟨fun σ S u S' h => by simp [evE] at h, fun σ S us S' h => by rw [evL] at h; cases h; exact .refl, fun σ S us S' h => by simp [evN] at h⟩
  | cons e es ihe ihes =>
    intro q
    rw [IE.quiet, Bool.and_eq_true] at q
    refine ⟨fun σ S u S' h => by simp [evE] at h, fun σ S us S' h => ?_, fun σ S us S' h => by simp [evN] at h⟩
    rw [evL] at h
    obtain ⟨x, S1, h1, h⟩ := bind_ok h
    obtain ⟨y, S2, h2, h⟩ := bind_ok h
    cases h
    exact ((ihe q.1).1 _ _ _ _ h1).trans ((ihes q.2).2.1 _ _ _ _ h2)
  | _ => intro q; cases q
/-! ### a turn of a comprehension -/
def compF (E : Env) (σ : Sl) (t : IT) (has : Bool) (q elt : IE) (own : List Nat) : U → Sto → R (Option U) := fun u S2 => match bindT S2 t [u] (wipeU σ own) with
  | some σ2 => match has with
    | true => (evE E σ2 q S2).bind fun x S3 => match x with
      | .bl true => (evE E σ2 elt S3).bind fun r S4 => .ok (some r) S4
      | .bl false => .ok .none S3
      | _ => .bad
    | false => (evE E σ2 elt S2).bind fun r S4 => .ok (some r) S4
  | .none => .bad
theorem evN_comp (E : Env) (σ : Sl) (t : IT) (it : IE) (has : Bool) (q elt : IE) (own : List Nat) (S : Sto) :
    evN E σ (.comp t it has q elt own) S = if it.isQ && !(q.quiet && elt.quiet) then .bad else (evI E σ it S).bind fun items S1 => compGo (compF E σ t has q elt own) items S1 := by
  rw [evN]
  rfl
theorem compF_same {E : Env} {σ : Sl} {t : IT} {has : Bool} {q elt : IE} {own : List Nat} (h1 : q.quiet = true) (h2 : elt.quiet = true) {u : U} {S S' : Sto} {o : Option U} (h : compF E σ t has q elt own u S = .ok o S') : Ext S S' := by
  unfold compF at h
  split at h
  · split at h
    · obtain ⟨x, S1, k1, h⟩ := bind_ok h
      have e := (quiet_ext q h1).1 _ _ _ _ k1
      split at h
      · obtain ⟨y, S2, k2, h⟩ := bind_ok h
        cases h
        exact e.trans ((quiet_ext elt h2).1 _ _ _ _ k2)
      · cases h; exact e
      · cases h
    · obtain ⟨x, S1, k1, h⟩ := bind_ok h
      cases h
      exact (quiet_ext elt h2).1 _ _ _ _ k1
  · cases h
/-! ### blocks -/
section
variable {C : CC} {W : Wd} {B : Hp} {E : Env} {ξ : Option (Nat × Addr)} {Wx : WX} {X : Cx} {ea eb ec ed : Expr} {es : List Expr} {a b c d : IE} {pos apos p1 p2 p3 : Pos}
abbrev never : WX := fun _ _ _ _ => False
theorem takesN {X : Cx} : L2N.Takes X never := fun _ _ x => by
  obtain ⟨_, _, _, _, _, _, _, _, _, _, _, _, _, _, _, _, z⟩ := x
  exact z.elim
def CC.blk (C : CC) (scope : Scope) : CC := { C with sc := relS scope C.sc, own := scope }
theorem relS_keep {scope sc : Scope} {x : Str} {k : NameKind} (hk : k ≠ .free) (h : scope.names.lookup x = some k) : (relS scope sc).names.lookup x = some k := lookup_relS_keep hk h
theorem CallOk.blk {f : Nat} (h : CallOk W E X f) (s : Shared) (H : Hp) (scope : Scope) (cenv : PySem.Env) (fp : List Addr) : CallOk W E (X.blk s H scope cenv fp) f := h
theorem gx_blk (g : GX C W E ξ Wx X) (hh : C.hot = false) (s : Shared) (H : Hp) (scope : Scope) (cl : List (Str × Addr)) (C0 : Addr) (fp : List Addr) : GX (C.blk scope) W E ξ never (X.blk s H scope (compEnvC scope cl C0 X.env) fp) where
  K := g.K
  N := g.N
  nd := g.nd
  sc := by
    show relS scope X.env.scope = relS scope C.sc
    rw [g.sc]
  gt := g.gt
  bn := g.bn
  fn := fun x hx => by
    rcases hx with h | h
    · exact ⟨.inl (relS_keep (by decide) h), .inr (relS_keep (by decide) h)⟩
    · refine ⟨.inr (relS_keep (by decide) h), .inl ?_⟩
      have h' : scope.names.lookup x = some .cell := h
      show (scope.names.lookup x == some .cell) = true
      rw [h']
      rfl
  calm := g.calm
  un := g.un
  tk := takesN
  hc := fun h => by rw [show (C.blk scope).hot = C.hot from rfl, hh] at h; cases h
  call := fun h f e => (g.call h f e).blk s H scope _ fp
  lam := fun h k e => g.lam h k e
  qn := g.qn
  mks := fun h e => g.mks h e
  lw := g.lw
  kf := g.kf
  of := g.of
  tp := g.tp
  xn := g.xn
  h0 := g.h0
  hx := fun i k e => by rw [(g.h0 hh).1] at e; cases e
/-! ### comprehensions -/
def wG (X : Cx) (tg : Expr) : TG := fun v σ H Q => ∀ pins s u, Inv X pins σ H s → RelV v u → wpAny (model X.prog X.w) X.A (assign tg X.env u) (fun _ s' => ∃ σ' H', Inv X pins σ' H' s' ∧ Q σ' H') X.xe s
/-- in every block of this comprehension -/
def allE (X : Cx) (scope : Scope) (e : Expr) : TE := fun σ H Q => ∀ (s : Shared) (H0 : Hp) (C0 : Addr) (cl : List (Str × Addr)) (fp : List Addr), wE (X.blk s H0 scope (compEnvC scope cl C0 X.env) fp) e σ H Q
def allT (X : Cx) (scope : Scope) (e : Expr) : TT := fun σ H Q => ∀ (s : Shared) (H0 : Hp) (C0 : Addr) (cl : List (Str × Addr)) (fp : List Addr), wT (X.blk s H0 scope (compEnvC scope cl C0 X.env) fp) e σ H Q
def allG (X : Cx) (scope : Scope) (tg : Expr) : TG := fun v σ H Q => ∀ (s : Shared) (H0 : Hp) (C0 : Addr) (cl : List (Str × Addr)) (fp : List Addr), wG (X.blk s H0 scope (compEnvC scope cl C0 X.env) fp) tg v σ H Q
theorem bindR_assoc {α β γ : Type} (r : R α) (k : α → Sto → R β) (k' : β → Sto → R γ) : (r.bind k).bind k' = r.bind fun a S => (k a S).bind k' := by
  cases r <;> rfl
theorem bindR_id {α : Type} (r : R (List α)) : (r.bind fun rs S2 => R.ok ([] ++ rs) S2) = r := by
  cases r <;> rfl
theorem PoN.toI {q : Bool} {XW : Nat → Hp → Prop} {r : R (List U)} {k : List U → Sto → R (List U)} {F G : Hp} {ρ : Nat → Addr} {S : Sto} {Q : VK} {Q1 : It → Hp → Prop} (h : PoN W B XW (r.bind k) F ρ S G Q)
    (hk : ∀ us S1 F1 ρ1 H1 J, Stp F ρ S F1 ρ1 S1 → Rel W B F1 ρ1 S1 G H1 → WalkOk W B q us F1 ρ1 S1 J → PoN W B XW (k us S1) F1 ρ1 S1 G Q → Q1 J H1) : PoI W B q XW r F ρ S G Q1 := by
  cases r with
  | ok a S' => exact fun F' ρ' H' J st R w => hk a S' F' ρ' H' J st R w (PoN.mono h st)
  | ex c S' => exact h
  | bad => exact h
/-- what the tests of a comprehension ask -/
structure TtOk (W : Wd) (B : Hp) (E : Env) (ξ : Option (Nat × Addr)) (X : Cx) (scope : Scope) (ifs : List Expr) (has : Bool) (q : IE) (tt : TT) : Prop where
  pts : ∀ (s : Shared) (H0 : Hp) (C0 : Addr) (cl : List (Str × Addr)) (fp : List Addr), PTs (X.blk s H0 scope (compEnvC scope cl C0 X.env) fp) ifs tt
  yes : has = true → ∀ (σ : Sl) (S : Sto) (F : Hp) (ρ : Nat → Addr) (G H : Hp) (τ : L2.St) (Q : Bool → Hp → Prop), Rel W B F ρ S G H → RX W B F ρ S.length ξ σ τ →
    Po W B (RV W B) (fun _ _ => False) (evE E σ q S) F ρ S G (fun v H1 => ∃ b, v = .bl b ∧ Q b H1) → tt τ H Q
  no : has = false → ∀ (τ : L2.St) (H : Hp) (Q : Bool → Hp → Prop), Q true H → tt τ H Q
theorem tt_none {scope : Scope} {q : IE} : TtOk W B E ξ X scope [] false q tYes := ⟨fun _ _ _ _ _ => pts_nil, fun h => (nomatch h), fun _ τ H Q h => h⟩
theorem tt_one {scope : Scope} {q : IE} (g : GX C W E ξ Wx X) (hh : C.hot = false) (hq : ∀ X', GX (C.blk scope) W E ξ never X' → ST W B E ξ never X' ea q) : TtOk W B E ξ X scope [ea] true q (allT X scope ea) :=
  ⟨fun s H0 C0 cl fp => pts_one ⟨fun pins s' σ H Q I h => h s H0 C0 cl fp pins s' I⟩, fun _ σ S F ρ G H τ Q R ro h s H0 C0 cl fp => hq _ (gx_blk g hh s H0 scope cl C0 fp) σ S F ρ G H τ Q R ro h, fun h => (nomatch h)⟩
theorem drop_cons {α : Type} {us : List α} {i : Nat} {u : α} (h : us[i]? = some u) : us.drop i = u :: us.drop (i + 1) := by
  obtain ⟨hl, e⟩ := List.getElem?_eq_some_iff.mp h
  rw [List.drop_eq_getElem_cons hl, e]
theorem wipe_twice {τ : L2.St} {vs : List Nat} : ∀ {ws : List Nat}, (∀ i ∈ ws, i ∈ vs) → L2.wipe (L2.wipe τ ws) vs = L2.wipe τ vs
  | [], _ => rfl
  | w :: ws, h => by
    rw [L2.wipe, set_wipe (h w List.mem_cons_self), wipe_twice fun i hi => h i (List.mem_cons_of_mem _ hi)]
theorem sn_comp {elt tg iter : Expr} {ifs : List Expr} {scope : Scope} {own : List (Str × Nat)} {t : IT} {it q ielt : IE} {has : Bool} {tt : TT} (g : GX C W E ξ Wx X) (hh : C.hot = false) (ok : BlkOk X.N X.env.scope scope own) (hi : SI W B E ξ Wx X tg iter it)
    (hgT : ∀ X', GX (C.blk scope) W E ξ never X' → SG W B ξ X' tg t) (hq : TtOk W B E ξ X scope ifs has q tt) (he : ∀ X', GX (C.blk scope) W E ξ never X' → SE W B E ξ never X' elt ielt)
    (hsl : ∀ i ∈ t.slots, i ∈ own.map (·.2)) (hpl : plainX iter = true) :
    (∀ (σ : Sl) (S : Sto) (F : Hp) (ρ : Nat → Addr) (G H : Hp) (τ : L2.St) (Q : VK), Rel W B F ρ S G H → RX W B F ρ S.length ξ σ τ → PoN W B (XWof W Wx τ) (evN E σ (.comp t it has q ielt (own.map (·.2))) S) F ρ S G Q →
      ∃ wi, PI X tg iter wi ∧ tLc wi (allG X scope tg) tt (allE X scope elt) (own.map (·.2)) τ H Q) := by
  intro σ S F ρ G H τ Q R0 ro h
  rw [evN_comp] at h
  split at h
  · exact h.elim
  rename_i hqu
  obtain ⟨wi, pi, ki⟩ := hi
  refine ⟨wi, pi, ?_⟩
  refine ki σ S F ρ G H τ _ R0 ro (h.toI fun us S1 F1 ρ1 H1 J st1 R1 wok h1 => ?_)
  obtain ⟨hl, Gd, Y, walk, wk⟩ := wok
  intro D hD
  have hGD : G D = none := by
    cases e : G D with
    | none => rfl
    | some o => rw [(R1.fr D o e).1] at hD; cases hD
  have hBD : B D = none := by
    cases e : B D with
    | none => rfl
    | some o => rw [R0.bor D o e] at hGD; cases hGD
  have ξn : ξ = none := (g.h0 hh).2
  refine lc_it walk (fun i H' => ∃ F' ρ' S' acc accV, Stp F1 ρ1 S1 F' ρ' S' ∧ Rel W B F' ρ' S' (upd G D (.lst accV)) H' ∧ RVs W B F' ρ' S'.length acc accV ∧ acc.length ≤ i ∧ (it.isQ = true → Ext S1 S') ∧
    PoN W B (XWof W Wx τ) ((compGo (compF E σ t has q ielt (own.map (·.2))) (us.drop i) S').bind fun rs S2 => .ok (acc ++ rs) S2) F' ρ' S' G Q) ?_ ?_ ?_ ?_
  · refine ⟨F1, ρ1, S1, [], [], Stp.refl, R1.aside hD, .nil, Nat.le_refl _, fun _ => .refl, ?_⟩
    rw [List.drop_zero, bindR_id]
    exact h1
  · rintro i H' hi' ⟨F', ρ', S', acc, accV, st, R', _, _, hS, _⟩
    exact (wk F' ρ' S' _ H' st R' hS).1
  · rintro i x H' H'' hi' ⟨F', ρ', S', acc, accV, st, R', ra, hla, hS, hp⟩ y
    obtain ⟨u, hu⟩ : ∃ u, us[i]? = some u := ⟨us[i], by simp [hi']⟩
    obtain ⟨F2, st2, R2, rx⟩ := (wk F' ρ' S' _ H' st R' hS).2 i x H'' u hu y
    rw [drop_cons hu, compGo, bindR_assoc] at hp
    have hp2 := PoN.mono hp st2
    have rw0 : RX W B F2 ρ' S'.length ξ (wipeU σ (own.map (·.2))) (L2.wipe τ (own.map (·.2))) := ⟨((ro.ro.mono st1).mono (st.trans st2)).wipe _, fun j a e => by rw [ξn] at e; cases e⟩
    -- the end of a turn
    have fin : ∀ (S3 F3 : _) (ρ3 : _) (H3 : Hp) (o : Option U) (acc' : List U) (accV' : List V), Stp F2 ρ' S' F3 ρ3 S3 → Rel W B F3 ρ3 S3 (upd G D (.lst accV')) H3 → RVs W B F3 ρ3 S3.length acc' accV' → (acc' = acc ∧ o = none ∨ ∃ r, o = some r ∧ acc' = acc ++ [r]) →
        compF E σ t has q ielt (own.map (·.2)) u S' = .ok o S3 →
        ∃ F' ρ' S' acc accV, Stp F1 ρ1 S1 F' ρ' S' ∧ Rel W B F' ρ' S' (upd G D (.lst accV)) H3 ∧ RVs W B F' ρ' S'.length acc accV ∧ acc.length ≤ i + 1 ∧ (it.isQ = true → Ext S1 S') ∧
          PoN W B (XWof W Wx τ) ((compGo (compF E σ t has q ielt (own.map (·.2))) (us.drop (i + 1)) S').bind fun rs S2 => .ok (acc ++ rs) S2) F' ρ' S' G Q := by
      intro S3 F3 ρ3 H3 o acc' accV' st3 R3 ra3 ho ef
      rw [ef] at hp2
      have hp3 := PoN.mono hp2 st3
      refine ⟨F3, ρ3, S3, acc', accV', (st.trans st2).trans st3, R3, ra3, ?_, fun hz => ?_, ?_⟩
      · rcases ho with ⟨rfl, _⟩ | ⟨r, _, rfl⟩
        · omega
        · rw [List.length_append, List.length_singleton]; omega
      · have qq : q.quiet = true ∧ ielt.quiet = true := by
          rw [hz] at hqu
          simpa using hqu
        exact (hS hz).trans (compF_same qq.1 qq.2 ef)
      · show PoN W B (XWof W Wx τ) _ F3 ρ3 S3 G Q
        rcases ho with ⟨rfl, rfl⟩ | ⟨r, rfl, rfl⟩
        · have e2 : (((R.ok none S3 : R (Option U)).noex.bind fun o S1 => ((compGo (compF E σ t has q ielt (own.map (·.2))) (us.drop (i + 1)) S1).bind fun rs S2 => match o with
            | some r => R.ok (r :: rs) S2
            | none => .ok rs S2).bind fun rs S2 => R.ok (acc' ++ rs) S2)) = (compGo (compF E σ t has q ielt (own.map (·.2))) (us.drop (i + 1)) S3).bind fun rs S2 => .ok (acc' ++ rs) S2 := by
            show ((compGo _ _ _).bind _).bind _ = _
            rw [bindR_assoc]
            rfl
          rw [← e2]
          exact hp3
        · have e2 : (((R.ok (some r) S3 : R (Option U)).noex.bind fun o S1 => ((compGo (compF E σ t has q ielt (own.map (·.2))) (us.drop (i + 1)) S1).bind fun rs S2 => match o with
            | some r => R.ok (r :: rs) S2
            | none => .ok rs S2).bind fun rs S2 => R.ok (acc ++ rs) S2)) = (compGo (compF E σ t has q ielt (own.map (·.2))) (us.drop (i + 1)) S3).bind fun rs S2 => .ok (acc ++ [r] ++ rs) S2 := by
            show ((compGo _ _ _).bind _).bind _ = _
            rw [bindR_assoc]
            congr 1
            funext rs S2
            show R.ok (acc ++ r :: rs) S2 = R.ok (acc ++ [r] ++ rs) S2
            rw [List.append_assoc]
            rfl
          rw [← e2]
          exact hp3
    -- what is appended
    have app : ∀ (S3 : Sto) (F3 : Hp) (ρ3 : Nat → Addr) (H4 : Hp) (r : U) (y : V), Stp F2 ρ' S' F3 ρ3 S3 → Rel W B F3 ρ3 S3 (upd G D (.lst accV)) H4 → RV W B F3 ρ3 S3.length r y → compF E σ t has q ielt (own.map (·.2)) u S' = .ok (some r) S3 →
        ∃ ac, H4 D = some (.lst ac) ∧ ac.length < sizeLine ∧ ∃ F' ρ' S' acc accV, Stp F1 ρ1 S1 F' ρ' S' ∧ Rel W B F' ρ' S' (upd G D (.lst accV)) (upd H4 D (.lst (ac ++ [y]))) ∧ RVs W B F' ρ' S'.length acc accV ∧ acc.length ≤ i + 1 ∧ (it.isQ = true → Ext S1 S') ∧
          PoN W B (XWof W Wx τ) ((compGo (compF E σ t has q ielt (own.map (·.2))) (us.drop (i + 1)) S').bind fun rs S2 => .ok (acc ++ rs) S2) F' ρ' S' G Q := by
      intro S3 F3 ρ3 H4 r y st3 R3 ry ef
      have hlen : accV.length = acc.length := ra.length.symm
      refine ⟨accV, (R3.fr D _ upd_same).1, ?_, fin S3 F3 ρ3 _ (some r) (acc ++ [r]) (accV ++ [y]) st3 ?_ (((st2.trans st3).rvs ra).append (.cons ry .nil)) (.inr ⟨r, rfl, rfl⟩) ef⟩
      · rw [hlen]
        exact lt_line (by omega)
      · have := R3.write (p := D) (xs := accV) (o' := .lst (accV ++ [y])) upd_same hBD
        rwa [upd_upd] at this
    cases eb : bindT S' t [u] (wipeU σ (own.map (·.2))) with
    | none =>
      have : compF E σ t has q ielt (own.map (·.2)) u S' = .bad := by unfold compF; rw [eb]
      rw [this] at hp2
      exact hp2.elim
    | some σ2 =>
      intro s H0 C0 cl fp
      obtain ⟨gg, pg, kg⟩ := hgT _ (gx_blk g hh s H0 scope cl C0 fp)
      intro pins s1 u1 I rv
      refine pg.run pins s1 _ H'' x u1 _ I rv (kg _ σ2 _ S' F2 ρ' _ H'' u x _ R2 rw0 rx eb fun τ2 ro2 w2 => ⟨by rw [w2 _ hsl, wipe_twice fun i hi => hi], ?_⟩)
      cases has with
      | false =>
        refine hq.no rfl τ2 _ _ ?_
        rw [if_pos rfl]
        intro s' H0' C0' cl' fp'
        refine he _ (gx_blk g hh s' H0' scope cl' C0' fp') σ2 S' F2 ρ' _ H'' τ2 _ R2 ro2 ?_
        have ef : compF E σ t false q ielt (own.map (·.2)) u S' = (evE E σ2 ielt S').bind fun r S4 => .ok (some r) S4 := by unfold compF; rw [eb]
        cases ee : evE E σ2 ielt S' with
        | ok r S3 =>
          rw [ee] at ef
          exact fun F3 ρ3 H4 y st3 R3 ry => app S3 F3 ρ3 H4 r y st3 R3 ry ef
        | ex k S3 => rw [ef, ee] at hp2; exact hp2.elim
        | bad => rw [ef, ee] at hp2; exact hp2.elim
      | true =>
        refine hq.yes rfl σ2 S' F2 ρ' _ H'' τ2 _ R2 ro2 ?_
        have ef : compF E σ t true q ielt (own.map (·.2)) u S' = (evE E σ2 q S').bind fun x S3 => match x with
          | .bl true => (evE E σ2 ielt S3).bind fun r S4 => .ok (some r) S4
          | .bl false => .ok .none S3
          | _ => .bad := by unfold compF; rw [eb]
        cases eq : evE E σ2 q S' with
        | ex k S3 => rw [ef, eq] at hp2; exact hp2.elim
        | bad => rw [ef, eq] at hp2; exact hp2.elim
        | ok z S3 =>
          rw [eq] at ef
          intro F3 ρ3 H3 v st3 R3 rz
          cases rz with
          | bl b =>
            refine ⟨b, rfl, ?_⟩
            cases b with
            | false =>
              rw [if_neg Bool.false_ne_true]
              exact fin S3 F3 ρ3 H3 none acc accV st3 R3 ((st2.trans st3).rvs ra) (.inl ⟨rfl, rfl⟩) ef
            | true =>
              rw [if_pos rfl]
              intro s' H0' C0' cl' fp'
              refine he _ (gx_blk g hh s' H0' scope cl' C0' fp') σ2 S3 F3 ρ3 _ H3 τ2 _ R3 (ro2.mono st3) ?_
              have ef' : compF E σ t true q ielt (own.map (·.2)) u S' = (evE E σ2 ielt S3).bind fun r S4 => .ok (some r) S4 := ef
              cases ee : evE E σ2 ielt S3 with
              | ok r S4 =>
                rw [ee] at ef'
                exact fun F4 ρ4 H4 y st4 R4 ry => app S4 F4 ρ4 H4 r y (st3.trans st4) R4 ry ef'
              | ex k S4 => rw [ef', ee] at hp2; exact hp2.elim
              | bad => rw [ef', ee] at hp2; exact hp2.elim
          | _ =>
            have ef' : compF E σ t true q ielt (own.map (·.2)) u S' = .bad := ef
            rw [ef'] at hp2
            exact hp2.elim
  · rintro H' ⟨F', ρ', S', acc, accV, st, R', ra, hla, hS, hp⟩
    rw [List.drop_length] at hp
    exact hp F' ρ' H' D accV Stp.refl R' hGD (by rw [List.append_nil]; omega) (by rw [List.append_nil]; exact ra)
theorem sn_lc {elt tg iter : Expr} {ifs : List Expr} {scope : Scope} {own : List (Str × Nat)} {t : IT} {it q ielt : IE} {has : Bool} {tt : TT} (g : GX C W E ξ Wx X) (hh : C.hot = false) (ok : BlkOk X.N X.env.scope scope own) (hi : SI W B E ξ Wx X tg iter it)
    (hgT : ∀ X', GX (C.blk scope) W E ξ never X' → SG W B ξ X' tg t) (hq : TtOk W B E ξ X scope ifs has q tt) (he : ∀ X', GX (C.blk scope) W E ξ never X' → SE W B E ξ never X' elt ielt)
    (hsl : ∀ i ∈ t.slots, i ∈ own.map (·.2)) (hpl : plainX iter = true) : SN W B E ξ Wx X (.ListComp elt [⟨tg, iter, ifs, 0⟩] scope pos) (.comp t it has q ielt (own.map (·.2))) := by
  intro σ S F ρ G H τ Q R ro h
  obtain ⟨wi, pi, k⟩ := sn_comp g hh ok hi hgT hq he hsl hpl σ S F ρ G H τ Q R ro h
  exact eTo (pe_lc (g.calm hh) g.nd pi ok (fun s H0 C0 cl fp => ⟨fun pins s' σ H v u Q I r q => q s H0 C0 cl fp pins s' u I r⟩) hq.pts (fun s H0 C0 cl fp => ⟨fun pins s' σ H Q I q => q s H0 C0 cl fp pins s' I⟩) (plain_fold hpl X.env)) k
end
end TW
/-! TWN -/
set_option Elab.async false
set_option linter.all false
set_option maxRecDepth 100000
namespace TW
open PySem PySem.Spec PyProof.Rows L2
section
variable {C : CC} {W : Wd} {B : Hp} {E : Env} {ξ : Option (Nat × Addr)} {Wx : WX} {X : Cx} {ea eb ec ed : Expr} {es : List Expr} {a b c d : IE} {pos apos p1 p2 p3 : Pos} {st : Stmt} {sts : List Stmt} {s1 s2 : IS}
/-! ### statements -/
structure GS (C : CC) (W : Wd) (E : Env) (ξ : Option (Nat × Addr)) (Wx : WX) (X : Cx) : Prop extends GX C W E ξ Wx X where
  po : PassesOwn (model X.prog X.w) X.A X.env X.xe
  stk : X.stack = X.env :: X.outer
  frm : X.env.frame = some X.env.locals
  kin : X.env.scope.kind = .function
def PoS (W : Wd) (B : Hp) (ξ : Option (Nat × Addr)) (Wx : WX) (r : R Fl) (F : Hp) (ρ : Nat → Addr) (S : Sto) (G : Hp) (D : Ends) : Prop :=
  match r with
  | .ok (.nx σ') S' => ∀ F' ρ' H' τ', Stp F ρ S F' ρ' S' → Rel W B F' ρ' S' G H' → RX W B F' ρ' S'.length ξ σ' τ' → D.nx τ' H'
  | .ok (.rt u) S' => ∀ F' ρ' H' v, Stp F ρ S F' ρ' S' → Rel W B F' ρ' S' G H' → RV W B F' ρ' S'.length u v → D.rt v H'
  | .ex c S' => ∀ F' ρ' H', Stp F ρ S F' ρ' S' → Rel W B F' ρ' S' G H' → ∀ τ', Wx (.ref (W.cl c)) none τ' H'
  | .bad => False
theorem PoS.mono {r : R Fl} {F F1 G : Hp} {ρ ρ1 : Nat → Addr} {S S1 : Sto} {D : Ends} (h : PoS W B ξ Wx r F ρ S G D) (s : Stp F ρ S F1 ρ1 S1) : PoS W B ξ Wx r F1 ρ1 S1 G D := by
  cases r with
  | ok x S' =>
    cases x with
    | nx σ' => exact fun F' ρ' H' τ' st R q => h F' ρ' H' τ' (s.trans st) R q
    | rt u => exact fun F' ρ' H' v st R q => h F' ρ' H' v (s.trans st) R q
  | ex c S' => exact fun F' ρ' H' st R => h F' ρ' H' (s.trans st) R
  | bad => exact h
theorem PoS.bind {α β : Type} {RA : Hp → (Nat → Addr) → Nat → α → β → Prop} {r : R α} {k : α → Sto → R Fl} {F G : Hp} {ρ : Nat → Addr} {S : Sto} {D : Ends} {τ : L2.St} {Q1 : β → Hp → Prop} (h : PoS W B ξ Wx (r.bind k) F ρ S G D)
    (hk : ∀ a S1 F1 ρ1 H1 b, Stp F ρ S F1 ρ1 S1 → Rel W B F1 ρ1 S1 G H1 → RA F1 ρ1 S1.length a b → PoS W B ξ Wx (k a S1) F1 ρ1 S1 G D → Q1 b H1) : Po W B RA (XWof W Wx τ) r F ρ S G Q1 := by
  cases r with
  | ok a S' => exact fun F' ρ' H' b st R r => hk a S' F' ρ' H' b st R r (PoS.mono h st)
  | ex c S' => exact fun F' ρ' H' st R => h F' ρ' H' st R τ
  | bad => exact h
theorem PoS.opt {o : Option Fl} {F G : Hp} {ρ : Nat → Addr} {S S1 : Sto} {D : Ends} (h : PoS W B ξ Wx (.opt o S1) F ρ S G D) : ∃ a, o = some a ∧ PoS W B ξ Wx (.ok a S1) F ρ S G D := by
  cases o with
  | none => exact h.elim
  | some a => exact ⟨a, rfl, h⟩
theorem PoS.nx {σ : Sl} {F G H : Hp} {ρ : Nat → Addr} {S : Sto} {D : Ends} {τ : L2.St} (h : PoS W B ξ Wx (.ok (.nx σ) S) F ρ S G D) (R : Rel W B F ρ S G H) (ro : RX W B F ρ S.length ξ σ τ) : D.nx τ H := h F ρ H τ Stp.refl R ro
theorem PoS.rt {u : U} {v : V} {F G H : Hp} {ρ : Nat → Addr} {S : Sto} {D : Ends} (h : PoS W B ξ Wx (.ok (.rt u) S) F ρ S G D) (R : Rel W B F ρ S G H) (r : RV W B F ρ S.length u v) : D.rt v H := h F ρ H v Stp.refl R r
def SS (W : Wd) (B : Hp) (E : Env) (ξ : Option (Nat × Addr)) (Wx : WX) (X : Cx) (st : Stmt) (is : IS) : Prop := ∀ (σ : Sl) (S : Sto) (F : Hp) (ρ : Nat → Addr) (G H : Hp) (τ : L2.St) (D : Ends), Rel W B F ρ S G H → RX W B F ρ S.length ξ σ τ →
  PoS W B ξ Wx (exS is E σ S) F ρ S G D → wS X st D τ H
def SB (W : Wd) (B : Hp) (E : Env) (ξ : Option (Nat × Addr)) (Wx : WX) (X : Cx) (sts : List Stmt) (is : IS) : Prop := ∀ (σ : Sl) (S : Sto) (F : Hp) (ρ : Nat → Addr) (G H : Hp) (τ : L2.St) (D : Ends), Rel W B F ρ S G H → RX W B F ρ S.length ξ σ τ →
  PoS W B ξ Wx (exS is E σ S) F ρ S G D → wB X sts D τ H
/-! ### blocks -/
theorem sb_skip : SB W B E ξ Wx X [] .skip := by
  intro σ S F ρ G H τ D R ro h
  rw [exS] at h
  exact bTo pss_nil (h.nx R ro)
/-- behind the first part -/
theorem PoS.seq {σ : Sl} {S : Sto} {F G : Hp} {ρ : Nat → Addr} {D : Ends} (h : PoS W B ξ Wx (exS (.seq s1 s2) E σ S) F ρ S G D) :
    PoS W B ξ Wx (exS s1 E σ S) F ρ S G { D with nx := fun τ' H' => ∃ σ' S' F' ρ', Rel W B F' ρ' S' G H' ∧ RX W B F' ρ' S'.length ξ σ' τ' ∧ PoS W B ξ Wx (exS s2 E σ' S') F' ρ' S' G D } := by
  rw [exS] at h
  cases e : exS s1 E σ S with
  | ok x S' =>
    rw [e] at h
    cases x with
    | nx σ' => exact fun F' ρ' H' τ' st R q => ⟨σ', S', F', ρ', R, q, PoS.mono h st⟩
    | rt u => exact h
  | ex c S' => rw [e] at h; exact h
  | bad => rw [e] at h; exact h
theorem sb_seq (h1 : SS W B E ξ Wx X st s1) (h2 : SB W B E ξ Wx X sts s2) : SB W B E ξ Wx X (st :: sts) (.seq s1 s2) := by
  intro σ S F ρ G H τ D R ro h
  refine bTo (pss_cons (pS st) (pB sts)) ?_
  intro pins s I
  refine wpAny_mono (h1 σ S F ρ G H τ _ R ro h.seq pins s I) (fun f s' q => ?_) fun _ _ x => x
  cases f with
  | next =>
    obtain ⟨τ', H', I', σ', S', F', ρ', R', ro', h'⟩ := q
    exact ⟨τ', H', I', h2 σ' S' F' ρ' G H' τ' D R' ro' h'⟩
  | ret v => exact q
  | brk => exact q
  | cont => exact q
/-- a list is frozen: nothing is done -/
theorem sb_frz {i : Nat} (h2 : SB W B E ξ Wx X sts s2) (g : GX C W E ξ Wx X) (hn : C.no ≠ some i) : SB W B E ξ Wx X sts (.frz i s2) := by
  intro σ S F ρ G H τ D R ro h
  rw [exS] at h
  split at h
  · rename_i n e
    split at h
    · rename_i us eu
      obtain ⟨v, v1, v2⟩ := ro.ro.get i _ e
      cases v2
      obtain ⟨vs, c1, c2, c3⟩ := R.cell n _ eu
      obtain ⟨R', st⟩ := R.frozen eu c1
      have h' : PoS W B ξ Wx (exS s2 E (σ.set i (some (.fl us))) (S.set n .dead)) F ρ S G D := h
      refine h2 _ _ _ _ _ _ τ D R' ?_ (PoS.mono h' st)
      have r1 : RV W B (upd F (ρ n) (.lst vs)) ρ (S.set n O.dead).length (.fl us) (.ref (ρ n)) := .fl upd_same c2 (st.rvs c3)
      have ro1 := (ro.mono st).set r1 fun j a z (e : j = i) => hn (by rw [← e]; exact g.xn j a z)
      have e2 : τ.set i (some (.ref (ρ n))) = τ := by
        obtain ⟨hl, he⟩ := List.getElem?_eq_some_iff.mp v1
        rw [← he, List.set_getElem_self]
      rw [e2] at ro1
      exact ro1
    · exact h.elim
  · exact h.elim
/-! ### simple statements -/
def noComp : Expr → Bool
  | .ListComp .. => false
  | .SetComp .. => false
  | .DictComp .. => false
  | _ => true
theorem noComp_sw {e : Expr} (h : noComp e = true) (t : Option Expr) (l : Nat) (env : PySem.Env) : swapsWith e t l env = pure false := by
  cases e <;> first | rfl | cases h
theorem ss_expr (hc : noComp ea = true) (ha : SE W B E ξ Wx X ea a) : SS W B E ξ Wx X (.Expr ea pos) (.expr a) := by
  intro σ S F ρ G H τ D R ro h
  rw [exS] at h
  refine sTo (ps_expr (pE ea) (noComp_sw hc _ _ _)) (ha σ S F ρ G H τ _ R ro (h.bind (RA := RV W B) fun x S1 F1 ρ1 H1 v st1 R1 r1 h1 => ?_))
  exact h1.nx R1 (ro.mono st1)
theorem ss_ret (ha : SE W B E ξ Wx X ea a) : SS W B E ξ Wx X (.Return (some ea) pos) (.ret a) := by
  intro σ S F ρ G H τ D R ro h
  rw [exS] at h
  refine sTo (ps_ret (pE ea)) (ha σ S F ρ G H τ _ R ro (h.bind (RA := RV W B) fun x S1 F1 ρ1 H1 v st1 R1 r1 h1 => ?_))
  exact h1.rt R1 r1
theorem ss_iff {x y : List Stmt} (hc : ST W B E ξ Wx X ec c) (ha : SB W B E ξ Wx X x s1) (hb : SB W B E ξ Wx X y s2) : SS W B E ξ Wx X (.If ec x y pos) (.iff c s1 s2) := by
  intro σ S F ρ G H τ D R ro h
  rw [exS] at h
  refine sTo (ps_if (pT ec) (pB x) (pB y)) (hc σ S F ρ G H τ _ R ro (h.bind (RA := RV W B) fun z S1 F1 ρ1 H1 v st1 R1 r1 h1 => ?_))
  cases r1 with
  | bl t =>
    refine ⟨t, rfl, ?_⟩
    cases t with
    | true => rw [if_pos rfl]; exact ha σ S1 F1 ρ1 G H1 τ D R1 (ro.mono st1) h1
    | false => rw [if_neg Bool.false_ne_true]; exact hb σ S1 F1 ρ1 G H1 τ D R1 (ro.mono st1) h1
  | _ => exact h1.elim
/-- name = value -/
theorem ss_set {i : Nat} {x : Str} (g : GX C W E ξ Wx X) (hN : C.N[i]? = some x) (hx : locB C.own x = true) (hn : C.no ≠ some i) (hs : swapsWith ea (some (.Name x p1)) pos.line X.env = pure false) (ha : SE W B E ξ Wx X ea a) :
    SS W B E ξ Wx X (.Assign [.Name x p1] ea pos) (.asg (.nm i) a) := by
  intro σ S F ρ G H τ D R ro h
  rw [exS] at h
  have hl := g.fn x (locB_ok hx)
  refine sTo (ps_set (i := i) g.nd (by rw [g.N]; exact hN) hl.1 (pE ea) hs hl.2) (ha σ S F ρ G H τ _ R ro (h.bind (RA := RV W B) fun z S1 F1 ρ1 H1 v st1 R1 r1 h1 => ?_))
  obtain ⟨f, e, h2⟩ := h1.opt
  simp only [bindT, Option.map_some, Option.some.injEq] at e
  subst e
  exact h2.nx R1 ((ro.mono st1).set r1 fun j a z (e : j = i) => hn (by rw [← e]; exact g.xn j a z))
end
end TW
/-! TWO -/
set_option Elab.async false
set_option linter.all false
set_option maxRecDepth 100000
namespace TW
open PySem PySem.Spec PyProof.Rows L2
section
variable {C : CC} {W : Wd} {B : Hp} {E : Env} {ξ : Option (Nat × Addr)} {Wx : WX} {X : Cx} {ea eb ec ed : Expr} {es : List Expr} {a b c d : IE} {pos apos p1 p2 p3 : Pos} {st : Stmt} {sts : List Stmt} {s1 s2 : IS}
/-! ### name = [.. for ..] -/
theorem PoS.bindN {r : R (List U)} {k : List U → Sto → R Fl} {F G : Hp} {ρ : Nat → Addr} {S : Sto} {D : Ends} {τ : L2.St} {Q : VK} (h : PoS W B ξ Wx (r.bind k) F ρ S G D)
    (hk : ∀ us S1 F1 ρ1 H1 p vs, Stp F ρ S F1 ρ1 S1 → Rel W B F1 ρ1 S1 (upd G p (.lst vs)) H1 → G p = none → us.length ≤ top → RVs W B F1 ρ1 S1.length us vs → PoS W B ξ Wx (k us S1) F1 ρ1 S1 G D → Q (.ref p) H1) : PoN W B (XWof W Wx τ) r F ρ S G Q := by
  cases r with
  | ok a S' => exact fun F' ρ' H' p vs st R e l r => hk a S' F' ρ' H' p vs st R e l r (PoS.mono h st)
  | ex c S' => exact fun F' ρ' H' st R => h F' ρ' H' st R τ
  | bad => exact h
/-- the list becomes frozen, or a cell -/
theorem new_rv {F1 G H1 : Hp} {ρ1 : Nat → Addr} {S1 : Sto} {p : Addr} {us : List U} {vs : List V} (m : Bool) (hb : Sub B G) (R1 : Rel W B F1 ρ1 S1 (upd G p (.lst vs)) H1) (e : G p = none) (l : us.length ≤ top) (r : RVs W B F1 ρ1 S1.length us vs) :
    ∃ F2 ρ2, Stp F1 ρ1 S1 F2 ρ2 (if m then S1 ++ [.lst us] else S1) ∧ Rel W B F2 ρ2 (if m then S1 ++ [.lst us] else S1) G H1 ∧ RV W B F2 ρ2 (if m then S1 ++ [O.lst us] else S1).length (if m then .ref S1.length else .fl us) (.ref p) := by
  cases m with
  | true =>
    obtain ⟨R2, st2⟩ := R1.celled e hb l r
    refine ⟨_, _, st2, R2, ?_⟩
    have := RV.ref (W := W) (B := B) (F := F1) (ρ := fun i => if i = S1.length then p else ρ1 i) (n := (S1 ++ [O.lst us]).length) (m := S1.length) (by rw [List.length_append]; exact Nat.lt_succ_self _)
    rw [if_pos rfl] at this
    exact this
  | false =>
    obtain ⟨R2, st2⟩ := R1.freeze e hb
    exact ⟨_, _, st2, R2, .fl upd_same l (st2.rvs r)⟩
def newOf : Bool → IE → IE
  | true, n => .newM n
  | false, n => .newF n
theorem ss_setLc {i : Nat} {y : Str} {m : Bool} {elt tg iter : Expr} {ifs : List Expr} {scope : Scope} {own : List (Str × Nat)} {t : IT} {it q ielt : IE} {has : Bool} {tt : TT} (g : GX C W E ξ Wx X) (hh : C.hot = false) (hN : C.N[i]? = some y) (hy : X.env.scope.names.lookup y = some .local)
    (hsw : swapsWith (.ListComp elt [⟨tg, iter, ifs, 0⟩] scope p1) (some (.Name y p2)) pos.line X.env = pure true) (ok : BlkOk X.N X.env.scope scope own) (hi : SI W B E ξ Wx X tg iter it)
    (hgT : ∀ X', GX (C.blk scope) W E ξ never X' → SG W B ξ X' tg t) (hq : TtOk W B E ξ X scope ifs has q tt) (he : ∀ X', GX (C.blk scope) W E ξ never X' → SE W B E ξ never X' elt ielt)
    (hsl : ∀ i ∈ t.slots, i ∈ own.map (·.2)) (hpl : plainX iter = true) :
    SS W B E ξ Wx X (.Assign [.Name y p2] (.ListComp elt [⟨tg, iter, ifs, 0⟩] scope p1) pos) (.asg (.nm i) (newOf m (.comp t it has q ielt (own.map (·.2))))) := by
  intro σ S F ρ G H τ D R ro h
  rw [exS] at h
  have hn : PoN W B (XWof W Wx τ) (evN E σ (.comp t it has q ielt (own.map (·.2))) S) F ρ S G (fun x H1 => gName i x τ H1 D.nx) := by
    have key : PoS W B ξ Wx ((evN E σ (.comp t it has q ielt (own.map (·.2))) S).bind fun us S1 => .ok (.nx (σ.set i (some (if m then .ref S1.length else .fl us)))) (if m then S1 ++ [.lst us] else S1)) F ρ S G D := by
      cases m with
      | true =>
        simp only [newOf, evE] at h
        cases e : evN E σ (.comp t it has q ielt (own.map (·.2))) S with
        | ok us S1 => rw [e] at h; exact h
        | ex k S1 => rw [e] at h; exact h
        | bad => rw [e] at h; exact h
      | false =>
        simp only [newOf, evE] at h
        cases e : evN E σ (.comp t it has q ielt (own.map (·.2))) S with
        | ok us S1 => rw [e] at h; exact h
        | ex k S1 => rw [e] at h; exact h
        | bad => rw [e] at h; exact h
    refine key.bindN fun us S1 F1 ρ1 H1 p vs st1 R1 e l r h1 => ?_
    obtain ⟨F2, ρ2, st2, R2, rv⟩ := new_rv m R.bor R1 e l r
    exact h1 F2 ρ2 H1 _ st2 R2 (((ro.mono st1).mono st2).set rv fun j a z => by rw [(g.h0 hh).2] at z; cases z)
  obtain ⟨wi, pi, k⟩ := sn_comp g hh ok hi hgT hq he hsl hpl σ S F ρ G H τ _ R ro hn
  exact sTo (ps_setLc (i := i) (g.calm hh) g.nd (by rw [g.N]; exact hN) hy hsw pi ok (fun s H0 C0 cl fp => ⟨fun pins s' σ H v u Q I r q => q s H0 C0 cl fp pins s' u I r⟩) hq.pts (fun s H0 C0 cl fp => ⟨fun pins s' σ H Q I q => q s H0 C0 cl fp pins s' I⟩) (plain_fold hpl X.env)) k
/-! ### a, b = value -/
def noTup : Expr → Bool
  | .Tuple .. => false
  | _ => true
theorem noTup_ss {tg e : Expr} (h : noTup e = true) (env : PySem.Env) : swappedStores [tg] e env = pure none := by
  cases e <;> first | (cases tg <;> rfl) | cases h
theorem ss_unpack {tgs : List Expr} {k : Nat} {l : IT} (g : GX C W E ξ Wx X) (hh : C.hot = false) (hc : noComp ea = true) (ht : noTup ea = true) (hg : SG W B ξ X (.Tuple tgs k p1) (.tp l)) (ha : SE W B E ξ Wx X ea a) :
    SS W B E ξ Wx X (.Assign [.Tuple tgs k p1] ea pos) (.asg (.tp l) a) := by
  intro σ S F ρ G H τ D R ro h
  rw [exS] at h
  obtain ⟨gg, pg, kg⟩ := hg
  refine sTo (ps_asg (pE ea) pg (by rw [swapsWithSole]; exact noComp_sw hc _ _ _) (noTup_ss ht _)) (ha σ S F ρ G H τ _ R ro (h.bind (RA := RV W B) fun z S1 F1 ρ1 H1 v st1 R1 r1 h1 => ?_))
  obtain ⟨f, e, h2⟩ := h1.opt
  cases eb : bindT S1 (.tp l) [z] σ with
  | none => rw [eb] at e; cases e
  | some σ' =>
    rw [eb] at e
    cases e
    exact kg σ σ' τ S1 F1 ρ1 G H1 z v _ R1 (ro.mono st1) r1 eb fun τ' ro' _ => h2.nx R1 ro'
theorem ss_par2 {i j : Nat} {x y : Str} {k k2 : Nat} {px py pt pt2 : Pos} (g : GX C W E ξ Wx X) (hh : C.hot = false) (hi : C.N[i]? = some x) (hj : C.N[j]? = some y) (hij : i ≠ j) (hx : X.env.scope.names.lookup x = some .local) (hy : X.env.scope.names.lookup y = some .local)
    (hw : swappedStores [.Tuple [.Name x px, .Name y py] k pt] (.Tuple [ea, eb] k2 pt2) X.env = pure (some [x, y])) (ha : SL W B E ξ Wx X [ea, eb] a) : SS W B E ξ Wx X (.Assign [.Tuple [.Name x px, .Name y py] k pt] (.Tuple [ea, eb] k2 pt2) pos) (.par [i, j] a) := by
  intro σ S F ρ G H τ D R ro h
  rw [exS] at h
  refine sTo (ps_par (g.calm hh) g.nd (by rw [g.N]; exact hi) (by rw [g.N]; exact hj) hij hx hy (pA [ea, eb]) hw) (ha σ S F ρ G H τ _ R ro (h.bind (RA := RVs W B) fun us S1 F1 ρ1 H1 vs st1 R1 r1 h1 => ?_))
  obtain ⟨f, e, h2⟩ := h1.opt
  match us, r1, e with
  | [], _, e => cases e
  | [_], _, e => cases e
  | [u, w], r1, e =>
    cases r1 with
    | cons q1 q2 => cases q2 with
      | cons q2 q3 =>
        cases q3
        cases e
        have nx : ∀ j a, ξ = some (j, a) → ∀ k, j ≠ k := fun j a z => by rw [(g.h0 hh).2] at z; cases z
        exact ⟨_, _, rfl, h2.nx R1 (((ro.mono st1).set q1 fun j a z => nx j a z i).set q2 fun j' a z => nx j' a z j)⟩
  | _ :: _ :: _ :: _, _, e => cases e
theorem ss_par3 {i j l : Nat} {x y z : Str} {k k2 : Nat} {px py pz pt pt2 : Pos} (g : GX C W E ξ Wx X) (hh : C.hot = false) (hi : C.N[i]? = some x) (hj : C.N[j]? = some y) (hl : C.N[l]? = some z) (hij : i ≠ j) (hil : i ≠ l) (hjl : j ≠ l) (hx : X.env.scope.names.lookup x = some .local) (hy : X.env.scope.names.lookup y = some .local) (hz : X.env.scope.names.lookup z = some .local)
    (hw : swappedStores [.Tuple [.Name x px, .Name y py, .Name z pz] k pt] (.Tuple [ea, eb, ec] k2 pt2) X.env = pure (some [x, y, z])) (ha : SL W B E ξ Wx X [ea, eb, ec] a) : SS W B E ξ Wx X (.Assign [.Tuple [.Name x px, .Name y py, .Name z pz] k pt] (.Tuple [ea, eb, ec] k2 pt2) pos) (.par [i, j, l] a) := by
  intro σ S F ρ G H τ D R ro h
  rw [exS] at h
  refine sTo (ps_par3 (g.calm hh) g.nd (by rw [g.N]; exact hi) (by rw [g.N]; exact hj) (by rw [g.N]; exact hl) hij hil hjl hx hy hz (pA [ea, eb, ec]) hw) (ha σ S F ρ G H τ _ R ro (h.bind (RA := RVs W B) fun us S1 F1 ρ1 H1 vs st1 R1 r1 h1 => ?_))
  obtain ⟨f, e, h2⟩ := h1.opt
  have nx : ∀ j a, ξ = some (j, a) → ∀ k, j ≠ k := fun j a z => by rw [(g.h0 hh).2] at z; cases z
  match us, r1, e with
  | [], _, e => cases e
  | [_], _, e => cases e
  | [_, _], _, e => cases e
  | [u, w, t], .cons q1 (.cons q2 (.cons q3 .nil)), e =>
    cases e
    exact ⟨_, _, _, rfl, h2.nx R1 ((((ro.mono st1).set q1 fun j a z => nx j a z i).set q2 fun j' a z => nx j' a z j).set q3 fun j' a z => nx j' a z l)⟩
  | _ :: _ :: _ :: _ :: _, _, e => cases e
/-! ### o[i] = value, x += value -/
theorem plain_sub {i : Expr} (h : plainX i = true) {o : Expr} {env : PySem.Env} (v : Value) : assign (.Subscript o i pos) env v = (do
      let ov ← holding [v] (eval o env)
      let iv ← holding [v, ov] (eval i env)
      standAt pos
      holding [v, ov, iv] (setItem ov iv v)
      release [v, ov, iv] []) := by
  cases i <;> first | rfl | cases h
theorem ss_setix (g : GX C W E ξ Wx X) (hp : plainX eb = true) (hc : noComp ec = true) (ht : noTup ec = true) (ha : SE W B E ξ Wx X ea a) (hb : SE W B E ξ Wx X eb b) (hcc : SE W B E ξ Wx X ec c) : SS W B E ξ Wx X (.Assign [.Subscript ea eb p1] ec pos) (.setix a b c) := by
  intro σ S F ρ G H τ D R ro h
  rw [exS] at h
  refine sTo (ps_asg (pE ec) (pg_sub (pE ea) (pE eb) set_list fun v => plain_sub hp v) (by rw [swapsWithSole]; exact noComp_sw hc _ _ _) (noTup_ss ht _)) ?_
  refine hcc σ S F ρ G H τ _ R ro (h.bind (RA := RV W B) fun u S1 F1 ρ1 H1 v st1 R1 r1 h1 => ?_)
  refine ha σ S1 F1 ρ1 G H1 τ _ R1 (ro.mono st1) (h1.bind (RA := RV W B) fun x S2 F2 ρ2 H2 w st2 R2 r2 h2 => ?_)
  refine hb σ S2 F2 ρ2 G H2 τ _ R2 ((ro.mono st1).mono st2) (h2.bind (RA := RV W B) fun y S3 F3 ρ3 H3 z st3 R3 r3 h3 => ?_)
  have r2' := st3.rv r2
  cases r2' with
  | @ref n hn =>
    cases r3 with
    | int k =>
      dsimp only at h3
      split at h3
      · rename_i us e
        split at h3
        · rename_i j ej
          obtain ⟨vs, c1, c2, c3⟩ := R3.cell n _ e
          have r1' := st3.rv (st2.rv r1)
          refine ⟨_, vs, k, j, rfl, rfl, c1, by rw [← c3.length]; exact ej, ?_⟩
          obtain ⟨R4, st4⟩ := R3.put e (by rw [List.length_set]; exact c2) (c3.set r1' j)
          exact h3 F3 ρ3 _ τ st4 R4 ((((ro.mono st1).mono st2).mono st3).mono st4)
        · exact h3.elim
      · exact h3.elim
    | _ => exact h3.elim
  | _ => exact h3.elim
theorem ss_aug {i : Nat} {x : Str} {op : BOp} (g : GX C W E ξ Wx X) (hop : op = .add ∨ op = .sub) (hN : C.N[i]? = some x) (hx : locB C.own x = true) (hn : C.no ≠ some i) (ha : SE W B E ξ Wx X ea a) :
    SS W B E ξ Wx X (.AugAssign (.Name x p1) (opOf op) ea pos) (.aug i op a) := by
  intro σ S F ρ G H τ D R ro h
  rw [exS] at h
  have hl := g.fn x (locB_ok hx)
  have nn : ∀ j a, ξ = some (j, a) → j ≠ i := fun j a z (e : j = i) => hn (by rw [← e]; exact g.xn j a z)
  split at h
  · rename_i z ez
    obtain ⟨v, v1, v2⟩ := ro.ro.get i _ ez
    rcases hop with rfl | rfl
    · refine sTo (ps_aug (i := i) g.nd (by rw [g.N]; exact hN) hl.1 (pE ea) ip_add hl.2) ⟨v, v1, ?_⟩
      refine ha σ S F ρ G H τ _ R ro (h.bind (RA := RV W B) fun y S1 F1 ρ1 H1 w st1 R1 r1 h1 => ?_)
      cases v2 with
      | int m =>
        cases r1 with
        | int n => exact ⟨m, n, rfl, rfl, h1.nx R1 ((ro.mono st1).set (.int _) nn)⟩
        | _ => exact h1.elim
      | _ => exact h1.elim
    · refine sTo (ps_aug (i := i) g.nd (by rw [g.N]; exact hN) hl.1 (pE ea) ip_sub hl.2) ⟨v, v1, ?_⟩
      refine ha σ S F ρ G H τ _ R ro (h.bind (RA := RV W B) fun y S1 F1 ρ1 H1 w st1 R1 r1 h1 => ?_)
      cases v2 with
      | int m =>
        cases r1 with
        | int n => exact ⟨m, n, rfl, rfl, h1.nx R1 ((ro.mono st1).set (.int _) nn)⟩
        | _ => exact h1.elim
      | _ => exact h1.elim
  · exact h.elim
/-! ### for, while -/
theorem PoS.toI {q : Bool} {r : R (List U)} {k : List U → Sto → R Fl} {F G : Hp} {ρ : Nat → Addr} {S : Sto} {D : Ends} {τ : L2.St} {Q1 : It → Hp → Prop} (h : PoS W B ξ Wx (r.bind k) F ρ S G D)
    (hk : ∀ us S1 F1 ρ1 H1 J, Stp F ρ S F1 ρ1 S1 → Rel W B F1 ρ1 S1 G H1 → WalkOk W B q us F1 ρ1 S1 J → PoS W B ξ Wx (k us S1) F1 ρ1 S1 G D → Q1 J H1) : PoI W B q (XWof W Wx τ) r F ρ S G Q1 := by
  cases r with
  | ok a S' => exact fun F' ρ' H' J st R w => hk a S' F' ρ' H' J st R w (PoS.mono h st)
  | ex c S' => exact fun F' ρ' H' st R => h F' ρ' H' st R τ
  | bad => exact h
def forF (E : Env) (t : IT) (body : IS) : U → Sl → Sto → R Fl := fun u σ1 S2 => match bindT S2 t [u] σ1 with
  | some σ2 => exS body E σ2 S2
  | none => .bad
theorem exS_for (t : IT) (it : IE) (body : IS) (E : Env) (σ : Sl) (S : Sto) : exS (.for t it body) E σ S = (evI E σ it S).bind fun items S1 => forGo (forF E t body) items σ S1 := by
  rw [exS]
  rfl
theorem ss_for {tg iter : Expr} {body : List Stmt} {t : IT} {it : IE} {ib : IS} (g : GS C W E ξ Wx X) (hh : C.hot = false) (hq : it.isQ = false) (hpl : plainX iter = true) (hi : SI W B E ξ Wx X tg iter it) (hgT : SG W B ξ X tg t) (hb : SB W B E ξ Wx X body ib) :
    SS W B E ξ Wx X (.For tg iter body [] pos) (.for t it ib) := by
  intro σ S F ρ G H τ D R ro h
  rw [exS_for] at h
  obtain ⟨wi, pi, ki⟩ := hi
  obtain ⟨gg, pg, kg⟩ := hgT
  refine sTo (ps_for g.po (g.calm hh) pi pg (pB body) (plain_fold hpl X.env)) ?_
  refine ki σ S F ρ G H τ _ R ro (h.toI fun us S1 F1 ρ1 H1 J st1 R1 wok h1 => ?_)
  obtain ⟨hl, Gd, Y, walk, wk⟩ := wok
  refine for_it walk (fun i τ' H' => ∃ F' ρ' S' σ', Stp F1 ρ1 S1 F' ρ' S' ∧ Rel W B F' ρ' S' G H' ∧ RX W B F' ρ' S'.length ξ σ' τ' ∧ PoS W B ξ Wx (forGo (forF E t ib) (us.drop i) σ' S') F' ρ' S' G D) ?_ ?_ ?_ ?_
  · exact ⟨F1, ρ1, S1, σ, Stp.refl, R1, ro.mono st1, by rw [List.drop_zero]; exact h1⟩
  · rintro i τ' H' hi' ⟨F', ρ', S', σ', st, R', _⟩
    exact (wk F' ρ' S' _ H' st R' fun z => by rw [hq] at z; cases z).1
  · rintro i x τ' H' H'' hi' ⟨F', ρ', S', σ', st, R', ro', hp⟩ y
    obtain ⟨u, hu⟩ : ∃ u, us[i]? = some u := ⟨us[i], by simp [hi']⟩
    obtain ⟨F2, st2, R2, rx⟩ := (wk F' ρ' S' _ H' st R' fun z => by rw [hq] at z; cases z).2 i x H'' u hu y
    rw [drop_cons hu, forGo] at hp
    have hp2 := PoS.mono hp st2
    cases eb : bindT S' t [u] σ' with
    | none =>
      have e : forF E t ib u σ' S' = .bad := by unfold forF; rw [eb]
      rw [e] at hp2
      exact hp2.elim
    | some σ2 =>
      have e : forF E t ib u σ' S' = exS ib E σ2 S' := by unfold forF; rw [eb]
      rw [e] at hp2
      refine kg σ' σ2 τ' S' F2 ρ' G H'' u x _ R2 (ro'.mono st2) rx eb fun τ2 ro2 _ => ?_
      refine hb σ2 S' F2 ρ' G H'' τ2 _ R2 ro2 ?_
      cases ee : exS ib E σ2 S' with
      | ok z S3 =>
        rw [ee] at hp2
        cases z with
        | nx σ3 => exact fun F3 ρ3 H3 τ3 st3 R3 ro3 => ⟨F3, ρ3, S3, σ3, (st.trans st2).trans st3, R3, ro3, PoS.mono hp2 st3⟩
        | rt u3 => exact hp2
      | ex k S3 => rw [ee] at hp2; exact hp2
      | bad => rw [ee] at hp2; exact hp2
  · rintro τ' H' ⟨F', ρ', S', σ', st, R', ro', hp⟩
    rw [List.drop_length, forGo] at hp
    exact hp.nx R' ro'
theorem ss_whl {body : List Stmt} {k : Nat} {ib : IS} (g : GS C W E ξ Wx X) (hc : ST W B E ξ Wx X ec c) (hb : SB W B E ξ Wx X body ib) : SS W B E ξ Wx X (.While ec body [] pos) (.whl k c ib) := by
  intro σ S F ρ G H τ D R ro h
  rw [exS] at h
  refine sTo (ps_while g.po (pT ec) (pB body)) ?_
  refine ⟨fun m τ' H' => ∃ F' ρ' S' σ', Rel W B F' ρ' S' G H' ∧ RX W B F' ρ' S'.length ξ σ' τ' ∧ PoS W B ξ Wx (whlGo (fun σ S => evE E σ c S) (fun σ S => exS ib E σ S) m σ' S') F' ρ' S' G D, ⟨k, F, ρ, S, σ, R, ro, h⟩, ?_⟩
  rintro m τ' H' ⟨F', ρ', S', σ', R', ro', hp⟩
  cases m with
  | zero => rw [whlGo] at hp; exact hp.elim
  | succ m =>
    rw [whlGo] at hp
    refine hc σ' S' F' ρ' G H' τ' _ R' ro' (hp.bind (RA := RV W B) fun x S1 F1 ρ1 H1 v st1 R1 r1 h1 => ?_)
    cases r1 with
    | bl t =>
      refine ⟨t, rfl, ?_⟩
      cases t with
      | false => rw [if_neg Bool.false_ne_true]; exact h1.nx R1 (ro'.mono st1)
      | true =>
        rw [if_pos rfl]
        refine ⟨fun τ2 H2 => ∃ F' ρ' S' σ', Rel W B F' ρ' S' G H2 ∧ RX W B F' ρ' S'.length ξ σ' τ2 ∧ PoS W B ξ Wx (whlGo (fun σ S => evE E σ c S) (fun σ S => exS ib E σ S) m σ' S') F' ρ' S' G D, fun τ2 H2 q => ⟨m, Nat.lt_succ_self _, q⟩, ?_⟩
        refine hb σ' S1 F1 ρ1 G H1 τ' _ R1 (ro'.mono st1) ?_
        dsimp only at h1
        cases ee : exS ib E σ' S1 with
        | ok z S3 =>
          rw [ee] at h1
          cases z with
          | nx σ3 => exact fun F3 ρ3 H3 τ3 st3 R3 ro3 => ⟨F3, ρ3, S3, σ3, R3, ro3, PoS.mono h1 st3⟩
          | rt u3 => exact h1
        | ex k S3 => rw [ee] at h1; exact h1
        | bad => rw [ee] at h1; exact h1
    | _ => exact h1.elim
/-! ### raise, try -/
theorem ss_raise {k j : Nat} {x m : Str} (g : GX C W E ξ Wx X) (hh : C.hot = false) (hx : glB C.sc x = true) (hk : okN x = true) (hT : C.T.gt.lookup x = some (.cls k)) (ho : E.P.okc k = true) (he : E.P.exc k = true) :
    SS W B E ξ Wx X (.Raise (some (.Call (.Name x p1) [.Constant (.str m) j p2] [] p3)) none pos) (.raise k) := by
  intro σ S F ρ G H τ D R ro h
  rw [exS] at h
  obtain ⟨k1, _, _⟩ := okN_ok hk
  obtain ⟨u, hu, hv⟩ := g.gt x _ hT
  cases hv
  obtain ⟨e1, e2, e3⟩ := g.kf.exk k ho he
  have ei := g.kf.exI k ho he
  rw [← g.K] at e1 e2 e3 ei
  exact sTo (L2N.ps_raise (g.calm hh) g.tk (L2N.pmk_own PySem.F.excBase_ValueError ei hu e1 (raises_own e2 e3) (gl_ok g hx) k1)) (h F ρ H Stp.refl R τ)
def CC.suite (C : CC) (i : Nat) : CC := { C with hot := true, no := some i }
theorem gs_suite {i k : Nat} {a : Addr} {oe : Obj} {pn : List (Addr × Obj)} (g : GS C W E ξ Wx X) (hz : L2N.Zn (.ref (W.cl k)) none oe) (hf : ∃ vs, oe.data = .fields vs) (ho : E.P.okc k = true) (he : E.P.exc k = true) :
    GS (C.suite i) W { E with hx := some (i, k) } (some (i, a)) never (X.suite a ((a, oe) :: pn)) where
  K := g.K
  N := g.N
  nd := g.nd
  sc := g.sc
  gt := g.gt
  bn := g.bn
  fn := g.fn
  calm := fun h => by cases h
  un := g.un
  tk := takesN
  hc := fun _ => by
    obtain ⟨vs, hv⟩ := hf
    exact ⟨(a, oe), ⟨rfl, vs, hv, hz.2.2 vs hv⟩, List.mem_cons_self⟩
  call := fun h => by cases h
  lam := fun h => by cases h
  qn := g.qn
  mks := fun h => by cases h
  lw := g.lw
  kf := g.kf
  of := g.of
  tp := g.tp
  xn := fun j b e => by cases e; rfl
  h0 := fun h => by cases h
  hx := fun j k' e => by
    cases e
    refine ⟨a, rfl, rfl, ?_⟩
    have := g.kf.exC k ho he
    rw [← g.K] at this
    exact call_isE this hz.zc hf
  po := PassesOwn.never
  stk := g.stk
  frm := g.frm
  kin := g.kin
theorem gx_tr {pn : List (Addr × Obj)} {xe : Value → Shared → Prop} {Wy : WX} (g : GX C W E ξ Wx X) (hh : C.hot = false) (tk : L2N.Takes (X.tr pn xe) Wy) : GX C W E ξ Wy (X.tr pn xe) where
  K := g.K
  N := g.N
  nd := g.nd
  sc := g.sc
  gt := g.gt
  bn := g.bn
  fn := g.fn
  calm := g.calm
  un := g.un
  tk := tk
  hc := fun h => by rw [hh] at h; cases h
  call := g.call
  lam := g.lam
  qn := g.qn
  mks := g.mks
  lw := g.lw
  kf := g.kf
  of := g.of
  tp := g.tp
  xn := g.xn
  h0 := g.h0
  hx := fun i k e => by rw [(g.h0 hh).1] at e; cases e
theorem ss_try {x n : Str} {k i : Nat} {b0 : Stmt} {suite : List Stmt} {np pe pos' : Pos} (g : GS C W E ξ Wx X) (hh : C.hot = false) (hN : C.N[i]? = some n) (hln : X.env.scope.names.lookup n = some .local) (hx : glB C.sc x = true) (hk : okN x = true) (hT : C.T.gt.lookup x = some (.cls k))
    (hc : noComp ea = true) (ha : ∀ X' Wy, GX C W E ξ Wy X' → SE W B E ξ Wy X' ea a) (hs : ∀ j b X', GS (C.suite i) W { E with hx := some (i, j) } (some (i, b)) never X' → SB W B { E with hx := some (i, j) } (some (i, b)) never X' (b0 :: suite) s1) :
    SS W B E ξ Wx X (.Try [.Expr ea pe] [.ExceptHandler (some (.Name x np)) (some n) (b0 :: suite) pos'] [] [] pos) (.tryx a k i s1) := by
  intro σ S F ρ G H τ D R ro h pins0 s0 I0
  have hl : i < τ.length := by
    rw [I0.len, g.N]
    exact (List.getElem?_eq_some_iff.mp hN).1
  rw [exS] at h
  obtain ⟨k1, _, _⟩ := okN_ok hk
  obtain ⟨u, hu, hv⟩ := g.gt x _ hT
  cases hv
  refine sTo (L2N.ps_try_as (i := i) (Wout := Wx) g.stk g.frm g.nd (by rw [g.N]; exact hN) hln ⟨gl_ok g.toGX hx, k1, .inl hu⟩ g.tk
    (tb := fun Wy D σ H => ∀ pn xe, L2N.Takes (X.tr pn xe) Wy → PassesOwn (model X.prog X.w) X.A X.env xe → wB (X.tr pn xe) [.Expr ea pe] D σ H)
    (ts := fun b cls d D σ H => ∀ oe pn, L2N.Zn cls d oe → (∃ vs, oe.data = .fields vs) → wB (X.suite b ((b, oe) :: pn)) (b0 :: suite) D σ H)
    (fun Wy pn xe tk po => ⟨fun pins s σ H D I q => q pn xe tk po pins s I⟩) (fun b oe cls d pn hz hf => ⟨fun pins s σ H D I q => q oe pn hz hf pins s I⟩)) ?_ pins0 s0 I0
  intro pn xe tk po
  refine bTo (pss_one (ps_expr (pE ea) (noComp_sw hc _ _ _))) ?_
  refine ha (X.tr pn xe) _ (gx_tr g.toGX hh tk) σ S F ρ G H τ _ R ro ?_
  cases ee : evE E σ a S with
  | ok z S1 =>
    rw [ee] at h
    exact fun F1 ρ1 H1 v st1 R1 r1 => h F1 ρ1 H1 τ st1 R1 (ro.mono st1)
  | bad => rw [ee] at h; exact h
  | ex j S1 =>
    rw [ee] at h
    dsimp only at h
    split at h
    · rename_i hoc
      simp only [Bool.and_eq_true] at hoc
      obtain ⟨⟨o1, o2⟩, o3, o4⟩ := hoc
      intro F1 ρ1 H1 st1 R1
      have em := g.kf.exm j k o1 o2 o3 o4
      rw [← g.K] at em
      refine ⟨E.P.sub j k, em, fun hb b hb' oe pn' hz hf => ?_, fun hb => ?_⟩
      · rw [hb] at h
        dsimp only at h
        have gs := gs_suite (i := i) (a := b) (pn := pn') g hz hf o1 o2
        refine hs j b _ gs (σ.set i none) S1 F1 ρ1 G H1 _ _ R1 ⟨(ro.ro.mono st1).unset i _, fun i' a' e => ?_⟩ ?_
        · cases e
          exact List.getElem?_set_self hl
        · cases e2 : exS s1 { E with hx := some (i, j) } (σ.set i none) S1 with
          | ok z S2 =>
            rw [e2] at h
            cases z with
            | nx σ2 => exact fun F2 ρ2 H2 τ2 st2 R2 ro2 => h F2 ρ2 H2 _ (st1.trans st2) R2 ⟨ro2.ro.unset i none, fun i' a' e => by rw [(g.h0 hh).2] at e; cases e⟩
            | rt w => exact fun F2 ρ2 H2 v st2 R2 r2 => h F2 ρ2 H2 v (st1.trans st2) R2 r2
          | ex _ _ => rw [e2] at h; exact h.elim
          | bad => rw [e2] at h; exact h.elim
      · rw [hb] at h
        exact h F1 ρ1 H1 st1 R1 τ
    · exact h.elim
end
end TW
/-! TWT -/
set_option Elab.async false
set_option linter.all false
set_option maxRecDepth 100000
/-! any(list) while an error is handled -/
namespace TW
open PySem PySem.Spec PyProof.Rows L2 HotX
section
variable {prog : Program} {w : World} {A : Around} {E : Value → Shared → Prop} {s : Shared}
theorem list_end_hot {it l x1 : Addr} {i : Nat} {items : Array Value} {Q : Option Value → Shared → Prop} (hot : HotAt A x1 s.heap) (ne : x1 ≠ it) (hI : s.heap.IsListIter it l i) (hL : s.heap.IsList l items) (hx : items[i]? = none)
    (hQ : ∀ h', Heap.ExtBut it s.heap h' → Q none { s with heap := h' }) : wpAny (model prog w) A (pyNext (.ref it)) Q E s := by
  obtain ⟨oi, gi, ci, di⟩ := id hI
  obtain ⟨ol, gl, _, nl, dl⟩ := hL
  obtain ⟨hh, o1, vs1, g1, d1, c1⟩ := hot
  unfold pyNext
  refine wpAny_bind (wpAny_attempt (wpAny_callSpecial?_slot (name := Str.ofString "__next__") hI.typeIs slot_listiter_next (wpAny_call_entry slot_listiter_next hI.typeIs entry_listiter_next ?_ (args_listiter_next _))))
  show wpAny _ _ (field (.ref it) 0 >>= _) _ _ s
  refine wpAny_bind (wpAny_field gi di (x := .ref l) rfl ?_)
  show wpAny _ _ (if (Value.ref l == Value.none) = true then _ else _) _ _ s
  rw [if_neg (show ¬ (Value.ref l == Value.none) = true from Bool.false_ne_true)]
  show wpAny _ _ (field (.ref it) 1 >>= _) _ _ s
  refine wpAny_bind (wpAny_field gi di (x := .int i 0) rfl ?_)
  show wpAny _ _ (seqItems? (.ref l) >>= _) _ _ s
  refine wpAny_bind (wpAny_seqItems gl dl ?_)
  simp only [Int.toNat_natCast, hx]
  refine wpAny_bind (wpAny_rule (wpAny_bind (wpAny_setField gi di (by simp) ?_)))
  show wpAny _ _ (newExc (.type "StopIteration") [] >>= _) _ _ _
  refine wpAny_bind ?_
  simp only [newExc, newTuple]
  refine wpAny_bind (wpAny_newObj_type ?_ (by size_fits))
  refine wpAny_bind (m := firstArgMember _ _) (wpAny_of_eq (a := Value.none) (by first | rfl | (simp only [firstArgMember]; rfl)) ?_)
  refine wpAny_newObj_type ?_ (by size_fits)
  have gu : (s.heap.update it (Obj.mapFields (·.setIfInBounds 0 .none))).get? x1 = some o1 := by
    rw [Heap.get?_update_other _ _ ne.symm]
    exact g1
  refine raiseNew_hot ⟨hh, o1, vs1, Heap.get?_push_of_some _ (Heap.get?_push_of_some _ gu), d1, c1⟩ (Nat.ne_of_lt (Heap.lt_size (Heap.get?_push_of_some _ gu))) (Heap.get?_push_size _ rfl) rfl (by first | (simp; done) | (simp; omega)) ?_
  refine wpAny_bind (wpAny_isInstance (T := "StopIteration") (b := true) ⟨_, Heap.get?_update_self _ (Heap.get?_push_size _ rfl) rfl, rfl⟩ isSubtype_stop ?_)
  refine wpAny_pure (hQ _ fun b o hb e => ?_)
  have e1 : (s.heap.update it (Obj.mapFields (·.setIfInBounds 0 .none))).get? b = some o := by
    rw [Heap.get?_update_other _ _ (Ne.symm hb)]
    exact e
  rw [Heap.get?_update_other _ _ (Nat.ne_of_gt (Heap.lt_size (Heap.get?_push_of_some _ e1)))]
  exact Heap.get?_push_of_some _ (Heap.get?_push_of_some _ e1)
theorem walks_hot {x1 : Addr} (I ax : Addr) (hne : ax ≠ I) (nx : x1 ≠ I) (items : Array Value) :
    Walks prog w A I [I, ax, x1] [I] items.size (fun i v => items[i]? = some v) (fun i h => h.IsListIter I ax i ∧ h.IsList ax items ∧ HotAt A x1 h) where
  sub := fun b hb => by simp at hb; simp [hb]
  frame := fun _ _ _ st hk => by
    obtain ⟨a1, a2, hh, o1, vs1, g1, d1, c1⟩ := st
    exact ⟨a1.at fun o e => hk I (by simp) o e, a2.at fun o e => hk ax (by simp) o e, hh, o1, vs1, hk x1 (by simp) _ g1, d1, c1⟩
  item := fun i s Q E hi st hQ => by
    obtain ⟨a1, a2, hh, o1, vs1, g1, d1, c1⟩ := st
    refine wpAny_pyNext_list_item a1 a2 (x := items[i]) (by simp [hi]) fun h' hit' hs' => ?_
    exact hQ _ h' s.toks (by simp [hi]) ⟨hit', a2.extBut hs'.extBut hne, hh, o1, vs1, hs'.extBut x1 o1 nx g1, d1, c1⟩ fun b o hb e => hs'.extBut b o (fun h => hb (by simp [h])) e
  done := fun s Q E st hQ => list_end_hot st.2.2 nx st.1 st.2.1 (by simp) fun h' he' => hQ h' s.toks fun b o hb e => he' b o (fun h => hb (by simp [h])) e
  self := fun _ _ _ _ st hQ => wpAny_pyIter_listiter st.1 hQ
end
theorem any_hot {X : Cx} (hc : L2H.HotC X) : CallR X (.builtin "any") (rAny X.K) := by
  rintro pins s σ H vs us Q I r ⟨a, bs, rfl, hs, q⟩
  obtain ⟨its, rv, hl, _⟩ := I.list hs
  rw [Vals.ref1 r]
  have hb := rv.bls
  obtain ⟨x1, hh, o1, vs1, g1, d1, c1⟩ := hc.at I
  refine call_any_walk (iter_any hl.isList fun s2 e2 st hne => ?_)
  subst e2
  have nx : x1 ≠ s.heap.objs.size := Nat.ne_of_lt (Heap.lt_size g1)
  refine ⟨_, _, _, _, _, _, _, rfl, walks_hot (A := X.A.in1) _ a hne nx its.toArray, ⟨st.1, st.2, hh, o1, vs1, Heap.get?_push_of_some _ g1, d1, c1⟩, truth_bools hb, fun h' tk hk => ⟨.bl _, H, I.kept fun b o eo => ?_, ?_, q⟩⟩
  · refine hk b o (fun hm => ?_) (Heap.get?_push_of_some _ eo)
    have e : b = s.heap.objs.size := by simpa using hm
    exact absurd (e ▸ Heap.lt_size eo) (Nat.lt_irrefl _)
  · show Value.bool _ = Value.bool _
    rw [← L2.any_range, hb, List.size_toArray, List.length_map]
end TW
/-! TWSa -/
set_option Elab.async false
set_option linter.all false
set_option maxRecDepth 100000
namespace TW
open PySem PySem.Spec PyProof.Rows L2
/-! ### larger tables: every slot begins a run -/
def MaskM (m : Nat) : Prop := m = 7 ∨ m = 31 ∨ m = 127 ∨ m = 511 ∨ m = 2047
def covr (m : Nat) : Nat → Nat → Nat → Nat
  | 0, _, acc => acc
  | k + 1, x, acc => if acc ||| (1 <<< x) = 0 then 0 else covr m k ((x * 5 + 1) % (m + 1)) (acc ||| (1 <<< x))
theorem covr_bit {m j : Nat} : ∀ (k x acc : Nat), (covr m k x acc).testBit j = true → acc.testBit j = true ∨ ∃ b, b < k ∧ lcgI m x b = j
  | 0, x, acc, h => .inl h
  | k + 1, x, acc, h => by
    rw [covr] at h
    split at h
    · rw [Nat.zero_testBit] at h; cases h
    · rcases covr_bit k _ _ h with h | ⟨b, hb, e⟩
      · rw [Nat.testBit_or, Bool.or_eq_true] at h
        rcases h with h | h
        · exact .inl h
        · refine .inr ⟨0, Nat.succ_pos _, ?_⟩
          rw [Nat.one_shiftLeft, Nat.testBit_two_pow, decide_eq_true_eq] at h
          exact h
      · refine .inr ⟨b + 1, Nat.succ_lt_succ hb, ?_⟩
        have sh : ∀ q, lcgI m ((x * 5 + 1) % (m + 1)) q = lcgI m x (q + 1) := by
          intro q
          induction q with
          | zero => rfl
          | succ q ih => show (lcgI m ((x * 5 + 1) % (m + 1)) q * 5 + 1) % (m + 1) = (lcgI m x (q + 1) * 5 + 1) % (m + 1); rw [ih]
        rw [← sh]; exact e
def fullM (m : Nat) : Bool := decide (covr m (m + 1) 0 0 = 2 ^ (m + 1) - 1)
theorem full7 : fullM 7 = true := by decide +kernel
theorem full31 : fullM 31 = true := by decide +kernel
theorem full127 : fullM 127 = true := by decide +kernel
theorem full511 : fullM 511 = true := by decide +kernel
theorem full2047 : fullM 2047 = true := by decide +kernel
theorem fullM_ok {m : Nat} (h : MaskM m) : fullM m = true := by
  rcases h with rfl | rfl | rfl | rfl | rfl
  · exact full7
  · exact full31
  · exact full127
  · exact full511
  · exact full2047
theorem cyc_from0 {m j : Nat} (h : MaskM m) (hj : j ≤ m) : ∃ b, b ≤ m ∧ lcgI m 0 b = j := by
  have e := of_decide_eq_true (fullM_ok h)
  have t : (covr m (m + 1) 0 0).testBit j = true := by
    rw [e, Nat.testBit_two_pow_sub_one]
    exact decide_eq_true (Nat.lt_succ_of_le hj)
  rcases covr_bit _ _ _ t with z | ⟨b, hb, q⟩
  · rw [Nat.zero_testBit] at z; cases z
  · exact ⟨b, Nat.le_of_lt_succ hb, q⟩
theorem lcgI_plus (m x : Nat) : ∀ a k, lcgI m (lcgI m x a) k = lcgI m x (a + k)
  | a, 0 => rfl
  | a, k + 1 => by
    show (lcgI m (lcgI m x a) k * 5 + 1) % (m + 1) = (lcgI m x (a + k) * 5 + 1) % (m + 1)
    rw [lcgI_plus m x a k]
theorem lap7 : lcgI 7 0 8 = 0 := by decide +kernel
theorem lap31 : lcgI 31 0 32 = 0 := by decide +kernel
theorem lap127 : lcgI 127 0 128 = 0 := by decide +kernel
theorem lap511 : lcgI 511 0 512 = 0 := by decide +kernel
theorem lap2047 : lcgI 2047 0 2048 = 0 := by decide +kernel
theorem lapM {m : Nat} (h : MaskM m) : lcgI m 0 (m + 1) = 0 := by
  rcases h with rfl | rfl | rfl | rfl | rfl
  · exact lap7
  · exact lap31
  · exact lap127
  · exact lap511
  · exact lap2047
theorem cycM {m i j : Nat} (h : MaskM m) (hi : i ≤ m) (hj : j ≤ m) : ∃ k, k ≤ m ∧ lcgI m i k = j := by
  obtain ⟨a, ha, rfl⟩ := cyc_from0 h hi
  obtain ⟨b, hb, rfl⟩ := cyc_from0 h hj
  by_cases c : a ≤ b
  · exact ⟨b - a, by omega, by rw [lcgI_plus, Nat.add_sub_cancel' c]⟩
  · refine ⟨m + 1 + b - a, by omega, ?_⟩
    rw [lcgI_plus, Nat.add_sub_cancel' (by omega), ← lcgI_plus, lapM h]
theorem meetsR {m : Nat} (hm : MaskM m) (h : Int) {j : Nat} (hj : j ≤ m) : ∃ n, n ≤ 12 + m ∧ runI m (SetTable.bits h) n = j := by
  obtain ⟨k, hk, e⟩ := cycM hm (runI_le m (SetTable.bits h) 12) hj
  exact ⟨12 + k, Nat.add_le_add_left hk _, (runI_tail (bits_lt h) k).trans e⟩
theorem meetsN {m : Nat} (hm : MaskM m) (h : Int) {j : Nat} (hj : j ≤ m) : ∃ k, k < 10 * SetTable.turns m ∧ way m h k = j := by
  obtain ⟨n, hn, e⟩ := meetsR hm h hj
  obtain ⟨k, hk, e2⟩ := run_nth m (SetTable.bits h) n
  have lt : 10 * n < 10 * SetTable.turns m := by unfold SetTable.turns; omega
  exact ⟨k, Nat.lt_of_le_of_lt hk lt, (congrArg SetTable.Probe.j e2).trans e⟩
theorem way_in (m : Nat) (h : Int) (k : Nat) : way m h k ≤ m := by
  have hb : SetTable.bits h % (m + 1) ≤ m := Nat.le_of_lt_succ (Nat.mod_lt _ (Nat.succ_pos _))
  have r := runEnd_bd hb
  have st : (runAt m (SetTable.bits h % (m + 1)) (SetTable.bits h)).j + (runAt m (SetTable.bits h % (m + 1)) (SetTable.bits h)).more ≤ m := by
    unfold runAt
    dsimp only
    omega
  exact Nat.le_trans (Nat.le_add_right _ _) (nth_in k _ st)
/-! ### tables -/
structure TabM (t : SetTable) (hs : List Int) : Prop where
  up : Ris t.place.toList
  nod : t.dummies = #[]
  len : t.place.toList.length = hs.length
  msk : MaskM t.mask
  low : ∀ x ∈ t.place.toList, x ≤ t.mask
  met : ∀ (i : Nat) (h : Int) (j : Nat), hs[i]? = some h → t.place.toList[i]? = some j → ∃ k, way t.mask h k = j ∧ ∀ q, q < k → way t.mask h q ∈ t.place.toList
theorem odd_msk {m : Nat} (h : MaskM m) : m % 2 = 1 := by rcases h with rfl | rfl | rfl | rfl | rfl <;> rfl
section
variable {t : SetTable} {hs : List Int} {h : Int}
theorem TabM.gap (T : TabM t hs) (hl : hs.length ≤ t.mask) (h : Int) : ∃ K, K < 10 * SetTable.turns t.mask ∧ way t.mask h K ∉ t.place.toList ∧ ∀ q, q < K → way t.mask h q ∈ t.place.toList := by
  obtain ⟨j, hj, hn⟩ := st_missing t.place.toList (t.mask + 1) (by have := T.len; omega)
  obtain ⟨k, hk, e⟩ := meetsN T.msk h (Nat.le_of_lt_succ hj)
  have hne : way t.mask h k ∉ t.place.toList := fun z => hn (e ▸ z)
  obtain ⟨K, a, b, c⟩ := st_least (p := fun q => way t.mask h q ∉ t.place.toList) k hne
  exact ⟨K, Nat.lt_of_le_of_lt a hk, b, fun q hq => Classical.byContradiction fun z => c q hq z⟩
theorem TabM.ahead (T : TabM t hs) {K i j : Nat} (hK : way t.mask h K ∉ t.place.toList) (hi : hs[i]? = some h) (hj : t.place.toList[i]? = some j) : ∃ k, k < K ∧ way t.mask h k = j := by
  obtain ⟨k, e, hb⟩ := T.met i h j hi hj
  refine ⟨k, Classical.byContradiction fun z => ?_, e⟩
  by_cases c : K < k
  · exact hK (hb K c)
  · have ek : k = K := by omega
    exact hK (by rw [← ek, e]; exact List.mem_of_getElem? hj)
theorem TabM.add (T : TabM t hs) {K : Nat} (hK : way t.mask h K ∉ t.place.toList) (hb : ∀ q, q < K → way t.mask h q ∈ t.place.toList) {p : Nat} (hp : p = SetTable.below t.place (way t.mask h K)) :
    p ≤ hs.length ∧ TabM (t.put (way t.mask h K)).1 (hs.take p ++ h :: hs.drop p) ∧ (t.put (way t.mask h K)).1.fill = hs.length + 1 := by
  have hle := way_in t.mask h K
  have hwh : ∃ j, way t.mask h K = j := ⟨_, rfl⟩
  obtain ⟨j, ej⟩ := hwh
  rw [ej] at hK hle hp ⊢
  have cut := (below_cut T.up j).1
  rw [← hp, ← Array.length_toList] at cut
  have cut2 : p ≤ hs.length := T.len ▸ cut
  have pl := put_place t j
  rw [← hp] at pl
  have plen : (t.put j).1.place.toList.length = hs.length + 1 := by rw [pl, len_ins _ cut, T.len]
  have free : t.place[SetTable.below t.place j]? ≠ some j := fun e => hK (List.mem_of_getElem? ((Array.getElem?_toList ..).trans e))
  have inn : ∀ x, x ∈ t.place.toList → x ∈ (t.put j).1.place.toList := fun x hx => by rw [pl]; exact mem_ins.2 (.inr hx)
  refine ⟨cut2, ⟨ris_insert T.up free, put_dm T.nod j, by rw [plen, len_ins _ cut2], T.msk, fun x hx => ?_, fun i h' j' h1 h2 => ?_⟩, ?_⟩
  · rw [pl, mem_ins] at hx
    rcases hx with rfl | hx
    · exact hle
    · exact T.low x hx
  · rw [tins_get hs cut2 h i] at h1
    rw [pl, tins_get t.place.toList cut j i] at h2
    show ∃ k, way t.mask h' k = j' ∧ ∀ q, q < k → way t.mask h' q ∈ (t.put j).1.place.toList
    split at h1
    · rename_i c
      rw [if_pos c] at h2
      obtain ⟨k, e, z⟩ := T.met i h' j' h1 h2
      exact ⟨k, e, fun q hq => inn _ (z q hq)⟩
    · rename_i c
      rw [if_neg c] at h2
      split at h1
      · rename_i d
        rw [if_pos d] at h2
        cases h1
        cases h2
        exact ⟨K, ej, fun q hq => inn _ (hb q hq)⟩
      · rename_i d
        rw [if_neg d] at h2
        obtain ⟨k, e, z⟩ := T.met (i - 1) h' j' h1 h2
        exact ⟨k, e, fun q hq => inn _ (z q hq)⟩
  · unfold SetTable.fill
    rw [put_dm T.nod j, ← Array.length_toList, plen]
    rfl
end
/-! ### laying anew -/
theorem freeM {m : Nat} (hm : MaskM m) (ow : Array (Option Nat)) (h : Int) {j : Nat} (hj : j ≤ m) (hf : oAt ow j = none) :
    ∃ K, SetTable.layClean.free m ow (SetTable.turns m) (SetTable.bits h % (m + 1)) (SetTable.bits h) = some (way m h K) ∧ oAt ow (way m h K) = none ∧ ∀ q, q < K → oAt ow (way m h q) ≠ none := by
  obtain ⟨n, hn, e⟩ := meetsR hm h hj
  obtain ⟨z, hz⟩ : ∃ z, z = off m (SetTable.bits h % (m + 1)) (SetTable.bits h) n := ⟨_, rfl⟩
  have wz : way m h z = j := by
    have e1 := nth_off m n (SetTable.bits h % (m + 1)) (SetTable.bits h)
    rw [itL_run, ← hz] at e1
    exact (congrArg SetTable.Probe.j e1).trans e
  obtain ⟨K, k1, k2, k3⟩ := st_least (p := fun q => oAt ow (way m h q) = none) z (by rw [wz]; exact hf)
  have tn : n < SetTable.turns m := by unfold SetTable.turns; omega
  refine ⟨K, free_spec m ow _ n _ _ K tn (hz ▸ k1) (fun q hq => ?_) (Option.isNone_iff_eq_none.mpr k2), k2, k3⟩
  exact Bool.eq_false_iff.mpr fun c => k3 q hq (Option.isNone_iff_eq_none.mp c)
theorem ownM {m : Nat} (hm : MaskM m) {dn : List Int} {ow : Array (Option Nat)} (W : Own m dn ow) (hl : dn.length ≤ m) (h : Int) :
    ∃ j, SetTable.layClean.free m ow (SetTable.turns m) (SetTable.bits h % (m + 1)) (SetTable.bits h) = some j ∧ Own m (dn ++ [h]) (ow.setIfInBounds j (some dn.length)) := by
  obtain ⟨ps, lp, cov⟩ := W.ps
  obtain ⟨j0, g0, n0⟩ := st_missing ps (m + 1) (by omega)
  have e0 : oAt ow j0 = none := Classical.byContradiction fun z => n0 (cov j0 (Nat.le_of_lt_succ g0) z)
  obtain ⟨K, e1, e2, e3⟩ := freeM hm ow h (Nat.le_of_lt_succ g0) e0
  have wl := way_in m h K
  obtain ⟨v, hv⟩ : ∃ v, v = way m h K := ⟨_, rfl⟩
  rw [← hv] at e1 e2 wl
  have slf := oAt_set_self (owner := ow) (some dn.length) (show v < ow.size by rw [W.sz]; omega)
  have oth : ∀ i, i ≠ v → oAt (ow.setIfInBounds v (some dn.length)) i = oAt ow i := fun i c => oAt_set_ne _ c
  have grow : ∀ i, oAt ow i ≠ none → oAt (ow.setIfInBounds v (some dn.length)) i ≠ none := fun i hi => by
    by_cases c : i = v
    · rw [c, slf]; exact Option.some_ne_none _
    · rw [oth i c]; exact hi
  refine ⟨v, e1, (Array.size_setIfInBounds ..).trans W.sz, fun j k hj e => ?_, fun k hk => ?_, v :: ps, by simp [lp], fun j hj e => ?_⟩
  · by_cases c : j = v
    · rw [c, slf, Option.some.injEq] at e
      exact ⟨h, K, by rw [← e]; simp, by rw [c, hv], fun q hq => grow _ (e3 q hq)⟩
    · rw [oth j c] at e
      obtain ⟨h', K', a1, a2, a3⟩ := W.at_ j k hj e
      have lk := (List.getElem?_eq_some_iff.mp a1).1
      exact ⟨h', K', (List.getElem?_append_left lk).trans a1, a2, fun q hq => grow _ (a3 q hq)⟩
  · by_cases c : k < dn.length
    · obtain ⟨j, hj, e⟩ := W.all k c
      have jv : j ≠ v := fun z => by rw [z, e2] at e; cases e
      exact ⟨j, hj, (oth j jv).trans e⟩
    · have : k = dn.length := by simp at hk; omega
      exact ⟨v, wl, by rw [slf, this]⟩
  · by_cases c : j = v
    · rw [c]; simp
    · rw [oth j c] at e
      exact List.mem_cons_of_mem _ (cov j hj e)
theorem foldM {m : Nat} (hm : MaskM m) : ∀ (rs dn : List Int) (ow : Array (Option Nat)), Own m dn ow → dn.length + rs.length ≤ m →
    ∃ ow' n, rs.foldl (stepF m) (some (ow, dn.length)) = some (ow', n) ∧ Own m (dn ++ rs) ow'
  | [], dn, ow, W, _ => ⟨ow, _, rfl, (List.append_nil dn).symm ▸ W⟩
  | h :: rs, dn, ow, W, hl => by
    simp only [List.length_cons] at hl
    obtain ⟨j, e, W1⟩ := ownM hm W (by omega) h
    obtain ⟨ow', n, f, W2⟩ := foldM hm rs (dn ++ [h]) _ W1 (by simp; omega)
    refine ⟨ow', n, ?_, by simpa using W2⟩
    rw [List.foldl_cons, stepF_some e]
    simpa using f
theorem layM {m : Nat} (hm : MaskM m) {hs : Array Int} (hn : hs.size ≤ m) : ∃ ow, SetTable.layClean m hs = some ow ∧ Own m hs.toList ow := by
  obtain ⟨ow, n, f, W⟩ := foldM hm hs.toList [] _ (Own.init m) (by simpa using hn)
  refine ⟨ow, ?_, by simpa using W⟩
  rw [layClean_eq]
  exact congrArg (Option.map (·.1)) f
theorem relayM (t : SetTable) {hs : Array Int} {wd M : Nat} (hw : SetTable.sizeAbove wd - 1 = M) (hM : MaskM M) (hn : hs.size ≤ M) :
    ∃ t' od, t.relaid hs wd = some (t', od) ∧ od.toList.Perm (List.range hs.size) ∧ TabM t' (od.toList.map fun i => hs.getD i 0) ∧ t'.mask = M ∧ t'.led = t.led ∧ t'.plain = t.plain := by
  obtain ⟨ow, e, W⟩ := layM hM hn
  obtain ⟨lv, hlv⟩ : ∃ lv, lv = liveOf M ow := ⟨_, rfl⟩
  have ml : ∀ j k, (j, k) ∈ lv ↔ j ≤ M ∧ oAt ow j = some k := fun j k => hlv ▸ mem_live W.sz
  have hr : t.relaid hs wd = some (tabOf t M ow, (lv.map (·.2)).toArray) := by rw [relaid_eq, hw, e, hlv]; rfl
  have rs : Ris (lv.map (·.1)) ∧ ∀ x ∈ lv.map (·.1), x ∈ List.range (M + 1) := hlv ▸ ris_live (fun j => ow.getD j none) (List.range (M + 1)) List.pairwise_lt_range
  have ndl : (lv.map (·.1)).Nodup := List.Pairwise.imp (fun {_ _} z => Nat.ne_of_lt z) rs.1
  have cnt : lv.length = hs.size := by
    obtain ⟨ps, p1, p2⟩ := W.ps
    have up := nat_nodup_len (lv.map (·.1)) ps ndl fun x hx => by
      obtain ⟨⟨y, k⟩, hq, rfl⟩ := List.mem_map.mp hx
      obtain ⟨b1, b2⟩ := (ml y k).1 hq
      exact p2 y b1 (by rw [b2]; exact Option.some_ne_none _)
    have dw := nat_nodup_len (List.range hs.size) (lv.map (·.2)) List.nodup_range fun k hk => by
      obtain ⟨j, b1, b2⟩ := W.all k (List.mem_range.mp hk)
      exact List.mem_map.mpr ⟨(j, k), (ml j k).2 ⟨b1, b2⟩, rfl⟩
    simp only [List.length_map, List.length_range] at up dw
    have : hs.toList.length = hs.size := rfl
    omega
  refine ⟨_, _, hr, perm_range hs.size _ (by simpa using cnt) fun k hk => ?_, ⟨(show Ris ((liveOf M ow).map (·.1)) from hlv ▸ rs.1), rfl, ?_, hM, fun x hx => ?_, fun i h j h1 h2 => ?_⟩, rfl, rfl, rfl⟩
  · obtain ⟨j, b1, b2⟩ := W.all k hk
    exact List.mem_map.mpr ⟨(j, k), (ml j k).2 ⟨b1, b2⟩, rfl⟩
  · show ((liveOf M ow).map (·.1)).length = ((lv.map (·.2)).map fun i => hs.getD i 0).length
    rw [← hlv]; simp
  · have hx' : x ∈ (liveOf M ow).map (·.1) := hx
    rw [← hlv] at hx'
    exact Nat.le_of_lt_succ (List.mem_range.mp (rs.2 x hx'))
  · have g2 : ((liveOf M ow).map (·.1))[i]? = some j := h2
    have g1 : ((lv.map (·.2)).map fun i => hs.getD i 0)[i]? = some h := h1
    rw [← hlv] at g2
    simp only [List.getElem?_map, Option.map_eq_some_iff] at g1 g2
    obtain ⟨⟨y, k⟩, hq, rfl⟩ := g2
    obtain ⟨k', ⟨⟨y', k2⟩, hq', rfl⟩, eh⟩ := g1
    cases hq.symm.trans hq'
    obtain ⟨b1, b2⟩ := (ml y k).1 (List.mem_of_getElem? hq)
    obtain ⟨h0, K, a1, a2, a3⟩ := W.at_ y k b1 b2
    have e0 : h0 = h := by
      rw [← eh]
      show h0 = hs.getD k 0
      rw [Array.getD_eq_getD_getElem?, ← Array.getElem?_toList, a1]
      rfl
    subst e0
    refine ⟨K, a2, fun q hq => ?_⟩
    show way M h0 q ∈ (liveOf M ow).map (·.1)
    obtain ⟨k3, e3⟩ := Option.ne_none_iff_exists'.mp (a3 q hq)
    exact List.mem_map.mpr ⟨(way M h0 q, k3), hlv ▸ (ml _ _).2 ⟨way_in M h0 q, e3⟩, rfl⟩
end TW
/-! TWSb -/
set_option Elab.async false
set_option linter.all false
set_option maxRecDepth 100000
namespace TW
open PySem PySem.Spec PyProof.Rows L2
section
variable {P : Program} {w : World} {A : Around} {E : Value → Shared → Prop} {s : Shared}
/-- a set of tuples of ints, up to a thousand -/
structure SetM (P : Program) (w : World) (h : Heap) (a : Addr) (L : List (Addr × List Int)) (es : Array (Int × Value)) (ep : Nat) (t : SetTable) : Prop where
  obj : ∃ o, h.get? a = some o ∧ o.ExactSet ∧ o.data = .set es ep t
  row : es.toList = rowsOf P w L
  tbl : TabM t (L.map fun p => thash P w p.2)
  ndp : (L.map (·.2)).Nodup
  tps : ∀ p ∈ L, IsT P w h p.2 p.1
  pln : t.plain = true
  ldd : w.params.followText "set-order" = true ∨ t.led = true
  rom : L.length * 5 < t.mask * 3
  few : L.length < 1000
variable {a : Addr} {L : List (Addr × List Int)} {es : Array (Int × Value)} {ep : Nat} {t : SetTable}
theorem rows_len {L : List (Addr × List Int)} {es : Array (Int × Value)} (h : es.toList = rowsOf P w L) : es.size = L.length := by
  have z := congrArg List.length h
  simpa [rowsOf] using z
theorem SetM.cnt (R : SetM P w s.heap a L es ep t) : es.size = L.length := rows_len R.row
theorem SetM.plc (R : SetM P w s.heap a L es ep t) : t.place.toList.length = L.length := by rw [R.tbl.len, List.length_map]
theorem fit_of {n : Nat} (h1 : t.place.toList.length = n) (h2 : t.dummies = #[]) (h3 : n ≤ t.mask) : t.fits n = true := by
  have h1' : t.place.size = n := h1
  unfold SetTable.fits SetTable.fill
  rw [h2, h1']
  simpa using h3
theorem SetM.fit (R : SetM P w s.heap a L es ep t) : t.fits es.size = true :=
  fit_of (R.plc.trans R.cnt.symm) R.tbl.nod (by have := R.rom; rw [R.cnt]; omega)
theorem SetM.at_ (R : SetM P w s.heap a L es ep t) {i : Nat} {p : Addr × List Int} (h : L[i]? = some p) : es[i]? = some (thash P w p.2, Value.ref p.1) := by
  rw [← Array.getElem?_toList, R.row, rowsOf, List.getElem?_map, h]
  rfl
theorem SetM.nogw (R : SetM P w s.heap a L es ep t) : ¬ t.gaveWay = true := by
  have o := odd_msk R.tbl.msk
  unfold SetTable.gaveWay
  rw [o]
  decide
theorem nodmy (m : Nat) : ∀ (n : Nat) (p : SetTable.Probe), p.dummy = none → (nth m p n).dummy = none
  | 0, _, h => h
  | n + 1, p, h => nodmy m n (adv m p) (by unfold adv; split <;> exact h)
/-- from step c on -/
theorem seekM (R : SetM P w s.heap a L es ep t) {x : Addr} {k : List Int} (hx : IsT P w s.heap k x) (hu : A.units < cLine) {hk : Int} (ehk : thash P w k = hk) {K : Nat} (kf : K < 10 * SetTable.turns t.mask)
    (ko : way t.mask hk K ∉ t.place.toList) (kb : ∀ c, c < K → way t.mask hk c ∈ t.place.toList) {Q : SetFound → Shared → Prop}
    (yes : k ∈ L.map (·.2) → Q (.there none) s) (no : k ∉ L.map (·.2) → Q (.free (way t.mask hk K) false) s) {st : SetTable.Probe} (est : t.probeStart hk = st) :
    ∀ (f c : Nat) (sd : Option SetTable.Probe), sd.getD (t.probeStart hk) = nth t.mask st c → c ≤ K → K - c < f →
      (∀ (i : Nat) p, L[i]? = some p → p.2 = k → ∃ c', c ≤ c' ∧ c' < K ∧ t.place.toList[i]? = some (way t.mask hk c')) →
      wpAny (model P w) A (setSearchFrom a (.ref x) hk true f sd) Q E s
  | 0, c, sd, _, _, hf, _ => absurd hf (Nat.not_lt_zero _)
  | f + 1, c, sd, hsd, hc, hf, later => by
    obtain ⟨o, go, gx, gd⟩ := R.obj
    have wj : ∀ q, (nth t.mask st q).j = way t.mask hk q := fun q => by rw [← est]; rfl
    have shift : ∀ q, nth t.mask (nth t.mask st c) q = nth t.mask st (c + q) := fun q => (nth_add t.mask c st q).symm
    have dmy : (nth t.mask st c).dummy = none := nodmy _ _ _ (by rw [← est]; rfl)
    rw [setSearchFrom_succ]
    refine wpAny_bind (wpAny_setState_of go gd R.fit ?_)
    dsimp only
    refine wp_if_neg R.nogw ?_
    try refine wpAny_bind (wpAny_pure ?_)
    have hsh : ∀ (i : Nat) p, L[i]? = some p → (es[i]?.map (·.1)).getD 0 = thash P w p.2 := fun i p hp => by rw [R.at_ hp]; rfl
    have sp := go_spec t R.tbl.up R.tbl.nod (fun i => (es[i]?.map (·.1)).getD 0) hk (10 * SetTable.turns t.mask) (K - c) (nth t.mask st c) dmy (by omega)
      (fun q hq => by rw [shift, wj]; exact kb _ (by omega)) (by rw [shift, wj, Nat.add_sub_cancel' hc]; exact ko)
    simp only [shift, wj] at sp
    rcases sp with ⟨q, i, hq, hi, hh, hno, pr⟩ | ⟨hno, pr⟩
    · have pr' : t.probe (fun i => (es[i]?.map (·.1)).getD 0) hk (sd.getD (t.probeStart hk)) = some (.candidate (way t.mask hk (c + q)) i (nth t.mask st (c + (q + 1)))) := by rw [hsd]; exact pr
      rw [pr']
      dsimp only
      have il : i < L.length := R.plc ▸ (List.getElem?_eq_some_iff.mp hi).1
      obtain ⟨p, hp⟩ : ∃ p, L[i]? = some p := ⟨_, List.getElem?_eq_getElem il⟩
      have pin := List.mem_of_getElem? hp
      have live : t.slot (way t.mask hk (c + q)) = .live i := slot_live R.tbl.up hi
      have tail : wpAny (model P w) A (searchRest a (.ref x) hk true f es t (way t.mask hk (c + q)) i (nth t.mask st (c + (q + 1)))) Q E s := by
        unfold searchRest
        rw [R.at_ hp]
        dsimp only
        refine wpAny_bind (wpAny_holding (wpAny_eqBool_tuple hu (R.tps p pin) hx (wpAny_bind (wpAny_setState_of go gd R.fit ?_))))
        dsimp only
        by_cases same : p.2 = k
        · exact wp_if_pos (by simp [same]) (wpAny_pure (yes (List.mem_map.mpr ⟨p, pin, same⟩)))
        · refine wp_if_neg (by simp [same]) ?_
          try refine wpAny_bind (wpAny_pure ?_)
          rw [sameMem]
          dsimp only
          simp only [if_true, live, R.at_ hp]
          refine wpAny_bind (wpAny_isSame_ref_self (wpAny_bind (wpAny_pure ?_)))
          simp only [if_true]
          refine wp_if_neg (by simp [same]) (seekM R hx hu ehk kf ko kb yes no est f (c + (q + 1)) _ rfl (by omega) (by omega) fun i0 p0 h0 e0 => ?_)
          obtain ⟨c', a1, a2, a3⟩ := later i0 p0 h0 e0
          refine ⟨c', Classical.byContradiction fun z => ?_, a2, a3⟩
          by_cases y : c' = c + q
          · have s0 := slot_live R.tbl.up a3
            rw [y, live] at s0
            cases s0
            rw [hp] at h0
            cases h0
            exact same e0
          · refine hno (c' - c) i0 (by omega) (by rw [Nat.add_sub_cancel' a1]; exact a3) ?_
            rw [hsh i0 p0 h0, e0, ehk]
      by_cases ld : t.led = true
      · refine wp_if_neg (by simp [ld]) ?_
        try refine wpAny_bind (wpAny_pure ?_)
        exact tail
      · refine wp_if_pos (by simp [ld]) (wpAny_bind (seen_tup hx (fun y hy => ?_) ?_))
        · obtain ⟨e, he, rfl⟩ := List.mem_map.mp hy
          have he' : e ∈ es.toList := by
            have z : e ∈ es ∧ e.1 = hk := by simpa using he
            simpa using z.1
          rw [R.row, rowsOf] at he'
          obtain ⟨p2, hp2, rfl⟩ := List.mem_map.mp he'
          exact ⟨p2.2, p2.1, rfl, R.tps p2 hp2⟩
        · refine wp_if_neg (by decide) ?_
          try refine wpAny_bind (wpAny_pure ?_)
          exact tail
    · have pr' : t.probe (fun i => (es[i]?.map (·.1)).getD 0) hk (sd.getD (t.probeStart hk)) = some (.empty (way t.mask hk K) none) := by
        rw [hsd, ← Nat.add_sub_cancel' hc]; exact pr
      rw [pr']
      dsimp only
      refine wpAny_pure (no fun hm => ?_)
      obtain ⟨p0, h0, e0⟩ := List.mem_map.mp hm
      obtain ⟨i0, hi0, ei⟩ := List.getElem_of_mem h0
      have h00 : L[i0]? = some p0 := by rw [List.getElem?_eq_getElem hi0, ei]
      obtain ⟨c', a1, a2, a3⟩ := later i0 p0 h00 e0
      exact hno (c' - c) i0 (by omega) (by rw [Nat.add_sub_cancel' a1]; exact a3) (by rw [hsh i0 p0 h00, e0, ehk])
theorem lookM (R : SetM P w s.heap a L es ep t) {x : Addr} {k : List Int} (hx : IsT P w s.heap k x) (hu : A.units < cLine) {hk : Int} (ehk : thash P w k = hk) {Q : SetFound → Shared → Prop} (yes : k ∈ L.map (·.2) → Q (.there none) s)
    (no : ∀ K, k ∉ L.map (·.2) → way t.mask hk K ∉ t.place.toList → (∀ c, c < K → way t.mask hk c ∈ t.place.toList) → Q (.free (way t.mask hk K) false) s) :
    wpAny (model P w) A (setSearch a (.ref x) hk true) Q E s := by
  have rm := R.rom
  obtain ⟨K, kf, ko, kb⟩ := R.tbl.gap (by rw [List.length_map]; omega) hk
  have big : K < 100000 := by
    have : 10 * SetTable.turns t.mask ≤ 20620 := by
      unfold SetTable.turns
      rcases R.tbl.msk with e | e | e | e | e <;> omega
    omega
  unfold setSearch
  refine seekM R hx hu ehk kf ko kb yes (fun n => no K n ko kb) rfl 100000 0 none rfl (Nat.zero_le _) (by omega) fun i p hp e => ?_
  have il : i < t.place.toList.length := R.plc ▸ (List.getElem?_eq_some_iff.mp hp).1
  have gj := List.getElem?_eq_getElem il
  have gi : (L.map fun p => thash P w p.2)[i]? = some hk := by rw [List.getElem?_map, hp, ← ehk, ← e]; rfl
  obtain ⟨c, hc, z⟩ := R.tbl.ahead ko gi gj
  exact ⟨c, Nat.zero_le _, hc, by rw [gj, z]⟩
end
end TW
/-! TWSc -/
set_option Elab.async false
set_option linter.all false
set_option maxRecDepth 100000
namespace TW
open PySem PySem.Spec PyProof.Rows L2
section
variable {P : Program} {w : World} {A : Around} {E : Value → Shared → Prop} {s : Shared} {a : Addr} {L : List (Addr × List Int)} {es : Array (Int × Value)} {ep : Nat} {t : SetTable}
theorem widerM {o : Obj} (go : s.heap.get? a = some o) (gx : o.ExactSet) (gd : o.data = .set es ep t) (rw0 : es.toList = rowsOf P w L) (pz : t.place.toList.length = es.size) (nod : t.dummies = #[]) (fl : es.size ≤ t.mask)
    (nd : (L.map (·.2)).Nodup) (tps : ∀ p ∈ L, IsT P w s.heap p.2 p.1) (pln : t.plain = true) (ldd : w.params.followText "set-order" = true ∨ t.led = true) (few : L.length < 1000) {wd M : Nat}
    (hw : SetTable.sizeAbove wd - 1 = M) (hM : MaskM M) (hn : L.length * 5 < M * 3) {Q : Unit → Shared → Prop}
    (k : ∀ h' L' es' ep' t', Heap.SameBut a s.heap h' → SetM P w h' a L' es' ep' t' → L'.Perm L → Q () { s with heap := h' }) : wpAny (model P w) A (setRelay a wd) Q E s := by
  have sl : es.size = L.length := rows_len rw0
  have small : SetTable.sizeAbove wd ≤ 2048 := by rcases hM with e | e | e | e | e <;> omega
  obtain ⟨t', od, e, hp, T, em, el, epl⟩ := relayM t (hs := es.map (·.1)) (wd := wd) hw hM (by rw [Array.size_map, sl]; omega)
  rw [Array.size_map, sl] at hp
  obtain ⟨L2, r1, r2, r3⟩ := order_rows L es od rw0 hp
  rw [← r3] at T
  have s2 : (od.filterMap (es[·]?)).size = es.size := by rw [rows_len r1, r2.length_eq, sl]
  rw [setRelay_eq]
  refine wpAny_bind (wpAny_setState_of go gd (fit_of pz nod fl) ?_)
  dsimp only
  refine wp_if_neg (by rw [sizeLine_eq]; omega) ?_
  try refine wpAny_bind (wpAny_pure ?_)
  rw [e]
  dsimp only
  refine wpAny_bind (wp_if_neg (by rw [s2]; simp) ?_)
  try refine wpAny_bind (wpAny_pure ?_)
  refine wpAny_pure (wpAny_storeSet_of go gd ?_ (by show (od.filterMap (es[·]?)).size ≤ sizeLine; rw [s2, sl, sizeLine_eq]; omega))
  have sb := Heap.SameBut.update s.heap a (Obj.putSet (od.filterMap (es[·]?)) t')
  refine k _ L2 (od.filterMap (es[·]?)) (ep + 1) t' sb ⟨⟨_, store_at go gd, ⟨gx.1, gx.2.1, gx.2.2⟩, rfl⟩, r1, T, (r2.map (·.2)).nodup_iff.mpr nd, fun p hpm => isT_same (tps p (r2.mem_iff.mp hpm)) go gd sb, epl.trans pln, ?_, ?_, ?_⟩ r2
  · rw [el]; exact ldd
  · rw [r2.length_eq, em]; exact hn
  · rw [r2.length_eq]; exact few
theorem grow5 : SetTable.sizeAbove (SetTable.grown 5) - 1 = 31 := by decide +kernel
theorem grow19 : SetTable.sizeAbove (SetTable.grown 19) - 1 = 127 := by decide +kernel
theorem grow77 : SetTable.sizeAbove (SetTable.grown 77) - 1 = 511 := by decide +kernel
theorem grow307 : SetTable.sizeAbove (SetTable.grown 307) - 1 = 2047 := by decide +kernel
theorem nextM {m n : Nat} (h : MaskM m) (h1 : n * 5 < m * 3) (h2 : (n + 1) * 5 ≥ m * 3) (few : n + 1 < 1000) : ∃ M, SetTable.sizeAbove (SetTable.grown (n + 1)) - 1 = M ∧ MaskM M ∧ (n + 1) * 5 < M * 3 := by
  rcases h with rfl | rfl | rfl | rfl | rfl
  · obtain rfl : n = 4 := by omega
    exact ⟨31, grow5, .inr (.inl rfl), by decide⟩
  · obtain rfl : n = 18 := by omega
    exact ⟨127, grow19, .inr (.inr (.inl rfl)), by decide⟩
  · obtain rfl : n = 76 := by omega
    exact ⟨511, grow77, .inr (.inr (.inr (.inl rfl))), by decide⟩
  · obtain rfl : n = 306 := by omega
    exact ⟨2047, grow307, .inr (.inr (.inr (.inr rfl))), by decide⟩
  · omega
theorem putM (R : SetM P w s.heap a L es ep t) {x : Addr} {k : List Int} (hx : IsT P w s.heap k x) (hu : A.units < cLine) (few : L.length + 1 < 1000) {Q : Bool → Shared → Prop}
    (c : ∀ b h' L' es' ep' t', Heap.SameBut a s.heap h' → SetM P w h' a L' es' ep' t' → (k ∈ L.map (·.2) → L' = L) → (k ∉ L.map (·.2) → L'.Perm ((x, k) :: L)) → Q b { s with heap := h' }) :
    wpAny (model P w) A (setAddHashed a (.ref x) (thash P w k)) Q E s := by
  obtain ⟨o, go, gx, gd⟩ := R.obj
  have sl := R.cnt
  have rm := R.rom
  obtain ⟨hk, ehk⟩ : ∃ hk, thash P w k = hk := ⟨_, rfl⟩
  rw [ehk]
  unfold setAddHashed
  refine wpAny_holding ?_
  rw [show 100000 = 99999 + 1 by rfl, setAddHashedIn_succ a (.ref x) hk 99999]
  refine wpAny_bind (wpAny_setState_of go gd R.fit ?_)
  dsimp only
  refine wp_if_neg (by simp [byScan, Value.scannable]) ?_
  try refine wpAny_bind (wpAny_pure ?_)
  refine wpAny_bind (lookM R hx hu ehk (fun hm => ?_) fun K hm ko kb => ?_)
  · dsimp only
    exact wpAny_pure (c false s.heap L es ep t (.refl a s.heap) R (fun _ => rfl) fun z => absurd hm z)
  · dsimp only
    refine wpAny_bind (wpAny_setState_of go gd R.fit ?_)
    dsimp only
    obtain ⟨p, hp⟩ : ∃ p, p = SetTable.below t.place (way t.mask hk K) := ⟨_, rfl⟩
    obtain ⟨b1, b2, b3⟩ := R.tbl.add ko kb hp
    have u2 : (t.put (way t.mask hk K)).2 = p := hp.symm
    have um : (t.put (way t.mask hk K)).1.mask = t.mask := rfl
    have ul : (t.put (way t.mask hk K)).1.led = t.led := rfl
    have upn : (t.put (way t.mask hk K)).1.plain = true := R.pln
    generalize t.put (way t.mask hk K) = pt at b2 b3 u2 um ul upn ⊢
    obtain ⟨t1, p1⟩ := pt
    dsimp only at b2 b3 u2 um ul upn ⊢
    subst u2
    first
      | (refine wpAny_bind ?_; refine wp_if_pos upn ?_; refine hashBy_tup hx ?_)
      | refine wp_if_pos upn (wpAny_bind (hashBy_tup hx ?_))
    simp only [if_true]
    have ins : (SetTable.insertAt es p1 (hk, Value.ref x)).toList = rowsOf P w (L.take p1 ++ (x, k) :: L.drop p1) := by rw [SetTable.toList_insertAt, rows_put, R.row, ehk]
    have pm := put_perm L p1 (x, k)
    have hsh : (L.take p1 ++ (x, k) :: L.drop p1).map (fun p => thash P w p.2) = (L.map fun p => thash P w p.2).take p1 ++ hk :: (L.map fun p => thash P w p.2).drop p1 := by
      rw [List.map_append, List.map_cons, List.map_take, List.map_drop, ehk]
    rw [← hsh] at b2
    generalize SetTable.insertAt es p1 (hk, Value.ref x) = es1 at ins ⊢
    generalize L.take p1 ++ (x, k) :: L.drop p1 = L1 at pm b2 ins
    have l1 : L1.length = L.length + 1 := pm.length_eq
    have z1 : es1.size = L.length + 1 := (rows_len ins).trans l1
    rw [List.length_map] at b3
    have nd1 : (L1.map (·.2)).Nodup := (pm.map (·.2)).nodup_iff.mpr (List.nodup_cons.mpr ⟨hm, R.ndp⟩)
    refine wpAny_bind (wpAny_storeSet_of go gd ?_ (by rw [z1, sizeLine_eq]; omega))
    have sb := Heap.SameBut.update s.heap a (Obj.putSet es1 t1)
    have g1 := store_at (es' := es1) (t' := t1) go gd
    generalize s.heap.update a (Obj.putSet es1 t1) = h1 at sb g1 ⊢
    have tp1 : ∀ p ∈ L1, IsT P w h1 p.2 p.1 := fun p hp => by
      rcases List.mem_cons.mp (pm.mem_iff.mp hp) with rfl | hp
      · exact isT_same hx go gd sb
      · exact isT_same (R.tps p hp) go gd sb
    have ld1 : w.params.followText "set-order" = true ∨ t1.led = true := ul ▸ R.ldd
    have tf : t1.tooFull = decide ((L.length + 1) * 5 ≥ t.mask * 3) := by unfold SetTable.tooFull; rw [b3, um]
    by_cases full : (L.length + 1) * 5 ≥ t.mask * 3
    · have tf1 : t1.tooFull = true := tf.trans (decide_eq_true full)
      obtain ⟨M, m1, m2, m3⟩ := nextM R.tbl.msk rm full few
      rw [sl]
      first
        | (refine wpAny_bind ?_; refine wp_if_pos (by simp [tf1]) ?_)
        | (refine wp_if_pos (by simp [tf1]) ?_; refine wpAny_bind ?_)
      refine widerM (s := { s with heap := h1 }) (M := M) g1 ⟨gx.1, gx.2.1, gx.2.2⟩ rfl ins ?_ b2.nod ?_ nd1 tp1 upn ld1 (by rw [l1]; exact few) m1 m2 (by rw [l1]; exact m3) fun h2 L2 es2 ep2 t2 sb2 R2 pm2 => ?_
      · rw [b2.len, List.length_map, l1, z1]
      · rw [z1, um]
        rcases R.tbl.msk with e | e | e | e | e <;> omega
      · exact wpAny_pure (c true h2 L2 es2 ep2 t2 (sb.trans sb2) R2 (fun z => absurd z hm) fun _ => pm2.trans pm)
    · have tf0 : t1.tooFull = false := tf.trans (decide_eq_false full)
      first
        | refine wp_if_neg (by simp [tf0]) ?_
        | (refine wpAny_bind ?_; refine wp_if_neg (by simp [tf0]) ?_; refine wpAny_pure ?_)
      exact wpAny_pure (c true h1 L1 es1 (ep + 1) t1 sb ⟨⟨_, g1, ⟨gx.1, gx.2.1, gx.2.2⟩, rfl⟩, ins, b2, nd1, tp1, upn, ld1, by rw [l1, um]; omega, by rw [l1]; exact few⟩ (fun z => absurd z hm) fun _ => pm)
theorem SetM.keep {h h' : Heap} (R : SetM P w h a L es ep t) (ha : ∀ o, h.get? a = some o → h'.get? a = some o) (ht : ∀ p ∈ L, IsT P w h' p.2 p.1) : SetM P w h' a L es ep t :=
  { R with obj := R.obj.imp fun o z => ⟨ha o z.1, z.2⟩, tps := ht }
theorem newM {h : Heap} (ho : h.get? a = some { cls := .type "set", dict := none, data := .set #[] 0 (.fresh 0 0 (!w.params.followText "set-order")) }) : SetM P w h a [] #[] 0 (.fresh 0 0 (!w.params.followText "set-order")) where
  obj := ⟨_, ho, ⟨rfl, rfl, rfl⟩, rfl⟩
  row := rfl
  tbl := ⟨.nil, rfl, rfl, .inl rfl, fun x z => (nomatch z), fun i h j z => (nomatch z)⟩
  ndp := .nil
  tps := fun p z => nomatch z
  pln := rfl
  ldd := by cases e : w.params.followText "set-order" <;> simp [SetTable.fresh]
  rom := (by decide : 0 * 5 < 7 * 3)
  few := (by decide : 0 < 1000)
end
end TW
/-! TWSd -/
set_option Elab.async false
set_option linter.all false
set_option maxRecDepth 100000
namespace TW
open PySem PySem.Spec PyProof.Rows L2
section
variable {P : Program} {w : World} {A : Around} {E : Value → Shared → Prop} {s : Shared}
abbrev set0 (w : World) : Obj := { cls := .type "set", dict := none, data := .set #[] 0 (.fresh 0 0 (!w.params.followText "set-order")) }
/-- the items go in one by one -/
theorem loopM {I : Addr} {fp wr : List Addr} {G : Array GenState → Array GenState → Prop} {n : Nat} {Pv : Nat → Value → Prop} {St : Nat → Shared → Prop} {R : Result → Shared → Prop}
    (W : WalksS P w A.in1 I fp wr G n Pv St) (S : Addr) (hSf : S ∉ fp) (ks : List (Addr × List Int)) (hn : n = ks.length) (few : ks.length < 1000) (val : ∀ i v, Pv i v → ∃ p, ks[i]? = some p ∧ v = .ref p.1)
    (h0 : Heap) (hk : ∀ p ∈ ks, IsT P w h0 p.2 p.1) (hS0 : h0.get? S = none) (hw0 : ∀ b ∈ wr, h0.get? b = none) (hu : A.in1.units < cLine)
    (fin : ∀ (s0 s' : Shared) L es ep t, Moved (S :: wr) G s0 s' → SetM P w s'.heap S L es ep t → Got ks n L → (∀ b o, h0.get? b = some o → s'.heap.get? b = some o) → s0 = s → R (.ok (.ret .none)) s') :
    ∀ (k i : Nat) (s1 : Shared), n - i = k → i ≤ n → St i s1 → (∀ b o, h0.get? b = some o → s1.heap.get? b = some o) → (∃ L es ep t, SetM P w s1.heap S L es ep t ∧ Got ks i L) → (s1 = s ∨ Moved (S :: wr) G s s1) →
      codeAny (model P w) A (.builtin "set.update.loop" ⟨[.ref S, .ref I], []⟩) R s1 := by
  have hSw : S ∉ wr := fun h => hSf (W.sub _ h)
  have sub1 : ∀ b ∈ wr, b ∈ S :: wr := fun b hb => List.mem_cons_of_mem _ hb
  have old : ∀ {s s' : Shared}, Moved wr G s s' → (∀ b o, h0.get? b = some o → s.heap.get? b = some o) → ∀ b o, h0.get? b = some o → s'.heap.get? b = some o := fun hm hkp b o e =>
    hm.heap b o (fun hb => nomatch (hw0 b hb).symm.trans e) (hkp b o e)
  have join : ∀ {s1 s2 : Shared}, (s1 = s ∨ Moved (S :: wr) G s s1) → Moved (S :: wr) G s1 s2 → Moved (S :: wr) G s s2 := fun h m => by
    rcases h with rfl | h
    · exact m
    · exact Moved.trans W.gtrans h m
  intro k
  induction k with
  | zero =>
    intro i s1 hk' hi hst hkp ⟨L, es, ep, t, hS, g⟩ hm0
    obtain rfl : i = n := by omega
    refine codeAny_builtin F.entry_set_update_loop ?_
    rw [Around.under_plainId F.plain_set_update_loop _]
    show wpAny _ A.in1 (pyNext (.ref I) >>= _) _ _ s1
    refine wpAny_bind (W.done s1 _ _ hst fun s' hm => wpAny_pure ?_)
    have hkp' := old hm hkp
    exact fin s s' L es ep t (join hm0 (hm.mono sub1)) (hS.keep (fun o e => hm.heap S o hSw e) fun p hp => isT_keep (hk p (List.mem_of_mem_take (g.sub p hp))) hkp') g hkp' rfl
  | succ k ih =>
    intro i s1 hk' hi hst hkp ⟨L, es, ep, t, hS, g⟩ hm0
    have lt : i < n := by omega
    refine codeAny_builtin F.entry_set_update_loop ?_
    rw [Around.under_plainId F.plain_set_update_loop _]
    show wpAny _ A.in1 (pyNext (.ref I) >>= _) _ _ s1
    refine wpAny_bind (W.item i s1 _ _ lt hst fun v s' hP hst' hm => ?_)
    obtain ⟨p, hp, rfl⟩ := val i v hP
    have hkp' := old hm hkp
    have hS' : SetM P w s'.heap S L es ep t := hS.keep (fun o e => hm.heap S o hSw e) fun q hq => isT_keep (hk q (List.mem_of_mem_take (g.sub q hq))) hkp'
    have hx : IsT P w s'.heap p.2 p.1 := isT_keep (hk p (List.mem_of_getElem? hp)) hkp'
    show wpAny _ A.in1 (holding [Value.ref p.1] (setAdd S (.ref p.1)) >>= _) _ _ s'
    unfold setAdd
    refine wpAny_bind (wpAny_holding (wpAny_holding (wpAny_bind (wpAny_pyHash_tuple hu hx ?_))))
    refine putM (s := { s' with toks := s'.toks + (p.2.length + 1) }) hS' hx hu (by have := g.len; omega) fun b h' L' es' ep' t' sb hS2 c1 c2 => ?_
    have g' : Got ks (i + 1) L' := by
      by_cases c : p.2 ∈ L.map (·.2)
      · exact c1 c ▸ g.same hp c
      · exact g.more hp (c2 c)
    have hkp2 : ∀ b o, h0.get? b = some o → h'.get? b = some o := fun b o e => (sb.2 b (fun z => nomatch (z ▸ hS0).symm.trans e)).trans (hkp' b o e)
    refine wpAny_pure ⟨plainId_quiet F.plain_set_update_loop _, ih (i + 1) _ (by omega) lt (W.frame _ s' _ _ hst' (Nat.le_add_right _ _) fun b hb o e => ?_) hkp2 ⟨L', es', ep', t', hS2, g'⟩ (.inr (join hm0 ((hm.mono sub1).then_heap (Nat.le_add_right _ _) fun b o hb e => ?_)))⟩
    · exact (sb.2 b (fun z => hSf (z ▸ hb))).trans e
    · exact (sb.2 b (fun z => hb (z ▸ List.mem_cons_self))).trans e
end
end TW
/-! TWSe -/
set_option Elab.async false
set_option linter.all false
set_option maxRecDepth 100000
namespace TW
open PySem PySem.Spec PyProof.Rows L2
section
variable {P : Program} {w : World} {A : Around} {E : Value → Shared → Prop} {s : Shared}
theorem beyond {h : Heap} {b : Addr} (hb : h.objs.size ≤ b) : h.get? b = none := by
  cases q : h.get? b with
  | none => rfl
  | some o => exact absurd (Heap.lt_size q) (Nat.not_lt.mpr hb)
set_option maxHeartbeats 3200000 in
theorem callM {l : Addr} {its : Array Value} (ks : List (Addr × List Int)) {Q : Value → Shared → Prop} (hh : A.handled = none) (hl : s.heap.IsList l its) (hit : its.toList = ks.map fun p => Value.ref p.1)
    (hk : ∀ p ∈ ks, IsT P w s.heap p.2 p.1) (few : ks.length < 1000) (hu : A.units + 3 < cLine)
    (fin : ∀ (h' : Heap) (tk : Nat) L es ep t, SetM P w h' s.heap.objs.size L es ep t → Got ks ks.length L → (∀ b o, s.heap.get? b = some o → h'.get? b = some o) → Q (.ref s.heap.objs.size) { s with heap := h', toks := tk }) :
    wpAny (model P w) A (call (.type "set") [.ref l]) Q E s := by
  have zs : its.size = ks.length := by
    have q := congrArg List.length hit
    simpa using q
  obtain ⟨c, tl, hmro⟩ := F.called_set.mro
  have hmade := F.called_set.made
  have hsub := F.called_set.sub
  refine wpAny_call (codeAny_of_tree ?_)
  show wpAny _ _ (callAny (.type "set") _) _ _ _
  refine wpAny_pure ⟨Code.quiet_builtin _ (by decide +kernel), codeAny_builtin F.entry_type_call ?_⟩
  rw [Around.under_plain (weight_type_call_type "set" [.ref l] []) rfl]
  have h1 := F.called_set.notType
  have h2 := F.called_set.canCreate
  have hct := F.typeCall_set_1 (.ref l)
  repeat (any_goals (first | assumption | wp_step))
  refine codeAny_mono (code_set_led1 (.ref l) (E := E) (Q₁ := fun ob s₁ => ob = .ref s.heap.objs.size ∧ s₁ = { s with heap := s.heap.push (set0 w) }) ⟨rfl, rfl⟩) fun r s₁ hr => ?_
  cases r with
  | error e => exact hr
  | ok fl =>
    cases fl with
    | ret ob =>
      obtain ⟨rfl, rfl⟩ := hr
      have gS : (s.heap.push (set0 w)).get? s.heap.objs.size = some (set0 w) := Heap.get?_push_size _ rfl
      have hT : Shared.TypeIs { s with heap := s.heap.push (set0 w) } (.ref s.heap.objs.size) "set" := ⟨_, gS, rfl⟩
      have hli := F.called_set.init.lookup
      have hbi := F.called_set.init.bind (.ref s.heap.objs.size)
      repeat (any_goals (first | assumption | wp_step))
      refine codeAny_mono (codeAny_call_builtin (R := wants (fun r s₂ => r = .none ∧ ∃ h' tk L es ep t, s₂ = { s with heap := h', toks := tk } ∧ SetM P w h' s.heap.objs.size L es ep t ∧ Got ks ks.length L ∧
          (∀ b o, s.heap.get? b = some o → h'.get? b = some o)) E) F.called_set.init.plain F.entry_set_init (check_set_init_1 hT ?_)) fun r₂ s₂ hr₂ => ?_
      · obtain ⟨⟨oc, od, dt, osl⟩, hol, hcl, nl, hdl⟩ := hl
        simp only at hcl hdl
        subst hcl; subst hdl
        have hol' : (s.heap.push (set0 w)).get? l = some { cls := .type "list", dict := od, data := .seq its nl, slots := osl } := Heap.get?_push_of_some _ hol
        have hsls := F.sub_list_set
        have hslf := F.sub_list_frozenset
        have hne : (Value.type "list" == Value.type "dict") = false := by decide
        have hl1 : (s.heap.push (set0 w)).IsList l its := ⟨_, hol', rfl, nl, rfl⟩
        unfold Builtin.«set.__init__» noKeywords Builtin.Frozenset.updateFrom
        generalize hPI : pyIter = PI
        wp_walk
        subst hPI
        refine wpAny_pyIter_list hl1 (wpAny_bind (wpAny_runValue ?_))
        have lS : l < s.heap.objs.size := Heap.lt_size hol
        have hh3 : A.in1.in1.in1.handled = none := by simp [hh]
        have zp : (s.heap.push (set0 w)).objs.size = s.heap.objs.size + 1 := Heap.size_push ..
        have lI : l ≠ (s.heap.push (set0 w)).objs.size := zp ▸ Nat.ne_of_lt (Nat.lt_succ_of_lt lS)
        have val : ∀ (i : Nat) (v : Value), its[i]? = some v → ∃ p, ks[i]? = some p ∧ v = .ref p.1 := fun i v hv => by
          rw [← Array.getElem?_toList, hit, List.getElem?_map, Option.map_eq_some_iff] at hv
          obtain ⟨p, e1, e2⟩ := hv
          exact ⟨p, e1, e2.symm⟩
        refine loopM (s := { s with heap := (s.heap.push (set0 w)).push { cls := .type "list_iterator", data := .fields #[.ref l, .int 0 0] } }) ((Walks.list hh3 _ l lI its).toS) s.heap.objs.size
          (by simp only [List.mem_cons, List.not_mem_nil, or_false, not_or]; exact ⟨zp ▸ Nat.ne_of_lt (Nat.lt_succ_self _), Nat.ne_of_gt lS⟩) ks zs few val s.heap hk (beyond (Nat.le_refl _)) (fun b hb => beyond (by rw [List.mem_singleton.mp hb, zp]; omega)) hu ?fin (its.size - 0) 0 _ (by omega) (Nat.zero_le _)
          ⟨⟨_, Heap.get?_push_size _ rfl, rfl, rfl⟩, (hl1.push _)⟩ (fun b o e => Heap.get?_push_of_some _ (Heap.get?_push_of_some _ e)) ⟨[], #[], 0, _, newM (Heap.get?_push_of_some _ gS), Got.zero ks⟩ (.inl rfl)
        case fin =>
          intro s0 s' L es ep t hm hS' g' hkp e0
          subst e0
          obtain ⟨h', g2, d', tk', os'⟩ := s'
          have eg : g2 = s.gens := hm.gens
          have ed : d' = s.drawn := hm.drawn
          have eo : os' = s.os := hm.os
          subst eg; subst ed; subst eo
          show wpAny _ _ _ _ _ _
          refine wpAny_pure ?_
          show wpAny _ _ (ret Value.none) _ _ _
          exact wpAny_pure ⟨rfl, h', tk', L, es, ep, t, rfl, hS', zs ▸ g', hkp⟩
      · cases r₂ with
        | error e => exact hr₂
        | ok fl₂ =>
          cases fl₂ with
          | ret r =>
            obtain ⟨rfl, h', tk, L, es, ep, t, rfl, hS', g', hk'⟩ := hr₂
            repeat (any_goals (first | assumption | wp_step))
            exact fin _ _ _ _ _ _ hS' g' hk'
          | _ => exact hr₂.elim
    | _ => exact hr.elim
end
end TW
/-! TWS -/
set_option Elab.async false
set_option linter.all false
set_option maxRecDepth 100000
namespace TW
open PySem PySem.Spec PyProof.Rows L2
/-! ### how many differ -/
section
variable {α : Type} {eq : α → α → Bool}
theorem uniq_mem (he : ∀ a b, eq a b = true ↔ a = b) : ∀ (l : List α) (x : α), x ∈ uniq eq l ↔ x ∈ l
  | [], x => Iff.rfl
  | [a], x => Iff.rfl
  | a :: b :: r, x => by
    have ih := uniq_mem he (b :: r) x
    unfold uniq
    split
    · rename_i h
      have e := (he a b).mp h
      rw [ih, e]
      simp
    · rw [List.mem_cons, ih, List.mem_cons (b := a)]
theorem uniq_nodup {le : α → α → Bool} (he : ∀ a b, eq a b = true ↔ a = b) (hs : ∀ a b, le a b = true → le b a = true → a = b) : ∀ (l : List α), l.Pairwise (fun a b => le a b = true) → (uniq eq l).Nodup
  | [], _ => .nil
  | [a], _ => List.pairwise_singleton _ _
  | a :: b :: r, p => by
    have p1 := List.pairwise_cons.mp p
    have ih := uniq_nodup he hs (b :: r) p1.2
    unfold uniq
    split
    · exact ih
    · rename_i h
      refine List.nodup_cons.mpr ⟨fun m => ?_, ih⟩
      rw [uniq_mem he] at m
      have ab := p1.1 b List.mem_cons_self
      rcases List.mem_cons.mp m with e | m
      · exact h ((he a b).mpr e)
      · exact h ((he a b).mpr (hs a b ab ((List.pairwise_cons.mp p1.2).1 a m)))
theorem same_len {α : Type} [DecidableEq α] {l r : List α} (hl : l.Nodup) (hr : r.Nodup) (h : ∀ x, x ∈ l ↔ x ∈ r) : l.length = r.length :=
  ((List.perm_ext_iff_of_nodup hl hr).mpr h).length_eq
end
theorem eqI_iff (a b : Int) : eqI a b = true ↔ a = b := decide_eq_true_iff
theorem eqP_iff (a b : Int × Int) : eqP a b = true ↔ a = b := by
  unfold eqP
  rw [Bool.and_eq_true, decide_eq_true_eq, decide_eq_true_eq]
  exact ⟨fun h => Prod.ext h.1 h.2, fun h => by rw [h]; exact ⟨rfl, rfl⟩⟩
theorem cntI {ns L : List Int} (h : ns.length ≤ top) (nd : L.Nodup) (m : ∀ x, x ∈ L ↔ x ∈ ns) : L.length = (uniq eqI (srtI ns)).length :=
  same_len nd (uniq_nodup eqI_iff leI_anti _ (srtI_sorted h)) fun x => by rw [m, uniq_mem eqI_iff, (srtI_perm ns).mem_iff]
theorem cntP {ns L : List (Int × Int)} (h : ns.length ≤ top) (nd : L.Nodup) (m : ∀ x, x ∈ L ↔ x ∈ ns) : L.length = (uniq eqP (srtP ns)).length :=
  same_len nd (uniq_nodup eqP_iff leP_anti _ (srtP_sorted h)) fun x => by rw [m, uniq_mem eqP_iff, (srtP_perm ns).mem_iff]
/-- firstMet: each once, all of them -/
theorem met_ok (v : Nat → Int) : ∀ n, (firstMet v n).Nodup ∧ ∀ x, x ∈ firstMet v n ↔ ∃ i, i < n ∧ v i = x
  | 0 => ⟨.nil, fun x => ⟨fun h => (nomatch h), fun ⟨i, h, _⟩ => absurd h (Nat.not_lt_zero _)⟩⟩
  | n + 1 => by
    obtain ⟨h1, h2⟩ := met_ok v n
    rw [firstMet_succ]
    unfold step_dedup
    split
    · rename_i c
      rw [List.any_eq_true] at c
      obtain ⟨y, hy, e⟩ := c
      have e := beq_iff_eq.mp e
      refine ⟨h1, fun x => ?_⟩
      rw [h2]
      constructor
      · intro ⟨i, hi, q⟩
        exact ⟨i, Nat.lt_succ_of_lt hi, q⟩
      · intro ⟨i, hi, q⟩
        by_cases c : i = n
        · subst c
          rw [← q, ← e]
          exact (h2 y).mp hy
        · exact ⟨i, by omega, q⟩
    · rename_i c
      have nin : v n ∉ firstMet v n := fun m => c (List.any_eq_true.mpr ⟨_, m, beq_self_eq_true _⟩)
      refine ⟨List.nodup_append.mpr ⟨h1, List.pairwise_singleton _ _, fun a ha b hb => ?_⟩, fun x => ?_⟩
      · rw [List.mem_singleton.mp hb]
        exact fun e => nin (e ▸ ha)
      · rw [List.mem_append, List.mem_singleton, h2]
        constructor
        · rintro (⟨i, hi, q⟩ | q)
          · exact ⟨i, Nat.lt_succ_of_lt hi, q⟩
          · exact ⟨n, Nat.lt_succ_self _, q.symm⟩
        · intro ⟨i, hi, q⟩
          by_cases c : i = n
          · exact .inr (by rw [← q, c])
          · exact .inl ⟨i, by omega, q⟩
theorem met_list (ns : List Int) (x : Int) : x ∈ firstMet (fun i => ns.getD i 0) ns.length ↔ x ∈ ns := by
  rw [(met_ok _ _).2]
  constructor
  · intro ⟨i, hi, e⟩
    rw [← e, List.getD_eq_getElem?_getD, List.getElem?_eq_getElem hi]
    exact List.getElem_mem hi
  · intro m
    obtain ⟨i, hi, e⟩ := List.getElem_of_mem m
    exact ⟨i, hi, by rw [List.getD_eq_getElem?_getD, List.getElem?_eq_getElem hi]; exact e⟩
section
variable {C : CC} {W : Wd} {B : Hp} {E : Env} {ξ : Option (Nat × Addr)} {Wx : WX} {X : Cx} {ea eb ec ed : Expr} {es : List Expr} {a b c d : IE} {pos apos p1 p2 p3 : Pos}
def tLenSet (K : PySem.W.Frag) (ta : TE) : TE := fun σ H Q => ta σ H fun x H1 =>
  (∃ (l : Addr) (ns : List Int), x = V.ref l ∧ SqL K H1 l (ns.map V.int) ∧ ns.length < 64 ∧ Q (.int (firstMet (fun i => ns.getD i 0) ns.length).length) H1) ∨
  ∃ (l : Addr) (ks : List (Addr × List Int)), x = V.ref l ∧ SqL K H1 l (ks.map fun p => V.ref p.1) ∧ (∀ p ∈ ks, SqT K H1 p.1 (p.2.map V.int)) ∧ ks.length < 1000 ∧
    ∀ L : List (Addr × List Int), (L.map (·.2)).Nodup → (∀ p ∈ L, p ∈ ks) → (∀ p ∈ ks, p.2 ∈ L.map (·.2)) → Q (.int L.length) H1
theorem pe_lenSet {e : Expr} {ta : TE} (hc : X.calm = true) (hu : X.A.units + 65 < cLine) (hg : Gl X "len") (hm : X.mg "len" = none) (hg2 : Gl X "set") (hm2 : X.mg "set" = none) (ha : PE X e ta)
    (na : starEach [e] X.env = (false, eval e X.env) :: starEach [] X.env) : PE X (.Call (.Name "len" p1) [.Call (.Name "set" p2) [e] [] p3] [] pos) (tLenSet X.K ta) := by
  refine ⟨fun pins s σ H Q I h => ?_⟩
  refine Call_ (ld_blt I hg hm PySem.boot_len (PyProof.Rows.callWith_builtin1 (PyProof.Rows.args_cons ?_ rfl) rfl rfl))
  refine Call_ (ld_blt I hg2 hm2 PyProof.Rows.boot_set (PyProof.Rows.callWith_type1 (PyProof.Rows.args_cons (thn (ha.run pins s σ H _ I h) fun v s1 ⟨x, H1, I1, r1, q1⟩ => PyProof.Rows.args_nil ?_) na) na rfl))
  rcases q1 with ⟨l, ns, rfl, hq, hl, q1⟩ | ⟨l, ks, rfl, hq, ht, hl, q1⟩
  · cases r1
    obtain ⟨its, r, pl, hz⟩ := I1.list hq
    have len : its.toArray.size = ns.length := by rw [List.size_toArray, ← r.length, List.length_map]
    refine call_set_list (I1.ok.hd hc) pl.isList (ns := ns) (by simpa using r.ints) (by unfold scanBound; omega) fun h' tk hS hk => PyProof.Rows.args_nil ?_
    rw [len] at hS
    obtain ⟨o, es, ep, t, ho, hex, hd, _, _, _, hf, hn⟩ := hS
    have few : es.size ≤ ns.length := hn ▸ firstMet_length_le _ _
    have I2 : Inv X pins σ H1 { s1 with heap := h', toks := tk } := I1.kept fun b o e => hk b o (Heap.lt_size e) e
    exact call_len_set ho hex hd hf (by omega) ⟨V.int _, H1, I2.tok _, ⟨_, by rw [hn]⟩, q1⟩
  · cases r1
    obtain ⟨its, r, pl, hz⟩ := I1.list hq
    refine callM (P := X.prog) (w := X.w) ks (I1.ok.hd hc) pl.isList (by simpa using refs_of_vals r) (fun p hp => I1.isT (ht p hp)) hl (by omega) fun h' tk L es ep t R g k => PyProof.Rows.args_nil ?_
    obtain ⟨o, ho, hex, hd⟩ := R.obj
    have I2 : Inv X pins σ H1 { s1 with heap := h', toks := tk } := I1.kept fun b o e => k b o e
    have sz : es.size = L.length := rows_len R.row
    have few := R.few
    refine call_len_set ho hex hd (R.fit (s := { s1 with heap := h' })) (by omega) ⟨V.int L.length, H1, I2.tok _, ⟨_, by rw [sz]⟩, q1 L R.ndp (fun p hp => List.mem_of_mem_take (g.sub p hp)) fun p hp => g.all p ?_⟩
    rw [List.take_length]
    exact hp
/-- pairs as keys -/
theorem keys_of {F H : Hp} (sb : Sub F H) : ∀ {vs : List V} {ps : List (Int × Int)}, Paired (IsP F) vs ps → ∃ ks : List (Addr × List Int), vs = ks.map (fun p => V.ref p.1) ∧ (∀ p ∈ ks, H p.1 = some (.tup (p.2.map V.int))) ∧ ks.map (·.2) = ps.map fun p => [p.1, p.2]
  | _, _, .nil => ⟨[], rfl, fun p h => (nomatch h), rfl⟩
  | _, _, .cons (a := v) (b := p) ⟨t, ev, e⟩ r => by
    obtain ⟨ks, h1, h2, h3⟩ := keys_of sb r
    refine ⟨(t, [p.1, p.2]) :: ks, by rw [List.map_cons, ← h1, ev], fun q hq => ?_, by rw [List.map_cons, List.map_cons, h3]⟩
    rcases List.mem_cons.mp hq with rfl | hq
    · exact sb _ _ e
    · exact h2 q hq
theorem pair_inj {p q : Int × Int} (h : [p.1, p.2] = [q.1, q.2]) : p = q := by
  simp only [List.cons.injEq, and_true] at h
  exact Prod.ext h.1 h.2
theorem se_lenSet (g : GX C W E ξ Wx X) (hh : C.hot = false) (hb : bnB C "len" = true) (hb2 : bnB C "set" = true) (hp : plainX ea = true) (ha : SE W B E ξ Wx X ea a) :
    SE W B E ξ Wx X (.Call (.Name "len" p1) [.Call (.Name "set" p2) [ea] [] p3] [] pos) (.lenSet a) := by
  intro σ S F ρ G H τ Q R ro h
  obtain ⟨hg, hm⟩ := bn_ok g hb
  obtain ⟨hg2, hm2⟩ := bn_ok g hb2
  rw [evE] at h
  refine eTo (pe_lenSet (g.calm hh) g.un hg hm hg2 hm2 (pE ea) (plain_star hp [] X.env)) ?_
  refine ha σ S F ρ G H τ _ R ro (h.bind (RA := RV W B) fun x S1 F1 ρ1 H1 v st1 R1 r1 h1 => ?_)
  cases e : rdL S1 x with
  | none => rw [e] at h1; exact h1.elim
  | some us =>
    rw [e] at h1
    obtain ⟨z, ez, h2⟩ := h1.opt
    obtain ⟨p, vs, rfl, hq, hl, rs⟩ := rdL_ok R1 e r1
    rw [← g.K] at hq
    unfold lenSetU at ez
    split at ez
    · rename_i ns en
      split at ez
      · rename_i lt
        cases ez
        have ev := asInt_ok en rs
        subst ev
        have hl2 : ns.length ≤ top := Nat.le_trans (Nat.le_of_lt lt) (by decide)
        refine .inl ⟨p, ns, rfl, hq, lt, ?_⟩
        rw [cntI hl2 (met_ok _ _).1 (met_list ns)]
        exact h2.here R1 (.int _)
      · cases ez
    · split at ez
      · rename_i ps en
        split at ez
        · rename_i lt
          cases ez
          have hl2 : ps.length ≤ top := Nat.le_trans (Nat.le_of_lt lt) (by decide)
          obtain ⟨ks, k1, k2, k3⟩ := keys_of R1.sub (asPair_ok en rs)
          subst k1
          have kl : ks.length = ps.length := by have := congrArg List.length k3; simpa using this
          refine .inr ⟨p, ks, rfl, hq, fun q hq => SqT.of (k2 q hq), by omega, fun L nd sub all => ?_⟩
          have two : ∀ q ∈ L, ∃ p0 ∈ ps, q.2 = [p0.1, p0.2] := fun q hq => by
            have m : q.2 ∈ ks.map (·.2) := List.mem_map_of_mem (sub q hq)
            rw [k3] at m
            obtain ⟨p0, h0, e0⟩ := List.mem_map.mp m
            exact ⟨p0, h0, e0.symm⟩
          have em : ∃ L2 : List (Int × Int), L.map (·.2) = L2.map (fun p => [p.1, p.2]) ∧ ∀ x ∈ L2, x ∈ ps := by
            clear nd all sub
            induction L with
            | nil => exact ⟨[], rfl, fun x h => (nomatch h)⟩
            | cons q L ih =>
              obtain ⟨L2, e1, e2⟩ := ih fun q hq => two q (List.mem_cons_of_mem _ hq)
              obtain ⟨p0, h0, e0⟩ := two q List.mem_cons_self
              refine ⟨p0 :: L2, by rw [List.map_cons, List.map_cons, e1, e0], fun x hx => ?_⟩
              rcases List.mem_cons.mp hx with rfl | hx
              · exact h0
              · exact e2 x hx
          obtain ⟨L2, e1, e2⟩ := em
          have len : L.length = L2.length := by have := congrArg List.length e1; simpa using this
          have nd2 : L2.Nodup := by
            rw [e1] at nd
            exact List.Pairwise.of_map _ (fun x y hne e => hne (by rw [e])) nd
          rw [len, cntP hl2 nd2 fun x => ⟨e2 x, fun hx => ?_⟩]
          · exact h2.here R1 (.int _)
          · have m : [x.1, x.2] ∈ ks.map (·.2) := by
              rw [k3]
              exact List.mem_map.mpr ⟨x, hx, rfl⟩
            obtain ⟨q, hq, eq⟩ := List.mem_map.mp m
            have m2 := all q hq
            rw [eq, e1] at m2
            obtain ⟨y, hy, ey⟩ := List.mem_map.mp m2
            exact pair_inj ey ▸ hy
        · cases ez
      · cases ez
end
end TW
/-! TWIm -/
set_option Elab.async false
set_option linter.all false
set_option maxRecDepth 100000
namespace TW
open PySem PySem.Spec PyProof.Rows L2
/-! ### a lambda is made -/
theorem upd_swap {H : Hp} {a b : Addr} {o u : HO} (h : a ≠ b) : upd (upd H a o) b u = upd (upd H b u) a o := by
  funext x
  unfold upd
  by_cases h1 : x = a
  · subst h1
    rw [if_neg h, if_pos rfl, if_pos rfl]
  · rw [if_neg h1, if_neg h1]
theorem lamO_nt {f c : Addr} {L : LamW} {cl : List (Str × Addr)} : NT (LamO f L cl c) := fun ps z => by
  unfold LamO at z
  cases z
theorem codeO_nt {c : Addr} {q : Str} : NT (LamX.CodeO c q) := fun ps z => LamX.codeO_ne ps z
section
variable {C : CC} {W : Wd} {B : Hp} {E : Env} {ξ : Option (Nat × Addr)} {Wx : WX} {X : Cx}
/-- the new function's object is known -/
theorem lam_laid {pins : List (Addr × Obj)} {τ : L2.St} {H : Hp} {s : Shared} {L : LamW} {cl : List (Str × Addr)} {pm ctv : Value} {c : Addr} {t : Nat} (I : Inv X pins τ H s) :
    Inv X pins τ (upd H s.heap.objs.size (LamO s.heap.objs.size L cl c)) { s with heap := s.heap.push (PySem.W.kla_obj "<lambda>" L.qual L.params L.body L.scope cl pm c ctv), toks := t } := by
  have e : (s.heap.push (PySem.W.kla_obj "<lambda>" L.qual L.params L.body L.scope cl pm c ctv)).get? s.heap.objs.size = some (PySem.W.kla_obj "<lambda>" L.qual L.params L.body L.scope cl pm c ctv) := Heap.get?_push_size _ rfl
  exact I.laid (fun b u q => Heap.get?_push_of_some _ q) (Nat.le_refl _) ⟨⟨pm, ctv, e⟩, ⟨_, e⟩, fun _ _ ⟨p, q, z⟩ st => ⟨p, q, st _ z⟩⟩
theorem lam_eval {F G H : Hp} {ρ : Nat → Addr} {S : Sto} {pins : List (Addr × Obj)} {τ : L2.St} {s : Shared} {q : Str} {params : Arguments} {body : Expr} {scope : Scope} {pos : Pos} {Q : Value → Shared → Prop} {Ex : Value → Shared → Prop} (M : Maker W X q) (hq : X.env.qual = q) (I : Inv X pins τ H s) (R : Rel W B F ρ S G H)
    (hd : defaultsOf params X.env = ([], [])) (hfree : ∀ y ∈ scope.names, y.2 = .free → ∃ c, X.env.cells.lookup y.1 = some c)
    (h : ∀ (f c : Addr) (F1 H1 : Hp) (s1 : Shared), Inv X pins τ H1 s1 → Stp F ρ S F1 ρ S → Rel W B F1 ρ S G H1 → F1 f = some (LamO f ⟨params, body, scope, lamN q⟩ (cloFrom X.env.cells scope.names []) c) → F1 c = some (LamX.CodeO c (lamN q)) → Q (.ref f) s1) :
    wpAny (model X.prog X.w) X.A (eval (.Lambda params body scope pos) X.env) Q Ex s := by
  subst hq
  obtain ⟨c, P, TB, hcode, hm, hu⟩ := M
  obtain ⟨ps, hP, ht, ha⟩ := R.tab _ hm
  have hP : H P = some (.tbl ps) := hP
  refine PySem.W.kla_eval hd ?_
  have bP : s.heap.BuiltinsAt X.mg P := TB.bm.keeps I.bk
  have oP : s.heap.get? P = some { cls := .none, data := .fields ps } := I.hok P _ hP
  -- the end: a function is pushed on top of what is known
  have fin : ∀ (c' : Addr) (pm ctv : Value) (F1 H1 : Hp) (s1 : Shared) (t : Nat), Inv X pins τ H1 s1 → Stp F ρ S F1 ρ S → Rel W B F1 ρ S G H1 → F1 c' = some (LamX.CodeO c' (lamN X.env.qual)) →
      Q (.ref s1.heap.objs.size) { s1 with heap := s1.heap.push (PySem.W.kla_obj "<lambda>" (lamN X.env.qual) params body scope (cloFrom X.env.cells scope.names []) pm c' ctv), toks := t } := fun c' pm ctv F1 H1 s1 t I1 st1 R1 hc => by
    have n : H1 s1.heap.objs.size = none := I1.hok.fresh (Nat.le_refl _)
    obtain ⟨R2, st2⟩ := R1.froz (o := LamO s1.heap.objs.size ⟨params, body, scope, lamN X.env.qual⟩ (cloFrom X.env.cells scope.names []) c') n lamO_nt
    exact h _ c' _ _ _ (lam_laid (L := ⟨params, body, scope, lamN X.env.qual⟩) I1) (st1.trans st2) R2 upd_same (st2.f _ _ hc)
  cases hc : codeAmong pos ps.toList with
  | some cv =>
    obtain ⟨c', rfl, hco⟩ := ha pos cv hc
    refine PySem.W.kla_makeFunctionHit (mg := X.mg) (closure_ok hfree) I.ok.glob (I.mod.glob.keeps I.bk) hcode (TB.code.keeps I.bk) oP ht hc bP fun ctv h' tk hx hsz => ?_
    exact fin c' _ ctv F H { s with heap := h' } tk (I.kept (h' := h') hx) Stp.refl R hco
  | none =>
    refine PySem.W.kla_makeFunction (mg := X.mg) (closure_ok hfree) I.ok.glob (I.mod.glob.keeps I.bk) hcode (TB.code.keeps I.bk) oP ht hc TB.gP bP fun c' ctv h' tk hx hge hlt hrec htb => ?_
    obtain ⟨c2, oc, vs, t, e2, hoc, hdt, hv⟩ := hrec
    cases e2
    have nC : H c' = none := I.hok.fresh hge
    have ne : P ≠ c' := ne_of_none hP nC
    have I1 := LamX.inv_table (t' := s.toks) (h' := h') (more := #[rawInt pos.line, rawInt pos.col, .ref c']) I hP (fun b o hb e => hx b o hb e) htb hge ⟨oc, vs, t, hoc, hdt, hv⟩
    obtain ⟨R1, st1⟩ := R.froz (o := LamX.CodeO c' (lamN X.env.qual)) nC codeO_nt
    have hP1 : upd H c' (LamX.CodeO c' (lamN X.env.qual)) P = some (.tbl ps) := by rw [upd_ne ne]; exact hP
    have eL : (ps ++ #[rawInt pos.line, rawInt pos.col, .ref c']).toList = ps.toList ++ [rawInt pos.line, rawInt pos.col, .ref c'] := by simp
    have tf : TabF W.T (upd F c' (LamX.CodeO c' (lamN X.env.qual))) (upd (upd H c' (LamX.CodeO c' (lamN X.env.qual))) P (.tbl (ps ++ #[rawInt pos.line, rawInt pos.col, .ref c']))) := fun p hp => by
      by_cases hb : p.1 = P
      · rw [hb, hu p hp hb]
        refine ⟨_, upd_same, by rw [eL]; exact PySem.TriplesOk_snoc _ _ _ _ ht, fun p' cv hcv => ?_⟩
        rw [eL] at hcv
        rcases LamX.among_app _ ht hcv with z | z
        · obtain ⟨c0, e1, e2⟩ := ha p' cv z
          exact ⟨c0, e1, st1.f _ _ e2⟩
        · exact ⟨c', z, upd_same⟩
      · obtain ⟨qs, a1, a2, a3⟩ := R1.tab p hp
        exact ⟨qs, by rw [upd_ne hb]; exact a1, a2, a3⟩
    have R2 := R1.grow hP1 tf
    rw [upd_swap ne.symm] at R2
    exact fin c' _ ctv _ _ { s with heap := h' } tk I1 st1 R2 upd_same
def noDef (a : Arguments) : Bool := a.defaults.isEmpty && a.kw_defaults.isEmpty
theorem noDef_ok {a : Arguments} (h : noDef a = true) (env : PySem.Env) : defaultsOf a env = ([], []) := by
  obtain ⟨p1, p2, p3, p4, p5, p6, p7⟩ := a
  unfold noDef at h
  simp only [Bool.and_eq_true, List.isEmpty_iff] at h
  obtain ⟨h1, h2⟩ := h
  have h1 : p7 = [] := h1
  have h2 : p5 = [] := h2
  subst h1 h2
  rfl
def noFree (sc : Scope) : Bool := sc.names.all fun y => !decide (y.2 = .free)
theorem noFree_clo {cells : List (Str × Addr)} : ∀ {ns : List (Str × NameKind)}, (ns.all fun y => !decide (y.2 = .free)) = true → cloFrom cells ns [] = []
  | [], _ => rfl
  | (n, k) :: r, h => by
    rw [List.all_cons, Bool.and_eq_true] at h
    have e : (k == NameKind.free) = false := by
      cases z : k == NameKind.free with
      | false => rfl
      | true => have := eq_of_beq z; subst this; simp at h
    show (if (k == NameKind.free) = true then _ else cloFrom cells r []) = _
    rw [e, if_neg Bool.false_ne_true]
    exact noFree_clo h.2
theorem se_lmb {k : Nat} {params : Arguments} {body : Expr} {scope : Scope} {pos : Pos} (g : GX C W E ξ Wx X) (hh : C.hot = false) (hm : C.T.mks.contains C.q = true) (hL : C.T.lb k ⟨params, body, scope, lamN C.q⟩ = true) (hd : noDef params = true) (hf : noFree scope = true) :
    SE W B E ξ Wx X (.Lambda params body scope pos) (.lmb k []) := by
  intro σ S F ρ G H τ Q R ro h
  rw [evE] at h
  simp only [mapO, List.length_nil, show 0 < top from by decide, if_true] at h
  intro pins s I
  refine lam_eval (g.mks hh hm) g.qn I R (noDef_ok hd _) (fun y hy e => ?_) fun f c F1 H1 s1 I1 st1 R1 h1 h2 => ?_
  · have := List.all_eq_true.mp hf y hy
    rw [e] at this
    simp at this
  · rw [noFree_clo hf] at h1
    exact ⟨.ref f, H1, I1, rfl, h F1 ρ H1 _ st1 R1 (.clo (g.lw k _ hL) h1 h2)⟩
end
end TW
/-! TWQ -/
set_option Elab.async false
set_option linter.all false
set_option maxRecDepth 100000
namespace TW
open PySem PySem.Spec PyProof.Rows L2
/-! ### the checker -/
def opB : BOp → Operator → Bool
  | .add, .Add => true
  | .sub, .Sub => true
  | .mul, .Mult => true
  | .fdiv, .FloorDiv => true
  | .mod, .Mod => true
  | .pow, .Pow => true
  | .shl, .LShift => true
  | .shr, .RShift => true
  | _, _ => false
def copB : COp → CmpOp → Bool
  | .eq, .Eq => true
  | .ne, .NotEq => true
  | .lt, .Lt => true
  | .le, .LtE => true
  | .gt, .Gt => true
  | .ge, .GtE => true
  | .is, .Is => true
  | .isnot, .IsNot => true
  | .inn, .In => true
  | .notin, .NotIn => true
  | _, _ => false
theorem opB_ok {op : BOp} {o : Operator} (h : opB op o = true) : o = opOf op := by cases op <;> cases o <;> first | rfl | cases h
theorem copB_ok {op : COp} {o : CmpOp} (h : copB op o = true) : o = copOf op := by cases op <;> cases o <;> first | rfl | cases h
def CC.vis (C : CC) (i : Nat) (x : Str) : Bool := decide (C.N[i]? = some x) && visB C.sc x && okN x
def CC.own? (C : CC) (i : Nat) (x : Str) : Bool := decide (C.N[i]? = some x) && locB C.own x && decide (C.no ≠ some i)
def CC.glo (C : CC) (k : GK) (x : Str) : Bool := glB C.sc x && okN x && decide (C.T.gt.lookup x = some k)
def isS (x : Str) (s : String) : Bool := decide (x = Str.ofString s)
/-- a type's name -/
def tyB (C : CC) (t : Ty) (x : Str) : Bool := bnB C x && isS x (tyName t) && decide (t ≠ .nont)
def ckConst : U → Expr → Bool
  | .non, .Constant .none _ _ => true
  | .bl b, .Constant (.bool b') _ _ => b == b'
  | .int i, .Constant (.int i') _ _ => decide (i = i')
  | .str s, .Constant (.str s') _ _ => decide (s = s')
  | .dct, .Dict [] [] _ => true
  | _, _ => false
def ckGlob (C : CC) : U → Expr → Bool
  | .fn f, .Name x _ => C.glo (.fn f) x
  | .cls k, .Name x _ => C.glo (.cls k) x
  | .int k, .Name x _ => C.glo (.int k) x
  | .ty t, .Name x _ => tyB C t x
  | _, _ => false
mutual
def ckG (C : CC) : IT → Expr → Bool
  | .nm i, .Name x _ => C.own? i x
  | .tp l, .Tuple es _ _ => !C.hot && ckGs C l es
  | _, _ => false
def ckGs (C : CC) : IT → List Expr → Bool
  | .nil, [] => true
  | .cons a l, e :: es => plainX e && ckG C a e && ckGs C l es
  | _, _ => false
end
def ownN (C : CC) (own : List Nat) : List (Str × Nat) := own.filterMap fun i => (C.N[i]?).map fun x => (x, i)
def biB (C : CC) : Bi → Str → Bool
  | .len, x => isS x "len"
  | .min2, x => !C.hot && isS x "min"
  | .max2, x => !C.hot && isS x "max"
  | .abs, x => isS x "abs"
  | .sum, x => !C.hot && isS x "sum"
  | .all, x => !C.hot && isS x "all"
  | .any, x => isS x "any"
  | .isi, x => isS x "isinstance"
  | _, _ => false
def lmB : LM → Str → Bool
  | .append, x => isS x "append"
  | .extend, x => isS x "extend"
  | .popAt, x => isS x "pop"
  | .insert, x => isS x "insert"
  | _, _ => false
def lmB0 : LM → Str → Bool
  | .pop, x => isS x "pop"
  | .reverse, x => isS x "reverse"
  | _, _ => false
/-! ### forms of expressions -/
def xName : Expr → Option Str
  | .Name x _ => some x
  | _ => none
def xBin : Expr → Option (Expr × Operator × Expr)
  | .BinOp a o b _ => some (a, o, b)
  | _ => none
def xNeg : Expr → Option Expr
  | .UnaryOp .USub a _ => some a
  | _ => none
def xNot : Expr → Option Expr
  | .UnaryOp .Not a _ => some a
  | _ => none
def xCmp : Expr → Option (Expr × List CmpOp × List Expr)
  | .Compare a os bs _ => some (a, os, bs)
  | _ => none
def xAnd : Expr → Option (List Expr)
  | .BoolOp .And es _ => some es
  | _ => none
def xOr : Expr → Option (List Expr)
  | .BoolOp .Or es _ => some es
  | _ => none
def xIf : Expr → Option (Expr × Expr × Expr)
  | .IfExp c a b _ => some (c, a, b)
  | _ => none
def xTup : Expr → Option (List Expr)
  | .Tuple es _ _ => some es
  | _ => none
def xLst : Expr → Option (List Expr)
  | .List es _ => some es
  | _ => none
def xSub : Expr → Option (Expr × Expr)
  | .Subscript a b _ => some (a, b)
  | _ => none
def xSl : Expr → Option (Option Expr × Option Expr)
  | .Slice l h none _ => some (l, h)
  | _ => none
def xM1 : Expr → Bool
  | .Slice none none (some (.UnaryOp .USub (.Constant (.int 1) _ _) _)) _ => true
  | _ => false
def xCall : Expr → Option (Expr × List Expr × Pos)
  | .Call f es [] p => some (f, es, p)
  | _ => none
def xCallN (e : Expr) : Option (Str × List Expr) := match xCall e with
  | some (f, es, _) => (xName f).map fun x => (x, es)
  | none => none
def xAttr : Expr → Option (Expr × Str × Pos)
  | .Attribute o f p => some (o, f, p)
  | _ => none
def xCallA (e : Expr) : Option (Expr × Str × List Expr × Bool) := match xCall e with
  | some (f, es, p) => (xAttr f).map fun z => (z.1, z.2.1, es, z.2.2.endLine == p.line)
  | none => none
def xComp : Expr → Option (Expr × Expr × Expr × List Expr × Scope)
  | .ListComp elt [⟨tg, iter, ifs, 0⟩] scope _ => some (elt, tg, iter, ifs, scope)
  | _ => none
theorem xName_ok {e : Expr} {x : Str} (h : xName e = some x) : ∃ p, e = .Name x p := by
  unfold xName at h; split at h <;> cases h; exact ⟨_, rfl⟩
theorem xBin_ok {e : Expr} {z} (h : xBin e = some z) : ∃ p, e = .BinOp z.1 z.2.1 z.2.2 p := by
  unfold xBin at h; split at h <;> cases h; exact ⟨_, rfl⟩
theorem xNeg_ok {e a : Expr} (h : xNeg e = some a) : ∃ p, e = .UnaryOp .USub a p := by
  unfold xNeg at h; split at h <;> cases h; exact ⟨_, rfl⟩
theorem xNot_ok {e a : Expr} (h : xNot e = some a) : ∃ p, e = .UnaryOp .Not a p := by
  unfold xNot at h; split at h <;> cases h; exact ⟨_, rfl⟩
theorem xCmp_ok {e : Expr} {z} (h : xCmp e = some z) : ∃ p, e = .Compare z.1 z.2.1 z.2.2 p := by
  unfold xCmp at h; split at h <;> cases h; exact ⟨_, rfl⟩
theorem xAnd_ok {e : Expr} {z} (h : xAnd e = some z) : ∃ p, e = .BoolOp .And z p := by
  unfold xAnd at h; split at h <;> cases h; exact ⟨_, rfl⟩
theorem xOr_ok {e : Expr} {z} (h : xOr e = some z) : ∃ p, e = .BoolOp .Or z p := by
  unfold xOr at h; split at h <;> cases h; exact ⟨_, rfl⟩
theorem xIf_ok {e : Expr} {z} (h : xIf e = some z) : ∃ p, e = .IfExp z.1 z.2.1 z.2.2 p := by
  unfold xIf at h; split at h <;> cases h; exact ⟨_, rfl⟩
theorem xTup_ok {e : Expr} {z} (h : xTup e = some z) : ∃ k p, e = .Tuple z k p := by
  unfold xTup at h; split at h <;> cases h; exact ⟨_, _, rfl⟩
theorem xLst_ok {e : Expr} {z} (h : xLst e = some z) : ∃ p, e = .List z p := by
  unfold xLst at h; split at h <;> cases h; exact ⟨_, rfl⟩
theorem xSub_ok {e : Expr} {z} (h : xSub e = some z) : ∃ p, e = .Subscript z.1 z.2 p := by
  unfold xSub at h; split at h <;> cases h; exact ⟨_, rfl⟩
theorem xSl_ok {e : Expr} {z} (h : xSl e = some z) : ∃ p, e = .Slice z.1 z.2 none p := by
  unfold xSl at h; split at h <;> cases h; exact ⟨_, rfl⟩
theorem xM1_ok {e : Expr} (h : xM1 e = true) : ∃ k p1 p2 p3, e = .Slice none none (some (.UnaryOp .USub (.Constant (.int 1) k p1) p2)) p3 := by
  unfold xM1 at h
  split at h
  · exact ⟨_, _, _, _, rfl⟩
  · cases h
def xS2 : Expr → Bool
  | .Slice none none (some (.Constant (.int 2) _ _)) _ => true
  | _ => false
theorem xS2_ok {e : Expr} (h : xS2 e = true) : ∃ k p1 p3, e = .Slice none none (some (.Constant (.int 2) k p1)) p3 := by
  unfold xS2 at h
  split at h
  · exact ⟨_, _, _, rfl⟩
  · cases h
theorem xCall_ok {e : Expr} {z} (h : xCall e = some z) : e = .Call z.1 z.2.1 [] z.2.2 := by
  unfold xCall at h; split at h <;> cases h; rfl
theorem xCallN_ok {e : Expr} {z} (h : xCallN e = some z) : ∃ p1 p, e = .Call (.Name z.1 p1) z.2 [] p := by
  unfold xCallN at h
  split at h
  · rename_i f es p hc
    cases hn : xName f with
    | none => rw [hn] at h; cases h
    | some x =>
      rw [hn] at h
      cases h
      obtain ⟨q, rfl⟩ := xName_ok hn
      exact ⟨q, p, xCall_ok hc⟩
  · cases h
theorem xAttr_ok {e : Expr} {z} (h : xAttr e = some z) : e = .Attribute z.1 z.2.1 z.2.2 := by
  unfold xAttr at h; split at h <;> cases h; rfl
theorem xCallA_ok {e : Expr} {z} (h : xCallA e = some z) : ∃ ap p, e = .Call (.Attribute z.1 z.2.1 ap) z.2.2.1 [] p ∧ (ap.endLine == p.line) = z.2.2.2 := by
  unfold xCallA at h
  split at h
  · rename_i f es p hc
    cases hn : xAttr f with
    | none => rw [hn] at h; cases h
    | some x =>
      rw [hn] at h
      cases h
      have := xAttr_ok hn
      subst this
      exact ⟨_, p, xCall_ok hc, rfl⟩
  · cases h
theorem xComp_ok {e : Expr} {z} (h : xComp e = some z) : ∃ p, e = .ListComp z.1 [⟨z.2.1, z.2.2.1, z.2.2.2.1, 0⟩] z.2.2.2.2 p := by
  unfold xComp at h; split at h <;> cases h; exact ⟨_, rfl⟩
/-- a comprehension in an except suite: [a == b for x in range(n)] -/
def hotB (C : CC) (t : IT) (it : IE) (has : Bool) (elt : IE) (own : List Nat) (eelt tg iter : Expr) (ifs : List Expr) (scope : Scope) : Bool := match t, it, has, elt, own, ifs with
  | .nm i, .wR1 (.c (.int n)), false, .cmp op (.v ja) (.v jb), [i2], [] => (match xCmp eelt, xName tg, xCallN iter with
    | some (ea, [o], [eb]), some x, some (r, [.Constant (.int n2) _ _]) => (match xName ea, xName eb with
      | some xa, some xb => decide (i = i2) && decide (n = n2) && decide (0 ≤ n) && decide (n < 1000000) && copB op o && isS r "range" && bnB C r && blkC C.N C.sc scope (ownN C own) && decide ((ownN C own).map (·.2) = own) &&
        decide (C.N[i]? = some x) && locB scope x && (C.blk scope).vis ja xa && (C.blk scope).vis jb xb
      | _, _ => false)
    | _, _, _ => false)
  | _, _, _, _, _, _ => false
def IE.isNil : IE → Bool
  | .nil => true
  | _ => false
theorem isNil_ok {ie : IE} (h : ie.isNil = true) : ie = .nil := by cases ie <;> first | rfl | cases h
def xLam : Expr → Option (Arguments × Expr × Scope)
  | .Lambda a b s _ => some (a, b, s)
  | _ => none
theorem xLam_ok {e : Expr} {z} (h : xLam e = some z) : ∃ p, e = .Lambda z.1 z.2.1 z.2.2 p := by
  unfold xLam at h; split at h <;> cases h; exact ⟨_, rfl⟩
def isXB : U → Bool
  | .cls _ => true
  | .ty .valErr => true
  | _ => false
mutual
def ckE : IE → CC → Expr → Bool
  | .c u, _, e => ckConst u e
  | .v i, C, e => match xName e with
    | some x => C.vis i x
    | none => false
  | .g u, C, e => ckGlob C u e
  | .bin op a b, C, e => match xBin e with
    | some (ea, o, eb) => opB op o && ckE a C ea && ckE b C eb
    | none => false
  | .neg a, C, e => match xNeg e with
    | some ea => ckE a C ea
    | none => false
  | .cmp op a b, C, e => match xCmp e with
    | some (ea, [o], [eb]) => copB op o && plainX eb && ckE a C ea && ckE b C eb
    | _ => false
  | .chain op op' a b c, C, e => match xCmp e with
    | some (ea, [o, o'], [eb, ec]) => copB op o && copB op' o' && plainX ec && ckE a C ea && ckE b C eb && ckE c C ec
    | _ => false
  | .chain3 op op' op'' a b c d, C, e => match xCmp e with
    | some (ea, [o, o', o''], [eb, ec, ed]) => copB op o && copB op' o' && copB op'' o'' && plainX ed && ckE a C ea && ckE b C eb && ckE c C ec && ckE d C ed
    | _ => false
  | .not a, C, e => match xNot e with
    | some ea => ckE a C ea
    | none => false
  | .and a b, C, e => match xAnd e with
    | some (ea :: es) => ckE a C ea && (match es with
      | [eb] => ckE b C eb
      | _ => ckA b C es)
    | _ => false
  | .or a b, C, e => match xOr e with
    | some (ea :: es) => ckE a C ea && (match es with
      | [eb] => ckE b C eb
      | _ => ckR b C es)
    | _ => false
  | .ife t a b, C, e => match xIf e with
    | some (et, ea, eb) => ckE t C et && ckE a C ea && ckE b C eb
    | none => false
  | .tup es, C, e => match xTup e with
    | some ees => ckL es C ees
    | none => false
  | .newF n, C, e => ckN n C e
  | .newM n, C, e => ckN n C e
  | .ix a b, C, e => match xSub e with
    | some (ea, eb) => plainX eb && ckE a C ea && ckE b C eb
    | none => false
  | .callD _ f es, C, e => match xCallN e with
    | some (x, ea :: ees) => !C.hot && C.glo (.fn f) x && plainL (ea :: ees) && ckL es C (ea :: ees)
    | some (x, []) => !C.hot && C.glo (.fn f) x && es.isNil
    | _ => false
  | .callV _ i es, C, e => match xCallN e with
    | some (x, ea :: ees) => !C.hot && C.vis i x && plainL (ea :: ees) && ckL es C (ea :: ees)
    | some (x, []) => !C.hot && C.vis i x && es.isNil
    | _ => false
  | .bi b es, C, e => match xCallN e with
    | some (x, ea :: ees) => biB C b x && bnB C x && okN x && plainL (ea :: ees) && ckL es C (ea :: ees)
    | _ => false
  | .lenSet a, C, e => match xCallN e with
    | some (x, [e2]) => !C.hot && isS x "len" && bnB C x && (match xCallN e2 with
      | some (y, [ea]) => isS y "set" && bnB C y && plainX ea && ckE a C ea
      | _ => false)
    | _ => false
  | .mc b a e1, C, e => match xCallA e with
    | some (ea, name, [eb], ln) => ln && plainX eb && noSup ea && (match b with
      | .index => isS name "index"
      | .count => isS name "count"
      | _ => false) && ckE a C ea && ckE e1 C eb
    | _ => false
  | .lm0 m a, C, e => match xCallA e with
    | some (ea, name, [], ln) => ln && lmB0 m name && noSup ea && ckE a C ea
    | _ => false
  | .lm m a es, C, e => match xCallA e with
    | some (ea, name, eb :: ees, ln) => ln && lmB m name && plainL (eb :: ees) && decide ((eb :: ees).length < 30) && noSup ea && ckE a C ea && ckL es C (eb :: ees)
    | _ => false
  | .isE i u, C, e => match xCallN e with
    | some (y, [e1, eb]) => isS y "isinstance" && bnB C y && (match xName e1 with
      | some x => C.vis i x
      | none => false) && plainX eb && isXB u && ckGlob C u eb
    | _ => false
  | .lmb k is, C, e => match xLam e with
    | some (pa, bd, sc) => !C.hot && C.T.mks.contains C.q && C.T.lb k ⟨pa, bd, sc, lamN C.q⟩ && noDef pa && noFree sc && is.isEmpty
    | none => false
  | .fld a f, C, e => match xAttr e with
    | some (ea, name, _) => decide (name = fldName f) && noSup ea && ckE a C ea
    | none => false
  | .make c es, C, e => match xCallN e with
    | some (x, ea :: ees) => !C.hot && C.glo (.cls c) x && plainL (ea :: ees) && ckL es C (ea :: ees)
    | _ => false
  | .meth a _ es, C, e => match xCallA e with
    | some (eo, name, eb :: ees, ln) => ln && isS name "shows" && !C.hot && plainL (eb :: ees) && decide ((eb :: ees).length < 30) && noSup eo && ckE a C eo && ckL es C (eb :: ees)
    | _ => false
  | _, _, _ => false
/-- the rest of an and, of an or: two at least -/
def ckA : IE → CC → List Expr → Bool
  | .and a b, C, ea :: es => ckE a C ea && (match es with
    | [eb] => ckE b C eb
    | _ => ckA b C es)
  | _, _, _ => false
def ckR : IE → CC → List Expr → Bool
  | .or a b, C, ea :: es => ckE a C ea && (match es with
    | [eb] => ckE b C eb
    | _ => ckR b C es)
  | _, _, _ => false
def ckL : IE → CC → List Expr → Bool
  | .nil, _, [] => true
  | .cons e es, C, ee :: ees => plainX ee && ckE e C ee && ckL es C ees
  | _, _, _ => false
def ckO : IE → CC → Option Expr → Bool
  | .none, _, none => true
  | .opt a, C, some e => ckE a C e
  | _, _, _ => false
def ckN : IE → CC → Expr → Bool
  | .lst es, C, e => match xLst e with
    | some ees => ckL es C ees
    | none => false
  | .comp t it has q elt own, C, e => match xComp e with
    | some (eelt, tg, iter, ifs, scope) => if C.hot then hotB C t it has elt own eelt tg iter ifs scope else blkC C.N C.sc scope (ownN C own) && decide ((ownN C own).map (·.2) = own) && plainX iter && t.slots.all (fun i => decide (i ∈ own)) && ckI it C tg iter && ckG (C.blk scope) t tg &&
      (match has, ifs with
      | true, [eq] => ckE q (C.blk scope) eq
      | false, [] => true
      | _, _ => false) && ckE elt (C.blk scope) eelt
    | none => false
  | .listOf a, C, e => match xCallN e with
    | some (x, [ea]) => isS x "list" && bnB C x && plainX ea && ckE a C ea
    | _ => false
  | .sorted a, C, e => match xCallN e with
    | some (x, [ea]) => isS x "sorted" && bnB C x && plainX ea && ckE a C ea
    | _ => false
  | .sortedSet a, C, e => match xCallN e with
    | some (x, [e2]) => !C.hot && isS x "sorted" && bnB C x && (match xCallN e2 with
      | some (y, [ea]) => isS y "set" && bnB C y && plainX ea && ckE a C ea
      | _ => false)
    | _ => false
  | .slice a lo hi, C, e => match xSub e with
    | some (ea, es) => (match xSl es with
      | some (l, h) => ckE a C ea && ckO lo C l && ckO hi C h
      | none => false)
    | none => false
  | .rev a, C, e => match xSub e with
    | some (ea, es) => xM1 es && ckE a C ea
    | none => false
  | .step2 a, C, e => match xSub e with
    | some (ea, es) => xS2 es && ckE a C ea
    | none => false
  | .cat a b, C, e => match xBin e with
    | some (ea, o, eb) => opB .add o && ckE a C ea && ckE b C eb
    | none => false
  | .rep a b, C, e => match xBin e with
    | some (ea, o, eb) => opB .mul o && ckE a C ea && ckE b C eb
    | none => false
  | .lrange a, C, e => match xCallN e with
    | some (x, [e2]) => !C.hot && isS x "list" && bnB C x && (match xCallN e2 with
      | some (y, [ea]) => isS y "range" && bnB C y && plainX ea && ckE a C ea
      | _ => false)
    | _ => false
  | .lzip a b, C, e => match xCallN e with
    | some (x, [e2]) => !C.hot && isS x "list" && bnB C x && (match xCallN e2 with
      | some (y, [ea, eb]) => isS y "zip" && bnB C y && plainX ea && plainX eb && ckE a C ea && ckE b C eb
      | _ => false)
    | _ => false
  | _, _, _ => false
def ckI : IE → CC → Expr → Expr → Bool
  | .wL a, C, _, e => ckE a C e
  | .wT a, C, _, e => ckE a C e
  | .wQ a, C, _, e => ckE a C e
  | .wR1 a, C, _, e => match xCallN e with
    | some (x, [ea]) => isS x "range" && bnB C x && plainX ea && ckE a C ea
    | _ => false
  | .wR2 a b, C, _, e => match xCallN e with
    | some (x, [ea, eb]) => isS x "range" && bnB C x && plainX ea && plainX eb && ckE a C ea && ckE b C eb
    | _ => false
  | .wR3 a b c, C, _, e => match xCallN e with
    | some (x, [ea, eb, ec]) => isS x "range" && bnB C x && plainX ea && plainX eb && plainX ec && ckE a C ea && ckE b C eb && ckE c C ec
    | _ => false
  | .wEn a, C, tg, e => (xTup tg).isSome && (match xCallN e with
    | some (x, [ea]) => isS x "enumerate" && bnB C x && plainX ea && ckE a C ea
    | _ => false)
  | .wZip a b, C, tg, e => (xTup tg).isSome && (match xCallN e with
    | some (x, [ea, eb]) => isS x "zip" && bnB C x && plainX ea && plainX eb && ckE a C ea && ckE b C eb
    | _ => false)
  | _, _, _, _ => false
end
/-! ### it is right -/
theorem isS_ok {x : Str} {s : String} (h : isS x s = true) : x = Str.ofString s := of_decide_eq_true h
section
variable {C : CC} {W : Wd} {B : Hp} {E : Env} {ξ : Option (Nat × Addr)} {Wx : WX} {X : Cx}
theorem vis_ok {i : Nat} {x : Str} (h : C.vis i x = true) : C.N[i]? = some x ∧ visB C.sc x = true ∧ okN x = true := by
  unfold CC.vis at h
  simp only [Bool.and_eq_true, decide_eq_true_eq] at h
  exact ⟨h.1.1, h.1.2, h.2⟩
theorem own_ok {i : Nat} {x : Str} (h : C.own? i x = true) : C.N[i]? = some x ∧ locB C.own x = true ∧ C.no ≠ some i := by
  unfold CC.own? at h
  simp only [Bool.and_eq_true, decide_eq_true_eq] at h
  exact ⟨h.1.1, h.1.2, h.2⟩
theorem glo_ok {k : GK} {x : Str} (h : C.glo k x = true) : glB C.sc x = true ∧ okN x = true ∧ C.T.gt.lookup x = some k := by
  unfold CC.glo at h
  simp only [Bool.and_eq_true, decide_eq_true_eq] at h
  exact ⟨h.1.1, h.1.2, h.2⟩
theorem ty_boot {t : Ty} (h : t ≠ .nont) : bootBuiltins (Str.ofString (tyName t)) = some (.type (tyName t)) := by
  cases t <;> first | (exact absurd rfl h) | decide +kernel
theorem ckConst_ok (u : U) (e : Expr) (h : ckConst u e = true) : SE W B E ξ Wx X e (.c u) ∧ plainT e = true := by
  unfold ckConst at h
  split at h
  · exact ⟨se_c0 pe_non fun _ _ _ _ => .non, rfl⟩
  · rw [beq_iff_eq] at h
    subst h
    exact ⟨se_c0 pe_bl fun _ _ _ _ => .bl _, rfl⟩
  · have := of_decide_eq_true h
    subst this
    exact ⟨se_c0 pe_int fun _ _ _ _ => .int _, rfl⟩
  · have := of_decide_eq_true h
    subst this
    exact ⟨se_c0 pe_str fun _ _ _ _ => .str _, rfl⟩
  · exact ⟨se_dct, rfl⟩
  · cases h
theorem ckGlob_pe (g : GX C W E ξ Wx X) (u : U) (e : Expr) (h : ckGlob C u e = true) : ∃ v, PE X e (tC v) ∧ (∀ B F ρ n, RV W B F ρ n u v) ∧ plainT e = true ∧ (∀ j, u = .cls j → v = .ref (W.cl j)) ∧ (u = .ty .valErr → v = .ty "ValueError") := by
  unfold ckGlob at h
  split at h
  · rename_i f x p
    obtain ⟨h1, h2, h3⟩ := glo_ok h
    obtain ⟨w, hw, hv⟩ := g.gt _ _ h3
    obtain ⟨k1, _, _⟩ := okN_ok h2
    exact ⟨.ref (W.fn f), pe_glob (gl_ok g h1) hw hv k1, fun _ _ _ _ => .fn _, rfl, fun j z => (nomatch z), fun z => (nomatch z)⟩
  · rename_i f x p
    obtain ⟨h1, h2, h3⟩ := glo_ok h
    obtain ⟨w, hw, hv⟩ := g.gt _ _ h3
    obtain ⟨k1, _, _⟩ := okN_ok h2
    exact ⟨.ref (W.cl f), pe_glob (gl_ok g h1) hw hv k1, fun _ _ _ _ => .cls _, rfl, fun j z => by cases z; rfl, fun z => (nomatch z)⟩
  · rename_i f x p
    obtain ⟨h1, h2, h3⟩ := glo_ok h
    obtain ⟨w, hw, hv⟩ := g.gt _ _ h3
    obtain ⟨k1, _, _⟩ := okN_ok h2
    exact ⟨.int f, pe_glob (gl_ok g h1) hw hv k1, fun _ _ _ _ => .int _, rfl, fun j z => (nomatch z), fun z => (nomatch z)⟩
  · rename_i t x p
    unfold tyB at h
    simp only [Bool.and_eq_true, decide_eq_true_eq] at h
    obtain ⟨⟨h1, h2⟩, h3⟩ := h
    obtain ⟨hg, hm⟩ := bn_ok g h1
    have e := isS_ok h2
    subst e
    refine ⟨.ty (tyName t), pe_bltn hg hm (ty_boot h3) rfl ?_ ?_, fun _ _ _ _ => .ty _, rfl, fun j z => (nomatch z), fun z => by cases z; rfl⟩
    · cases t <;> decide
    · cases t <;> decide
  · cases h
mutual
theorem ckG_ok (g : GX C W E ξ Wx X) : ∀ (t : IT) (e : Expr), ckG C t e = true → SG W B ξ X e t
  | .nm i, e, h => by
    unfold ckG at h
    split at h
    · rename_i i x p heq
      cases heq
      obtain ⟨h1, h2, h3⟩ := own_ok h
      exact sg_nm g h1 h2 h3
    · rename_i heq; cases heq
    · cases h
  | .tp l, e, h => by
    unfold ckG at h
    split at h
    · rename_i heq; cases heq
    · rename_i l' es k p heq
      cases heq
      rw [Bool.and_eq_true, Bool.not_eq_true'] at h
      exact sg_tp g h.1 (ckGs_ok g l es h.2)
    · cases h
  | .nil, e, h => by simp [ckG] at h
  | .cons _ _, e, h => by simp [ckG] at h
theorem ckGs_ok (g : GX C W E ξ Wx X) : ∀ (t : IT) (es : List Expr), ckGs C t es = true → SGs W B ξ X es t
  | .nil, [], _ => sgs_nil
  | .nil, _ :: _, h => by simp [ckGs] at h
  | .cons a l, [], h => by simp [ckGs] at h
  | .cons a l, e :: es, h => by
    rw [ckGs, Bool.and_eq_true, Bool.and_eq_true] at h
    exact sgs_cons h.1.1 (ckG_ok g a e h.1.2) (ckGs_ok g l es h.2)
  | .nm _, _, h => by simp [ckGs] at h
  | .tp _, _, h => by simp [ckGs] at h
end
def IE.kN : IE → Bool
  | .lst _ => true
  | .comp .. => true
  | .listOf _ => true
  | .sorted _ => true
  | .sortedSet _ => true
  | .step2 _ => true
  | .slice .. => true
  | .rev _ => true
  | .cat .. => true
  | .rep .. => true
  | .lrange _ => true
  | .lzip .. => true
  | _ => false
def IE.kI : IE → Bool
  | .wL _ => true
  | .wT _ => true
  | .wQ _ => true
  | .wR1 _ => true
  | .wR2 .. => true
  | .wR3 .. => true
  | .wEn _ => true
  | .wZip .. => true
  | _ => false
theorem ckN_k {ie : IE} {e : Expr} (h : ckN ie C e = true) : ie.kN = true := by
  cases ie <;> first | rfl | simp [ckN] at h
theorem ckI_k {ie : IE} {tg e : Expr} (h : ckI ie C tg e = true) : ie.kI = true := by
  cases ie <;> first | rfl | simp [ckI] at h
theorem ckA_k {ie : IE} {es : List Expr} (h : ckA ie C es = true) : ∃ a b, ie = .and a b := by
  cases ie <;> first | exact ⟨_, _, rfl⟩ | simp [ckA] at h
theorem ckR_k {ie : IE} {es : List Expr} (h : ckR ie C es = true) : ∃ a b, ie = .or a b := by
  cases ie <;> first | exact ⟨_, _, rfl⟩ | simp [ckR] at h
theorem ckL_k {ie : IE} {es : List Expr} (h : ckL ie C es = true) : ie = .nil ∨ ∃ a b, ie = .cons a b := by
  cases ie <;> first | exact .inl rfl | exact .inr ⟨_, _, rfl⟩ | simp [ckL] at h
theorem ckO_k {ie : IE} {o : Option Expr} (h : ckO ie C o = true) : ie = .none ∨ ∃ a, ie = .opt a := by
  cases ie <;> first | exact .inl rfl | exact .inr ⟨_, rfl⟩ | simp [ckO] at h
end
/-- what the checker lets through is right -/
structure CkOk (ie : IE) : Prop where
  e : ∀ C ex, ckE ie C ex = true → ∀ {W B E ξ Wx X}, GX C W E ξ Wx X → SE W B E ξ Wx X ex ie ∧ ST W B E ξ Wx X ex ie
  a : ∀ C es, ckA ie C es = true → ∀ {W B E ξ Wx X}, GX C W E ξ Wx X → ∀ pos, SE W B E ξ Wx X (.BoolOp .And es pos) ie ∧ SW W B E ξ Wx X (.BoolOp .And es pos) ie
  r : ∀ C es, ckR ie C es = true → ∀ {W B E ξ Wx X}, GX C W E ξ Wx X → ∀ pos, SE W B E ξ Wx X (.BoolOp .Or es pos) ie ∧ SW W B E ξ Wx X (.BoolOp .Or es pos) ie
  l : ∀ C es, ckL ie C es = true → ∀ {W B E ξ Wx X}, GX C W E ξ Wx X → SL W B E ξ Wx X es ie
  o : ∀ C x, ckO ie C x = true → ∀ {W B E ξ Wx X}, GX C W E ξ Wx X → SO W B E ξ Wx X x ie
  n : ∀ C ex, ckN ie C ex = true → ∀ {W B E ξ Wx X}, GX C W E ξ Wx X → SN W B E ξ Wx X ex ie
  i : ∀ C tg ex, ckI ie C tg ex = true → ∀ {W B E ξ Wx X}, GX C W E ξ Wx X → SI W B E ξ Wx X tg ex ie
/-- an expression alone -/
theorem CkOk.mkE {ie : IE} (hk : ie.kN = false) (hi : ie.kI = false) (h1 : ie ≠ .nil) (h2 : ∀ a b, ie ≠ .cons a b) (h3 : ie ≠ .none) (h4 : ∀ a, ie ≠ .opt a) (h5 : ∀ a b, ie ≠ .and a b) (h6 : ∀ a b, ie ≠ .or a b)
    (e : ∀ C ex, ckE ie C ex = true → ∀ {W B E ξ Wx X}, GX C W E ξ Wx X → SE W B E ξ Wx X ex ie ∧ ST W B E ξ Wx X ex ie) : CkOk ie where
  e := e
  a := fun C es h => by obtain ⟨a, b, z⟩ := ckA_k h; exact absurd z (h5 a b)
  r := fun C es h => by obtain ⟨a, b, z⟩ := ckR_k h; exact absurd z (h6 a b)
  l := fun C es h => by rcases ckL_k h with z | ⟨a, b, z⟩; exact absurd z h1; exact absurd z (h2 a b)
  o := fun C es h => by rcases ckO_k h with z | ⟨a, z⟩; exact absurd z h3; exact absurd z (h4 a)
  n := fun C es h => by rw [ckN_k h] at hk; cases hk
  i := fun C tg es h => by rw [ckI_k h] at hi; cases hi
/-- a value alone: as a test by its value -/
theorem CkOk.mkV {ie : IE} (hk : ie.kN = false) (hi : ie.kI = false) (h1 : ie ≠ .nil) (h2 : ∀ a b, ie ≠ .cons a b) (h3 : ie ≠ .none) (h4 : ∀ a, ie ≠ .opt a) (h5 : ∀ a b, ie ≠ .and a b) (h6 : ∀ a b, ie ≠ .or a b)
    (pt : ∀ C ex, ckE ie C ex = true → plainT ex = true) (e : ∀ C ex, ckE ie C ex = true → ∀ {W B E ξ Wx X}, GX C W E ξ Wx X → SE W B E ξ Wx X ex ie) : CkOk ie :=
  .mkE hk hi h1 h2 h3 h4 h5 h6 fun C ex h {_ _ _ _ _ _} g => ⟨e C ex h g, st_of (pt C ex h) (e C ex h g)⟩
end TW
/-! TWOb -/
set_option Elab.async false
set_option linter.all false
set_option maxRecDepth 100000
namespace TW
open PySem PySem.Spec PyProof.Rows L2
/-! ### instances: their fields -/
theorem fld_inj : ∀ f, f < 5 → ∀ g, g < 5 → fldName f = fldName g → f = g := by decide
theorem fld_shows : ∀ f, f < 5 → fldName f ≠ "shows" := by decide
section
variable {W : Wd} {B F F1 G H : Hp} {ρ ρ1 : Nat → Addr} {S S1 : Sto} {n : Nat}
theorem RF.look {f : Nat} {u : U} : ∀ {fs : List (Nat × U)} {vs : List (Str × V)}, RF W B F ρ n fs vs → fs.lookup f = some u → f < 5 ∧ ∃ v, vs.lookup (fldName f) = some v ∧ RV W B F ρ n u v
  | _, _, .nil, e => by cases e
  | _, _, .cons (f := g) (u := w) (v := x) (fs := fs) (vs := vs) hg r t, e => by
    rw [List.lookup_cons] at e
    by_cases h : f = g
    · subst h
      rw [beq_self_eq_true] at e
      cases e
      exact ⟨hg, x, by rw [List.lookup_cons, beq_self_eq_true], r⟩
    · rw [show (f == g) = false from beq_eq_false_iff_ne.mpr h] at e
      obtain ⟨h5, v, l, rv⟩ := RF.look t e
      refine ⟨h5, v, ?_, rv⟩
      rw [List.lookup_cons, show (fldName f == fldName g) = false from beq_eq_false_iff_ne.mpr fun z => h (fld_inj f h5 g hg z)]
      exact l
theorem RF.noS : ∀ {fs : List (Nat × U)} {vs : List (Str × V)}, RF W B F ρ n fs vs → vs.lookup ("shows" : Str) = none
  | _, _, .nil => rfl
  | _, _, .cons (f := g) hg r t => by
    rw [List.lookup_cons, show (("shows" : Str) == fldName g) = false from beq_eq_false_iff_ne.mpr fun z => fld_shows g hg z.symm]
    exact RF.noS t
theorem RF.put {f : Nat} {u : U} {v : V} (h5 : f < 5) (rv : RV W B F ρ n u v) : ∀ {fs : List (Nat × U)} {vs : List (Str × V)}, RF W B F ρ n fs vs → RF W B F ρ n (putFld f u fs) (putF (fldName f) v vs)
  | _, _, .nil => .cons h5 rv .nil
  | _, _, .cons (f := g) (u := w) (v := x) (fs := fs) (vs := vs) hg r t => by
    unfold putFld putF
    by_cases h : g = f
    · subst h
      rw [if_pos rfl, if_pos rfl]
      exact .cons hg rv t
    · rw [if_neg h, if_neg fun z => h (fld_inj g hg f h5 z)]
      exact .cons hg r (RF.put h5 rv t)
theorem RF.len : ∀ {fs : List (Nat × U)} {vs : List (Str × V)}, RF W B F ρ n fs vs → fs.length = vs.length
  | _, _, .nil => rfl
  | _, _, .cons _ _ t => by rw [List.length_cons, List.length_cons, RF.len t]
/-- a new instance -/
theorem Rel.newI (R : Rel W B F ρ S G H) {x dx : Addr} {c : Nat} (hx : H x = none) (hd : H dx = none) (ne : dx ≠ x) :
    Rel W B F (fun i => if i = S.length then x else ρ i) (S ++ [.ins c []]) G (upd (upd H dx (.own x)) x (.ins (W.cl c) dx [])) ∧ Stp F ρ S F (fun i => if i = S.length then x else ρ i) (S ++ [.ins c []]) := by
  have hr : ∀ i, i < S.length → (if i = S.length then x else ρ i) = ρ i := fun i h => if_neg (Nat.ne_of_lt h)
  have ll : S.length ≤ (S ++ [O.ins c []]).length := by rw [List.length_append]; exact Nat.le_add_right _ _
  have get : ∀ i d, (S ++ [O.ins c []])[i]? = some d → (i < S.length ∧ S[i]? = some d) ∨ (i = S.length ∧ d = .ins c []) := fun i d e => by
    by_cases h : i < S.length
    · rw [List.getElem?_append_left h] at e; exact .inl ⟨h, e⟩
    · have h2 : i < (S ++ [O.ins c []]).length := rel_mem e
      rw [List.length_append, List.length_singleton] at h2
      have h3 : i = S.length := by omega
      subst h3
      rw [List.getElem?_append_right (Nat.le_refl _), Nat.sub_self] at e
      exact .inr ⟨rfl, (Option.some.inj e).symm⟩
  have kept : ∀ a o, H a = some o → upd (upd H dx (.own x)) x (.ins (W.cl c) dx []) a = some o := fun a o e => by
    rw [upd_ne (ne_of_none e hx), upd_ne (ne_of_none e hd)]
    exact e
  have hFx : F x = none := by
    cases e : F x with
    | none => rfl
    | some o => rw [R.sub x o e] at hx; cases hx
  have nx : ∀ i d, S[i]? = some d → d.alive = true → ρ i ≠ x := fun i d e al z => by
    have q := R.cell i d e
    cases d with
    | lst us => obtain ⟨vs, h, _⟩ := q; rw [z, hx] at h; cases h
    | ins k fs => obtain ⟨dx', vs, h, _⟩ := q; rw [z, hx] at h; cases h
    | dead => cases al
  refine ⟨⟨fun a u e => kept a u (R.sub a u e), fun i d e => ?_, fun i d e al => ?_, fun i j d d' e1 e2 a1 a2 z => ?_, fun a u e => ?_, R.bor, fun a ps e => (nt_upd (fun a ps e => (nt_upd R.nt (by intro _ z; cases z) a ps e).2) (by intro _ z; cases z) a ps e).2, (R.tab.upd (fun ps z => by rw [hd] at z; cases z)).upd (fun ps z => by rw [upd_ne (fun z => ne z.symm), hx] at z; cases z)⟩, Sub.refl F, hr, ll⟩
  · rcases get i d e with ⟨h, e⟩ | ⟨h, rfl⟩
    · rw [hr i h]
      have q := R.cell i d e
      cases d with
      | lst us =>
        obtain ⟨vs, h1, l, r⟩ := q
        exact ⟨vs, kept _ _ h1, l, r.mono (Sub.refl F) ll hr⟩
      | ins k fs =>
        obtain ⟨dx', vs, h1, h2, r⟩ := q
        exact ⟨dx', vs, kept _ _ h1, kept _ _ h2, r.mono (Sub.refl F) ll hr⟩
      | dead => trivial
    · rw [h, if_pos rfl]
      exact ⟨dx, [], upd_same, by rw [upd_ne ne, upd_same], .nil⟩
  · rcases get i d e with ⟨h, e⟩ | ⟨h, rfl⟩
    · rw [hr i h]; exact R.sep i d e al
    · rw [h, if_pos rfl]; exact hFx
  · rcases get i d e1 with ⟨h1, e1⟩ | ⟨h1, rfl⟩
    · rw [hr i h1] at z
      rcases get j d' e2 with ⟨h2, e2⟩ | ⟨h2, rfl⟩
      · rw [hr j h2] at z; exact R.inj i j d d' e1 e2 a1 a2 z
      · rw [h2, if_pos rfl] at z; exact absurd z (nx i d e1 a1)
    · rw [h1, if_pos rfl] at z
      rcases get j d' e2 with ⟨h2, e2⟩ | ⟨h2, rfl⟩
      · rw [hr j h2] at z; exact absurd z.symm (nx j d' e2 a2)
      · rw [h1, h2]
  · obtain ⟨h1, h2, h3⟩ := R.fr a u e
    refine ⟨kept a u h1, h2, fun i d e al => ?_⟩
    rcases get i d e with ⟨h, e⟩ | ⟨h, rfl⟩
    · rw [hr i h]; exact h3 i d e al
    · rw [h, if_pos rfl]; exact fun z => by rw [z, h1] at hx; cases hx
end
section
variable {C : CC} {W : Wd} {B : Hp} {E : Env} {ξ : Option (Nat × Addr)} {Wx : WX} {X : Cx} {ea eb : Expr} {es : List Expr} {a b : IE} {p1 apos pos : Pos}
/-- o.f -/
theorem se_fld {f : Nat} (g : GX C W E ξ Wx X) (hs : noSup ea = true) (ha : SE W B E ξ Wx X ea a) : SE W B E ξ Wx X (.Attribute ea (fldName f) pos) (.fld a f) := by
  intro σ S F ρ G H τ Q R ro h
  rw [evE] at h
  refine eTo (pe_fld (pE ea) (noSup_ok hs _ _ _)) (ha σ S F ρ G H τ _ R ro (h.bind (RA := RV W B) fun x S1 F1 ρ1 H1 v st1 R1 r1 h1 => ?_))
  obtain ⟨u, e, h2⟩ := h1.opt
  cases r1 with
  | @ref n hn =>
    unfold getFld at e
    dsimp only at e
    split at e
    · rename_i c fs en
      split at e
      · rename_i ok
        rw [Bool.and_eq_true, Bool.not_eq_true'] at ok
        obtain ⟨dx, vs, c1, c2, c3⟩ := R1.cell n _ en
        obtain ⟨h5, w, l, rw⟩ := c3.look e
        exact ⟨ρ1 n, W.cl c, dx, vs, w, rfl, c1, by rw [g.K]; exact g.kf.cls c ok.1 ok.2, by rw [g.K]; exact g.of.na c f ok.1 ok.2 h5, l, h2.here R1 rw⟩
      · cases e
    · cases e
  | _ => cases e
/-- o.f = value -/
theorem ss_setfld {f : Nat} (g : GX C W E ξ Wx X) (hs : ∀ l, swapsWith eb (some (.Attribute ea (fldName f) p1)) l X.env = pure false) (ha : SE W B E ξ Wx X ea a) (hb : SE W B E ξ Wx X eb b) : SS W B E ξ Wx X (.Assign [.Attribute ea (fldName f) p1] eb pos) (.setfld a f b) := by
  intro σ S F ρ G H τ D R ro h
  rw [exS] at h
  refine sTo (ps_fld (pE ea) (pE eb) (hs _)) ?_
  refine hb σ S F ρ G H τ _ R ro (h.bind (RA := RV W B) fun u S1 F1 ρ1 H1 v st1 R1 r1 h1 => ?_)
  refine ha σ S1 F1 ρ1 G H1 τ _ R1 (ro.mono st1) (h1.bind (RA := RV W B) fun x S2 F2 ρ2 H2 w st2 R2 r2 h2 => ?_)
  cases r2 with
  | @ref n hn =>
    dsimp only at h2
    split at h2
    · rename_i c fs en
      split at h2
      · rename_i ok
        have ok2 := ok.2.2
        rw [Bool.and_eq_true, Bool.not_eq_true'] at ok2
        obtain ⟨dx, vs, c1, c2, c3⟩ := R2.cell n _ en
        have r1' := st2.rv r1
        refine ⟨ρ2 n, W.cl c, dx, vs, rfl, c1, by rw [g.K]; exact g.kf.cls c ok2.1 ok2.2, by rw [g.K]; exact g.of.na c f ok2.1 ok2.2 ok.2.1, by rw [← c3.len]; omega, ?_⟩
        obtain ⟨R4, st4⟩ := R2.putI en c1 (c3.put ok.2.1 r1')
        exact h2 F2 ρ2 _ τ st4 R4 (((ro.mono st1).mono st2).mono st4)
      · exact h2.elim
    · exact h2.elim
  | _ => exact h2.elim
/-- how a method's call is laid out -/
theorem meth_shape (hbase : noSup ea = true) {m : Str} (hp : plainL es = true) (hl : es.length < 30) (hline : (apos.endLine == pos.line) = true) {env : PySem.Env} : eval (.Call (.Attribute ea m apos) es [] pos) env = (do
      let ov ← eval ea env
      standAt apos.atName
      let (f, first) ← holding [ov] (getMethod ov m (do return (← importBound ea env).getD true))
      callWith pos f first (backTo pos (starEach es env)) (backToKw pos (keywordEach [] env))) := by
  have hform : methodCallForm (es.length + ([] : List Keyword).length) (backTo pos (starEach es env)) (backToKw pos (keywordEach [] env)) = true := plain_few hp hl
  rw [arm_eval_Call, noSup_ok hbase]
  unfold methodCall
  rw [hform]
  unfold calleeOf methodCallPos
  simp only [hline, if_true, Bool.not_true, Bool.or_true, pure_bind]
/-- o.shows(..) -/
theorem se_meth {m : Nat} (g : GX C W E ξ Wx X) (hh : C.hot = false) (hs : noSup eb = true) (hp : plainL (ea :: es) = true) (hl : (ea :: es).length < 30) (hline : (apos.endLine == pos.line) = true) (hb : SE W B E ξ Wx X eb b) (ha : SL W B E ξ Wx X (ea :: es) a) :
    SE W B E ξ Wx X (.Call (.Attribute eb "shows" apos) (ea :: es) [] pos) (.meth b m a) := by
  intro σ S F ρ G H τ Q R ro h
  have hp' := hp
  unfold plainL at hp'
  rw [List.all_cons, Bool.and_eq_true] at hp'
  rw [evE] at h
  intro pins s I
  refine PySem.W.methodCall_KW (thn ((pE (X := X) eb).run pins s τ H (fun v H1 => ∃ n c f S1 F1 ρ1 dx vs, v = .ref (ρ1 n) ∧ Stp F ρ S F1 ρ1 S1 ∧ Rel W B F1 ρ1 S1 G H1 ∧ n < S1.length ∧ H1 (ρ1 n) = some (.ins (W.cl c) dx vs) ∧ vs.lookup ("shows" : Str) = none ∧ E.mt c m = some f ∧
      Po W B (RV W B) (XWof W Wx τ) ((evL E σ a S1).bind fun us S2 => E.call false f (.ref n :: us) S2) F1 ρ1 S1 G Q) I ?_) fun u s1 ⟨v, H1, I1, r1, n, c, f, S1, F1, ρ1, dx, vs, ev, st1, R1, hn, c1, ns, em, h2⟩ => ?_) (meth_shape hs hp hl hline)
  · refine hb σ S F ρ G H τ _ R ro (h.bind (RA := RV W B) fun x S1 F1 ρ1 H1 v st1 R1 r1 h1 => ?_)
    cases r1 with
    | @ref n hn =>
      dsimp only at h1
      split at h1
      · rename_i c fs en
        split at h1
        · rename_i f em
          obtain ⟨dx, vs, c1, c2, c3⟩ := R1.cell n _ en
          exact ⟨n, c, f, S1, F1, ρ1, dx, vs, rfl, st1, R1, hn, c1, c3.noS, em, h1⟩
        · exact h1.elim
      · exact h1.elim
    | _ => exact h1.elim
  · subst ev
    obtain rfl : u = Value.ref (ρ1 n) := r1
    obtain ⟨okf, okc, oke, mth⟩ := g.of.mt c m f em
    obtain ⟨fd, ps, k, sp, F2, hr, hkp, hbn, hsp⟩ := g.call hh f okf
    have mth' : Meth X.K (W.cl c) "shows" (W.fn f) := by rw [g.K]; exact mth
    have cls' : Cls X.K (W.cl c) := by rw [g.K]; exact g.kf.cls c okc oke
    refine getmeth_ok I1 c1 cls' mth' ns ?_
    have hA := (pA (X := X) (ea :: es)).run pos pins s1 τ H1 (fun ws H2 => sp (.ref (ρ1 n) :: ws) H2 Q (WE Wx τ)) I1 (ha σ S1 F1 ρ1 G H1 τ _ R1 (ro.mono st1) (h2.bind (RA := RVs W B) fun us S2 F2 ρ2 H2 ws st2 R2 r2 h3 => by
      have rn := st2.rv (RV.ref (W := W) (B := B) (F := F1) (ρ := ρ1) hn)
      exact hsp false B F2 ρ2 S2 G H2 (.ref n :: us) (.ref (ρ1 n) :: ws) Q (WE Wx τ) R2 (.cons rn r2) h3))
    refine PySem.W.callWith_K (first := [.ref (ρ1 n)]) (h₀ := X.base) I.ok.mod.kin hkp (thn hA fun us s2 ⟨ws, H2, I2, r2, q2⟩ => ⟨I2.kIn, ?_⟩) (plain_star hp'.1 es X.env) (plain_any hp'.2)
    exact run_fnS (us := .ref (ρ1 n) :: us) (vs := .ref (ρ1 n) :: ws) (E := WE Wx) F2 (hr.mono (Nat.le_succ _)) hbn (L2N.passAt g.tk τ) I2 (.cons rfl r2) q2
/-- a class is called, and what is raised is wished for at the caller's slots -/
theorem make_run {CX : CXT} {k : Nat} {f K0 : Addr} {fd : FuncData} {ps : List Str} {sp : Sp} {E : L2.St → XK} {pins : List (Addr × Obj)} {τ : L2.St} {H : Hp} {s : Shared} {Q : VK} {us : List Value} {vs : List V} (M : Mk X.K K0 f)
    (F : FnOk X.prog X.w X.K X.mg X.base CX k f fd ps sp) (hr : Room (k + 1) X.A) (hb : Binds X.K fd ps []) (hx : PassesAt CX X τ (E τ)) (I : Inv X pins τ H s) (r : Vals vs us)
    (h : ∀ x dx, H x = none → H dx = none → dx ≠ x → sp (.ref x :: vs) (upd (upd H dx (.own x)) x (.ins K0 dx [])) (fun v H2 => v = .non ∧ Q (.ref x) H2) (E τ)) :
    wpAny (model X.prog X.w) X.A (call (.ref K0) us) (EP X pins τ Q) X.xe s := by
  obtain ⟨at1, hat1⟩ : ∃ n, n = s.heap.objs.size + 1 := ⟨_, rfl⟩
  have q0 := h (s.heap.objs.size + 1) s.heap.objs.size (I.hok.fresh (Nat.le_succ _)) (I.hok.fresh (Nat.le_refl _)) (Nat.ne_of_lt (Nat.lt_succ_self _))
  have J := Inv.made (C := K0) I
  have rr : Vals (V.ref (s.heap.objs.size + 1) :: vs) (Value.ref (s.heap.objs.size + 1) :: us) := .cons rfl r
  have ln : (Value.ref (s.heap.objs.size + 1) :: us ++ []).length = ps.length := by
    rw [List.append_nil, ← rr.length]
    exact F.len _ _ _ _ q0
  have bnd := hb _ (Value.ref (s.heap.objs.size + 1) :: us) J.kIn ln
  rw [List.append_nil] at bnd
  have run := F.run _ X.stack _ _ ⟨Value.ref (s.heap.objs.size + 1) :: us, []⟩ _ _ _ (E τ) (hr.make K0 us []) (J.env0.make K0 us []) bnd rr q0
  refine wpAny_call (make_map (f := f) I.kIn M.makes M.init (beq_iff_eq.mp M.fn) (codeAny_mono run fun fin s' z => ?_))
  match fin, z with
  | .error e, z => exact hx pins _ _ e s' J z
  | .ok (.ret u), z =>
    obtain ⟨v, H', J3, rv, ev, q3⟩ := J.after z
    subst ev
    exact ⟨rv, V.ref (s.heap.objs.size + 1), H', J3, rfl, q3⟩
  | .ok .next, z => exact z.elim
  | .ok .brk, z => exact z.elim
  | .ok .cont, z => exact z.elim
/-- a new instance of a class -/
theorem se_make {c : Nat} {x : Str} (g : GX C W E ξ Wx X) (hh : C.hot = false) (hx : glB C.sc x = true) (hk : okN x = true) (hT : C.T.gt.lookup x = some (.cls c)) (hp : plainL (ea :: es) = true) (ha : SL W B E ξ Wx X (ea :: es) a) :
    SE W B E ξ Wx X (.Call (.Name x p1) (ea :: es) [] pos) (.make c a) := by
  intro σ S F ρ G H τ Q R ro h
  obtain ⟨k1, _, k3⟩ := okN_ok hk
  obtain ⟨u, hu, hv⟩ := g.gt x _ hT
  cases hv
  have hp' := hp
  unfold plainL at hp'
  rw [List.all_cons, Bool.and_eq_true] at hp'
  rw [evE] at h
  cases em : E.init c with
  | none => rw [em] at h; exact h.elim
  | some f =>
    rw [em] at h
    dsimp only at h
    obtain ⟨okf, mk⟩ := g.of.make c f em
    obtain ⟨fd, ps, k, sp, F2, hr, hkp, hbn, hsp⟩ := g.call hh f okf
    have mk' : Mk X.K (W.cl c) (W.fn f) := by rw [g.K]; exact mk
    intro pins s I
    refine wpAny_Call_Name_kw (ld_glob I (gl_ok g hx) hu ?_ k1)
    have hA := (pA (X := X) (ea :: es)).run pos pins s τ H (fun vs H1 => ∀ y dx, H1 y = none → H1 dx = none → dx ≠ y → sp (.ref y :: vs) (upd (upd H1 dx (.own y)) y (.ins (W.cl c) dx [])) (fun v H2 => v = .non ∧ Q (.ref y) H2) (WE Wx τ)) I
      (ha σ S F ρ G H τ _ R ro (h.bind (RA := RVs W B) fun us S1 F1 ρ1 H1 vs st1 R1 r1 h1 => fun y dx hy hd ne => by
        obtain ⟨R2, st2⟩ := R1.newI (c := c) hy hd ne
        have ry := RV.ref (W := W) (B := B) (F := F1) (ρ := fun i => if i = S1.length then y else ρ1 i) (n := (S1 ++ [O.ins c []]).length) (m := S1.length) (by rw [List.length_append]; exact Nat.lt_succ_self _)
        rw [if_pos rfl] at ry
        refine hsp false B F1 _ (S1 ++ [.ins c []]) G _ (.ref S1.length :: us) (.ref y :: vs) _ (WE Wx τ) R2 (.cons ry (st2.rvs r1)) ?_
        have h2 := Po.mono h1 st2
        cases ec : E.call false f (.ref S1.length :: us) (S1 ++ [.ins c []]) with
        | bad => rw [ec] at h2; exact h2.elim
        | ex k S2 => rw [ec] at h2; exact h2
        | ok w S2 =>
          rw [ec] at h2
          intro F3 ρ3 H3 v st3 R3 rv
          cases w with
          | non =>
            cases rv
            refine ⟨rfl, ?_⟩
            have hlt : S1.length < (S1 ++ [O.ins c []]).length := by rw [List.length_append]; exact Nat.lt_succ_self _
            have e3 : ρ3 S1.length = y := by rw [st3.r _ hlt, if_pos rfl]
            have h4 : Po W B (RV W B) (XWof W Wx τ) (TW.R.ok (U.ref S1.length) S2) F1 (fun i => if i = S1.length then y else ρ1 i) (S1 ++ [.ins c []]) G Q := h2
            have rr := RV.ref (W := W) (B := B) (F := F3) (ρ := ρ3) (n := S2.length) (m := S1.length) (Nat.lt_of_lt_of_le hlt st3.l)
            rw [e3] at rr
            exact h4 F3 ρ3 H3 _ st3 R3 rr
          | _ => exact False.elim h2))
    refine PySem.W.callWith_K (h₀ := X.base) I.ok.mod.kin mk'.kp (thn hA fun us s1 ⟨vs, H1, I1, r1, q1⟩ => ⟨I1.kIn, ?_⟩) (plain_star hp'.1 es X.env) (plain_any hp'.2)
    exact make_run (E := WE Wx) mk' F2 hr hbn (L2N.passAt g.tk τ) I1 r1 q1
end
end TW
/-! TWSi -/
set_option Elab.async false
set_option linter.all false
set_option maxRecDepth 100000
namespace TW
open PySem PySem.Spec PyProof.Rows L2
section
variable {P : Program} {w : World} {A : Around} {E : Value → Shared → Prop} {s : Shared}
set_option maxHeartbeats 3200000 in
theorem callI {l : Addr} {its : Array Value} (ns : List Int) {Q : Value → Shared → Prop} (hh : A.handled = none) (hl : s.heap.IsList l its) (hit : IntsAre its.toList ns) (few : ns.length + 1 < scanBound)
    (fin : ∀ (h' : Heap) (tk c : Nat), SetR w h' s.heap.objs.size (fun j => decide (j ∈ ns)) c → c ≤ ns.length → (∀ b o, s.heap.get? b = some o → h'.get? b = some o) → Q (.ref s.heap.objs.size) { s with heap := h', toks := tk }) :
    wpAny (model P w) A (call (.type "set") [.ref l]) Q E s := by
  have zs : its.size = ns.length := by
    have q := IntsAre.length hit
    simpa using q
  obtain ⟨c, tl, hmro⟩ := F.called_set.mro
  have hmade := F.called_set.made
  have hsub := F.called_set.sub
  refine wpAny_call (codeAny_of_tree ?_)
  show wpAny _ _ (callAny (.type "set") _) _ _ _
  refine wpAny_pure ⟨Code.quiet_builtin _ (by decide +kernel), codeAny_builtin F.entry_type_call ?_⟩
  rw [Around.under_plain (weight_type_call_type "set" [.ref l] []) rfl]
  have h1 := F.called_set.notType
  have h2 := F.called_set.canCreate
  have hct := F.typeCall_set_1 (.ref l)
  repeat (any_goals (first | assumption | wp_step))
  refine codeAny_mono (code_set_led1 (.ref l) (E := E) (Q₁ := fun ob s₁ => ob = .ref s.heap.objs.size ∧ s₁ = { s with heap := s.heap.push (set0 w) }) ⟨rfl, rfl⟩) fun r s₁ hr => ?_
  cases r with
  | error e => exact hr
  | ok fl =>
    cases fl with
    | ret ob =>
      obtain ⟨rfl, rfl⟩ := hr
      have gS : (s.heap.push (set0 w)).get? s.heap.objs.size = some (set0 w) := Heap.get?_push_size _ rfl
      have hT : Shared.TypeIs { s with heap := s.heap.push (set0 w) } (.ref s.heap.objs.size) "set" := ⟨_, gS, rfl⟩
      have hli := F.called_set.init.lookup
      have hbi := F.called_set.init.bind (.ref s.heap.objs.size)
      repeat (any_goals (first | assumption | wp_step))
      refine codeAny_mono (codeAny_call_builtin (R := wants (fun r s₂ => r = .none ∧ ∃ h' tk c, s₂ = { s with heap := h', toks := tk } ∧ SetR w h' s.heap.objs.size (fun j => decide (j ∈ ns)) c ∧ c ≤ ns.length ∧
          (∀ b o, s.heap.get? b = some o → h'.get? b = some o)) E) F.called_set.init.plain F.entry_set_init (check_set_init_1 hT ?_)) fun r₂ s₂ hr₂ => ?_
      · obtain ⟨⟨oc, od, dt, osl⟩, hol, hcl, nl, hdl⟩ := hl
        simp only at hcl hdl
        subst hcl; subst hdl
        have hol' : (s.heap.push (set0 w)).get? l = some { cls := .type "list", dict := od, data := .seq its nl, slots := osl } := Heap.get?_push_of_some _ hol
        have hsls := F.sub_list_set
        have hslf := F.sub_list_frozenset
        have hne : (Value.type "list" == Value.type "dict") = false := by decide
        have hl1 : (s.heap.push (set0 w)).IsList l its := ⟨_, hol', rfl, nl, rfl⟩
        unfold Builtin.«set.__init__» noKeywords Builtin.Frozenset.updateFrom
        generalize hPI : pyIter = PI
        wp_walk
        subst hPI
        refine wpAny_pyIter_list hl1 (wpAny_bind (wpAny_runValue ?_))
        have lS : l < s.heap.objs.size := Heap.lt_size hol
        have hh3 : A.in1.in1.in1.handled = none := by simp [hh]
        have zp : (s.heap.push (set0 w)).objs.size = s.heap.objs.size + 1 := Heap.size_push ..
        have lI : l ≠ (s.heap.push (set0 w)).objs.size := zp ▸ Nat.ne_of_lt (Nat.lt_succ_of_lt lS)
        have sf : s.heap.objs.size ∉ [(s.heap.push (set0 w)).objs.size, l] := by
          simp only [List.mem_cons, List.not_mem_nil, or_false, not_or]
          exact ⟨zp ▸ Nat.ne_of_lt (Nat.lt_succ_self _), Nat.ne_of_gt lS⟩
        have val : ∀ (i : Nat) (v : Value), its[i]? = some v → ∃ k t, ns[i]? = some k ∧ v = .int k t := fun i v hv => by
          have li : i < ns.length := zs ▸ (Array.getElem?_eq_some_iff.mp hv).1
          obtain ⟨t, e⟩ := PyProof.Rows.IntsAre.int_at hit i v (by rw [Array.getElem?_toList]; exact hv)
          rw [List.getD_eq_getElem?_getD, List.getElem?_eq_getElem li] at e
          exact ⟨ns[i], t, List.getElem?_eq_getElem li, e⟩
        have g2 : ((s.heap.push (set0 w)).push { cls := .type "list_iterator", data := .fields #[.ref l, .int 0 0] }).get? s.heap.objs.size = some (set0 w) := Heap.get?_push_of_some _ gS
        refine set_update_ints ((Walks.list hh3 _ l lI its).toS) s.heap.objs.size sf ns zs few val (its.size - 0) 0 _ (by omega) (Nat.zero_le _)
          ⟨⟨_, Heap.get?_push_size _ rfl, rfl, rfl⟩, (hl1.push _)⟩ ⟨0, Nat.le_refl 0, setR_new_at g2⟩ ?fin
        case fin =>
          intro s' c' hm hc' hS'
          obtain ⟨h', g2, d', tk', os'⟩ := s'
          have eg : g2 = s.gens := hm.gens
          have ed : d' = s.drawn := hm.drawn
          have eo : os' = s.os := hm.os
          subst eg; subst ed; subst eo
          show wpAny _ _ _ _ _ _
          refine wpAny_pure ?_
          show wpAny _ _ (ret Value.none) _ _ _
          refine wpAny_pure ⟨rfl, h', tk', c', rfl, hS', zs ▸ hc', fun b o e => ?_⟩
          have b0 : b < s.heap.objs.size := Heap.lt_size e
          refine hm.heap b o ?_ (Heap.get?_push_of_some _ (Heap.get?_push_of_some _ e))
          simp only [List.mem_cons, List.not_mem_nil, or_false, not_or]
          exact ⟨Nat.ne_of_lt b0, zp ▸ Nat.ne_of_lt (Nat.lt_succ_of_lt b0)⟩
      · cases r₂ with
        | error e => exact hr₂
        | ok fl₂ =>
          cases fl₂ with
          | ret r =>
            obtain ⟨rfl, h', tk, c', rfl, hS', g', hk'⟩ := hr₂
            repeat (any_goals (first | assumption | wp_step))
            exact fin _ _ _ hS' g' hk'
          | _ => exact hr₂.elim
    | _ => exact hr.elim
end
/-! rising lists -/
theorem uniq_rising : ∀ {l : List Int}, l.Pairwise (fun a b => leI a b = true) → (uniq eqI l).Pairwise (· < ·)
  | [], _ => .nil
  | [a], _ => List.pairwise_singleton _ _
  | a :: b :: r, h => by
    obtain ⟨h1, h2⟩ := List.pairwise_cons.mp h
    have ih := uniq_rising h2
    rw [uniq]
    split
    · exact ih
    · rename_i ne
      refine List.pairwise_cons.mpr ⟨fun x hx => ?_, ih⟩
      rw [uniq_mem eqI_iff] at hx
      have ab : a ≤ b := of_decide_eq_true (h1 b List.mem_cons_self)
      have ab2 : a ≠ b := fun z => ne ((eqI_iff a b).mpr z)
      rcases List.mem_cons.mp hx with rfl | hx
      · omega
      · have : b ≤ x := of_decide_eq_true ((List.pairwise_cons.mp h2).1 x hx)
        omega
theorem rising_unique : ∀ {a b : List Int}, a.Pairwise (· < ·) → b.Pairwise (· < ·) → (∀ x, x ∈ a ↔ x ∈ b) → a = b
  | [], [], _, _, _ => rfl
  | [], y :: ys, _, _, h => absurd ((h y).mpr List.mem_cons_self) List.not_mem_nil
  | x :: xs, [], _, _, h => absurd ((h x).mp List.mem_cons_self) List.not_mem_nil
  | x :: xs, y :: ys, ha, hb, h => by
    obtain ⟨a1, a2⟩ := List.pairwise_cons.mp ha
    obtain ⟨b1, b2⟩ := List.pairwise_cons.mp hb
    have e : x = y := by
      rcases List.mem_cons.mp ((h x).mp List.mem_cons_self) with e | m
      · exact e
      · rcases List.mem_cons.mp ((h y).mpr List.mem_cons_self) with e | m2
        · exact e.symm
        · have := b1 x m
          have := a1 y m2
          omega
    subst e
    refine congrArg (x :: ·) (rising_unique a2 b2 fun z => ?_)
    constructor
    · intro m
      rcases List.mem_cons.mp ((h z).mp (List.mem_cons_of_mem _ m)) with e | q
      · have := a1 z m
        omega
      · exact q
    · intro m
      rcases List.mem_cons.mp ((h z).mpr (List.mem_cons_of_mem _ m)) with e | q
      · have := b1 z m
        omega
      · exact q
section
variable {C : CC} {W : Wd} {B : Hp} {E : Env} {ξ : Option (Nat × Addr)} {Wx : WX} {X : Cx} {ea : Expr} {a : IE} {pos p1 p2 p3 : Pos}
def rSetI (K : PySem.W.Frag) (w : World) : List V → Hp → VK → Prop := fun xs H Q => ∃ (l : Addr) (ns : List Int), xs = [V.ref l] ∧ SqL K H l (ns.map V.int) ∧ ns.length < 64 ∧
  ∀ (p : Addr) (c : Nat), H p = none → c ≤ ns.length → Q (.ref p) (upd H p (SetO w p (fun j => decide (j ∈ ns)) c))
theorem cr_setI (hc : X.calm = true) : CallR X (.type "set") (rSetI X.K X.w) := by
  intro pins s σ H xs us Q I r h
  obtain ⟨l, ns, rfl, hq, hl, q⟩ := h
  rw [Vals.ref1 r]
  obtain ⟨its, rv, pl, hz⟩ := I.list hq
  refine callI ns (I.ok.hd hc) pl.isList (by simpa using rv.ints) (by unfold scanBound; omega) fun h' tk c R hcn k => ?_
  have hlt : s.heap.objs.size < h'.objs.size := R.lt
  exact ⟨.ref _, upd H s.heap.objs.size (SetO X.w s.heap.objs.size (fun j => decide (j ∈ ns)) c), I.laid (fun b u e => k b u e) (Nat.le_refl _) (setO_new R), rfl, q _ c (I.hok.fresh (Nat.le_refl _)) hcn⟩
theorem Rel.extra {F G H : Hp} {ρ : Nat → Addr} {S : Sto} (R : Rel W B F ρ S G H) {p : Addr} {o : HO} (hp : H p = none) (ho : NT o) : Rel W B F ρ S G (upd H p o) := by
  refine (R.aside hp ho).less (Sub.new ?_) R.bor
  cases e : G p with
  | none => rfl
  | some u => rw [(R.fr p u e).1] at hp; cases hp
theorem sn_sortedSet (g : GX C W E ξ Wx X) (hh : C.hot = false) (hb : bnB C "sorted" = true) (hb2 : bnB C "set" = true) (hp : plainX ea = true) (ha : SE W B E ξ Wx X ea a) :
    SN W B E ξ Wx X (.Call (.Name "sorted" p1) [.Call (.Name "set" p2) [ea] [] p3] [] pos) (.sortedSet a) := by
  intro σ S F ρ G H τ Q R ro h
  obtain ⟨hg, hm⟩ := bn_ok g hb
  obtain ⟨hg2, hm2⟩ := bn_ok g hb2
  rw [evN] at h
  have inner : PE X (.Call (.Name "set" p2) [ea] [] p3) _ := pe_callTy (cr_setI (g.calm hh)) hg2 hm2 PyProof.Rows.boot_set (pa_cons (pE ea) pa_nil (plain_star hp [] X.env)) (he := plain_star hp [] X.env)
  refine eTo (pe_callB (cr_sortedSet (g.calm hh)) hg hm boot_sorted (pa_cons inner pa_nil rfl)) ?_
  refine ha σ S F ρ G H τ _ R ro (h.bind (RA := RV W B) fun x S1 F1 ρ1 H1 v st1 R1 r1 h1 => ?_)
  cases e : rdL S1 x with
  | none => rw [e] at h1; exact h1.elim
  | some us =>
    rw [e] at h1
    obtain ⟨zs, ez, h2⟩ := h1.opt
    obtain ⟨p, vs, rfl, hq, hl, rs⟩ := rdL_ok R1 e r1
    rw [← g.K] at hq
    unfold sortedSetU at ez
    split at ez
    · rename_i ns en
      split at ez
      · rename_i lt
        cases ez
        have ev := asInt_ok en rs
        subst ev
        have hl2 : ns.length ≤ top := by rw [mapO_len' en]; exact hl
        refine ⟨p, ns, rfl, hq, lt, fun q c hq1 hc => ?_⟩
        have R2 := R1.extra (o := SetO X.w q (fun j => decide (j ∈ ns)) c) hq1 (fun ps z => by unfold SetO at z; cases z)
        refine ⟨q, _, c, rfl, upd_same, by omega, fun ns' p' hs hm' hl' hp' => ?_⟩
        have e2 : ns' = uniq eqI (srtI ns) := by
          refine rising_unique hs (uniq_rising (srtI_sorted hl2)) fun x => ?_
          rw [hm', decide_eq_true_eq, uniq_mem eqI_iff, (srtI_perm ns).mem_iff]
        subst e2
        refine h2.made R2 ?_ (RVs.ints _) p' hp'
        rw [List.length_map]
        omega
      · cases ez
    · cases ez
end
end TW
/-! TWSj -/
set_option Elab.async false
set_option linter.all false
set_option maxRecDepth 100000
namespace TW
open PySem PySem.Spec PyProof.Rows L2
/-! ### each second one -/
def evG {α : Type} : List α → List α
  | [] => []
  | [a] => [a]
  | a :: _ :: r => a :: evG r
theorem every2_eq : ∀ us : List U, every2 us = evG us
  | [] => rfl
  | [a] => rfl
  | a :: b :: r => by rw [every2, evG, every2_eq r]
theorem evG_len {α : Type} : ∀ l : List α, (evG l).length ≤ l.length
  | [] => Nat.le_refl _
  | [a] => Nat.le_refl _
  | a :: b :: r => by
    have := evG_len r
    rw [evG, List.length_cons, List.length_cons, List.length_cons]
    omega
theorem evG_pick {α : Type} : ∀ l : List α, ((List.range ((l.length + 1) / 2)).map fun k => 2 * k).filterMap (fun i => l[i]?) = evG l
  | [] => by
    have e : (([] : List α).length + 1) / 2 = 0 := by
      show (0 + 1) / 2 = 0
      decide
    rw [e]
    rfl
  | [a] => by
    have e : (([a] : List α).length + 1) / 2 = 1 := by
      show (1 + 1) / 2 = 1
      decide
    rw [e]
    rfl
  | a :: b :: r => by
    have ih := evG_pick r
    have e : ((a :: b :: r).length + 1) / 2 = (r.length + 1) / 2 + 1 := by
      rw [List.length_cons, List.length_cons]
      omega
    rw [e, List.range_succ_eq_map, List.map_cons, List.filterMap_cons, evG]
    show a :: _ = _
    rw [← ih, List.map_map, List.filterMap_map, List.filterMap_map]
    rfl
theorem pick2 (items : Array Value) : slicePick items none none (some 2) = (evG items.toList).toArray := by
  unfold slicePick
  have eb : sliceBounds none none (some 2) items.size = (0, (items.size : Int), 2) := by
    first
    | rfl
    | simp [sliceBounds]
  rw [eb]
  have er : sliceRange 0 (items.size : Int) 2 = (List.range ((items.size + 1) / 2)).map fun k => 2 * k := by
    unfold sliceRange
    by_cases h : (0 : Int) < (items.size : Int)
    · have e : (((items.size : Int) - 0 + 2 - 1) / 2).toNat = (items.size + 1) / 2 := by omega
      simp only [show ((2 : Int) > 0) = True from by simp, if_true, h, e]
      refine List.map_congr_left fun k _ => ?_
      omega
    · have e : items.size = 0 := by omega
      rw [e]
      simp
  show ((sliceRange 0 (items.size : Int) 2).filterMap (items[·]?)).toArray = _
  rw [er]
  congr 1
  have := evG_pick items.toList
  rw [Array.length_toList] at this
  rw [← this]
  congr 1
  funext i
  rw [Array.getElem?_toList]
theorem Vals.evG {xs : List V} {us : List Value} (h : Vals xs us) : Vals (evG xs) (evG us) := by
  induction xs using TW.evG.induct generalizing us with
  | case1 => cases h; exact .nil
  | case2 a => cases h with
    | cons p q => cases q; exact .cons p .nil
  | case3 a b r ih => cases h with
    | cons p q => cases q with
      | cons p2 q2 => exact .cons p (ih q2)
section
variable {X : Cx}
def tStep2 (K : PySem.W.Frag) (te : TE) : TE := fun σ H Q => te σ H fun x H1 => ∃ a xs, x = .ref a ∧ SqL K H1 a xs ∧ ∀ p, H1 p = none → Q (.ref p) (upd H1 p (.lst (evG xs)))
theorem pe_step2 {e : Expr} {te : TE} {k : Nat} {p1 p3 pos : Pos} (he : PE X e te) : PE X (.Subscript e (.Slice none none (some (.Constant (.int 2) k p1)) p3) pos) (tStep2 X.K te) := by
  refine ⟨fun ps s σ H Q I h => Subscript_ (thn (he.run ps s σ H _ I h) fun v s1 ⟨x, H1, I1, r1, a, xs, ex, hx, q⟩ => ?_)⟩
  subst ex
  cases r1
  have hst : PO X (some (.Constant (.int 2) k p1)) (tPart (tC (.int 2))) := po_some pe_int
  refine wpAny_Slice (thn (po_none.run ps s1 σ H1 (fun o H2 => o = none ∧ H2 = H1) I1 ⟨rfl, rfl⟩) fun vl s2 ⟨l, H2, I2, pl, el, e2⟩ => ?_)
  subst el e2
  refine thn (po_none.run ps s2 σ H2 (fun o H3 => o = none ∧ H3 = H2) I2 ⟨rfl, rfl⟩) fun vu s3 ⟨u, H3, I3, pu, eu, e3⟩ => ?_
  subst eu e3
  refine thn (hst.run ps s3 σ H3 (fun o H4 => o = some 2 ∧ H4 = H3) I3 ⟨2, rfl, rfl, rfl⟩) fun vs s4 ⟨o, H4, I4, pt, eo, e4⟩ => ?_
  subst eo e4
  have I5 : Inv X ps σ H4 { s4 with heap := s4.heap.push { cls := .type "slice", data := .fields #[vl, vu, vs] } } := I4.kept (t' := s4.toks) fun b ob z => Heap.get?_push_of_some _ z
  obtain ⟨its, r, ht, hz⟩ := I5.list hx
  have ln := r.length
  show wpAny (model X.prog X.w) X.A (subscriptTail e (.Slice none none (some (.Constant (.int 2) k p1)) p3) (.ref a) (.ref s4.heap.objs.size)) (EP X ps σ Q) X.xe { s4 with heap := s4.heap.push { cls := .type "slice", data := .fields #[vl, vu, vs] } }
  refine tail_any (ops := [.ref a, .ref s4.heap.objs.size]) ht.isList.typeIs (PySem.slot_list_getitem.lookup) ?_ (by with_unfolding_all rfl)
  refine wpAny_getItem_list_slice ht.isList (Heap.IsSliceOf.new _ vl vu vs) pl pu pt (by decide) ?_ (by rw [List.size_toArray]; omega)
  rw [pick2]
  have lx := evG_len xs
  refine ⟨.ref _, _, I5.laid (t' := s4.toks) (o := .lst (evG xs)) (fun b ob z => Heap.get?_push_of_some _ z) (Nat.le_refl _) ?_, rfl, q _ (I5.hok.fresh (Nat.le_refl _))⟩
  exact ⟨Nat.le_trans lx hz, _, 0, Vals.evG r, Heap.get?_push_size _ rfl⟩
end
section
variable {C : CC} {W : Wd} {B : Hp} {E : Env} {ξ : Option (Nat × Addr)} {Wx : WX} {X : Cx} {ea : Expr} {a : IE} {pos p1 p3 : Pos}
theorem RVs.evG {F : Hp} {ρ : Nat → Addr} {n : Nat} : ∀ {us : List U} {vs : List V}, RVs W B F ρ n us vs → RVs W B F ρ n (evG us) (evG vs)
  | _, _, .nil => .nil
  | _, _, .cons r .nil => .cons r .nil
  | _, _, .cons r (.cons _ t) => .cons r (RVs.evG t)
theorem sn_step2 {k : Nat} (g : GX C W E ξ Wx X) (ha : SE W B E ξ Wx X ea a) : SN W B E ξ Wx X (.Subscript ea (.Slice none none (some (.Constant (.int 2) k p1)) p3) pos) (.step2 a) := by
  intro σ S F ρ G H τ Q R ro h
  rw [evN] at h
  refine eTo (pe_step2 (pE ea)) ?_
  refine ha σ S F ρ G H τ _ R ro (h.bind (RA := RV W B) fun x S1 F1 ρ1 H1 v st1 R1 r1 h1 => ?_)
  cases e : rdL S1 x with
  | none => rw [e] at h1; exact h1.elim
  | some us =>
    rw [e] at h1
    obtain ⟨p, vs, rfl, hq, hl, rs⟩ := rdL_ok R1 e r1
    rw [← g.K] at hq
    dsimp only at h1
    rw [every2_eq] at h1
    exact ⟨p, vs, rfl, hq, h1.made R1 (Nat.le_trans (evG_len us) hl) rs.evG⟩
end
end TW
/-! TWSk -/
set_option Elab.async false
set_option linter.all false
set_option maxRecDepth 100000
namespace TW
open PySem PySem.Spec PyProof.Rows L2
open PySem.W PySem.Calls PyProof.V
/-! ### list(zip(a, b)) -/
theorem zip_no_len : typeLookup (.type "zip") "__len__" = pure none := am_miss_of_fast (by decide +kernel)
theorem zip_no_hint : typeLookup (.type "zip") "__length_hint__" = pure none := am_miss_of_fast (by decide +kernel)
/-- how far a zip is: its tuple free, or still out -/
def ZSt (z TI TO i1 i2 l1 l2 S : Addr) (xs ys : Array Value) (i : Nat) (h : Heap) : Prop := IsPair h TI (.ref i1) (.ref i2) ∧ h.IsListIter i1 l1 i ∧ h.IsListIter i2 l2 i ∧ h.IsList l1 xs ∧ h.IsList l2 ys ∧
  ((IsZip h z TI TO .none ∧ ∃ a b, IsPair h TO a b) ∨ ∃ T f oT, IsZipHeld h z TI TO T f ∧ h.get? T = some oT ∧ T ≠ z ∧ T ≠ i1 ∧ T ≠ i2 ∧ T ≠ S)
structure SOff (S z TI TO i1 i2 l1 l2 : Addr) : Prop where
  z : S ≠ z
  TI : S ≠ TI
  TO : S ≠ TO
  i1 : S ≠ i1
  i2 : S ≠ i2
  l1 : S ≠ l1
  l2 : S ≠ l2
section
variable {prog : Program} {w : World} {A : Around} {s : Shared} {z TI TO i1 i2 l1 l2 S : Addr} {xs ys : Array Value}
theorem ZSt.frame {i : Nat} {h h' : Heap} (st : ZSt z TI TO i1 i2 l1 l2 S xs ys i h) (O : SOff S z TI TO i1 i2 l1 l2) (hk : ∀ b o, b ≠ S → h.get? b = some o → h'.get? b = some o) : ZSt z TI TO i1 i2 l1 l2 S xs ys i h' := by
  obtain ⟨hTI, h1, h2, hl1, hl2, hz⟩ := st
  refine ⟨hk _ _ O.TI.symm hTI, h1.at fun o e => hk _ o O.i1.symm e, h2.at fun o e => hk _ o O.i2.symm e, hl1.at fun o e => hk _ o O.l1.symm e, hl2.at fun o e => hk _ o O.l2.symm e, ?_⟩
  rcases hz with ⟨hz, a, b, hTO⟩ | ⟨T, f, oT, hz, hT, r1, r2, r3, r4⟩
  · exact .inl ⟨hk _ _ O.z.symm hz, a, b, hk _ _ O.TO.symm hTO⟩
  · exact .inr ⟨T, f, oT, hk _ _ O.z.symm hz, hk _ _ r4 hT, r1, r2, r3, r4⟩
theorem z_item {E : Value → Shared → Prop} {i : Nat} {x y : Value} {Q : Option Value → Shared → Prop} (D : ZipApart z TI TO i1 i2 l1 l2) (st : ZSt z TI TO i1 i2 l1 l2 S xs ys i s.heap) (hS : S < s.heap.objs.size) (ex : xs[i]? = some x) (ey : ys[i]? = some y)
    (hQ : ∀ h', ZSt z TI TO i1 i2 l1 l2 S xs ys (i + 1) h' → IsPair h' s.heap.objs.size x y → (∀ c o, c ≠ z → c ≠ TO → c ≠ i1 → c ≠ i2 → s.heap.get? c = some o → h'.get? c = some o) → Q (some (.ref s.heap.objs.size)) { s with heap := h' }) :
    wpAny (model prog w) A (pyNext (.ref z)) Q E s := by
  obtain ⟨hTI, h1, h2, hl1, hl2, hz⟩ := st
  have lt : ∀ {c o}, s.heap.get? c = some o → s.heap.objs.size ≠ c := fun e => Nat.ne_of_gt (Heap.lt_size e)
  have n1 : s.heap.objs.size ≠ i1 := let ⟨_, e, _⟩ := h1; lt e
  have n2 : s.heap.objs.size ≠ i2 := let ⟨_, e, _⟩ := h2; lt e
  rcases hz with ⟨hz, a, b, hTO⟩ | ⟨T, f, oT, hz, hT, r1, r2, r3, r4⟩
  · refine wpAny_pyNext_zip_item D hz hTI hTO h1 h2 hl1 hl2 ex ey fun h' a1 a2 a3 a4 a5 a6 hk => ?_
    exact hQ h' ⟨hk _ _ D.TIz D.TITO D.TIi1 D.TIi2 hTI, a3, a4, hl1.at fun o e => hk _ o D.l1z D.l1TO D.l1i1 D.l1i2 e, hl2.at fun o e => hk _ o D.l2z D.l2TO D.l2i1 D.l2i2 e,
      .inr ⟨s.heap.objs.size, false, _, a1, a5, lt hz, n1, n2, Nat.ne_of_gt hS⟩⟩ a5 fun c o c1 c2 c3 c4 e => hk c o c1 c2 c3 c4 e
  · refine wpAny_pyNext_zip_item_held D hz hT hTI h1 h2 hl1 hl2 ex ey fun h' a1 a3 a4 a5 a6 hk => ?_
    exact hQ h' ⟨hk _ _ D.TIz D.TIi1 D.TIi2 hTI, a3, a4, hl1.at fun o e => hk _ o D.l1z D.l1i1 D.l1i2 e, hl2.at fun o e => hk _ o D.l2z D.l2i1 D.l2i2 e,
      .inr ⟨T, true, oT, a1, hk _ _ r1 r2 r3 hT, r1, r2, r3, r4⟩⟩ a5 fun c o c1 c2 c3 c4 e => hk c o c1 c3 c4 e
theorem z_done {E : Value → Shared → Prop} {i : Nat} {Q : Option Value → Shared → Prop} (hh : A.handled = none) (D : ZipApart z TI TO i1 i2 l1 l2) (st : ZSt z TI TO i1 i2 l1 l2 S xs ys i s.heap) (hend : xs[i]? = none ∨ ys[i]? = none)
    (hQ : ∀ h', (∀ c o, c ≠ z → c ≠ TO → c ≠ i1 → c ≠ i2 → s.heap.get? c = some o → h'.get? c = some o) → Q none { s with heap := h' }) :
    wpAny (model prog w) A (pyNext (.ref z)) Q E s := by
  obtain ⟨hTI, h1, h2, hl1, hl2, hz⟩ := st
  rcases hz with ⟨hz, a, b, hTO⟩ | ⟨T, f, oT, hz, hT, r1, r2, r3, r4⟩
  · exact wpAny_pyNext_zip_end hh D hz hTI hTO h1 h2 hl1 hl2 hend fun h' hk => hQ h' fun c o c1 c2 c3 c4 e => hk c o c1 c2 c3 c4 e
  · exact wpAny_pyNext_zip_end_held hh D hz hT hTI h1 h2 hl1 hl2 hend fun h' hk => hQ h' fun c o c1 c2 c3 c4 e => hk c o c1 c3 c4 e
/-- the addresses as hold the pairs, in order -/
structure ZG (xs ys : Array Value) (lo : Addr) (h : Heap) (as : List Addr) : Prop where
  rise : as.Pairwise (· < ·)
  above : ∀ a ∈ as, lo < a
  pairs : ∀ (j : Nat) (a : Addr), as[j]? = some a → ∃ x y, xs[j]? = some x ∧ ys[j]? = some y ∧ IsPair h a x y
theorem ZG.there {lo : Addr} {h : Heap} {as : List Addr} (g : ZG xs ys lo h as) {a : Addr} (ha : a ∈ as) : a < h.objs.size := by
  obtain ⟨j, hj⟩ := List.mem_iff_getElem?.mp ha
  obtain ⟨_, _, _, _, e⟩ := g.pairs j a hj
  exact Heap.lt_size e
/-- the addresses of the parts lie below lo -/
structure Below (lo S z TI TO i1 i2 : Addr) : Prop where
  S : S ≤ lo
  z : z ≤ lo
  TO : TO ≤ lo
  i1 : i1 ≤ lo
  i2 : i2 ≤ lo
theorem z_loop {R : Result → Shared → Prop} {lo : Addr} (hh : A.handled = none) (D : ZipApart z TI TO i1 i2 l1 l2) (O : SOff S z TI TO i1 i2 l1 l2) (L : Below lo S z TI TO i1 i2) (hn : min xs.size ys.size ≤ sizeLine) (res : Value) {h₁ : Heap}
    (hR : ∀ h' tk acc c as, (∀ b o, b ≠ S → b ≠ z → b ≠ TO → b ≠ i1 → b ≠ i2 → h₁.get? b = some o → h'.get? b = some o) → h'.get? S = some { cls := .type "list", dict := none, data := .seq acc c, slots := #[] } → as.length = min xs.size ys.size → ZG xs ys lo h' as →
      acc.toList = as.map Value.ref → R (.ok (.ret res)) { s with heap := h', toks := tk }) :
    ∀ (k i : Nat) (h : Heap) (tk c : Nat) (acc : Array Value) (as : List Addr), min xs.size ys.size - i = k → i ≤ min xs.size ys.size → ZSt z TI TO i1 i2 l1 l2 S xs ys i h → (∀ b o, b ≠ S → b ≠ z → b ≠ TO → b ≠ i1 → b ≠ i2 → h₁.get? b = some o → h.get? b = some o) →
      h.get? S = some { cls := .type "list", dict := none, data := .seq acc c, slots := #[] } → acc.toList = as.map Value.ref → as.length = i → ZG xs ys lo h as → lo < h.objs.size →
      codeAny (model prog w) A (.builtin "list.extend.loop" ⟨[.ref S, .ref z, res], []⟩) R { s with heap := h, toks := tk } := by
  intro k
  induction k with
  | zero =>
    intro i h tk c acc as hk hi hst hkeep hS hacc hal hG hIs
    have hin : i = min xs.size ys.size := by omega
    have hend : xs[i]? = none ∨ ys[i]? = none := by
      rcases Nat.le_total xs.size ys.size with q | q
      · exact .inl (Array.getElem?_eq_none (by omega))
      · exact .inr (Array.getElem?_eq_none (by omega))
    refine codeAny_builtin PySem.F.entry_extend_loop ?_
    rw [Around.under_plainId PySem.F.plain_extend_loop _]
    show wpAny _ A.in1 (pyNext (.ref z) >>= _) _ _ _
    refine wpAny_bind (z_done (s := { s with heap := h, toks := tk }) (A := A.in1) hh D hst hend fun h' he => ?_)
    refine wpAny_pure (hR h' tk acc c as (fun b o h0 h1 h2 h3 h4 e => he b o h1 h2 h3 h4 (hkeep b o h0 h1 h2 h3 h4 e)) (he S _ O.z O.TO O.i1 O.i2 hS) (by omega) ⟨hG.rise, hG.above, fun j a hj => ?_⟩ hacc)
    obtain ⟨x, y, ex, ey, e3⟩ := hG.pairs j a hj
    have ab := hG.above a (List.mem_of_getElem? hj)
    exact ⟨x, y, ex, ey, he a _ (Nat.ne_of_gt (Nat.lt_of_le_of_lt L.z ab)) (Nat.ne_of_gt (Nat.lt_of_le_of_lt L.TO ab)) (Nat.ne_of_gt (Nat.lt_of_le_of_lt L.i1 ab)) (Nat.ne_of_gt (Nat.lt_of_le_of_lt L.i2 ab)) e3⟩
  | succ k ih =>
    intro i h tk c acc as hk hi hst hkeep hS hacc hal hG hIs
    have hlt : i < min xs.size ys.size := by omega
    have hix : i < xs.size := Nat.lt_of_lt_of_le hlt (Nat.min_le_left ..)
    have hiy : i < ys.size := Nat.lt_of_lt_of_le hlt (Nat.min_le_right ..)
    have ex := Array.getElem?_eq_getElem hix
    have ey := Array.getElem?_eq_getElem hiy
    have hsz : acc.size = i := by rw [← Array.length_toList, hacc, List.length_map, hal]
    refine codeAny_builtin PySem.F.entry_extend_loop ?_
    rw [Around.under_plainId PySem.F.plain_extend_loop _]
    show wpAny _ A.in1 (pyNext (.ref z) >>= _) _ _ _
    have hSl : S < h.objs.size := Heap.lt_size hS
    refine wpAny_bind (z_item (s := { s with heap := h, toks := tk }) (S := S) D hst hSl ex ey fun h' hst' ht hkp => ?_)
    dsimp only at ht hkp ⊢
    have hS' := hkp S _ O.z O.TO O.i1 O.i2 hS
    have up : ∀ b o, b ≠ S → h'.get? b = some o → (h'.update S (Obj.mapSeq (·.push (Value.ref h.objs.size)))).get? b = some o := fun b o hb e => (Heap.get?_update_other _ _ (Ne.symm hb)).trans e
    show wpAny _ A.in1 (updateSeq S (·.push (Value.ref h.objs.size)) >>= _) _ _ _
    refine wpAny_bind ?_
    refine wpAny_updateSeq hS' rfl (wpAny_pure ⟨plainId_quiet PySem.F.plain_extend_loop _, ih (i + 1) _ tk _ (acc.push (Value.ref h.objs.size)) (as ++ [h.objs.size]) (by omega) hlt (hst'.frame O up)
      (fun b o h0 h1 h2 h3 h4 e => up b o h0 (hkp b o h1 h2 h3 h4 (hkeep b o h0 h1 h2 h3 h4 e))) (Heap.get?_update_self _ hS' rfl) (by rw [Array.toList_push, hacc, List.map_append]; rfl) (by rw [List.length_append, hal]; rfl) ⟨?_, ?_, ?_⟩ ?_⟩) (by rw [hsz]; omega) (by show (acc.push (Value.ref h.objs.size)).size ≤ sizeLine + 1; rw [Array.size_push, hsz]; omega)
    · refine List.pairwise_append.mpr ⟨hG.rise, List.pairwise_singleton _ _, fun a ha b hb => ?_⟩
      rw [List.mem_singleton.mp hb]
      exact hG.there ha
    · intro a ha
      rcases List.mem_append.mp ha with ha | ha
      · exact hG.above a ha
      · rw [List.mem_singleton.mp ha]; exact hIs
    · intro j b hj
      rcases Nat.lt_trichotomy j as.length with h1 | h1 | h1
      · rw [List.getElem?_append_left h1] at hj
        obtain ⟨x, y, ex', ey', e3⟩ := hG.pairs j b hj
        have ab := hG.above b (List.mem_of_getElem? hj)
        exact ⟨x, y, ex', ey', up b _ (Nat.ne_of_gt (Nat.lt_of_le_of_lt L.S ab)) (hkp b _ (Nat.ne_of_gt (Nat.lt_of_le_of_lt L.z ab)) (Nat.ne_of_gt (Nat.lt_of_le_of_lt L.TO ab)) (Nat.ne_of_gt (Nat.lt_of_le_of_lt L.i1 ab)) (Nat.ne_of_gt (Nat.lt_of_le_of_lt L.i2 ab)) e3)⟩
      · subst h1
        have hb : h.objs.size = b := by simpa using hj
        subst hb
        exact ⟨_, _, by rw [hal]; exact ex, by rw [hal]; exact ey, up _ _ (Nat.ne_of_gt hSl) ht⟩
      · have hnone : (as ++ [h.objs.size])[j]? = none := List.getElem?_eq_none (by rw [List.length_append, List.length_singleton]; omega)
        rw [hnone] at hj; cases hj
    · have e : (h'.update S (Obj.mapSeq (·.push (Value.ref h.objs.size)))).get? h.objs.size = _ := up _ _ (Nat.ne_of_gt hSl) ht
      exact Nat.lt_trans hIs (Heap.lt_size e)
theorem z_hint {E : Value → Shared → Prop} (hT : s.TypeIs (.ref z) "zip") {Q : Bool → Shared → Prop} (h : Q true s) : wpAny (model prog w) A (Builtin.List.listLengthHint (.ref z)) Q E s := by
  unfold Builtin.List.listLengthHint
  refine wpAny_bind (wpAny_specialOf hT zip_no_len ?_)
  wp_delta
  refine wpAny_ite_split (fun hab => absurd hab (by decide)) (fun _ => ?_)
  refine wpAny_ite_split (fun hab => absurd hab (by decide)) (fun _ => ?_)
  refine wpAny_bind (wpAny_specialOf hT zip_no_hint ?_)
  exact wpAny_pure h
theorem z_extend {R : Result → Shared → Prop} (hh : A.handled = none) (D : ZipApart z TI TO i1 i2 l1 l2) (O : SOff S z TI TO i1 i2 l1 l2) (L : Below s.heap.objs.size S z TI TO i1 i2) (hz : ∃ f0, IsZip s.heap z TI TO f0) (st : ZSt z TI TO i1 i2 l1 l2 S xs ys 0 s.heap) (res : Value) (c₀ : Nat) (hS : s.heap.get? S = some { cls := .type "list", data := .seq #[] c₀ })
    (hR : ∀ h' tk acc c as, (∀ b o, b ≠ S → b ≠ z → b ≠ TO → b ≠ i1 → b ≠ i2 → s.heap.get? b = some o → h'.get? b = some o) → h'.get? S = some { cls := .type "list", dict := none, data := .seq acc c, slots := #[] } → as.length = min xs.size ys.size → ZG xs ys S h' as →
      acc.toList = as.map Value.ref → R (.ok (.ret res)) { s with heap := h', toks := tk }) (hn : min xs.size ys.size ≤ sizeLine) (LS : Below S S z TI TO i1 i2) :
    wpAny (model prog w) A.in1 (Builtin.List.listExtendWith (.ref S) (.ref z) res)
      (fun fin s' => match fin with | .done f => R (.ok f) s' | .again c' => c'.quiet = true ∧ codeAny (model prog w) A c' R s') (fun e s' => R (.error e) s') s := by
  obtain ⟨f0, hz⟩ := hz
  have hT : s.TypeIs (.ref z) "zip" := ⟨_, hz, rfl⟩
  have hSI : S < s.heap.objs.size := Heap.lt_size hS
  have key : ∀ (h : Heap) (c₁ tk : Nat), (∀ b o, b ≠ S → s.heap.get? b = some o → h.get? b = some o) →
      h.get? S = some { cls := .type "list", data := .seq #[] c₁ } → codeAny (model prog w) A (.builtin "list.extend.loop" ⟨[.ref S, .ref z, res], []⟩) R { s with heap := h, toks := tk } := by
    intro h c₁ tk hk hS₁
    exact z_loop (s := s) (h₁ := s.heap) (lo := S) hh D O LS hn res (fun h' tk' acc c as hk' hS' hl hG hacc => hR h' tk' acc c as hk' hS' hl hG hacc)
      _ 0 h tk c₁ #[] [] rfl (Nat.zero_le _) (st.frame O hk) (fun b o hb _ _ _ _ e => hk b o hb e) hS₁ rfl rfl
      ⟨List.Pairwise.nil, (fun _ ha => nomatch ha), (fun j a hj => by simp at hj)⟩ (Heap.lt_size hS₁)
  unfold Builtin.List.listExtendWith
  refine wpAny_bind (wpAny_typeOf (T := "zip") hT ?_)
  have h1 : Builtin.List.listSameRef (.ref S) (.ref z) = false := by simp [Builtin.List.listSameRef, O.z]
  have h2 : (Value.type "zip" == Value.type "list") = false := by decide
  have h3 : (Value.type "zip" == Value.type "tuple") = false := by decide
  simp only [h1, h2, h3, Bool.or_false, Bool.false_eq_true, if_false]
  refine wpAny_bind (wpAny_pyIter_zip hz ?_)
  refine wpAny_bind (wpAny_holding (z_hint hT ?_))
  refine wpAny_ite_split (fun _ => ?_) (fun _ => wpAny_pure ⟨plainId_quiet PySem.F.plain_extend_loop _, key _ c₀ _ (fun b o _ e => e) hS⟩)
  refine wpAny_bind (wpAny_rule ?_)
  refine wpAny_bind ?_
  show wpAny _ _ (updateSeq S (·.push .none) >>= fun _ => updateSeq S (·.pop)) _ _ _
  refine wpAny_bind (wpAny_updateSeq hS rfl ?_)
  have hS₂ := Heap.get?_update_self (Obj.mapSeq (·.push Value.none)) hS rfl
  refine wpAny_updateSeq (hz := by seq_fits) hS₂ rfl ?_
  have hS₃ := Heap.get?_update_self (Obj.mapSeq (·.pop)) hS₂ rfl
  refine wpAny_pure ⟨plainId_quiet PySem.F.plain_extend_loop _, key _ _ _ (fun b o hb e => ?_) hS₃⟩
  exact (Heap.get?_update_other _ _ (Ne.symm hb)).trans ((Heap.get?_update_other _ _ (Ne.symm hb)).trans e)
theorem z_init {R : Result → Shared → Prop} (hh : A.handled = none) (D : ZipApart z TI TO i1 i2 l1 l2) (O : SOff S z TI TO i1 i2 l1 l2) (LS : Below S S z TI TO i1 i2) (hz : ∃ f0, IsZip s.heap z TI TO f0) (st : ZSt z TI TO i1 i2 l1 l2 S xs ys 0 s.heap) (hS : s.heap.get? S = some { cls := .type "list", data := .seq #[] })
    (hR : ∀ h' tk acc c as, (∀ b o, b ≠ S → b ≠ z → b ≠ TO → b ≠ i1 → b ≠ i2 → s.heap.get? b = some o → h'.get? b = some o) → h'.get? S = some { cls := .type "list", dict := none, data := .seq acc c, slots := #[] } → as.length = min xs.size ys.size → ZG xs ys S h' as →
      acc.toList = as.map Value.ref → R (.ok (.ret .none)) { s with heap := h', toks := tk }) (hn : min xs.size ys.size ≤ sizeLine) :
    wpAny (model prog w) A.in1 (Builtin.«list.__init__» ⟨[.ref S, .ref z], []⟩)
      (fun fin s' => match fin with | .done f => R (.ok f) s' | .again c' => c'.quiet = true ∧ codeAny (model prog w) A c' R s') (fun e s' => R (.error e) s') s := by
  show wpAny _ _ (do let old ← Builtin.List.listItems (.ref S); Builtin.List.listUpdate (.ref S) (fun _ => #[]); letGo old.toList.reverse; Builtin.List.listExtendWith (.ref S) (.ref z) .none) _ _ s
  refine wpAny_bind ?_
  unfold Builtin.List.listItems
  refine wpAny_bind (wpAny_seqItems hS rfl (wpAny_pure ?_))
  show wpAny _ _ (updateSeq S (fun _ => #[]) >>= fun _ => letGo (#[] : Array Value).toList.reverse >>= fun _ => Builtin.List.listExtendWith (.ref S) (.ref z) .none) _ _ s
  refine wpAny_bind (wpAny_updateSeq hS rfl ?_)
  have hS₂ := Heap.get?_update_self (Obj.mapSeq (fun _ => (#[] : Array Value))) hS rfl
  have oth : ∀ b o, b ≠ S → s.heap.get? b = some o → (s.heap.update S (Obj.mapSeq (fun _ => (#[] : Array Value)))).get? b = some o :=
    fun b o hb e => (Heap.get?_update_other _ _ (Ne.symm hb)).trans e
  refine wpAny_bind (wpAny_letGo ?_)
  have lt : S < (s.heap.update S (Obj.mapSeq (fun _ => (#[] : Array Value)))).objs.size := Heap.lt_size hS₂
  obtain ⟨f0, hz⟩ := hz
  refine z_extend hh D O ⟨Nat.le_of_lt lt, Nat.le_trans LS.z (Nat.le_of_lt lt), Nat.le_trans LS.TO (Nat.le_of_lt lt), Nat.le_trans LS.i1 (Nat.le_of_lt lt), Nat.le_trans LS.i2 (Nat.le_of_lt lt)⟩ ⟨f0, oth _ _ O.z.symm hz⟩ (st.frame O oth) .none _ hS₂ (fun h' tk acc c as hk hS' hl hG hacc => ?_) hn LS
  exact hR h' tk acc c as (fun b o hb h1 h2 h3 h4 e => hk b o hb h1 h2 h3 h4 (oth b o hb e)) hS' hl hG hacc
theorem z_call {E : Value → Shared → Prop} {Q : Value → Shared → Prop} (hh : A.handled = none) (D : ZipApart z TI TO i1 i2 l1 l2) (hz : IsZip s.heap z TI TO .none) (hTI : IsPair s.heap TI (.ref i1) (.ref i2)) (hTO : ∃ a b, IsPair s.heap TO a b) (h1 : s.heap.IsListIter i1 l1 0) (h2 : s.heap.IsListIter i2 l2 0) (hl1 : s.heap.IsList l1 xs) (hl2 : s.heap.IsList l2 ys) (hn : min xs.size ys.size ≤ sizeLine)
    (hQ : ∀ h' tk acc c as, (∀ b o, b ≠ z → b ≠ TO → b ≠ i1 → b ≠ i2 → s.heap.get? b = some o → h'.get? b = some o) → h'.get? s.heap.objs.size = some { cls := .type "list", dict := none, data := .seq acc c, slots := #[] } → as.length = min xs.size ys.size → ZG xs ys s.heap.objs.size h' as →
      acc.toList = as.map Value.ref → Q (.ref s.heap.objs.size) { s with heap := h', toks := tk }) :
    wpAny (model prog w) A (call (.type "list") [.ref z]) Q E s := by
  refine callType_codes (Q₁ := fun obj s₁ => obj = .ref s.heap.objs.size ∧ s₁ = { s with heap := s.heap.push { cls := .type "list", data := .seq #[] } }) PySem.F.called_list (PySem.F.typeCall_list_1 _) PySem.F.entry_list_init
    (code_list_new _ ⟨rfl, rfl⟩) fun obj s₁ h₁ => ?_
  obtain ⟨rfl, rfl⟩ := h₁
  have hS : (s.heap.push { cls := .type "list", data := .seq #[] }).get? s.heap.objs.size = some { cls := .type "list", data := .seq #[] } := Heap.get?_push_size _ rfl
  obtain ⟨a, b, hTO⟩ := hTO
  have lz : z < s.heap.objs.size := Heap.lt_size hz
  have lTI : TI < s.heap.objs.size := Heap.lt_size hTI
  have lTO : TO < s.heap.objs.size := Heap.lt_size hTO
  have li1 : i1 < s.heap.objs.size := let ⟨_, e, _⟩ := h1; Heap.lt_size e
  have li2 : i2 < s.heap.objs.size := let ⟨_, e, _⟩ := h2; Heap.lt_size e
  have ll1 : l1 < s.heap.objs.size := let ⟨_, e, _⟩ := hl1; Heap.lt_size e
  have ll2 : l2 < s.heap.objs.size := let ⟨_, e, _⟩ := hl2; Heap.lt_size e
  have O : SOff s.heap.objs.size z TI TO i1 i2 l1 l2 := ⟨Nat.ne_of_gt lz, Nat.ne_of_gt lTI, Nat.ne_of_gt lTO, Nat.ne_of_gt li1, Nat.ne_of_gt li2, Nat.ne_of_gt ll1, Nat.ne_of_gt ll2⟩
  have pu : ∀ b o, s.heap.get? b = some o → (s.heap.push { cls := .type "list", data := .seq #[] }).get? b = some o := fun b o e => Heap.get?_push_of_some _ e
  refine ⟨⟨_, hS, rfl⟩, PySem.F.args_list_init_2 _ _, z_init (xs := xs) (ys := ys) (A := A.in1) hh D O ⟨Nat.le_refl _, Nat.le_of_lt lz, Nat.le_of_lt lTO, Nat.le_of_lt li1, Nat.le_of_lt li2⟩ ⟨.none, pu _ _ hz⟩ ⟨pu _ _ hTI, h1.at fun o e => pu _ o e, h2.at fun o e => pu _ o e, hl1.at fun o e => pu _ o e, hl2.at fun o e => pu _ o e, .inl ⟨pu _ _ hz, a, b, pu _ _ hTO⟩⟩ hS (fun h' tk acc c as hk hS' hl hG hacc => ?_) hn⟩
  exact ⟨rfl, hQ h' tk acc c as (fun b o c1 c2 c3 c4 e => hk b o (Nat.ne_of_lt (Heap.lt_size e)) c1 c2 c3 c4 (pu b o e)) hS' hl hG hacc⟩
end
/-! ### several new objects at once -/
def updAll (H : Hp) : List (Addr × HO) → Hp
  | [] => H
  | p :: ps => updAll (upd H p.1 p.2) ps
section
variable {X : Cx} {pins : List (Addr × Obj)} {σ : L2.St}
theorem laidAll {t' : Nat} {h' : Heap} : ∀ (ps : List (Addr × HO)) (H : Hp) (s : Shared), Inv X pins σ H s → (∀ b u, s.heap.get? b = some u → h'.get? b = some u) → (ps.map (·.1)).Nodup → (∀ p ∈ ps, s.heap.get? p.1 = none ∧ H p.1 = none) → (∀ p ∈ ps, ∀ (H : Hp) (G : Heap), G.get? p.1 = h'.get? p.1 → ObjOk X.prog X.w H G p.1 p.2) →
    Inv X pins σ (updAll H ps) { s with heap := h', toks := t' }
  | [], H, s, I, k, _, _, _ => I.kept k
  | p :: ps, H, s, I, k, nd, fr, ob => by
    obtain ⟨nd1, nd2⟩ := List.nodup_cons.mp nd
    obtain ⟨G, g1, g2⟩ := restrict h' fun b => !(ps.map (·.1)).contains b
    have out : ∀ b, b ∉ ps.map (·.1) → G.get? b = h'.get? b := fun b hb => g1 b (by simpa using hb)
    have inn : ∀ b, b ∈ ps.map (·.1) → G.get? b = none := fun b hb => g2 b (by simpa using hb)
    have sub : ∀ b u, G.get? b = some u → h'.get? b = some u := fun b u e => by
      by_cases hb : b ∈ ps.map (·.1)
      · rw [inn b hb] at e; cases e
      · rw [← out b hb]; exact e
    have I1 : Inv X pins σ (upd H p.1 p.2) { s with heap := G, toks := t' } := I.laidN (t' := t') (fun b u e => by
      rw [out b fun hb => ?_]
      · exact k b u e
      · obtain ⟨q, hq, rfl⟩ := List.mem_map.mp hb
        rw [(fr q (List.mem_cons_of_mem _ hq)).1] at e
        cases e) (fr p List.mem_cons_self).1 (fr p List.mem_cons_self).2 (ob p List.mem_cons_self _ G (out _ nd1))
    exact laidAll (t' := t') ps (upd H p.1 p.2) { s with heap := G, toks := t' } I1 sub nd2 (fun q hq => ⟨inn _ (List.mem_map_of_mem hq), by
      rw [upd_ne fun e => nd1 (by show p.1 ∈ _; rw [← e]; exact List.mem_map_of_mem hq)]
      exact (fr q (List.mem_cons_of_mem _ hq)).2⟩) fun q hq => ob q (List.mem_cons_of_mem _ hq)
end
end TW
/-! TWSl -/
set_option Elab.async false
set_option linter.all false
set_option maxRecDepth 100000
namespace TW
open PySem PySem.Spec PyProof.Rows L2
def tupsAt : List Addr → List V → List V → List (Addr × HO)
  | p :: ps, v :: vs, x :: xs => (p, .tup [v, x]) :: tupsAt ps vs xs
  | _, _, _ => []
theorem tupsAt_mem : ∀ (ps : List Addr) (vs xs : List V) (p : Addr × HO), p ∈ tupsAt ps vs xs → ∃ (j : Nat) (v x : V), ps[j]? = some p.1 ∧ vs[j]? = some v ∧ xs[j]? = some x ∧ p.2 = .tup [v, x]
  | [], _, _, p, h => by simp [tupsAt] at h
  | _ :: _, [], _, p, h => by simp [tupsAt] at h
  | _ :: _, _ :: _, [], p, h => by simp [tupsAt] at h
  | a :: ps, v :: vs, x :: xs, p, h => by
    rw [tupsAt] at h
    rcases List.mem_cons.mp h with rfl | h
    · exact ⟨0, v, x, rfl, rfl, rfl, rfl⟩
    · obtain ⟨j, v', x', h1, h2, h3, h4⟩ := tupsAt_mem ps vs xs p h
      exact ⟨j + 1, v', x', h1, h2, h3, h4⟩
theorem tupsAt_sub : ∀ (ps : List Addr) (vs xs : List V), ((tupsAt ps vs xs).map (·.1)).Sublist ps
  | [], _, _ => by rw [tupsAt]; exact List.nil_sublist _; all_goals simp
  | _ :: _, [], _ => by rw [tupsAt]; exact List.nil_sublist _; all_goals simp
  | _ :: _, _ :: _, [] => by rw [tupsAt]; exact List.nil_sublist _; all_goals simp
  | a :: ps, v :: vs, x :: xs => by
    rw [tupsAt, List.map_cons]
    exact (tupsAt_sub ps vs xs).cons₂ a
theorem updAll_snoc : ∀ (ps : List (Addr × HO)) (H : Hp) (p : Addr × HO), updAll H (ps ++ [p]) = upd (updAll H ps) p.1 p.2
  | [], H, p => rfl
  | q :: ps, H, p => by
    show updAll (upd H q.1 q.2) (ps ++ [p]) = upd (updAll (upd H q.1 q.2) ps) p.1 p.2
    exact updAll_snoc ps _ p
theorem updAll_out : ∀ (ps : List (Addr × HO)) (H : Hp) (a : Addr), a ∉ ps.map (·.1) → updAll H ps a = H a
  | [], H, a, _ => rfl
  | q :: ps, H, a, h => by
    rw [List.map_cons, List.mem_cons, not_or] at h
    show updAll (upd H q.1 q.2) ps a = H a
    rw [updAll_out ps _ a h.2, upd_ne h.1]
theorem none_of_le {h : Heap} {b : Addr} (hb : h.objs.size ≤ b) : h.get? b = none := by
  cases e : h.get? b with
  | none => rfl
  | some o => exact absurd (Nat.lt_of_lt_of_le (Heap.lt_size e) hb) (Nat.lt_irrefl _)
section
variable {X : Cx}
def tLstZip (K : PySem.W.Frag) (ta : TA) : TE := fun σ H Q => ta σ H fun vs H1 => ∃ a b xs ys, vs = [.ref a, .ref b] ∧ SqL K H1 a xs ∧ SqL K H1 b ys ∧ ∀ (ps : List Addr) (q : Addr), ps.length = min xs.length ys.length → (q :: ps).Nodup → (∀ p ∈ q :: ps, H1 p = none) → Q (.ref q) (upd (updAll H1 (tupsAt ps xs ys)) q (.lst (ps.map V.ref)))
theorem vals_refs : ∀ as : List Addr, Vals (as.map V.ref) (as.map Value.ref)
  | [] => .nil
  | a :: as => .cons rfl (vals_refs as)
theorem pe_listZip {e e2 : Expr} {ta : TA} {p pos p2 pos2 : Pos} (hc : X.calm = true) (hg : Gl X "list") (hm : X.mg "list" = none) (hg2 : Gl X "zip") (hm2 : X.mg "zip" = none) (ha : PA X [e, e2] ta)
    (hs : starEach [e, e2] X.env = (false, eval e X.env) :: starEach [e2] X.env) (hpl : (backTo pos2 (starEach [e2] X.env)).any (·.1) = false)
    (na : starEach [.Call (.Name "zip" p2) [e, e2] [] pos2] X.env = (false, eval (.Call (.Name "zip" p2) [e, e2] [] pos2) X.env) :: starEach [] X.env) :
    PE X (.Call (.Name "list" p) [.Call (.Name "zip" p2) [e, e2] [] pos2] [] pos) (tLstZip X.K ta) := by
  refine ⟨fun pins s σ H Q I h => ?_⟩
  refine Call_ (ld_blt I hg hm boot_list (PyProof.Rows.callWith_type1 (args_cons (Call_ (ld_blt I hg2 hm2 PyProof.Rows.boot_zip (PyProof.Rows.callWith_type1 (thn (ha.run pos2 pins s σ H _ I h) fun us s1 ⟨vs, H1, I1, r1, q1⟩ => ?_) hs hpl))) na) na))
  obtain ⟨a, b, xs, ys, ex, hqx, hqy, q⟩ := q1
  subst ex
  cases r1 with
  | cons r rr =>
    cases rr with
    | cons r' rr =>
      cases rr
      cases r
      cases r'
      obtain ⟨its, rv, p1, z1⟩ := I1.list hqx
      obtain ⟨its2, rv2, p2, z2⟩ := I1.list hqy
      have la : a < s1.heap.objs.size := p1.lt
      have lb : b < s1.heap.objs.size := p2.lt
      have lx := rv.length
      have ly := rv2.length
      refine call_zip_2 p1.isList p2.isList fun h2 hz hTI hTO h1 h1' hsz hk => args_nil ?_
      have D := PySem.W.ktu_apart s1.heap.objs.size a b la lb
      have nsz : min its.toArray.size its2.toArray.size = min xs.length ys.length := by rw [List.size_toArray, List.size_toArray, lx, ly]
      refine z_call (s := { s1 with heap := h2 }) (I1.ok.hd hc) D hz hTI ⟨_, _, hTO⟩ h1 h1' (p1.isList.at fun o e => hk _ o e) (p2.isList.at fun o e => hk _ o e) (by
        rw [nsz]
        exact Nat.le_trans (Nat.min_le_left _ _) (by omega)) fun h' tk acc c as hk' hS' hl hG hacc => ?_
      dsimp only at hk' hS' hG ⊢
      rw [nsz] at hl
      have g1 : s1.heap.objs.size ≤ h2.objs.size := by omega
      have ab : ∀ x ∈ as, s1.heap.objs.size ≤ x := fun x hx => Nat.le_of_lt (Nat.lt_of_le_of_lt g1 (hG.above x hx))
      have nda : as.Nodup := hG.rise.imp fun {a b} h => Nat.ne_of_lt h
      have nd : (h2.objs.size :: as).Nodup := List.nodup_cons.mpr ⟨fun m => Nat.lt_irrefl _ (hG.above _ m), nda⟩
      have keep : ∀ b u, s1.heap.get? b = some u → h'.get? b = some u := fun b u e => by
        have lt : b < s1.heap.objs.size := Heap.lt_size e
        exact hk' b u (Nat.ne_of_lt (Nat.lt_of_lt_of_le lt (Nat.le_add_right _ _))) (Nat.ne_of_lt (Nat.lt_of_lt_of_le lt (Nat.le_add_right _ _))) (Nat.ne_of_lt lt) (Nat.ne_of_lt (Nat.lt_of_lt_of_le lt (Nat.le_add_right _ _))) (hk b u e)
      have J := laidAll (X := X) (pins := pins) (σ := σ) (t' := tk) (h' := h') (tupsAt as xs ys ++ [(h2.objs.size, .lst (as.map V.ref))]) H1 s1 I1 keep (by
          rw [List.map_append]
          refine List.nodup_append.mpr ⟨nda.sublist (tupsAt_sub as xs ys), List.nodup_cons.mpr ⟨List.not_mem_nil, List.nodup_nil⟩, fun x hx y hy => ?_⟩
          have : y = h2.objs.size := List.mem_singleton.mp hy
          rw [this]
          exact Nat.ne_of_gt (hG.above x ((tupsAt_sub as xs ys).subset hx))) (fun p hp => by
          have le : s1.heap.objs.size ≤ p.1 := by
            rcases List.mem_append.mp hp with hp | hp
            · exact ab _ ((tupsAt_sub as xs ys).subset (List.mem_map_of_mem hp))
            · rw [List.mem_singleton.mp hp]
              exact g1
          exact ⟨none_of_le le, I1.hok.fresh le⟩) (fun p hp H G eG => by
          rcases List.mem_append.mp hp with hp | hp
          · obtain ⟨j, v, x, e1, e2, e3, e4⟩ := tupsAt_mem as xs ys p hp
            obtain ⟨u, u2, f1, f2, f3⟩ := hG.pairs j p.1 e1
            obtain ⟨u', hu, ru⟩ := rv.get e2
            obtain ⟨u2', hu2, ru2⟩ := rv2.get e3
            have eu : u = u' := by
              have : its.toArray[j]? = some u' := by simpa using hu
              rw [f1] at this
              exact Option.some.inj this
            have eu2 : u2 = u2' := by
              have : its2.toArray[j]? = some u2' := by simpa using hu2
              rw [f2] at this
              exact Option.some.inj this
            subst eu eu2
            rw [e4]
            exact ⟨by show 2 ≤ sizeLine; decide, [u, u2], .cons ru (.cons ru2 .nil), ⟨_, eG.trans f3, rfl, _, rfl⟩⟩
          · rw [List.mem_singleton.mp hp] at eG ⊢
            refine ⟨?_, acc.toList, c, ?_, ?_⟩
            · rw [List.length_map, hl]
              exact Nat.le_trans (Nat.min_le_left _ _) (by omega)
            · rw [hacc]
              exact vals_refs as
            · rw [Array.toArray_toList]
              exact eG.trans hS')
      rw [updAll_snoc] at J
      exact ⟨.ref h2.objs.size, _, J, rfl, q as h2.objs.size hl nd fun p hp => by
        rcases List.mem_cons.mp hp with rfl | hp
        · exact I1.hok.fresh g1
        · exact I1.hok.fresh (ab p hp)⟩
end
section
variable {W : Wd} {B : Hp} {G : Hp} {ρ : Nat → Addr} {S : Sto}
theorem froz_zip : ∀ (us ws : List U) (vs xs : List V) (ps : List Addr) (F H : Hp), Rel W B F ρ S G H → RVs W B F ρ S.length us vs → RVs W B F ρ S.length ws xs → ps.length = (zipU us ws).length → ps.Nodup → (∀ p ∈ ps, H p = none) →
    ∃ F', Rel W B F' ρ S G (updAll H (tupsAt ps vs xs)) ∧ Stp F ρ S F' ρ S ∧ RVs W B F' ρ S.length (zipU us ws) (ps.map V.ref)
  | [], ws, _, xs, ps, F, H, R, r1, r2, hl, nd, fr => by
    cases r1
    have : ps = [] := List.length_eq_zero_iff.mp (by rw [hl]; rfl)
    subst this
    exact ⟨F, R, ⟨fun _ _ e => e, fun _ _ => rfl, Nat.le_refl _⟩, .nil⟩
  | u :: us, [], _, _, ps, F, H, R, r1, r2, hl, nd, fr => by
    cases r2
    have : ps = [] := List.length_eq_zero_iff.mp (by rw [hl]; rfl)
    subst this
    cases r1
    exact ⟨F, R, ⟨fun _ _ e => e, fun _ _ => rfl, Nat.le_refl _⟩, .nil⟩
  | u :: us, w :: ws, _, _, ps, F, H, R, r1, r2, hl, nd, fr => by
    cases r1 with
    | @cons _ v _ vs a1 a2 =>
      cases r2 with
      | @cons _ x _ xs b1 b2 =>
        rw [zipU, List.length_cons] at hl
        obtain ⟨p, ps, rfl⟩ := List.exists_cons_of_length_eq_add_one hl
        rw [List.length_cons, Nat.add_right_cancel_iff] at hl
        obtain ⟨nd1, nd2⟩ := List.nodup_cons.mp nd
        obtain ⟨R', st⟩ := R.froz (o := .tup [v, x]) (fr p List.mem_cons_self)
        obtain ⟨F', R2, st2, r⟩ := froz_zip us ws vs xs ps _ _ R' (st.rvs a2) (st.rvs b2) hl nd2 fun y hy => by
          rw [upd_ne fun e => nd1 (by rw [← e]; exact hy)]
          exact fr y (List.mem_cons_of_mem _ hy)
        refine ⟨F', R2, st.trans st2, .cons (.tup (st2.f _ _ upd_same) (by show 2 ≤ top; decide) (st2.rvs (st.rvs (.cons a1 (.cons b1 .nil))))) r⟩
end
section
variable {C : CC} {W : Wd} {B : Hp} {E : Env} {ξ : Option (Nat × Addr)} {Wx : WX} {X : Cx} {ea eb : Expr} {a b : IE} {p1 p2 p3 pos : Pos}
theorem sn_lzip (g : GX C W E ξ Wx X) (hh : C.hot = false) (hb : bnB C "list" = true) (hb2 : bnB C "zip" = true) (hp : plainX ea = true) (hp2 : plainX eb = true) (ha : SE W B E ξ Wx X ea a) (hbb : SE W B E ξ Wx X eb b) : SN W B E ξ Wx X (.Call (.Name "list" p1) [.Call (.Name "zip" p2) [ea, eb] [] p3] [] pos) (.lzip a b) := by
  intro σ S F ρ G H τ Q R ro h
  obtain ⟨hg, hm⟩ := bn_ok g hb
  obtain ⟨hg2, hm2⟩ := bn_ok g hb2
  have e2 := plain_star hp2 [] X.env
  have e1 := plain_star hp [eb] X.env
  rw [evN] at h
  refine eTo (pe_listZip (g.calm hh) hg hm hg2 hm2 (pa_cons (pE ea) (pa_cons (pE eb) pa_nil e2) e1) e1 (plain_any (by unfold plainL; simp [hp2])) (plain_star rfl [] X.env)) ?_
  refine ha σ S F ρ G H τ _ R ro (h.bind (RA := RV W B) fun x S1 F1 ρ1 H1 v st1 R1 r1 h1 => ?_)
  refine hbb σ S1 F1 ρ1 G H1 τ _ R1 (ro.mono st1) (h1.bind (RA := RV W B) fun y S2 F2 ρ2 H2 w st2 R2 r2 h2 => ?_)
  have r1' := st2.rv r1
  cases ex : rdL S2 x with
  | none => rw [ex] at h2; exact h2.elim
  | some us =>
    cases ey : rdL S2 y with
    | none => rw [ex, ey] at h2; exact h2.elim
    | some ws =>
      rw [ex, ey] at h2
      obtain ⟨pa, vs, rfl, hq, hl, rs⟩ := rdL_ok R2 ex r1'
      obtain ⟨pb, xs, rfl, hq', hl', rs'⟩ := rdL_ok R2 ey r2
      rw [← g.K] at hq hq'
      refine ⟨pa, pb, vs, xs, rfl, hq, hq', fun ps q hlen nd fr => ?_⟩
      have zl := zipU_len us ws
      obtain ⟨nd1, nd2⟩ := List.nodup_cons.mp nd
      obtain ⟨F3, R3, st3, r3⟩ := froz_zip us ws vs xs ps F2 H2 R2 rs rs' (by rw [hlen, zl, rs.length, rs'.length]) nd2 fun p hp => fr p (List.mem_cons_of_mem _ hp)
      refine (PoN.mono h2 st3).made R3 ?_ r3 q ?_
      · rw [zl]
        exact Nat.le_trans (Nat.min_le_left _ _) hl
      · rw [updAll_out _ _ _ fun m => nd1 ((tupsAt_sub ps vs xs).subset m)]
        exact fr q List.mem_cons_self
end
end TW
/-! TWOc -/
set_option Elab.async false
set_option linter.all false
set_option maxRecDepth 100000
namespace TW
open PySem PySem.Spec PyProof.Rows L2
/-! ### a[i], b[j] = e, f -/
def set2K (E : Env) (σ : Sl) (a i b j : IE) (u w : U) (S2 : Sto) : R Fl := (evE E σ a S2).bind fun x S3 => (evE E σ i S3).bind fun y S4 => match x, y with
  | .ref n, .int k => match S4[n]? with
    | some (.lst us) => match ixU us.length k with
      | some h => (evE E σ b (S4.set n (.lst (us.set h u)))).bind fun x' S5 => (evE E σ j S5).bind fun y' S6 => match x', y' with
        | .ref n', .int k' => match S6[n']? with
          | some (.lst us') => match ixU us'.length k' with
            | some h' => .ok (.nx σ) (S6.set n' (.lst (us'.set h' w)))
            | none => .bad
          | _ => .bad
        | _, _ => .bad
      | none => .bad
    | _ => .bad
  | _, _ => .bad
theorem setix2_eq (E : Env) (σ : Sl) (S : Sto) (a i b j e f : IE) : exS (.setix2 a i b j e f) E σ S = (evE E σ (.tup (.cons e (.cons f .nil))) S).bind fun x S2 => match x with
    | .tup [u, w] => set2K E σ a i b j u w S2
    | _ => .bad := by
  rw [exS, evE, evL]
  cases h1 : evE E σ e S with
  | ok u S1 =>
    simp only [R.bind]
    rw [evL]
    cases h2 : evE E σ f S1 with
    | ok w S2 =>
      simp only [R.bind]
      rw [evL]
      have t : [u, w].length < top := by show 2 < top; decide
      simp only [R.bind]
      rw [if_pos t]
      rfl
    | ex c S2 => rfl
    | bad => rfl
  | ex c S1 => rfl
  | bad => rfl
section
variable {C : CC} {W : Wd} {B : Hp} {E : Env} {ξ : Option (Nat × Addr)} {Wx : WX} {X : Cx} {ea eb ec ed ee ef : Expr} {a b c d e f : IE} {p1 p2 pt pt2 pos : Pos} {k k2 : Nat}
theorem ss_setix2 (g : GX C W E ξ Wx X) (hh : C.hot = false) (hp : plainX eb = true) (hp2 : plainX ed = true) (hw : swappedStores [.Tuple [.Subscript ea eb p1, .Subscript ec ed p2] k pt] (.Tuple [ee, ef] k2 pt2) X.env = pure none)
    (ha : SE W B E ξ Wx X ea a) (hb : SE W B E ξ Wx X eb b) (hc : SE W B E ξ Wx X ec c) (hd : SE W B E ξ Wx X ed d) (ht : SE W B E ξ Wx X (.Tuple [ee, ef] k2 pt2) (.tup (.cons e (.cons f .nil)))) :
    SS W B E ξ Wx X (.Assign [.Tuple [.Subscript ea eb p1, .Subscript ec ed p2] k pt] (.Tuple [ee, ef] k2 pt2) pos) (.setix2 a b c d e f) := by
  intro σ S F ρ G H τ D R ro h
  rw [setix2_eq] at h
  refine sTo (ps_asg (pE _) (pg_tup (g.calm hh) (pgs_cons (pg_sub (pE ea) (pE eb) set_list fun v => plain_sub hp v) (pgs_cons (pg_sub (pE ec) (pE ed) set_list fun v => plain_sub hp2 v) pgs_nil))) (by rw [swapsWithSole]; exact noComp_sw rfl _ _ _) hw) ?_
  refine ht σ S F ρ G H τ _ R ro (h.bind (RA := RV W B) fun z S1 F1 ρ1 H1 v st1 R1 r1 h1 => ?_)
  cases r1 with
  | @tup A us vs k1 k2 k3 =>
    match us, vs, k3, h1 with
    | [], _, _, h1 => exact h1.elim
    | [_], _, _, h1 => exact h1.elim
    | _ :: _ :: _ :: _, _, _, h1 => exact h1.elim
    | [u, w], _, k3, h1 =>
      cases k3 with
      | @cons _ v1 _ _ q1 q2 => cases q2 with
        | @cons _ v2 _ _ q2 q3 =>
          cases q3
          refine ⟨A, _, rfl, SqT.of (R1.sub _ _ k1), rfl, v1, _, rfl, ?_⟩
          have h1 : PoS W B ξ Wx (set2K E σ a b c d u w S1) F1 ρ1 S1 G D := h1
          unfold set2K at h1
          refine ha σ S1 F1 ρ1 G H1 τ _ R1 (ro.mono st1) (h1.bind (RA := RV W B) fun x S2 F2 ρ2 H2 vx st2 R2 r2 h2 => ?_)
          refine hb σ S2 F2 ρ2 G H2 τ _ R2 ((ro.mono st1).mono st2) (h2.bind (RA := RV W B) fun y S3 F3 ρ3 H3 vy st3 R3 r3 h3 => ?_)
          have r2' := st3.rv r2
          cases r2' with
          | @ref n hn =>
            cases r3 with
            | int kk =>
              dsimp only at h3
              split at h3
              · rename_i us e1
                split at h3
                · rename_i j ej
                  obtain ⟨vs, c1, c2, c3⟩ := R3.cell n _ e1
                  have u1 := st3.rv (st2.rv q1)
                  refine ⟨_, vs, kk, j, rfl, rfl, c1, by rw [← c3.length]; exact ej, ?_⟩
                  obtain ⟨R4, st4⟩ := R3.put e1 (by rw [List.length_set]; exact c2) (c3.set u1 j)
                  have ro4 := (((ro.mono st1).mono st2).mono st3).mono st4
                  refine ⟨v2, _, rfl, ?_⟩
                  refine hc σ _ F3 ρ3 G _ τ _ R4 ro4 ((PoS.mono h3 st4).bind (RA := RV W B) fun x' S5 F5 ρ5 H5 vx' st5 R5 r5 h5 => ?_)
                  refine hd σ S5 F5 ρ5 G H5 τ _ R5 (ro4.mono st5) (h5.bind (RA := RV W B) fun y' S6 F6 ρ6 H6 vy' st6 R6 r6 h6 => ?_)
                  have r5' := st6.rv r5
                  cases r5' with
                  | @ref n' hn' =>
                    cases r6 with
                    | int kk' =>
                      dsimp only at h6
                      split at h6
                      · rename_i us' e1'
                        split at h6
                        · rename_i j' ej'
                          obtain ⟨vs', c1', c2', c3'⟩ := R6.cell n' _ e1'
                          have u2 := st6.rv (st5.rv (st4.rv (st3.rv (st2.rv q2))))
                          refine ⟨_, vs', kk', j', rfl, rfl, c1', by rw [← c3'.length]; exact ej', ?_⟩
                          obtain ⟨R7, st7⟩ := R6.put e1' (by rw [List.length_set]; exact c2') (c3'.set u2 j')
                          exact ⟨rfl, h6 F6 ρ6 _ τ st7 R7 (((ro4.mono st5).mono st6).mono st7)⟩
                        · exact h6.elim
                      · exact h6.elim
                    | _ => exact h6.elim
                  | _ => exact h6.elim
                · exact h3.elim
              · exact h3.elim
            | _ => exact h3.elim
          | _ => exact h3.elim
  | _ => exact h1.elim
theorem sub_sw {env : PySem.Env} (h1 : plainX ee = true) (h2 : plainX ef = true) (hk : env.blockKind = .function) : swappedStores [.Tuple [.Subscript ea eb p1, .Subscript ec ed p2] k pt] (.Tuple [ee, ef] k2 pt2) env = pure none := by
  have st : ([ee, ef].any fun | .Starred .. => true | _ => false) = false := by
    rw [List.any_cons, List.any_cons, List.any_nil]
    cases ee <;> first | (cases h1; done) | (cases ef <;> first | (cases h2; done) | rfl)
  unfold swappedStores
  simp only [List.length_cons, List.length_nil, hk, st, List.head?_cons, Option.map_some, Option.getD_some, List.filterMap_cons, List.filterMap_nil, Expr.pos]
  simp
end
end TW
/-! TWR -/
set_option Elab.async false
set_option linter.all false
set_option maxRecDepth 100000
namespace TW
open PySem PySem.Spec PyProof.Rows L2
theorem ck_c (u : U) : CkOk (.c u) := by
  refine .mkV rfl rfl (by simp) (by simp) (by simp) (by simp) (by simp) (by simp) (fun C ex h => ?_) fun C ex h {_ _ _ _ _ _} g => ?_
  · rw [ckE] at h
    unfold ckConst at h
    split at h <;> first | rfl | cases h
  · rw [ckE] at h
    exact (ckConst_ok u ex h).1
theorem ck_v (i : Nat) : CkOk (.v i) := by
  refine .mkV rfl rfl (by simp) (by simp) (by simp) (by simp) (by simp) (by simp) (fun C ex h => ?_) fun C ex h {_ _ _ _ _ _} g => ?_ <;> rw [ckE] at h <;> split at h <;> first | (cases h; done) | skip
  · rename_i x e; obtain ⟨p, rfl⟩ := xName_ok e; rfl
  · rename_i x e
    obtain ⟨p, rfl⟩ := xName_ok e
    obtain ⟨h1, h2, h3⟩ := vis_ok h
    exact se_v g h1 h2 h3
theorem ck_g (u : U) : CkOk (.g u) := by
  refine .mkV rfl rfl (by simp) (by simp) (by simp) (by simp) (by simp) (by simp) (fun C ex h => ?_) fun C ex h {_ _ _ _ _ _} g => ?_
  · rw [ckE] at h
    unfold ckGlob at h
    split at h <;> first | rfl | cases h
  · rw [ckE] at h
    obtain ⟨v, h1, h2, _⟩ := ckGlob_pe g u ex h
    exact se_g h1 h2
section
variable {a b c d : IE} (iha : CkOk a) (ihb : CkOk b) (ihc : CkOk c) (ihd : CkOk d)
include iha ihb in
theorem ck_bin (op : BOp) : CkOk (.bin op a b) := by
  refine .mkV rfl rfl (by simp) (by simp) (by simp) (by simp) (by simp) (by simp) (fun C ex h => ?_) fun C ex h {_ _ _ _ _ _} g => ?_ <;> rw [ckE] at h <;> split at h <;> first | (cases h; done) | skip
  · rename_i e; obtain ⟨p, rfl⟩ := xBin_ok e; rfl
  · rename_i e
    obtain ⟨p, rfl⟩ := xBin_ok e
    simp only [Bool.and_eq_true] at h
    have := opB_ok h.1.1
    subst this
    exact se_bin (iha.e _ _ h.1.2 g).1 (ihb.e _ _ h.2 g).1
include iha in
theorem ck_neg : CkOk (.neg a) := by
  refine .mkV rfl rfl (by simp) (by simp) (by simp) (by simp) (by simp) (by simp) (fun C ex h => ?_) fun C ex h {_ _ _ _ _ _} g => ?_ <;> rw [ckE] at h <;> split at h <;> first | (cases h; done) | skip
  · rename_i e; obtain ⟨p, rfl⟩ := xNeg_ok e; rfl
  · rename_i e
    obtain ⟨p, rfl⟩ := xNeg_ok e
    exact se_neg (iha.e _ _ h g).1
include iha ihb in
theorem ck_cmp (op : COp) : CkOk (.cmp op a b) := by
  refine .mkE rfl rfl (by simp) (by simp) (by simp) (by simp) (by simp) (by simp) fun C ex h {_ _ _ _ _ _} g => ?_
  rw [ckE] at h
  split at h <;> first | (cases h; done) | skip
  rename_i e
  obtain ⟨p, rfl⟩ := xCmp_ok e
  simp only [Bool.and_eq_true] at h
  have := copB_ok h.1.1.1
  subst this
  exact ⟨se_cmp g h.1.1.2 (iha.e _ _ h.1.2 g).1 (ihb.e _ _ h.2 g).1, st_cmp g h.1.1.2 (iha.e _ _ h.1.2 g).1 (ihb.e _ _ h.2 g).1⟩
include iha ihb ihc in
theorem ck_chain (op op' : COp) : CkOk (.chain op op' a b c) := by
  refine .mkE rfl rfl (by simp) (by simp) (by simp) (by simp) (by simp) (by simp) fun C ex h {_ _ _ _ _ _} g => ?_
  rw [ckE] at h
  split at h <;> first | (cases h; done) | skip
  rename_i e
  obtain ⟨p, rfl⟩ := xCmp_ok e
  simp only [Bool.and_eq_true] at h
  obtain ⟨⟨⟨⟨⟨h1, h2⟩, h3⟩, h4⟩, h5⟩, h6⟩ := h
  have := copB_ok h1
  subst this
  have := copB_ok h2
  subst this
  exact ⟨se_chain g h3 (iha.e _ _ h4 g).1 (ihb.e _ _ h5 g).1 (ihc.e _ _ h6 g).1, st_chain g h3 (iha.e _ _ h4 g).1 (ihb.e _ _ h5 g).1 (ihc.e _ _ h6 g).1⟩
include iha ihb ihc ihd in
theorem ck_chain3 (op op' op'' : COp) : CkOk (.chain3 op op' op'' a b c d) := by
  refine .mkE rfl rfl (by simp) (by simp) (by simp) (by simp) (by simp) (by simp) fun C ex h {_ _ _ _ _ _} g => ?_
  rw [ckE] at h
  split at h <;> first | (cases h; done) | skip
  rename_i e
  obtain ⟨p, rfl⟩ := xCmp_ok e
  simp only [Bool.and_eq_true] at h
  obtain ⟨⟨⟨⟨⟨⟨⟨h1, h2⟩, h2'⟩, h3⟩, h4⟩, h5⟩, h6⟩, h7⟩ := h
  have := copB_ok h1
  subst this
  have := copB_ok h2
  subst this
  have := copB_ok h2'
  subst this
  exact ⟨se_chain3 g h3 (iha.e _ _ h4 g).1 (ihb.e _ _ h5 g).1 (ihc.e _ _ h6 g).1 (ihd.e _ _ h7 g).1, st_chain3 g h3 (iha.e _ _ h4 g).1 (ihb.e _ _ h5 g).1 (ihc.e _ _ h6 g).1 (ihd.e _ _ h7 g).1⟩
include iha in
theorem ck_not : CkOk (.not a) := by
  refine .mkE rfl rfl (by simp) (by simp) (by simp) (by simp) (by simp) (by simp) fun C ex h {_ _ _ _ _ _} g => ?_
  rw [ckE] at h
  split at h <;> first | (cases h; done) | skip
  rename_i e
  obtain ⟨p, rfl⟩ := xNot_ok e
  exact ⟨se_not (iha.e _ _ h g).1, st_not (iha.e _ _ h g).2⟩
include iha ihb in
theorem and_part (C : CC) (ea : Expr) (es : List Expr) (h : (ckE a C ea && (match es with
      | [eb] => ckE b C eb
      | _ => ckA b C es)) = true) {W B E ξ Wx X} (g : GX C W E ξ Wx X) (pos : Pos) : SE W B E ξ Wx X (.BoolOp .And (ea :: es) pos) (.and a b) ∧ SW W B E ξ Wx X (.BoolOp .And (ea :: es) pos) (.and a b) := by
  rw [Bool.and_eq_true] at h
  obtain ⟨h1, h2⟩ := h
  split at h2
  · exact ⟨se_and (iha.e _ _ h1 g).1 (se_one (ihb.e _ _ h2 g).1), sw_and (iha.e _ _ h1 g).2 (sw_and1 (ihb.e _ _ h2 g).2)⟩
  · cases es with
    | nil => obtain ⟨x, y, z⟩ := ckA_k h2; subst z; simp [ckA] at h2
    | cons eb rest => exact ⟨se_and (iha.e _ _ h1 g).1 (ihb.a _ _ h2 g pos).1, sw_and (iha.e _ _ h1 g).2 (ihb.a _ _ h2 g pos).2⟩
include iha ihb in
theorem or_part (C : CC) (ea : Expr) (es : List Expr) (h : (ckE a C ea && (match es with
      | [eb] => ckE b C eb
      | _ => ckR b C es)) = true) {W B E ξ Wx X} (g : GX C W E ξ Wx X) (pos : Pos) : SE W B E ξ Wx X (.BoolOp .Or (ea :: es) pos) (.or a b) ∧ SW W B E ξ Wx X (.BoolOp .Or (ea :: es) pos) (.or a b) := by
  rw [Bool.and_eq_true] at h
  obtain ⟨h1, h2⟩ := h
  split at h2
  · exact ⟨se_or (iha.e _ _ h1 g).1 (se_one (ihb.e _ _ h2 g).1), sw_or (iha.e _ _ h1 g).2 (sw_or1 (ihb.e _ _ h2 g).2)⟩
  · cases es with
    | nil => obtain ⟨x, y, z⟩ := ckR_k h2; subst z; simp [ckR] at h2
    | cons eb rest => exact ⟨se_or (iha.e _ _ h1 g).1 (ihb.r _ _ h2 g pos).1, sw_or (iha.e _ _ h1 g).2 (ihb.r _ _ h2 g pos).2⟩
include iha ihb in
theorem ck_and : CkOk (.and a b) where
  e := fun C ex h {_ _ _ _ _ _} g => by
    rw [ckE] at h
    split at h <;> first | (cases h; done) | skip
    rename_i e
    obtain ⟨p, rfl⟩ := xAnd_ok e
    obtain ⟨k1, k2⟩ := and_part iha ihb C _ _ h g p
    exact ⟨k1, k2.st⟩
  a := fun C es h {_ _ _ _ _ _} g pos => by
    cases es with
    | nil => simp [ckA] at h
    | cons ea es => unfold ckA at h; exact and_part iha ihb C _ _ h g pos
  r := fun C es h => by obtain ⟨a, b, z⟩ := ckR_k h; cases z
  l := fun C es h => by rcases ckL_k h with z | ⟨a, b, z⟩ <;> cases z
  o := fun C es h => by rcases ckO_k h with z | ⟨a, z⟩ <;> cases z
  n := fun C es h => by have := ckN_k h; cases this
  i := fun C tg es h => by have := ckI_k h; cases this
include iha ihb in
theorem ck_or : CkOk (.or a b) where
  e := fun C ex h {_ _ _ _ _ _} g => by
    rw [ckE] at h
    split at h <;> first | (cases h; done) | skip
    rename_i e
    obtain ⟨p, rfl⟩ := xOr_ok e
    obtain ⟨k1, k2⟩ := or_part iha ihb C _ _ h g p
    exact ⟨k1, k2.st⟩
  r := fun C es h {_ _ _ _ _ _} g pos => by
    cases es with
    | nil => simp [ckR] at h
    | cons ea es => unfold ckR at h; exact or_part iha ihb C _ _ h g pos
  a := fun C es h => by obtain ⟨a, b, z⟩ := ckA_k h; cases z
  l := fun C es h => by rcases ckL_k h with z | ⟨a, b, z⟩ <;> cases z
  o := fun C es h => by rcases ckO_k h with z | ⟨a, z⟩ <;> cases z
  n := fun C es h => by have := ckN_k h; cases this
  i := fun C tg es h => by have := ckI_k h; cases this
/-- an if .. else as a test -/
theorem st_ife {W : Wd} {B : Hp} {E : Env} {ξ : Option (Nat × Addr)} {Wx : WX} {X : Cx} {ec ea eb : Expr} {pos : Pos} (hc : ST W B E ξ Wx X ec c) (ha : ST W B E ξ Wx X ea a) (hb : ST W B E ξ Wx X eb b) : ST W B E ξ Wx X (.IfExp ec ea eb pos) (.ife c a b) := by
  intro σ S F ρ G H τ Q R ro h
  rw [evE] at h
  intro pins s I
  show wpAny (model X.prog X.w) X.A (do if ← isTrue ec X.env (eval ec X.env) then isTrue ea X.env (eval ea X.env) else isTrue eb X.env (eval eb X.env)) _ _ s
  have k := hc σ S F ρ G H τ (fun t H1 => if t = true then wT X ea τ H1 Q else wT X eb τ H1 Q) R ro (h.bind (RA := RV W B) fun x S1 F1 ρ1 H1 v st1 R1 r1 h1 => ?_) pins s I
  · refine wpAny_bind (wpAny_mono k (fun t s1 ⟨H1, I1, q⟩ => ?_) fun _ _ x => x)
    cases t with
    | true => rw [if_pos rfl] at q ⊢; exact q pins s1 I1
    | false => rw [if_neg Bool.false_ne_true] at q ⊢; exact q pins s1 I1
  · cases r1 with
    | bl t =>
      refine ⟨t, rfl, ?_⟩
      cases t with
      | true => rw [if_pos rfl]; exact ha σ S1 F1 ρ1 G H1 τ _ R1 (ro.mono st1) h1
      | false => rw [if_neg Bool.false_ne_true]; exact hb σ S1 F1 ρ1 G H1 τ _ R1 (ro.mono st1) h1
    | _ => exact h1.elim
include iha ihb ihc in
theorem ck_ife : CkOk (.ife c a b) := by
  refine .mkE rfl rfl (by simp) (by simp) (by simp) (by simp) (by simp) (by simp) fun C ex h {_ _ _ _ _ _} g => ?_
  rw [ckE] at h
  split at h <;> first | (cases h; done) | skip
  rename_i e
  obtain ⟨p, rfl⟩ := xIf_ok e
  simp only [Bool.and_eq_true] at h
  exact ⟨se_ife (ihc.e _ _ h.1.1 g).2 (iha.e _ _ h.1.2 g).1 (ihb.e _ _ h.2 g).1, st_ife (ihc.e _ _ h.1.1 g).2 (iha.e _ _ h.1.2 g).2 (ihb.e _ _ h.2 g).2⟩
include iha in
theorem ck_tup : CkOk (.tup a) := by
  refine .mkV rfl rfl (by simp) (by simp) (by simp) (by simp) (by simp) (by simp) (fun C ex h => ?_) fun C ex h {_ _ _ _ _ _} g => ?_ <;> rw [ckE] at h <;> split at h <;> first | (cases h; done) | skip
  · rename_i e; obtain ⟨k, p, rfl⟩ := xTup_ok e; rfl
  · rename_i e
    obtain ⟨k, p, rfl⟩ := xTup_ok e
    exact se_tup (iha.l _ _ h g)
theorem ckN_plain {ie : IE} {C : CC} {e : Expr} (h : ckN ie C e = true) : plainT e = true := by
  cases ie <;> (unfold ckN at h) <;> first | (cases h; done) | skip
  case lst => split at h <;> first | (cases h; done) | (rename_i e; obtain ⟨p, rfl⟩ := xLst_ok e; rfl)
  case comp => split at h <;> first | (cases h; done) | (rename_i e; obtain ⟨p, rfl⟩ := xComp_ok e; rfl)
  case listOf => split at h <;> first | (cases h; done) | (rename_i e; obtain ⟨p, q, rfl⟩ := xCallN_ok e; rfl)
  case sorted => split at h <;> first | (cases h; done) | (rename_i e; obtain ⟨p, q, rfl⟩ := xCallN_ok e; rfl)
  case slice => split at h <;> first | (cases h; done) | (rename_i e; obtain ⟨p, rfl⟩ := xSub_ok e; rfl)
  case rev => split at h <;> first | (cases h; done) | (rename_i e; obtain ⟨p, rfl⟩ := xSub_ok e; rfl)
  case step2 => split at h <;> first | (cases h; done) | (rename_i e; obtain ⟨p, rfl⟩ := xSub_ok e; rfl)
  case cat => split at h <;> first | (cases h; done) | (rename_i e; obtain ⟨p, rfl⟩ := xBin_ok e; rfl)
  case rep => split at h <;> first | (cases h; done) | (rename_i e; obtain ⟨p, rfl⟩ := xBin_ok e; rfl)
  case lrange => split at h <;> first | (cases h; done) | (rename_i e; obtain ⟨p, q, rfl⟩ := xCallN_ok e; rfl)
  case lzip => split at h <;> first | (cases h; done) | (rename_i e; obtain ⟨p, q, rfl⟩ := xCallN_ok e; rfl)
  case sortedSet => split at h <;> first | (cases h; done) | (rename_i e; obtain ⟨p, q, rfl⟩ := xCallN_ok e; rfl)
include iha in
theorem ck_newF : CkOk (.newF a) := by
  refine .mkV rfl rfl (by simp) (by simp) (by simp) (by simp) (by simp) (by simp) (fun C ex h => ?_) fun C ex h {_ _ _ _ _ _} g => ?_ <;> rw [ckE] at h
  · exact ckN_plain h
  · exact se_newF (iha.n _ _ h g)
include iha in
theorem ck_newM : CkOk (.newM a) := by
  refine .mkV rfl rfl (by simp) (by simp) (by simp) (by simp) (by simp) (by simp) (fun C ex h => ?_) fun C ex h {_ _ _ _ _ _} g => ?_ <;> rw [ckE] at h
  · exact ckN_plain h
  · exact se_newM (iha.n _ _ h g)
include iha ihb in
theorem ck_ix : CkOk (.ix a b) := by
  refine .mkV rfl rfl (by simp) (by simp) (by simp) (by simp) (by simp) (by simp) (fun C ex h => ?_) fun C ex h {_ _ _ _ _ _} g => ?_ <;> rw [ckE] at h <;> split at h <;> first | (cases h; done) | skip
  · rename_i e; obtain ⟨p, rfl⟩ := xSub_ok e; rfl
  · rename_i e
    obtain ⟨p, rfl⟩ := xSub_ok e
    simp only [Bool.and_eq_true] at h
    exact se_ix g h.1.1 (iha.e _ _ h.1.2 g).1 (ihb.e _ _ h.2 g).1
include iha in
theorem ck_callD (m : Bool) (f : Nat) : CkOk (.callD m f a) := by
  refine .mkV rfl rfl (by simp) (by simp) (by simp) (by simp) (by simp) (by simp) (fun C ex h => ?_) fun C ex h {_ _ _ _ _ _} g => ?_ <;> rw [ckE] at h <;> split at h <;> first | (cases h; done) | skip
  · rename_i e; obtain ⟨p, q, rfl⟩ := xCallN_ok e; rfl
  · rename_i e; obtain ⟨p, q, rfl⟩ := xCallN_ok e; rfl
  · rename_i e
    obtain ⟨p, q, rfl⟩ := xCallN_ok e
    simp only [Bool.and_eq_true, Bool.not_eq_true'] at h
    obtain ⟨⟨⟨h1, h2⟩, h3⟩, h4⟩ := h
    obtain ⟨k1, k2, k3⟩ := glo_ok h2
    exact se_callD g h1 k1 k2 k3 h3 (iha.l _ _ h4 g)
  · rename_i e
    obtain ⟨p, q, rfl⟩ := xCallN_ok e
    simp only [Bool.and_eq_true, Bool.not_eq_true'] at h
    obtain ⟨⟨h1, h2⟩, h3⟩ := h
    obtain ⟨k1, k2, k3⟩ := glo_ok h2
    have := isNil_ok h3
    subst this
    exact se_callD0 g h1 k1 k2 k3
include iha in
theorem ck_callV (m : Bool) (i : Nat) : CkOk (.callV m i a) := by
  refine .mkV rfl rfl (by simp) (by simp) (by simp) (by simp) (by simp) (by simp) (fun C ex h => ?_) fun C ex h {_ _ _ _ _ _} g => ?_ <;> rw [ckE] at h <;> split at h <;> first | (cases h; done) | skip
  · rename_i e; obtain ⟨p, q, rfl⟩ := xCallN_ok e; rfl
  · rename_i e; obtain ⟨p, q, rfl⟩ := xCallN_ok e; rfl
  · rename_i e
    obtain ⟨p, q, rfl⟩ := xCallN_ok e
    simp only [Bool.and_eq_true, Bool.not_eq_true'] at h
    obtain ⟨⟨⟨h1, h2⟩, h3⟩, h4⟩ := h
    obtain ⟨k1, k2, k3⟩ := vis_ok h2
    exact se_callV g h1 k1 k2 k3 h3 (iha.l _ _ h4 g)
  · rename_i e
    obtain ⟨p, q, rfl⟩ := xCallN_ok e
    simp only [Bool.and_eq_true, Bool.not_eq_true'] at h
    obtain ⟨⟨h1, h2⟩, h3⟩ := h
    obtain ⟨k1, k2, k3⟩ := vis_ok h2
    have := isNil_ok h3
    subst this
    exact se_callV0 g h1 k1 k2 k3
theorem ck_lmb (k : Nat) (is : List Nat) : CkOk (.lmb k is) := by
  refine .mkV rfl rfl (by simp) (by simp) (by simp) (by simp) (by simp) (by simp) (fun C ex h => ?_) fun C ex h {_ _ _ _ _ _} g => ?_ <;> rw [ckE] at h <;> split at h <;> first | (cases h; done) | skip
  · rename_i e; obtain ⟨p, rfl⟩ := xLam_ok e; rfl
  · rename_i e
    obtain ⟨p, rfl⟩ := xLam_ok e
    simp only [Bool.and_eq_true, Bool.not_eq_true'] at h
    obtain ⟨⟨⟨⟨⟨h1, h2⟩, h3⟩, h4⟩, h5⟩, h6⟩ := h
    rw [List.isEmpty_iff] at h6
    subst h6
    exact se_lmb g h1 h2 h3 h4 h5
include iha in
theorem ck_bi (bi : Bi) : CkOk (.bi bi a) := by
  refine .mkV rfl rfl (by simp) (by simp) (by simp) (by simp) (by simp) (by simp) (fun C ex h => ?_) fun C ex h {W B E ξ Wx X} g => ?_ <;> rw [ckE] at h <;> split at h <;> first | (cases h; done) | skip
  · rename_i e; obtain ⟨p, q, rfl⟩ := xCallN_ok e; rfl
  · rename_i e
    obtain ⟨p, q, rfl⟩ := xCallN_ok e
    simp only [Bool.and_eq_true] at h
    obtain ⟨⟨⟨⟨h1, h2⟩, h3⟩, h4⟩, h5⟩ := h
    have hl := iha.l _ _ h5 (B := B) g
    unfold biB at h1
    split at h1 <;> first | (cases h1; done) | skip
    · have := isS_ok h1; subst this
      exact se_bi g h2 h3 boot_len call_len_seq (bi_len _ g.K) h4 hl
    · simp only [Bool.and_eq_true, Bool.not_eq_true'] at h1
      have := isS_ok h1.2; subst this
      exact se_bi g h2 h3 boot_min (call_min2 (g.calm h1.1)) (bi_min _) h4 hl
    · simp only [Bool.and_eq_true, Bool.not_eq_true'] at h1
      have := isS_ok h1.2; subst this
      exact se_bi g h2 h3 boot_max (call_max2 (g.calm h1.1)) (bi_max _) h4 hl
    · have := isS_ok h1; subst this
      exact se_bi g h2 h3 boot_abs call_abs (bi_abs _) h4 hl
    · simp only [Bool.and_eq_true, Bool.not_eq_true'] at h1
      have := isS_ok h1.2; subst this
      exact se_bi g h2 h3 boot_sum (cr_sum (g.calm h1.1)) (bi_sum _ g.K) h4 hl
    · simp only [Bool.and_eq_true, Bool.not_eq_true'] at h1
      have := isS_ok h1.2; subst this
      exact se_bi g h2 h3 boot_all (cr_all (g.calm h1.1)) (bi_all _ g.K) h4 hl
    · have := isS_ok h1; subst this
      refine se_bi g h2 h3 boot_any ?_ (bi_any _ g.K) h4 hl
      cases hh : C.hot with
      | true => exact any_hot (g.hc hh)
      | false => exact cr_any (g.calm hh)
    · have := isS_ok h1; subst this
      exact se_bi g h2 h3 boot_isinstance call_isi (bi_isi g.kf g.K) h4 hl
include iha in
theorem ck_lenSet : CkOk (.lenSet a) := by
  refine .mkV rfl rfl (by simp) (by simp) (by simp) (by simp) (by simp) (by simp) (fun C ex h => ?_) fun C ex h {W B E ξ Wx X} g => ?_ <;> rw [ckE] at h <;> split at h <;> first | (cases h; done) | skip
  · rename_i e; obtain ⟨p, q, rfl⟩ := xCallN_ok e; rfl
  · rename_i e
    obtain ⟨p, q, rfl⟩ := xCallN_ok e
    simp only [Bool.and_eq_true, Bool.not_eq_true'] at h
    obtain ⟨⟨⟨h1, h2⟩, h3⟩, h4⟩ := h
    split at h4 <;> first | (cases h4; done) | skip
    rename_i e2
    obtain ⟨p2, q2, rfl⟩ := xCallN_ok e2
    simp only [Bool.and_eq_true] at h4
    have := isS_ok h2; subst this
    have := isS_ok h4.1.1.1; subst this
    exact se_lenSet g h1 h3 h4.1.1.2 h4.1.2 (iha.e _ _ h4.2 g).1
include iha ihb in
theorem ck_mc (bi : Bi) : CkOk (.mc bi a b) := by
  refine .mkV rfl rfl (by simp) (by simp) (by simp) (by simp) (by simp) (by simp) (fun C ex h => ?_) fun C ex h {W B E ξ Wx X} g => ?_ <;> rw [ckE] at h <;> split at h <;> first | (cases h; done) | skip
  · rename_i e; obtain ⟨p, q, rfl, _⟩ := xCallA_ok e; rfl
  · rename_i e
    obtain ⟨p, q, rfl, hln⟩ := xCallA_ok e
    simp only [Bool.and_eq_true] at h
    obtain ⟨⟨⟨⟨⟨h1, h2⟩, h3⟩, h4⟩, h5⟩, h6⟩ := h
    rw [h1] at hln
    split at h4 <;> first | (cases h4; done) | skip
    · have := isS_ok h4; subst this
      exact se_index g h2 h3 hln (iha.e _ _ h5 g).1 (ihb.e _ _ h6 g).1
    · have := isS_ok h4; subst this
      exact se_count g h2 h3 hln (iha.e _ _ h5 g).1 (ihb.e _ _ h6 g).1
include iha in
theorem ck_lm0 (m : LM) : CkOk (.lm0 m a) := by
  refine .mkV rfl rfl (by simp) (by simp) (by simp) (by simp) (by simp) (by simp) (fun C ex h => ?_) fun C ex h {W B E ξ Wx X} g => ?_ <;> rw [ckE] at h <;> split at h <;> first | (cases h; done) | skip
  · rename_i e; obtain ⟨p, q, rfl, _⟩ := xCallA_ok e; rfl
  · rename_i e
    obtain ⟨p, q, rfl, hln⟩ := xCallA_ok e
    simp only [Bool.and_eq_true] at h
    obtain ⟨⟨⟨h1, h2⟩, h3⟩, h4⟩ := h
    rw [h1] at hln
    unfold lmB0 at h2
    split at h2 <;> first | (cases h2; done) | skip
    · have := isS_ok h2; subst this
      exact se_lm0 g PySem.F.slot_list_pop PySem.F.type_list_pop mt_pop lm_pop h3 hln (iha.e _ _ h4 g).1
    · have := isS_ok h2; subst this
      exact se_lm0 g PySem.F.slot_list_reverse PySem.F.type_list_reverse mt_reverse lm_reverse h3 hln (iha.e _ _ h4 g).1
include iha ihb in
theorem ck_lm (m : LM) : CkOk (.lm m a b) := by
  refine .mkV rfl rfl (by simp) (by simp) (by simp) (by simp) (by simp) (by simp) (fun C ex h => ?_) fun C ex h {W B E ξ Wx X} g => ?_ <;> rw [ckE] at h <;> split at h <;> first | (cases h; done) | skip
  · rename_i e; obtain ⟨p, q, rfl, _⟩ := xCallA_ok e; rfl
  · rename_i e
    obtain ⟨p, q, rfl, hln⟩ := xCallA_ok e
    simp only [Bool.and_eq_true, decide_eq_true_eq] at h
    obtain ⟨⟨⟨⟨⟨⟨h1, h2⟩, h3⟩, h4⟩, h5⟩, h6⟩, h7⟩ := h
    rw [h1] at hln
    unfold lmB at h2
    split at h2 <;> first | (cases h2; done) | skip
    · have := isS_ok h2; subst this
      exact se_lm g PySem.F.slot_list_append PySem.F.type_list_append mt_append lm_append h3 h4 h5 hln (iha.e _ _ h6 g).1 (ihb.l _ _ h7 g)
    · have := isS_ok h2; subst this
      exact se_lm g PySem.F.slot_list_extend PySem.F.type_list_extend mt_extend lm_extend h3 h4 h5 hln (iha.e _ _ h6 g).1 (ihb.l _ _ h7 g)
    · have := isS_ok h2; subst this
      exact se_lm g PySem.F.slot_list_pop PySem.F.type_list_pop mt_popAt lm_popAt h3 h4 h5 hln (iha.e _ _ h6 g).1 (ihb.l _ _ h7 g)
    · have := isS_ok h2; subst this
      exact se_lm g PySem.F.slot_list_insert PySem.F.type_list_insert mt_insert lm_insert h3 h4 h5 hln (iha.e _ _ h6 g).1 (ihb.l _ _ h7 g)
theorem ck_isE (i : Nat) (u : U) : CkOk (.isE i u) := by
  refine .mkV rfl rfl (by simp) (by simp) (by simp) (by simp) (by simp) (by simp) (fun C ex h => ?_) fun C ex h {W B E ξ Wx X} g => ?_ <;> rw [ckE] at h <;> split at h <;> first | (cases h; done) | skip
  · rename_i e; obtain ⟨p, q, rfl⟩ := xCallN_ok e; rfl
  · rename_i e
    obtain ⟨p, q, rfl⟩ := xCallN_ok e
    simp only [Bool.and_eq_true] at h
    obtain ⟨⟨⟨⟨⟨h1, h2⟩, h3⟩, h4⟩, h5⟩, h6⟩ := h
    have := isS_ok h1; subst this
    split at h3 <;> first | (cases h3; done) | skip
    rename_i ex
    obtain ⟨px, rfl⟩ := xName_ok ex
    obtain ⟨k1, k2, k3⟩ := vis_ok h3
    obtain ⟨v, hv1, hv2, _, hv3, hv4⟩ := ckGlob_pe g u _ h6
    refine se_isE g h2 k1 k2 k3 h4 hv1 ?_
    unfold isXB at h5
    split at h5 <;> first | (cases h5; done) | skip
    · exact .inl ⟨_, rfl, hv3 _ rfl⟩
    · exact .inr ⟨rfl, hv4 rfl⟩
/-! ### lists of expressions, parts of slices -/
theorem ck_nil : CkOk .nil where
  e := fun C ex h => by simp [ckE] at h
  a := fun C es h => by obtain ⟨a, b, z⟩ := ckA_k h; cases z
  r := fun C es h => by obtain ⟨a, b, z⟩ := ckR_k h; cases z
  l := fun C es h {_ _ _ _ _ _} g => by
    cases es with
    | nil => exact sl_nil
    | cons _ _ => simp [ckL] at h
  o := fun C es h => by rcases ckO_k h with z | ⟨a, z⟩ <;> cases z
  n := fun C es h => by have := ckN_k h; cases this
  i := fun C tg es h => by have := ckI_k h; cases this
include iha ihb in
theorem ck_cons : CkOk (.cons a b) where
  e := fun C ex h => by simp [ckE] at h
  a := fun C es h => by obtain ⟨a, b, z⟩ := ckA_k h; cases z
  r := fun C es h => by obtain ⟨a, b, z⟩ := ckR_k h; cases z
  l := fun C es h {_ _ _ _ _ _} g => by
    cases es with
    | nil => simp [ckL] at h
    | cons e es =>
      rw [ckL, Bool.and_eq_true, Bool.and_eq_true] at h
      exact sl_cons h.1.1 (iha.e _ _ h.1.2 g).1 (ihb.l _ _ h.2 g)
  o := fun C es h => by rcases ckO_k h with z | ⟨a, z⟩ <;> cases z
  n := fun C es h => by have := ckN_k h; cases this
  i := fun C tg es h => by have := ckI_k h; cases this
theorem ck_none : CkOk .none where
  e := fun C ex h => by simp [ckE] at h
  a := fun C es h => by obtain ⟨a, b, z⟩ := ckA_k h; cases z
  r := fun C es h => by obtain ⟨a, b, z⟩ := ckR_k h; cases z
  l := fun C es h => by rcases ckL_k h with z | ⟨a, b, z⟩ <;> cases z
  o := fun C es h {_ _ _ _ _ _} g => by
    cases es with
    | none => exact so_none
    | some _ => simp [ckO] at h
  n := fun C es h => by have := ckN_k h; cases this
  i := fun C tg es h => by have := ckI_k h; cases this
include iha in
theorem ck_opt : CkOk (.opt a) where
  e := fun C ex h => by simp [ckE] at h
  a := fun C es h => by obtain ⟨a, b, z⟩ := ckA_k h; cases z
  r := fun C es h => by obtain ⟨a, b, z⟩ := ckR_k h; cases z
  l := fun C es h => by rcases ckL_k h with z | ⟨a, b, z⟩ <;> cases z
  o := fun C es h {_ _ _ _ _ _} g => by
    cases es with
    | none => simp [ckO] at h
    | some e => rw [ckO] at h; exact so_opt (iha.e _ _ h g).1
  n := fun C es h => by have := ckN_k h; cases this
  i := fun C tg es h => by have := ckI_k h; cases this
/-- a new list alone -/
theorem CkOk.mkN {ie : IE} (he : ∀ C ex, ckE ie C ex = false) (hi : ie.kI = false) (h1 : ie ≠ .nil) (h2 : ∀ a b, ie ≠ .cons a b) (h3 : ie ≠ .none) (h4 : ∀ a, ie ≠ .opt a) (h5 : ∀ a b, ie ≠ .and a b) (h6 : ∀ a b, ie ≠ .or a b)
    (n : ∀ C ex, ckN ie C ex = true → ∀ {W B E ξ Wx X}, GX C W E ξ Wx X → SN W B E ξ Wx X ex ie) : CkOk ie where
  e := fun C ex h => by rw [he] at h; cases h
  a := fun C es h => by obtain ⟨a, b, z⟩ := ckA_k h; exact absurd z (h5 a b)
  r := fun C es h => by obtain ⟨a, b, z⟩ := ckR_k h; exact absurd z (h6 a b)
  l := fun C es h => by rcases ckL_k h with z | ⟨a, b, z⟩; exact absurd z h1; exact absurd z (h2 a b)
  o := fun C es h => by rcases ckO_k h with z | ⟨a, z⟩; exact absurd z h3; exact absurd z (h4 a)
  n := n
  i := fun C tg es h => by rw [ckI_k h] at hi; cases hi
theorem CkOk.mkI {ie : IE} (he : ∀ C ex, ckE ie C ex = false) (hk : ie.kN = false) (h1 : ie ≠ .nil) (h2 : ∀ a b, ie ≠ .cons a b) (h3 : ie ≠ .none) (h4 : ∀ a, ie ≠ .opt a) (h5 : ∀ a b, ie ≠ .and a b) (h6 : ∀ a b, ie ≠ .or a b)
    (i : ∀ C tg ex, ckI ie C tg ex = true → ∀ {W B E ξ Wx X}, GX C W E ξ Wx X → SI W B E ξ Wx X tg ex ie) : CkOk ie where
  e := fun C ex h => by rw [he] at h; cases h
  a := fun C es h => by obtain ⟨a, b, z⟩ := ckA_k h; exact absurd z (h5 a b)
  r := fun C es h => by obtain ⟨a, b, z⟩ := ckR_k h; exact absurd z (h6 a b)
  l := fun C es h => by rcases ckL_k h with z | ⟨a, b, z⟩; exact absurd z h1; exact absurd z (h2 a b)
  o := fun C es h => by rcases ckO_k h with z | ⟨a, z⟩; exact absurd z h3; exact absurd z (h4 a)
  n := fun C es h => by rw [ckN_k h] at hk; cases hk
  i := i
include iha in
theorem ck_lst : CkOk (.lst a) := by
  refine .mkN (by simp [ckE]) rfl (by simp) (by simp) (by simp) (by simp) (by simp) (by simp) fun C ex h {_ _ _ _ _ _} g => ?_
  rw [ckN] at h
  split at h <;> first | (cases h; done) | skip
  rename_i e
  obtain ⟨p, rfl⟩ := xLst_ok e
  exact sn_lst (iha.l _ _ h g)
include iha in
theorem ck_listOf : CkOk (.listOf a) := by
  refine .mkN (by simp [ckE]) rfl (by simp) (by simp) (by simp) (by simp) (by simp) (by simp) fun C ex h {_ _ _ _ _ _} g => ?_
  rw [ckN] at h
  split at h <;> first | (cases h; done) | skip
  rename_i e
  obtain ⟨p, q, rfl⟩ := xCallN_ok e
  simp only [Bool.and_eq_true] at h
  have := isS_ok h.1.1.1; subst this
  exact sn_listOf g h.1.1.2 h.1.2 (iha.e _ _ h.2 g).1
include iha in
theorem ck_sorted : CkOk (.sorted a) := by
  refine .mkN (by simp [ckE]) rfl (by simp) (by simp) (by simp) (by simp) (by simp) (by simp) fun C ex h {_ _ _ _ _ _} g => ?_
  rw [ckN] at h
  split at h <;> first | (cases h; done) | skip
  rename_i e
  obtain ⟨p, q, rfl⟩ := xCallN_ok e
  simp only [Bool.and_eq_true] at h
  have := isS_ok h.1.1.1; subst this
  exact sn_sorted g h.1.1.2 h.1.2 (iha.e _ _ h.2 g).1
include iha in
theorem ck_sortedSet : CkOk (.sortedSet a) := by
  refine .mkN (by simp [ckE]) rfl (by simp) (by simp) (by simp) (by simp) (by simp) (by simp) fun C ex h {_ _ _ _ _ _} g => ?_
  rw [ckN] at h
  split at h <;> first | (cases h; done) | skip
  rename_i e
  obtain ⟨p, q, rfl⟩ := xCallN_ok e
  simp only [Bool.and_eq_true, Bool.not_eq_true'] at h
  obtain ⟨⟨⟨h1, h2⟩, h3⟩, h4⟩ := h
  split at h4 <;> first | (cases h4; done) | skip
  rename_i e2
  obtain ⟨p2, q2, rfl⟩ := xCallN_ok e2
  simp only [Bool.and_eq_true] at h4
  have := isS_ok h2; subst this
  have := isS_ok h4.1.1.1; subst this
  exact sn_sortedSet g h1 h3 h4.1.1.2 h4.1.2 (iha.e _ _ h4.2 g).1
include iha in
theorem ck_fld (f : Nat) : CkOk (.fld a f) := by
  refine .mkV rfl rfl (by simp) (by simp) (by simp) (by simp) (by simp) (by simp) (fun C ex h => ?_) fun C ex h {_ _ _ _ _ _} g => ?_ <;> rw [ckE] at h <;> split at h <;> first | (cases h; done) | skip
  · rename_i e; have := xAttr_ok e; subst this; rfl
  · rename_i e
    have := xAttr_ok e; subst this
    simp only [Bool.and_eq_true, decide_eq_true_eq] at h
    obtain ⟨⟨h1, h2⟩, h3⟩ := h
    subst h1
    exact se_fld g h2 (iha.e _ _ h3 g).1
include iha in
theorem ck_make (c : Nat) : CkOk (.make c a) := by
  refine .mkV rfl rfl (by simp) (by simp) (by simp) (by simp) (by simp) (by simp) (fun C ex h => ?_) fun C ex h {_ _ _ _ _ _} g => ?_ <;> rw [ckE] at h <;> split at h <;> first | (cases h; done) | skip
  · rename_i e; obtain ⟨p, q, rfl⟩ := xCallN_ok e; rfl
  · rename_i e
    obtain ⟨p, q, rfl⟩ := xCallN_ok e
    simp only [Bool.and_eq_true, Bool.not_eq_true'] at h
    obtain ⟨⟨⟨h1, h2⟩, h3⟩, h4⟩ := h
    obtain ⟨k1, k2, k3⟩ := glo_ok h2
    exact se_make g h1 k1 k2 k3 h3 (iha.l _ _ h4 g)
include iha ihb in
theorem ck_meth (m : Nat) : CkOk (.meth a m b) := by
  refine .mkV rfl rfl (by simp) (by simp) (by simp) (by simp) (by simp) (by simp) (fun C ex h => ?_) fun C ex h {W B E ξ Wx X} g => ?_ <;> rw [ckE] at h <;> split at h <;> first | (cases h; done) | skip
  · rename_i e; obtain ⟨p, q, rfl, _⟩ := xCallA_ok e; rfl
  · rename_i e
    obtain ⟨p, q, rfl, hln⟩ := xCallA_ok e
    simp only [Bool.and_eq_true, Bool.not_eq_true', decide_eq_true_eq] at h
    obtain ⟨⟨⟨⟨⟨⟨⟨h1, h2⟩, h3⟩, h4⟩, h5⟩, h6⟩, h7⟩, h8⟩ := h
    rw [h1] at hln
    have := isS_ok h2; subst this
    exact se_meth g h3 h6 h4 h5 hln (iha.e _ _ h7 g).1 (ihb.l _ _ h8 g)
include iha ihb ihc in
theorem ck_slice : CkOk (.slice a b c) := by
  refine .mkN (by simp [ckE]) rfl (by simp) (by simp) (by simp) (by simp) (by simp) (by simp) fun C ex h {_ _ _ _ _ _} g => ?_
  rw [ckN] at h
  split at h <;> first | (cases h; done) | skip
  rename_i e
  obtain ⟨p, rfl⟩ := xSub_ok e
  split at h <;> first | (cases h; done) | skip
  rename_i e2
  obtain ⟨p2, e3⟩ := xSl_ok e2
  subst e3
  simp only [Bool.and_eq_true] at h
  exact sn_slice g (iha.e _ _ h.1.1 g).1 (ihb.o _ _ h.1.2 g) (ihc.o _ _ h.2 g)
include iha in
theorem ck_rev : CkOk (.rev a) := by
  refine .mkN (by simp [ckE]) rfl (by simp) (by simp) (by simp) (by simp) (by simp) (by simp) fun C ex h {_ _ _ _ _ _} g => ?_
  rw [ckN] at h
  split at h <;> first | (cases h; done) | skip
  rename_i e
  obtain ⟨p, rfl⟩ := xSub_ok e
  rw [Bool.and_eq_true] at h
  obtain ⟨k, q1, q2, q3, e3⟩ := xM1_ok h.1
  subst e3
  exact sn_rev g (iha.e _ _ h.2 g).1
include iha in
theorem ck_step2 : CkOk (.step2 a) := by
  refine .mkN (by simp [ckE]) rfl (by simp) (by simp) (by simp) (by simp) (by simp) (by simp) fun C ex h {_ _ _ _ _ _} g => ?_
  rw [ckN] at h
  split at h <;> first | (cases h; done) | skip
  rename_i e
  obtain ⟨p, rfl⟩ := xSub_ok e
  rw [Bool.and_eq_true] at h
  obtain ⟨k, q1, q3, e3⟩ := xS2_ok h.1
  subst e3
  exact sn_step2 g (iha.e _ _ h.2 g).1
include iha ihb in
theorem ck_cat : CkOk (.cat a b) := by
  refine .mkN (by simp [ckE]) rfl (by simp) (by simp) (by simp) (by simp) (by simp) (by simp) fun C ex h {_ _ _ _ _ _} g => ?_
  rw [ckN] at h
  split at h <;> first | (cases h; done) | skip
  rename_i e
  obtain ⟨p, rfl⟩ := xBin_ok e
  simp only [Bool.and_eq_true] at h
  have := opB_ok h.1.1
  subst this
  exact sn_cat (iha.e _ _ h.1.2 g).1 (ihb.e _ _ h.2 g).1
include iha ihb in
theorem ck_rep : CkOk (.rep a b) := by
  refine .mkN (by simp [ckE]) rfl (by simp) (by simp) (by simp) (by simp) (by simp) (by simp) fun C ex h {_ _ _ _ _ _} g => ?_
  rw [ckN] at h
  split at h <;> first | (cases h; done) | skip
  rename_i e
  obtain ⟨p, rfl⟩ := xBin_ok e
  simp only [Bool.and_eq_true] at h
  have := opB_ok h.1.1
  subst this
  exact sn_rep (iha.e _ _ h.1.2 g).1 (ihb.e _ _ h.2 g).1
include iha in
theorem ck_lrange : CkOk (.lrange a) := by
  refine .mkN (by simp [ckE]) rfl (by simp) (by simp) (by simp) (by simp) (by simp) (by simp) fun C ex h {_ _ _ _ _ _} g => ?_
  rw [ckN] at h
  split at h <;> first | (cases h; done) | skip
  rename_i e
  obtain ⟨p, q, rfl⟩ := xCallN_ok e
  simp only [Bool.and_eq_true, Bool.not_eq_true'] at h
  obtain ⟨⟨⟨h1, h2⟩, h3⟩, h4⟩ := h
  split at h4 <;> first | (cases h4; done) | skip
  rename_i e2
  obtain ⟨p2, q2, rfl⟩ := xCallN_ok e2
  simp only [Bool.and_eq_true] at h4
  have := isS_ok h2; subst this
  have := isS_ok h4.1.1.1; subst this
  exact sn_lrange g h1 h3 h4.1.1.2 h4.1.2 (iha.e _ _ h4.2 g).1
include iha in
theorem ck_wL : CkOk (.wL a) := .mkI (by simp [ckE]) rfl (by simp) (by simp) (by simp) (by simp) (by simp) (by simp) fun C tg ex h {_ _ _ _ _ _} g => by
  rw [ckI] at h; exact si_wL g (iha.e _ _ h g).1
include iha in
theorem ck_wT : CkOk (.wT a) := .mkI (by simp [ckE]) rfl (by simp) (by simp) (by simp) (by simp) (by simp) (by simp) fun C tg ex h {_ _ _ _ _ _} g => by
  rw [ckI] at h; exact si_wT g (iha.e _ _ h g).1
include iha in
theorem ck_wQ : CkOk (.wQ a) := .mkI (by simp [ckE]) rfl (by simp) (by simp) (by simp) (by simp) (by simp) (by simp) fun C tg ex h {_ _ _ _ _ _} g => by
  rw [ckI] at h; exact si_wQ g (iha.e _ _ h g).1
include iha in
theorem ck_wR1 : CkOk (.wR1 a) := .mkI (by simp [ckE]) rfl (by simp) (by simp) (by simp) (by simp) (by simp) (by simp) fun C tg ex h {_ _ _ _ _ _} g => by
  rw [ckI] at h
  split at h <;> first | (cases h; done) | skip
  rename_i e
  obtain ⟨p, q, rfl⟩ := xCallN_ok e
  simp only [Bool.and_eq_true] at h
  have := isS_ok h.1.1.1; subst this
  exact si_wR1 g h.1.1.2 h.1.2 (iha.e _ _ h.2 g).1
include iha ihb in
theorem ck_wR2 : CkOk (.wR2 a b) := .mkI (by simp [ckE]) rfl (by simp) (by simp) (by simp) (by simp) (by simp) (by simp) fun C tg ex h {_ _ _ _ _ _} g => by
  rw [ckI] at h
  split at h <;> first | (cases h; done) | skip
  rename_i e
  obtain ⟨p, q, rfl⟩ := xCallN_ok e
  simp only [Bool.and_eq_true] at h
  obtain ⟨⟨⟨⟨⟨h1, h2⟩, h3⟩, h4⟩, h5⟩, h6⟩ := h
  have := isS_ok h1; subst this
  exact si_wR2 g h2 h3 h4 (iha.e _ _ h5 g).1 (ihb.e _ _ h6 g).1
include iha in
theorem ck_wEn : CkOk (.wEn a) := .mkI (by simp [ckE]) rfl (by simp) (by simp) (by simp) (by simp) (by simp) (by simp) fun C tg ex h {_ _ _ _ _ _} g => by
  rw [ckI, Bool.and_eq_true] at h
  obtain ⟨ht, h⟩ := h
  obtain ⟨es, et⟩ := Option.isSome_iff_exists.mp ht
  obtain ⟨k, pt, rfl⟩ := xTup_ok et
  split at h <;> first | (cases h; done) | skip
  rename_i e
  obtain ⟨p, q, rfl⟩ := xCallN_ok e
  simp only [Bool.and_eq_true] at h
  have := isS_ok h.1.1.1; subst this
  exact si_wEn g h.1.1.2 h.1.2 (iha.e _ _ h.2 g).1
include iha ihb in
theorem ck_wZip : CkOk (.wZip a b) := .mkI (by simp [ckE]) rfl (by simp) (by simp) (by simp) (by simp) (by simp) (by simp) fun C tg ex h {_ _ _ _ _ _} g => by
  rw [ckI, Bool.and_eq_true] at h
  obtain ⟨ht, h⟩ := h
  obtain ⟨es, et⟩ := Option.isSome_iff_exists.mp ht
  obtain ⟨k, pt, rfl⟩ := xTup_ok et
  split at h <;> first | (cases h; done) | skip
  rename_i e
  obtain ⟨p, q, rfl⟩ := xCallN_ok e
  simp only [Bool.and_eq_true] at h
  obtain ⟨⟨⟨⟨⟨h1, h2⟩, h3⟩, h4⟩, h5⟩, h6⟩ := h
  have := isS_ok h1; subst this
  exact si_wZip g h2 h3 h4 (iha.e _ _ h5 g).1 (ihb.e _ _ h6 g).1
include iha ihb in
theorem ck_lzip : CkOk (.lzip a b) := by
  refine .mkN (by simp [ckE]) rfl (by simp) (by simp) (by simp) (by simp) (by simp) (by simp) fun C ex h {_ _ _ _ _ _} g => ?_
  rw [ckN] at h
  split at h <;> first | (cases h; done) | skip
  rename_i e
  obtain ⟨p, q, rfl⟩ := xCallN_ok e
  simp only [Bool.and_eq_true, Bool.not_eq_true'] at h
  obtain ⟨⟨⟨h1, h2⟩, h3⟩, h4⟩ := h
  split at h4 <;> first | (cases h4; done) | skip
  rename_i e2
  obtain ⟨p2, q2, rfl⟩ := xCallN_ok e2
  simp only [Bool.and_eq_true] at h4
  obtain ⟨⟨⟨⟨⟨k1, k2⟩, k3⟩, k4⟩, k5⟩, k6⟩ := h4
  have := isS_ok h2; subst this
  have := isS_ok k1; subst this
  exact sn_lzip g h1 h3 k2 k3 k4 (iha.e _ _ k5 g).1 (ihb.e _ _ k6 g).1
end
end TW
/-! TWhc -/
set_option Elab.async false
set_option linter.all false
set_option maxRecDepth 100000
namespace TW
open PySem PySem.Spec PyProof.Rows L2
/-! ### a list comprehension over a range within an except suite: turns that leave the heap as it is -/
/-- the block's context, which bears the handled exception -/
def hblk (X : Cx) (p : Addr × Obj) (s : Shared) (H : Hp) (scope : Scope) (ce : PySem.Env) (fp : List Addr) : Cx := { X.blk s H scope ce fp with pn := [p] }
section
variable {X : Cx} {p : Addr × Obj} {s0 : Shared} {H0 : Hp} {scope : Scope} {ce : PySem.Env} {fp : List Addr}
theorem hblk_of {τ : L2.St} {H : Hp} {s : Shared} (I : Inv (X.blk s0 H0 scope ce fp) [] τ H s) (hp : s.heap.get? p.1 = some p.2 ∧ H p.1 = none ∧ p.1 ≠ ce.locals ∧ p.1 ∉ frs X.stack ∧ ∀ v, p.2.data ≠ .cell v) : Inv (hblk X p s0 H0 scope ce fp) [] τ H s where
  ok := ⟨I.ok.mod, I.ok.kind, I.ok.glob, I.ok.blt, I.ok.above, I.ok.inj, I.ok.has, I.ok.cab, I.ok.hd, I.ok.frames, I.ok.stk, I.ok.exf, I.ok.bs, I.ok.bsz, I.ok.noex, I.ok.exfs, I.ok.funs, I.ok.frf⟩
  os := I.os
  bare := I.bare
  base := I.base
  loc := I.loc
  cell := I.cell
  free := I.free
  freeC := I.freeC
  pin := fun q hq => by
    have e : q = p := by simpa using (show q ∈ [p] ++ [] from hq)
    rw [e]
    exact hp
  hok := I.hok
  len := I.len
theorem hblk_hot (h : L2H.Hot1 X.A p) : L2H.HotC (hblk X p s0 H0 scope ce fp) := ⟨p, h, List.mem_singleton.mpr rfl⟩
end
section
variable {X : Cx} {p : Addr × Obj} {tg elt iter : Expr} {scope : Scope} {own : List (Str × Nat)} {n : Nat} {y : Nat → V} {τ : L2.St} {H : Hp} {D : Addr} {sB : Shared} {ce : PySem.Env} {fp : List Addr} {it : Addr} {tn : Nat → Heap → Prop}
/-- the new list's items before the i-th turn -/
def fil (y : Nat → V) (i : Nat) : List V := (List.range i).map y
theorem fil_succ (i : Nat) : fil y (i + 1) = fil y i ++ [y i] := by
  unfold fil
  rw [List.range_succ, List.map_append]
  rfl
/-- what holds ahead of the i-th turn -/
structure HT (X : Cx) (p : Addr × Obj) (scope : Scope) (vs : List Nat) (y : Nat → V) (τ : L2.St) (H : Hp) (D : Addr) (sB : Shared) (ce : PySem.Env) (fp : List Addr) (tn : Nat → Heap → Prop) (i : Nat) (s : Shared) : Prop where
  inv : Inv (hblk X p sB (upd H D (.lst [])) scope ce fp) [] (L2.wipe τ vs) (upd H D (.lst (fil y i))) s
  at_ : tn i s.heap
  fre : ∀ b ∈ fp, upd H D (.lst (fil y i)) b = none
theorem fpo {σ' : L2.St} {H' : Hp} {s : Shared} {pns : List (Addr × Obj)} (I : Inv (hblk X p sB (upd H D (.lst [])) scope ce fp) pns σ' H' s) (np : ∀ b ∈ fp, p.1 ≠ b) (b : Addr) (hb : b ∈ fp) (h : H' b = none) : FpOk (hblk X p sB (upd H D (.lst [])) scope ce fp) [] H' b := by
  refine ⟨h, (I.ok.exf b hb).1, I.ok.exfs b hb, .inl hb, fun x c e => (I.ok.exf b hb).2 x c e, fun q hq => ?_⟩
  have e : q = p := by simpa using (show q ∈ [p] ++ [] from hq)
  rw [e]
  exact np b hb
/-- a turn's body: the target set, the item told, the heap left alone -/
def BodyOk (X : Cx) (p : Addr × Obj) (tg elt : Expr) (scope : Scope) (vs : List Nat) (n : Nat) (y : Nat → V) (τ : L2.St) (H : Hp) : Prop :=
  ∀ (i : Nat) (s : Shared) (H0 : Hp) (D : Addr) (l : List V) (C0 : Addr) (cl : List (Str × Addr)) (fp : List Addr) (pins : List (Addr × Obj)) (s' : Shared) (u : Value), i < n → H D = none → Inv (hblk X p s H0 scope (compEnvC scope cl C0 X.env) fp) pins (L2.wipe τ vs) (upd H D (.lst l)) s' → RelV (.int i) u →
    wpAny (model X.prog X.w) X.A (assign tg (compEnvC scope cl C0 X.env) u) (fun _ s1 => ∃ σ1, L2.wipe σ1 vs = L2.wipe τ vs ∧ Inv (hblk X p s H0 scope (compEnvC scope cl C0 X.env) fp) pins σ1 (upd H D (.lst l)) s1 ∧
      wpAny (model X.prog X.w) X.A (eval elt (compEnvC scope cl C0 X.env)) (fun v s2 => RelV (y i) v ∧ Inv (hblk X p s H0 scope (compEnvC scope cl C0 X.env) fp) pins σ1 (upd H D (.lst l)) s2) (fun _ _ => False) s1) (fun _ _ => False) s'
theorem ht_next {cl : List (Str × Addr)} {C0 : Addr} {i : Nat} {s : Shared} {R : Nat → Shared → Prop} {Er : Value → Shared → Prop} (hce : ce = compEnvC scope cl C0 X.env) (hot : L2H.Hot1 X.A p) (T : L2H.TurnH X.prog X.w X.K tg (Itr 0 n) fp it tn) (body : BodyOk X p tg elt scope (own.map (·.2)) n y τ H) (freD : H D = none) (np : ∀ b ∈ fp, p.1 ≠ b) (nD : D ∉ fp) (hn : n < 1000000) (hi : i < n)
    (L : HT X p scope (own.map (·.2)) y τ H D sB ce fp tn i s) (go : ∀ s', HT X p scope (own.map (·.2)) y τ H D sB ce fp tn (i + 1) s' → R (i + 1) s') :
    wpAny (model X.prog X.w) X.A (pyNext (.ref it)) (fun r s₁ => ∃ v, r = some v ∧ wpAny (model X.prog X.w) X.A (letOwnedTupleGo tg (.ref it) v) (fun _ s₂ => wpAny (model X.prog X.w) X.A (assign tg ce v) (fun _ s₃ =>
      wpAny (model X.prog X.w) X.A (eval elt ce) (fun x s₄ => wpAny (model X.prog X.w) X.A (call (.builtin "list.append") [.ref D, x]) (fun _ s₅ => R (i + 1) s₅) Er s₄) Er s₃) Er s₂) Er s₁) Er s := by
  refine thnF (T.item (hblk X p sB (upd H D (.lst [])) scope ce fp) rfl rfl rfl (hblk_hot hot) i [] s _ _ (fun _ _ => False) L.inv (fun b hb => fpo L.inv np b hb (L.fre b hb)) L.at_ hi) fun r s1 ⟨u, er, k1⟩ => ⟨u, er, ?_⟩
  refine thnF k1 fun _ s2 ⟨x, H2, I2, rx, ⟨eH, ex⟩, t2, f2⟩ => ?_
  subst eH ex
  have P2 := I2.pinned (fun b hb => fpo I2 np b hb (f2 b hb)) (T.obj _ _ t2)
  have e0 : (0 : Int) + (i : Nat) = (i : Nat) := by omega
  rw [e0] at rx
  subst hce
  refine thnF (body i _ _ D _ _ _ _ _ s2 u hi freD P2 rx) fun _ s3 ⟨σ3, w3, I3, k3⟩ => ?_
  refine thnF k3 fun v s4 ⟨rv, I4⟩ => ?_
  have few : (fil y i).length < sizeLine := by
    unfold fil
    rw [List.length_map, List.length_range]
    exact lt_line (by show i ≤ 1000000; omega)
  refine app_ok (X := hblk X p sB (upd H D (.lst [])) scope (compEnvC scope cl C0 X.env) fp) I4 upd_same few rv fun s5 I5 => go s5 ?_
  rw [upd_upd, ← fil_succ] at I5
  have held : ∀ b ∈ fp, ∀ o, s2.heap.get? b = some o → s5.heap.get? b = some o := fun b hb o e => (I5.pin (b, o) (List.mem_append_right _ (List.mem_append_right _ (mem_pinsAt hb e)))).1
  refine ⟨(I5.unpinned (pins := [])).weak (by rw [← w3, wipe_length]) fun j v e => ?_, T.keep _ _ _ t2 held, fun b hb => ?_⟩
  · rw [← w3] at e
    exact (wipe_some e).1
  · have nb : b ≠ D := fun e => nD (by rw [← e]; exact hb)
    rw [upd_ne nb]
    have := f2 b hb
    rwa [upd_ne nb] at this
/-- the whole comprehension -/
theorem hot_range {wi : TI} {pins : List (Addr × Obj)} {s : Shared} {pos : Pos} (hot : L2H.Hot1 X.A p) (hm : p ∈ X.pn) (hN : X.N.Nodup) (hi : L2H.PIH X tg iter wi) (hw : wi τ H fun J H1 => J = Itr 0 n ∧ H1 = H) (ok : BlkOk X.N X.env.scope scope own)
    (body : BodyOk X p tg elt scope (own.map (·.2)) n y τ H) (hn : n < 1000000) (hs : ∀ x, foldedSetIterable iter X.env x = pure x) (I : Inv X pins τ H s) :
    wpAny (model X.prog X.w) X.A (eval (.ListComp elt [⟨tg, iter, [], 0⟩] scope pos) X.env) (fun u s' => ∃ D, u = .ref D ∧ H D = none ∧ Inv X pins τ (upd H D (.lst (fil y n))) s') X.xe s := by
  rw [eval_ListComp]
  have cap : ∀ z ∈ scope.names, z.2 = .free → ∃ c, X.env.cells.lookup z.1 = some c := fun z hz e => (ok.free z hz e).elim (fun k => I.ok.has _ (.inl k)) fun k => I.ok.has _ (.inr k)
  refine wpAny_comprehension_free rfl hs (closure_ok cap) ok.kind (fun z hz e => (ok.uniq z hz).trans (congrArg some e)) ?_
  refine thn (hi.run pins s τ H _ I hw) fun _ _ k1 => thn k1 fun itv s2 k2 => ?_
  obtain ⟨it, fp, tn, J, H2, eit, I2, T, t2, f2, eJ, eH⟩ := k2
  subst eit eJ
  rw [eH] at I2 f2
  refine wpAny_newList (newEnv_comp ?_)
  obtain ⟨D, eD⟩ : ∃ D, D = s2.heap.objs.size := ⟨_, rfl⟩
  have freD : H D = none := I2.hok.fresh (Nat.le_of_eq eD.symm)
  obtain ⟨sB, eB⟩ : ∃ sB : Shared, sB = { s2 with heap := s2.heap.push { cls := .type "list", data := .seq ([] : List Value).toArray } } := ⟨_, rfl⟩
  have grow : ∀ b o, s2.heap.get? b = some o → sB.heap.get? b = some o := fun b o e => by rw [eB]; exact Heap.get?_push_of_some _ e
  have IB : Inv X pins τ (upd H D (.lst [])) sB := by
    rw [eB, eD]
    exact I2.laid (t' := s2.toks) (fun b o e => Heap.get?_push_of_some _ e) (Nat.le_refl _) ⟨Nat.zero_le _, [], 0, .nil, Heap.get?_push_size _ rfl⟩
  have low : ∀ b ∈ fp, b < D := fun b hb => by
    obtain ⟨o, e, _⟩ := T.obj _ _ t2 b hb
    rw [eD]
    exact Heap.lt_size e
  have nD : D ∉ fp := fun h => Nat.lt_irrefl _ (low D h)
  have fre : ∀ b ∈ fp, upd H D (.lst []) b = none := fun b hb => by
    rw [upd_ne (Nat.ne_of_lt (low b hb))]
    exact (f2 b hb).1
  have fB : ∀ b ∈ fp, FpOk X pins (upd H D (.lst [])) b ∧ b < sB.heap.objs.size := fun b hb => ⟨⟨fre b hb, (f2 b hb).2⟩, by
    obtain ⟨o, e, _⟩ := T.obj _ _ t2 b hb
    exact Heap.lt_size (grow b o e)⟩
  have np : ∀ b ∈ fp, p.1 ≠ b := fun b hb => (f2 b hb).2.2.2.2.2 p (List.mem_append_left _ hm)
  obtain ⟨g1, g2, g3, g4, g5⟩ := IB.pin p (List.mem_append_left _ hm)
  have S0 := block_start IB ok hN fB
  obtain ⟨C, eC⟩ : ∃ C, C = sB.heap.objs.size := ⟨_, rfl⟩
  obtain ⟨cl, ecl⟩ : ∃ cl, cl = cellsFrom (sB.heap.objs.size + 1) scope.names (cloFrom X.env.cells scope.names []) := ⟨_, rfl⟩
  obtain ⟨sL, eL⟩ : ∃ sL : Shared, sL = { sB with heap := pushCells (sB.heap.push { cls := .type "dict", data := .dict #[] }) scope.names } := ⟨_, rfl⟩
  have keepL : ∀ b o, sB.heap.get? b = some o → sL.heap.get? b = some o := fun b o e => by rw [eL]; exact pushCells_keeps _ _ _ _ (Heap.get?_push_of_some _ e)
  rw [← ecl, ← eL, ← eC] at S0
  have L0 : HT X p scope (own.map (·.2)) y τ H D sB (compEnvC scope cl C X.env) fp tn 0 sL := by
    refine ⟨hblk_of S0 ⟨keepL _ _ g1, g2, fun e => ?_, fun e => ?_, g5⟩, T.keep _ _ _ t2 fun b _ o e => keepL b o (grow b o e), fre⟩
    · have := Heap.lt_size g1
      rw [e] at this
      exact absurd this (by rw [eC]; exact Nat.lt_irrefl _)
    · rcases I.ok.stk with z | ⟨z, zf⟩
      · rw [z] at e
        exact g4 e
      · rw [z] at e
        unfold frs at e
        rw [List.filterMap_cons, zf] at e
        rcases List.mem_cons.mp e with e | e
        · exact g3 e
        · exact g4 e
  show codeAny _ _ (.compStart (.ListComp elt [⟨tg, iter, [], 0⟩] scope pos) 0 (.ref it) (.ref s2.heap.objs.size) (compEnvC scope (cellsFrom ((s2.heap.push { cls := .type "list", data := .seq ([] : List Value).toArray }).objs.size + 1) scope.names (cloFrom X.env.cells scope.names [])) (s2.heap.push { cls := .type "list", data := .seq ([] : List Value).toArray }).objs.size X.env)) (compPost (model X.prog X.w) X.A X.xe none _ (.ref s2.heap.objs.size) (s2.heap.push { cls := .type "list", data := .seq ([] : List Value).toArray }).objs.size) { s2 with heap := pushCells ((s2.heap.push { cls := .type "list", data := .seq ([] : List Value).toArray }).push { cls := .type "dict", data := .dict #[] }) scope.names }
  have hB : s2.heap.push { cls := .type "list", data := .seq ([] : List Value).toArray } = sB.heap := by rw [eB]
  have hL : ({ s2 with heap := pushCells (sB.heap.push { cls := .type "dict", data := .dict #[] }) scope.names } : Shared) = sL := by rw [eL, eB]
  rw [hB, ← ecl, ← eC, ← eD, hL]
  have run : codeAny (model X.prog X.w) X.A (.compLoop (.ListComp elt [⟨tg, iter, [], 0⟩] scope pos) 0 (.ref it) (.ref D) (compEnvC scope cl C X.env)) (compPost (model X.prog X.w) X.A X.xe none (fun u s' => ∃ D, u = .ref D ∧ H D = none ∧ Inv X pins τ (upd H D (.lst (fil y n))) s') (.ref D) C) sL := by
    refine compLoop_any (fun m s' => m ≤ n ∧ HT X p scope (own.map (·.2)) y τ H D sB (compEnvC scope cl C X.env) fp tn (n - m) s') ?_ n ⟨Nat.le_refl _, by rw [Nat.sub_self]; exact L0⟩
    rintro m s' ⟨hm', L⟩
    cases m with
    | zero =>
      rw [Nat.sub_zero] at L
      refine thnF (T.done (hblk X p sB (upd H D (.lst [])) scope (compEnvC scope cl C X.env) fp) rfl rfl rfl (hblk_hot hot) n [] s' _ _ (fun _ _ => False) L.inv (fun b hb => fpo L.inv np b hb (L.fre b hb)) L.at_ (Nat.le_refl _)) fun r s6 ⟨er, I6⟩ => ?_
      subst er
      have I7 : Inv X pins τ (upd H D (.lst (fil y n))) s6 := IB.call' (ch := fp) I6.os I6.base I6.hok I6.bare fun b hb => ⟨(f2 b hb).2.2.2.1, (f2 b hb).2.1, (f2 b hb).2.2.2.2.1, (f2 b hb).2.2.2.2.2⟩
      have nC : upd H D (.lst (fil y n)) C = none := I6.free
      obtain ⟨q0, q1, q2, q3, q4, q5⟩ := IB.fpOk (b := C) (Nat.le_of_eq eC.symm) nC
      obtain ⟨mm, hns, _⟩ := I6.loc
      exact ⟨mm, hns, fun h' sb => ⟨D, rfl, freD, I7.turned (t' := s6.toks) (fun b o hb e => (sb.2 b hb).trans e) q0 q1 q3 q4 q5⟩⟩
    | succ m =>
      have lt : n - (m + 1) < n := by omega
      have e1 : n - (m + 1) + 1 = n - m := by omega
      refine wpAny_mono (ht_next (R := fun j s' => HT X p scope (own.map (·.2)) y τ H D sB (compEnvC scope cl C X.env) fp tn j s') rfl hot T body freD np nD hn lt L fun s' h => h) (fun r s6 ⟨u, er, k⟩ => ?_) fun _ _ h => h
      subst er
      refine thn k fun _ s7 k7 => thn k7 fun _ s8 k8 => wpAny_tests_nil ?_
      rw [if_pos rfl]
      refine thn k8 fun v s9 k9 => thn k9 fun _ s10 k10 => ⟨m, Nat.lt_succ_self m, by omega, ?_⟩
      rw [e1] at k10
      exact k10
  exact codeAny_compStart_list run (T.self X.A 0 _ _ _ L0.at_ run)
end
end TW
/-! TWhd -/
set_option Elab.async false
set_option linter.all false
set_option maxRecDepth 100000
namespace TW
open PySem PySem.Spec PyProof.Rows L2
/-- turns that tell one thing each, or one of them goes wrong -/
theorem compGo_or {f : U → Sto → R (Option U)} {S : Sto} : ∀ (items : List U), (∀ u ∈ items, (∃ r, f u S = .ok (some r) S) ∨ f u S = .bad) → (∀ u ∈ items, ∃ r, f u S = .ok (some r) S) ∨ compGo f items S = .bad
  | [], _ => .inl fun u h => absurd h List.not_mem_nil
  | u :: us, h => by
    rcases h u List.mem_cons_self with ⟨r, e⟩ | e
    · rcases compGo_or us fun x hx => h x (List.mem_cons_of_mem _ hx) with k | k
      · refine .inl fun x hx => ?_
        rcases List.mem_cons.mp hx with rfl | hx
        · exact ⟨r, e⟩
        · exact k x hx
      · refine .inr ?_
        rw [compGo, e]
        show (compGo f us S).bind _ = _
        rw [k]
        rfl
    · refine .inr ?_
      rw [compGo, e]
      rfl
theorem compGo_map {f : U → Sto → R (Option U)} {g : U → U} {S : Sto} : ∀ {items : List U}, (∀ u ∈ items, f u S = .ok (some (g u)) S) → compGo f items S = .ok (items.map g) S
  | [], _ => by rw [compGo]; rfl
  | u :: us, h => by
    rw [compGo, h u List.mem_cons_self]
    show (compGo f us S).bind _ = _
    rw [compGo_map fun x hx => h x (List.mem_cons_of_mem _ hx)]
    rfl
theorem range_get : ∀ (n : Nat) (lo : Int), rangeU lo 1 n = (List.range n).map fun (i : Nat) => U.int (lo + i)
  | 0, _ => rfl
  | n + 1, lo => by
    rw [rangeU, range_get n, List.range_succ_eq_map, List.map_cons, List.map_map]
    congr 1
    · simp
    · refine List.map_congr_left fun i _ => ?_
      show U.int (lo + 1 + (i : Int)) = U.int (lo + ((i + 1 : Nat) : Int))
      congr 1
      omega
section
variable {C : CC} {W : Wd} {B : Hp} {E : Env} {ξ : Option (Nat × Addr)} {Wx : WX} {X : Cx}
theorem sn_hot {op : COp} {x xa xb : Str} {i ja jb : Nat} {n : Int} {kn : Nat} {q : IE} {scope : Scope} {own : List (Str × Nat)} {p1 p2 p3 p4 p5 p6 p7 pos : Pos} (g : GX C W E ξ Wx X) (hh : C.hot = true) (ok : BlkOk X.N X.env.scope scope own) (hb : bnB C "range" = true) (h0 : 0 ≤ n) (hn : n < 1000000)
    (hN : C.N[i]? = some x) (hx : locB scope x = true) (hio : own.map (·.2) = [i]) (ha : C.N[ja]? = some xa) (va : visB (relS scope C.sc) xa = true) (ka : okN xa = true) (hbb : C.N[jb]? = some xb) (vb : visB (relS scope C.sc) xb = true) (kb : okN xb = true) :
    SN W B E ξ Wx X (.ListComp (.Compare (.Name xa p1) [copOf op] [.Name xb p2] p3) [⟨.Name x p4, .Call (.Name "range" p5) [.Constant (.int n) kn p6] [] p7, [], 0⟩] scope pos) (.comp (.nm i) (.wR1 (.c (.int n))) false q (.cmp op (.v ja) (.v jb)) (own.map (·.2))) := by
  intro σ S F ρ G H τ Q Rl ro h
  obtain ⟨p, hot, hm⟩ := g.hc hh
  rw [evN_comp] at h
  have hq : ((IE.wR1 (.c (.int n))).isQ && !(q.quiet && (IE.cmp op (.v ja) (.v jb)).quiet)) = false := rfl
  rw [hq, if_neg Bool.false_ne_true] at h
  have ei : evI E σ (.wR1 (.c (.int n))) S = .ok (rangeU 0 1 n.toNat) S := by
    rw [evI, evE]
    show (if n < 1000000 ∧ -1000000 < n then TW.R.ok (rangeU 0 1 n.toNat) S else .bad) = _
    rw [if_pos ⟨hn, by omega⟩]
  rw [ei] at h
  have h : PoN W B (XWof W Wx τ) (compGo (compF E σ (.nm i) false q (.cmp op (.v ja) (.v jb)) (own.map (·.2))) (rangeU 0 1 n.toNat) S) F ρ S G Q := h
  -- one turn
  have one : ∀ u, (∃ b, compF E σ (.nm i) false q (.cmp op (.v ja) (.v jb)) (own.map (·.2)) u S = .ok (some (.bl b)) S ∧ ∃ a c, ((wipeU σ (own.map (·.2))).set i (some u))[ja]? = some (some a) ∧ ((wipeU σ (own.map (·.2))).set i (some u))[jb]? = some (some c) ∧ cmpU S op a c = some b) ∨ compF E σ (.nm i) false q (.cmp op (.v ja) (.v jb)) (own.map (·.2)) u S = .bad := by
    intro u
    have e : compF E σ (.nm i) false q (.cmp op (.v ja) (.v jb)) (own.map (·.2)) u S = (evE E ((wipeU σ (own.map (·.2))).set i (some u)) (.cmp op (.v ja) (.v jb)) S).bind fun r S4 => .ok (some r) S4 := rfl
    rw [e, evE, evE]
    cases ea : ((wipeU σ (own.map (·.2))).set i (some u))[ja]? with
    | none => exact .inr rfl
    | some oa => cases oa with
      | none => exact .inr rfl
      | some a =>
        simp only [TW.R.bind]
        rw [evE]
        cases ec : ((wipeU σ (own.map (·.2))).set i (some u))[jb]? with
        | none => exact .inr rfl
        | some oc => cases oc with
          | none => exact .inr rfl
          | some c =>
            dsimp only
            cases ek : cmpU S op a c with
            | none => exact .inr rfl
            | some b => exact .inl ⟨b, rfl, a, c, rfl, rfl, ek⟩
  rcases compGo_or (f := compF E σ (.nm i) false q (.cmp op (.v ja) (.v jb)) (own.map (·.2))) (S := S) (rangeU 0 1 n.toNat) (fun u _ => (one u).elim (fun ⟨b, e, _⟩ => .inl ⟨_, e⟩) .inr) with all | bad
  · have good : ∀ k : Nat, k < n.toNat → ∃ b, compF E σ (.nm i) false q (.cmp op (.v ja) (.v jb)) (own.map (·.2)) (.int k) S = .ok (some (.bl b)) S ∧ ∃ a c, ((wipeU σ (own.map (·.2))).set i (some (.int k)))[ja]? = some (some a) ∧ ((wipeU σ (own.map (·.2))).set i (some (.int k)))[jb]? = some (some c) ∧ cmpU S op a c = some b := by
      intro k hk
      rcases one (.int k) with z | z
      · exact z
      · obtain ⟨r, e⟩ := all (.int k) (by rw [range_get]; exact List.mem_map.mpr ⟨k, List.mem_range.mpr hk, by simp⟩)
        rw [z] at e
        cases e
    let bs : Nat → Bool := fun k => if hk : k < n.toNat then Classical.choose (good k hk) else false
    have gb : ∀ k : Nat, k < n.toNat → compF E σ (.nm i) false q (.cmp op (.v ja) (.v jb)) (own.map (·.2)) (.int k) S = .ok (some (.bl (bs k))) S ∧ ∃ a c, ((wipeU σ (own.map (·.2))).set i (some (.int k)))[ja]? = some (some a) ∧ ((wipeU σ (own.map (·.2))).set i (some (.int k)))[jb]? = some (some c) ∧ cmpU S op a c = some (bs k) := by
      intro k hk
      have := Classical.choose_spec (good k hk)
      have e : bs k = Classical.choose (good k hk) := dif_pos hk
      rw [e]
      exact this
    have eg : compGo (compF E σ (.nm i) false q (.cmp op (.v ja) (.v jb)) (own.map (·.2))) (rangeU 0 1 n.toNat) S = .ok ((List.range n.toNat).map fun k => U.bl (bs k)) S := by
      rw [range_get]
      have := compGo_map (f := compF E σ (.nm i) false q (.cmp op (.v ja) (.v jb)) (own.map (·.2))) (S := S) (g := fun u => match u with | .int k => .bl (bs k.toNat) | _ => U.non) (items := (List.range n.toNat).map fun (k : Nat) => U.int ((0 : Int) + k)) fun u hu => by
        obtain ⟨k, hk, rfl⟩ := List.mem_map.mp hu
        have e0 : (0 : Int) + (k : Nat) = (k : Nat) := by omega
        rw [e0]
        exact (gb k (List.mem_range.mp hk)).1
      rw [this, List.map_map]
      congr 1
      refine List.map_congr_left fun k _ => ?_
      show U.bl (bs ((0 : Int) + (k : Nat)).toNat) = _
      congr 2
      omega
    rw [eg] at h
    intro pins s I
    obtain ⟨hg, hmn⟩ := bn_ok g hb
    have body : BodyOk X p (.Name x p4) (.Compare (.Name xa p1) [copOf op] [.Name xb p2] p3) scope (own.map (·.2)) n.toNat (fun k => .bl (bs k)) τ H := by
      intro k s0 H0 D l C0 cl fp pns s' u hk hD I' ru
      obtain ⟨_, a, c, e1, e2, e3⟩ := gb k hk
      have RD : Rel W B F ρ S (upd G D (.lst l)) (upd H D (.lst l)) := Rl.aside hD
      have rw1 : RO W B F ρ S.length ((wipeU σ (own.map (·.2))).set i (some (.int k))) ((L2.wipe τ (own.map (·.2))).set i (some (.int k))) := (ro.ro.wipe _).set (.int k) i
      obtain ⟨va', g1, r1⟩ := rw1.get ja a e1
      obtain ⟨vb', g2, r2⟩ := rw1.get jb c e2
      have nm : PG (hblk X p s0 H0 scope (compEnvC scope cl C0 X.env) fp) (.Name x p4) (gName i) := by
        refine pg_name (i := i) g.nd (by show X.N[i]? = _; rw [g.N]; exact hN) ?_ ?_
        · rcases locB_ok hx with z | z
          · exact .inl (relS_keep (by decide) z)
          · exact .inr (relS_keep (by decide) z)
        · rcases locB_ok hx with z | z
          · exact .inr (relS_keep (by decide) z)
          · refine .inl ?_
            show (scope.names.lookup x == some .cell) = true
            rw [show scope.names.lookup x = some .cell from z]
            rfl
      have sc : (relS scope X.env.scope) = relS scope C.sc := by rw [g.sc]
      obtain ⟨a1, a2, _⟩ := okN_ok ka
      obtain ⟨b1, b2, _⟩ := okN_ok kb
      have pa : PE (hblk X p s0 H0 scope (compEnvC scope cl C0 X.env) fp) (.Name xa p1) (tVar ja) := pe_var (i := ja) (by show X.N[ja]? = _; rw [g.N]; exact ha) (by show Vis (relS scope X.env.scope) xa; rw [sc]; exact visB_ok va) a1 a2
      have pb : PE (hblk X p s0 H0 scope (compEnvC scope cl C0 X.env) fp) (.Name xb p2) (tVar jb) := pe_var (i := jb) (by show X.N[jb]? = _; rw [g.N]; exact hbb) (by show Vis (relS scope X.env.scope) xb; rw [sc]; exact visB_ok vb) b1 b2
      refine thn (nm.run pns s' _ _ (.int k) u (fun σ' H' => σ' = (L2.wipe τ (own.map (·.2))).set i (some (.int k)) ∧ H' = upd H D (.lst l)) I' ru ⟨rfl, rfl⟩) fun _ s1 ⟨σ1, H1, I1, eσ, eH⟩ => ?_
      subst eσ eH
      refine ⟨_, ?_, I1, ?_⟩
      · rw [hio, set_wipe (List.mem_singleton.mpr rfl), wipe_twice fun i hi => hi]
      · refine thn ((pe_cmpR (pOp _) pa pb rfl).run pns s1 _ _ (fun v H' => v = .bl (bs k) ∧ H' = upd H D (.lst l)) I1 ⟨va', g1, vb', g2, cmp_ok (X := hblk X p s0 H0 scope (compEnvC scope cl C0 X.env) fp) g.K g.un RD e3 r1 r2 ⟨rfl, rfl⟩⟩) fun v s2 ⟨w, H', I2, rv, ew, eH⟩ => ?_
        subst ew eH
        exact ⟨rv, I2⟩
    refine thn (hot_range (y := fun k => .bl (bs k)) (n := n.toNat) (H := H) (pos := pos) hot hm g.nd (L2H.pi_range1H hg hmn (pa_cons pe_int pa_nil (plain_star rfl [] X.env)) (plain_star rfl [] X.env)) ⟨n, rfl, by omega, by omega, rfl, rfl⟩ ok body (by omega) (plain_fold rfl X.env) I) fun u s' ⟨D, eu, hD, I'⟩ => ?_
    subst eu
    have hGD : G D = none := by
      cases e : G D with
      | none => rfl
      | some o => rw [(Rl.fr D o e).1] at hD; cases hD
    refine ⟨.ref D, _, I', rfl, h F ρ _ D (fil (fun k => .bl (bs k)) n.toNat) Stp.refl (Rl.aside hD) hGD (by rw [List.length_map, List.length_range]; show n.toNat ≤ 1000000; omega) ?_⟩
    unfold fil
    generalize List.range n.toNat = ks
    induction ks with
    | nil => exact .nil
    | cons k ks ih => exact .cons (.bl _) ih
  · rw [bad] at h
    exact h.elim
end
end TW
/-! TWhe -/
set_option Elab.async false
set_option linter.all false
set_option maxRecDepth 100000
namespace TW
open PySem PySem.Spec PyProof.Rows L2
/-! ### range of three -/
theorem rgC_ok {l h c : Int} (h1 : -1000000 < l ∧ l < 1000000 ∧ -1000000 < h ∧ h < 1000000 ∧ 0 < c ∧ c < 1000000) : RgC l h c (rangeN l h c) := by
  have q0 : l < h → 0 ≤ (h - l - 1) / c ∧ (h - l - 1) / c ≤ h - l - 1 := fun lt => ⟨Int.ediv_nonneg (by omega) (by omega), Int.ediv_le_self _ (by omega)⟩
  have sz : Builtin.Range.rangeSize l h c = rangeN l h c := by
    unfold Builtin.Range.rangeSize rangeN
    rw [if_pos h1.2.2.2.2.1]
    by_cases lt : l < h
    · rw [if_pos lt]
      have e : h - l + (c - 1) = h - l - 1 + 1 * c := by omega
      rw [e, Int.add_mul_ediv_right _ _ (by omega)]
      have := q0 lt
      omega
    · rw [if_neg lt]
      have : (h - l + (c - 1)) / c < 1 := Int.ediv_lt_of_lt_mul h1.2.2.2.2.1 (by omega)
      omega
  have up : rangeN l h c ≤ 2000000 := by
    unfold Builtin.Range.rangeSize at sz
    rw [if_pos h1.2.2.2.2.1] at sz
    by_cases lt : l < h
    · rw [if_pos lt] at sz
      have := q0 lt
      omega
    · rw [if_neg lt] at sz
      omega
  refine ⟨by omega, by omega, ?_, sz⟩
  unfold Builtin.Range.small
  rw [sz]
  simp only [Builtin.Range.rangeFitsLong, Bool.and_eq_true, Bool.or_eq_true, decide_eq_true_eq, beq_iff_eq, h1.2.2.2.2.1, if_true]
  have n0 : (0 : Int) ≤ rangeN l h c := by omega
  omega
theorem rangeN_le {l h c : Int} (h1 : -1000000 < l ∧ l < 1000000 ∧ -1000000 < h ∧ h < 1000000 ∧ 0 < c ∧ c < 1000000) (h2 : h - l ≤ 1000000) : rangeN l h c ≤ 1000000 := by
  unfold rangeN
  by_cases lt : l < h
  · have e : h - l + (c - 1) = h - l - 1 + 1 * c := by omega
    have : (h - l - 1) / c ≤ h - l - 1 := Int.ediv_le_self _ (by omega)
    rw [e, Int.add_mul_ediv_right _ _ (by omega)]
    omega
  · have : (h - l + (c - 1)) / c < 1 := Int.ediv_lt_of_lt_mul h1.2.2.2.2.1 (by omega)
    omega
section
variable {C : CC} {W : Wd} {B : Hp} {E : Env} {ξ : Option (Nat × Addr)} {Wx : WX} {X : Cx} {a b c : IE} {ea eb ec : Expr} {p1 pos : Pos}
theorem wok_range3 {q : Bool} {F : Hp} {ρ : Nat → Addr} {S : Sto} {lo c : Int} {n : Nat} (hn : n ≤ top) : WalkOk W B q (rangeU lo c n) F ρ S (Itc lo c n) := by
  refine ⟨by rw [rangeU_len]; exact hn, _, _, by rw [rangeU_len]; exact walk_rangeC, fun F1 ρ1 S1 G1 H1 st R1 hS => ⟨trivial, fun i x H2 u hu y => ?_⟩⟩
  obtain ⟨e, y⟩ := y
  subst e y
  rw [rangeU_get _ _ _ _ _ hu]
  exact ⟨F1, Stp.refl, R1, .int _⟩
theorem si_wR3 (g : GX C W E ξ Wx X) {tg : Expr} (hb : bnB C "range" = true) (hp : plainX ea = true) (hp2 : plainX eb = true) (hp3 : plainX ec = true) (ha : SE W B E ξ Wx X ea a) (hbb : SE W B E ξ Wx X eb b) (hcc : SE W B E ξ Wx X ec c) : SI W B E ξ Wx X tg (.Call (.Name "range" p1) [ea, eb, ec] [] pos) (.wR3 a b c) := by
  obtain ⟨hg, hm⟩ := bn_ok g hb
  have e3 := plain_star hp3 [] X.env
  have e2 := plain_star hp2 [ec] X.env
  have e1 := plain_star hp [eb, ec] X.env
  refine ⟨_, pi_range3 hg hm (pa_cons (pE ea) (pa_cons (pE eb) (pa_cons (pE ec) pa_nil e3) e2) e1) e1 (by rw [e2, e3]; rfl), fun σ S F ρ G H τ Q R ro h => ?_⟩
  rw [evI] at h
  refine ha σ S F ρ G H τ _ R ro (h.bind (RA := RV W B) fun x S1 F1 ρ1 H1 v st1 R1 r1 h1 => ?_)
  refine hbb σ S1 F1 ρ1 G H1 τ _ R1 (ro.mono st1) (h1.bind (RA := RV W B) fun y S2 F2 ρ2 H2 w st2 R2 r2 h2 => ?_)
  refine hcc σ S2 F2 ρ2 G H2 τ _ R2 ((ro.mono st1).mono st2) (h2.bind (RA := RV W B) fun z S3 F3 ρ3 H3 u st3 R3 r3 h3 => ?_)
  cases r1 with
  | int l =>
    cases r2 with
    | int h =>
      cases r3 with
      | int k =>
        dsimp only at h3
        split at h3
        · rename_i hn
          refine ⟨l, h, k, rangeN l h k, rfl, rgC_ok hn.1, h3.here R3 (wok_range3 ?_)⟩
          exact rangeN_le hn.1 hn.2
        · exact h3.elim
      | _ => exact h3.elim
    | _ => exact h3.elim
  | _ => exact h3.elim
end
theorem ck_wR3 {a b c : IE} (iha : CkOk a) (ihb : CkOk b) (ihc : CkOk c) : CkOk (.wR3 a b c) := .mkI (by simp [ckE]) rfl (by simp) (by simp) (by simp) (by simp) (by simp) (by simp) fun C tg ex h {_ _ _ _ _ _} g => by
  rw [ckI] at h
  split at h <;> first | (cases h; done) | skip
  rename_i e
  obtain ⟨p, q, rfl⟩ := xCallN_ok e
  simp only [Bool.and_eq_true] at h
  obtain ⟨⟨⟨⟨⟨⟨⟨h1, h2⟩, h3⟩, h4⟩, h5⟩, h6⟩, h7⟩, h8⟩ := h
  have := isS_ok h1; subst this
  exact si_wR3 g h2 h3 h4 h5 (iha.e _ _ h6 g).1 (ihb.e _ _ h7 g).1 (ihc.e _ _ h8 g).1
end TW
/-! TWU -/
set_option Elab.async false
set_option linter.all false
set_option maxRecDepth 100000
namespace TW
open PySem PySem.Spec PyProof.Rows L2
theorem ownN_map {C : CC} {own : List Nat} (h : (ownN C own).map (·.2) = own) {i : Nat} (hi : i ∈ own) : i ∈ (ownN C own).map (·.2) := by rw [h]; exact hi
/-- the parts of a comprehension that the checker let through -/
structure CompP (W : Wd) (B : Hp) (E : Env) (ξ : Option (Nat × Addr)) (Wx : WX) (X : Cx) (C : CC) (t : IT) (it : IE) (has : Bool) (q elt : IE) (own : List Nat) (eelt tg iter : Expr) (ifs : List Expr) (scope : Scope) (tt : TT) : Prop where
  hh : C.hot = false
  ok : BlkOk X.N X.env.scope scope (ownN C own)
  ow : (ownN C own).map (·.2) = own
  si : SI W B E ξ Wx X tg iter it
  sg : ∀ X', GX (C.blk scope) W E ξ never X' → SG W B ξ X' tg t
  tt : TtOk W B E ξ X scope ifs has q tt
  se : ∀ X', GX (C.blk scope) W E ξ never X' → SE W B E ξ never X' eelt elt
  sl : ∀ i ∈ t.slots, i ∈ (ownN C own).map (·.2)
  pl : plainX iter = true
theorem comp_parts {t : IT} {it q elt : IE} {has : Bool} {own : List Nat} {C : CC} {ex : Expr} (ihi : CkOk it) (ihq : CkOk q) (ihe : CkOk elt) (hc : C.hot = false) (h : ckN (.comp t it has q elt own) C ex = true) {W B E ξ Wx X} (g : GX C W E ξ Wx X) :
    ∃ eelt tg iter ifs scope p tt, ex = .ListComp eelt [⟨tg, iter, ifs, 0⟩] scope p ∧ CompP W B E ξ Wx X C t it has q elt own eelt tg iter ifs scope tt := by
  rw [ckN] at h
  split at h <;> first | (cases h; done) | skip
  rename_i eelt tg iter ifs scope e
  obtain ⟨p, ex0⟩ := xComp_ok e
  rw [hc, if_neg Bool.false_ne_true] at h
  have h1 := hc
  simp only [Bool.and_eq_true, Bool.not_eq_true', decide_eq_true_eq, List.all_eq_true] at h
  obtain ⟨⟨⟨⟨⟨⟨⟨h2, h3⟩, h4⟩, h5⟩, h6⟩, h7⟩, h8⟩, h9⟩ := h
  have ok := blkOk_by h2
  rw [← g.N, ← g.sc] at ok
  have key : ∃ tt, TtOk W B E ξ X scope ifs has q tt := by
    split at h8
    · exact ⟨_, tt_one g h1 fun X' g' => (ihq.e _ _ h8 g').2⟩
    · exact ⟨_, tt_none⟩
    · cases h8
  obtain ⟨tt, htt⟩ := key
  exact ⟨eelt, tg, iter, ifs, scope, p, tt, ex0, h1, ok, h3, ihi.i _ _ _ h6 g, fun X' g' => ckG_ok g' _ _ h7, htt, fun X' g' => (ihe.e _ _ h9 g').1, fun i hi => ownN_map h3 (h5 i hi), h4⟩
theorem hotB_ok {t : IT} {it q elt : IE} {has : Bool} {own : List Nat} {C : CC} {eelt tg iter : Expr} {ifs : List Expr} {scope : Scope} {p : Pos} (h : hotB C t it has elt own eelt tg iter ifs scope = true) {W B E ξ Wx X} (g : GX C W E ξ Wx X) (hc : C.hot = true) :
    SN W B E ξ Wx X (.ListComp eelt [⟨tg, iter, ifs, 0⟩] scope p) (.comp t it has q elt own) := by
  unfold hotB at h
  split at h <;> first | (cases h; done) | skip
  rename_i i n op ja jb i2
  split at h <;> first | (cases h; done) | skip
  rename_i ea o eb x r n2 kn pn e1 e2 e3
  split at h <;> first | (cases h; done) | skip
  rename_i xa xb e4 e5
  simp only [Bool.and_eq_true, decide_eq_true_eq] at h
  obtain ⟨⟨⟨⟨⟨⟨⟨⟨⟨⟨⟨⟨h1, h2⟩, h3⟩, h4⟩, h5⟩, h6⟩, h7⟩, h8⟩, h9⟩, h10⟩, h11⟩, h12⟩, h13⟩ := h
  subst h1 h2
  obtain ⟨pc, rfl⟩ := xCmp_ok e1
  obtain ⟨px, rfl⟩ := xName_ok e2
  obtain ⟨pr, pq, rfl⟩ := xCallN_ok e3
  obtain ⟨pa, rfl⟩ := xName_ok e4
  obtain ⟨pb, rfl⟩ := xName_ok e5
  have := copB_ok h5; subst this
  have := isS_ok h6; subst this
  have ok := blkOk_by h8
  rw [← g.N, ← g.sc] at ok
  obtain ⟨a1, a2, a3⟩ := vis_ok h12
  obtain ⟨b1, b2, b3⟩ := vis_ok h13
  have := sn_hot (q := q) (B := B) (op := op) (kn := kn) (own := ownN C [i]) (p1 := pa) (p2 := pb) (p3 := pc) (p4 := px) (p5 := pr) (p6 := pn) (p7 := pq) (pos := p) g hc ok h7 h3 h4 h10 h11 h9 a1 a2 a3 b1 b2 b3
  rw [h9] at this
  exact this
theorem ck_comp {t : IT} {it q elt : IE} {has : Bool} {own : List Nat} (ihi : CkOk it) (ihq : CkOk q) (ihe : CkOk elt) : CkOk (.comp t it has q elt own) := by
  refine .mkN (by simp [ckE]) rfl (by simp) (by simp) (by simp) (by simp) (by simp) (by simp) fun C ex h {W B E ξ Wx X} g => ?_
  cases hc : C.hot with
  | true =>
    rw [ckN] at h
    split at h <;> first | (cases h; done) | skip
    rename_i eelt tg iter ifs scope e
    obtain ⟨p, rfl⟩ := xComp_ok e
    rw [hc, if_pos rfl] at h
    exact hotB_ok h g hc
  | false =>
  obtain ⟨eelt, tg, iter, ifs, scope, p, tt, rfl, P⟩ := comp_parts (B := B) ihi ihq ihe hc h g
  have := sn_lc (pos := p) g P.hh P.ok P.si P.sg P.tt P.se P.sl P.pl
  rw [P.ow] at this
  exact this
/-- what the checker does not know -/
theorem CkOk.no {ie : IE} (he : ∀ C ex, ckE ie C ex = false) (hk : ie.kN = false) (hi : ie.kI = false) (h1 : ie ≠ .nil) (h2 : ∀ a b, ie ≠ .cons a b) (h3 : ie ≠ .none) (h4 : ∀ a, ie ≠ .opt a) (h5 : ∀ a b, ie ≠ .and a b) (h6 : ∀ a b, ie ≠ .or a b) : CkOk ie :=
  .mkE hk hi h1 h2 h3 h4 h5 h6 fun C ex h => by rw [he] at h; cases h
theorem ck_all (ie : IE) : CkOk ie := by
  induction ie with
  | c u => exact ck_c u
  | v i => exact ck_v i
  | g u => exact ck_g u
  | bin op a b iha ihb => exact ck_bin iha ihb op
  | neg a iha => exact ck_neg iha
  | cmp op a b iha ihb => exact ck_cmp iha ihb op
  | chain op op' a b c iha ihb ihc => exact ck_chain iha ihb ihc op op'
  | chain3 op op' op'' a b c d iha ihb ihc ihd => exact ck_chain3 iha ihb ihc ihd op op' op''
  | not a iha => exact ck_not iha
  | and a b iha ihb => exact ck_and iha ihb
  | or a b iha ihb => exact ck_or iha ihb
  | ife t a b iht iha ihb => exact ck_ife iha ihb iht
  | tup es ih => exact ck_tup ih
  | newF n ih => exact ck_newF ih
  | newM n ih => exact ck_newM ih
  | ix a b iha ihb => exact ck_ix iha ihb
  | callD m f es ih => exact ck_callD ih m f
  | callV m i es ih => exact ck_callV ih m i
  | bi b es ih => exact ck_bi ih b
  | lenSet a ih => exact ck_lenSet ih
  | mc b a e iha ihe => exact ck_mc iha ihe b
  | lm m a es iha ihes => exact ck_lm iha ihes m
  | lm0 m a iha => exact ck_lm0 iha m
  | isE i u => exact ck_isE i u
  | lmb k is => exact ck_lmb k is
  | fld a f iha => exact ck_fld iha f
  | make c es ih => exact ck_make ih c
  | meth a m es iha ihes => exact ck_meth iha ihes m
  | nil => exact ck_nil
  | cons e es ihe ihes => exact ck_cons ihe ihes
  | lst es ih => exact ck_lst ih
  | comp t it has q elt own ihi ihq ihe => exact ck_comp ihi ihq ihe
  | listOf a ih => exact ck_listOf ih
  | sorted a ih => exact ck_sorted ih
  | sortedSet a ih => exact ck_sortedSet ih
  | slice a lo hi iha ihl ihh => exact ck_slice iha ihl ihh
  | rev a ih => exact ck_rev ih
  | step2 a ih => exact ck_step2 ih
  | cat a b iha ihb => exact ck_cat iha ihb
  | rep a b iha ihb => exact ck_rep iha ihb
  | lrange a ih => exact ck_lrange ih
  | lzip a b iha ihb => exact ck_lzip iha ihb
  | none => exact ck_none
  | opt a ih => exact ck_opt ih
  | wL a ih => exact ck_wL ih
  | wT a ih => exact ck_wT ih
  | wQ a ih => exact ck_wQ ih
  | wR1 a ih => exact ck_wR1 ih
  | wR2 a b iha ihb => exact ck_wR2 iha ihb
  | wR3 a b c iha ihb ihc => exact ck_wR3 iha ihb ihc
  | wEn a ih => exact ck_wEn ih
  | wZip a b iha ihb => exact ck_wZip iha ihb
/-! ### statements -/
def yAsg : Stmt → Option (Expr × Expr × Nat)
  | .Assign [t] e p => some (t, e, p.line)
  | _ => none
def xNameP : Expr → Option (Str × Pos)
  | .Name x p => some (x, p)
  | _ => none
def yAug : Stmt → Option (Expr × Operator × Expr)
  | .AugAssign t o e _ => some (t, o, e)
  | _ => none
def yExpr : Stmt → Option Expr
  | .Expr e _ => some e
  | _ => none
def yRet : Stmt → Option Expr
  | .Return (some e) _ => some e
  | _ => none
def yIf : Stmt → Option (Expr × List Stmt × List Stmt)
  | .If c a b _ => some (c, a, b)
  | _ => none
def yFor : Stmt → Option (Expr × Expr × List Stmt)
  | .For t i b [] _ => some (t, i, b)
  | _ => none
def yWhl : Stmt → Option (Expr × List Stmt)
  | .While c b [] _ => some (c, b)
  | _ => none
def yRaise : Stmt → Option Str
  | .Raise (some (.Call (.Name x _) [.Constant (.str _) _ _] [] _)) none _ => some x
  | _ => none
def yTry : Stmt → Option (Expr × Str × Str × Stmt × List Stmt)
  | .Try [.Expr e _] [.ExceptHandler (some (.Name x _)) (some n) (b :: bs) _] [] [] _ => some (e, x, n, b, bs)
  | _ => none
def xLc : Expr → Option (Scope × Pos)
  | .ListComp _ _ sc p => some (sc, p)
  | _ => none
theorem yAsg_ok {s : Stmt} {z} (h : yAsg s = some z) : ∃ p : Pos, s = .Assign [z.1] z.2.1 p ∧ p.line = z.2.2 := by
  unfold yAsg at h; split at h <;> cases h; exact ⟨_, rfl, rfl⟩
theorem xNameP_ok {e : Expr} {z} (h : xNameP e = some z) : e = .Name z.1 z.2 := by
  unfold xNameP at h; split at h <;> cases h; rfl
theorem yAug_ok {s : Stmt} {z} (h : yAug s = some z) : ∃ p, s = .AugAssign z.1 z.2.1 z.2.2 p := by
  unfold yAug at h; split at h <;> cases h; exact ⟨_, rfl⟩
theorem yExpr_ok {s : Stmt} {z} (h : yExpr s = some z) : ∃ p, s = .Expr z p := by
  unfold yExpr at h; split at h <;> cases h; exact ⟨_, rfl⟩
theorem yRet_ok {s : Stmt} {z} (h : yRet s = some z) : ∃ p, s = .Return (some z) p := by
  unfold yRet at h; split at h <;> cases h; exact ⟨_, rfl⟩
theorem yIf_ok {s : Stmt} {z} (h : yIf s = some z) : ∃ p, s = .If z.1 z.2.1 z.2.2 p := by
  unfold yIf at h; split at h <;> cases h; exact ⟨_, rfl⟩
theorem yFor_ok {s : Stmt} {z} (h : yFor s = some z) : ∃ p, s = .For z.1 z.2.1 z.2.2 [] p := by
  unfold yFor at h; split at h <;> cases h; exact ⟨_, rfl⟩
theorem yWhl_ok {s : Stmt} {z} (h : yWhl s = some z) : ∃ p, s = .While z.1 z.2 [] p := by
  unfold yWhl at h; split at h <;> cases h; exact ⟨_, rfl⟩
theorem yRaise_ok {s : Stmt} {x} (h : yRaise s = some x) : ∃ p1 m j p2 p3 p, s = .Raise (some (.Call (.Name x p1) [.Constant (.str m) j p2] [] p3)) none p := by
  unfold yRaise at h; split at h <;> cases h; exact ⟨_, _, _, _, _, _, rfl⟩
theorem yTry_ok {s : Stmt} {z} (h : yTry s = some z) : ∃ pe np p' p, s = .Try [.Expr z.1 pe] [.ExceptHandler (some (.Name z.2.1 np)) (some z.2.2.1) (z.2.2.2.1 :: z.2.2.2.2) p'] [] [] p := by
  unfold yTry at h; split at h <;> cases h; exact ⟨_, _, _, _, rfl⟩
theorem xLc_ok {e : Expr} {z} (h : xLc e = some z) : ∃ el gs, e = .ListComp el gs z.1 z.2 := by
  unfold xLc at h; split at h <;> cases h; exact ⟨_, _, rfl⟩
/-- does a comprehension go straight into the name? -/
def swB (C : CC) (y : Str) (py lp : Pos) (scope : Scope) : Bool := decide (C.sc.names.lookup y = some .local) && (py.line == lp.line) && !(scope.names.any fun (n, k) => n == y && (k == .local || k == .cell))
def isNew : IE → Option (Bool × IE)
  | .newF (.comp t it has q elt own) => some (false, .comp t it has q elt own)
  | .newM (.comp t it has q elt own) => some (true, .comp t it has q elt own)
  | _ => none
def ckSet (C : CC) (i : Nat) (e : IE) (x : Str) (px : Pos) (ea : Expr) : Bool := C.own? i x && (match xLc ea with
  | some (scope, lp) => if swB C x px lp scope then !C.hot && (isNew e).isSome && ckE e C ea else ckE e C ea
  | none => noComp ea && ckE e C ea)
def ckPar (C : CC) (is : List Nat) (es : IE) (tg ea : Expr) : Bool := match is, xTup tg, xTup ea with
  | [i, j], some [t1, t2], some [e1, e2] => (match xNameP t1, xNameP t2 with
    | some (x, px), some (y, py) => !C.hot && decide (C.N[i]? = some x) && decide (C.N[j]? = some y) && decide (i ≠ j) && decide (C.sc.names.lookup x = some .local) && decide (C.sc.names.lookup y = some .local) && decide (x ≠ y) && (px.line == py.line) &&
      plainX e1 && plainX e2 && !([e1, e2].all (foldedForSure 8)) && !([e1, e2].all (constantsAlone 8)) && ckL es C [e1, e2]
    | _, _ => false)
  | [i, j, l], some [t1, t2, t3], some [e1, e2, e3] => (match xNameP t1, xNameP t2, xNameP t3 with
    | some (x, px), some (y, py), some (z, pz) => !C.hot && decide (C.N[i]? = some x ∧ C.N[j]? = some y ∧ C.N[l]? = some z ∧ i ≠ j ∧ i ≠ l ∧ j ≠ l ∧ C.sc.names.lookup x = some .local ∧ C.sc.names.lookup y = some .local ∧ C.sc.names.lookup z = some .local ∧ x ≠ y ∧ x ≠ z ∧ y ≠ z) && (px.line == py.line) && (px.line == pz.line) &&
      plainX e1 && plainX e2 && plainX e3 && !([e1, e2, e3].all (foldedForSure 8)) && !([e1, e2, e3].all (constantsAlone 8)) && ckL es C [e1, e2, e3]
    | _, _, _ => false)
  | _, _, _ => false
/-- two names of which one is no plain local -/
def cellB (C : CC) (tg ea : Expr) : Bool := match xTup tg, xTup ea with
  | some [t1, t2], some [e1, e2] => (match xNameP t1, xNameP t2 with
    | some (x, _), some (y, _) => plainX e1 && plainX e2 && decide (C.sc.names.lookup x ≠ some .local)
    | _, _ => false)
  | _, _ => false
mutual
def ckS : IS → CC → List Stmt → Bool
  | .skip, _, sts => sts.isEmpty
  | .frz i s, C, sts => decide (C.no ≠ some i) && ckS s C sts
  | .seq s1 s2, C, sts => match sts with
    | st :: rest => ck1 s1 C st && ckS s2 C rest
    | [] => false
  | _, _, _ => false
def ck1 : IS → CC → Stmt → Bool
  | .asg t e, C, st => match yAsg st with
    | some (tg, ea, _) => (match t with
      | .nm i => (match xNameP tg with
        | some (x, px) => ckSet C i e x px ea
        | none => false)
      | _ => !C.hot && (xTup tg).isSome && noComp ea && (noTup ea || cellB C tg ea) && ckG C t tg && ckE e C ea)
    | none => false
  | .par is es, C, st => match yAsg st with
    | some (tg, ea, _) => ckPar C is es tg ea
    | none => false
  | .setix a i e, C, st => match yAsg st with
    | some (tg, ea, _) => (match xSub tg with
      | some (eo, ei) => plainX ei && noComp ea && noTup ea && ckE a C eo && ckE i C ei && ckE e C ea
      | none => false)
    | none => false
  | .setix2 a i b j e f, C, st => match yAsg st with
    | some (tg, ea, _) => (match xTup tg, xTup ea with
      | some [t1, t2], some [e1, e2] => (match xSub t1, xSub t2 with
        | some (eo, ei), some (eo2, ei2) => !C.hot && plainX ei && plainX ei2 && plainX e1 && plainX e2 && ckE a C eo && ckE i C ei && ckE b C eo2 && ckE j C ei2 && ckE (.tup (.cons e (.cons f .nil))) C ea
        | _, _ => false)
      | _, _ => false)
    | none => false
  | .setfld a f e, C, st => match yAsg st with
    | some (tg, ea, _) => (match xAttr tg with
      | some (eo, name, _) => decide (name = fldName f) && ckE a C eo && ckE e C ea
      | none => false)
    | none => false
  | .aug i op e, C, st => match yAug st with
    | some (tg, o, ea) => (match xName tg with
      | some x => opB op o && (op == .add || op == .sub) && C.own? i x && ckE e C ea
      | none => false)
    | none => false
  | .expr e, C, st => match yExpr st with
    | some ea => noComp ea && ckE e C ea
    | none => false
  | .ret e, C, st => match yRet st with
    | some ea => ckE e C ea
    | none => false
  | .iff t a b, C, st => match yIf st with
    | some (et, x, y) => ckE t C et && ckS a C x && ckS b C y
    | none => false
  | .for t it b, C, st => match yFor st with
    | some (tg, iter, body) => !C.hot && !it.isQ && plainX iter && ckI it C tg iter && ckG C t tg && ckS b C body
    | none => false
  | .whl _ t b, C, st => match yWhl st with
    | some (et, body) => ckE t C et && ckS b C body
    | none => false
  | .raise k, C, st => match yRaise st with
    | some x => !C.hot && C.glo (.cls k) x && C.T.P.okc k && C.T.P.exc k
    | none => false
  | .tryx e k i s, C, st => match yTry st with
    | some (ea, x, n, b, bs) => !C.hot && decide (C.N[i]? = some n) && decide (C.sc.names.lookup n = some .local) && C.glo (.cls k) x && noComp ea && ckE e C ea && ckS s (C.suite i) (b :: bs)
    | none => false
  | _, _, _ => false
end
/-! ### .. and right -/
theorem sw_eq (el : Expr) (gs : List Comprehension) (scope : Scope) (lp py : Pos) (y : Str) (l : Nat) (env : PySem.Env) : swapsWith (.ListComp el gs scope lp) (some (.Name y py)) l env =
    pure (env.blockKind == .function && env.kindOf y == some .local && py.line == lp.line && !(scope.names.any fun (n, k) => n == y && (k == .local || k == .cell))) := rfl
section
variable {C : CC} {W : Wd} {B : Hp} {E : Env} {ξ : Option (Nat × Addr)} {Wx : WX} {X : Cx}
theorem kind_fn {env : PySem.Env} (h : env.scope.kind = .function) : env.blockKind = .function := by
  unfold Env.blockKind
  rw [h]
  rfl
theorem sw_ok (g : GS C W E ξ Wx X) (el : Expr) (gs : List Comprehension) (scope : Scope) (lp py : Pos) (y : Str) (l : Nat) : swapsWith (.ListComp el gs scope lp) (some (.Name y py)) l X.env = pure (swB C y py lp scope) := by
  rw [sw_eq, kind_fn g.kin]
  unfold swB
  have e : (X.env.kindOf y == some NameKind.local) = decide (C.sc.names.lookup y = some .local) := by
    rw [← g.sc]
    show (X.env.scope.names.lookup y == some NameKind.local) = _
    cases h : X.env.scope.names.lookup y with
    | none => rfl
    | some k => cases k <;> rfl
  rw [e]
  rfl
theorem isNew_ok {e n : IE} {m : Bool} (h : isNew e = some (m, n)) : ((m = true ∧ e = .newM n) ∨ (m = false ∧ e = .newF n)) ∧ ∃ t it has q elt own, n = .comp t it has q elt own := by
  unfold isNew at h
  split at h <;> cases h
  · exact ⟨.inr ⟨rfl, rfl⟩, _, _, _, _, _, _, rfl⟩
  · exact ⟨.inl ⟨rfl, rfl⟩, _, _, _, _, _, _, rfl⟩
theorem ckSet_ok {i : Nat} {e : IE} {x : Str} {px : Pos} {ea : Expr} {pos : Pos} (h : ckSet C i e x px ea = true) (g : GS C W E ξ Wx X) : SS W B E ξ Wx X (.Assign [.Name x px] ea pos) (.asg (.nm i) e) := by
  unfold ckSet at h
  rw [Bool.and_eq_true] at h
  obtain ⟨h1, h2⟩ := h
  obtain ⟨k1, k2, k3⟩ := own_ok h1
  split at h2
  · rename_i scope lp el
    obtain ⟨eelt, gs, rfl⟩ := xLc_ok el
    split at h2
    · rename_i hsw
      rw [Bool.and_eq_true, Bool.and_eq_true, Bool.not_eq_true'] at h2
      have hcc := h2.1.1
      obtain ⟨z, hz⟩ := Option.isSome_iff_exists.mp h2.1.2
      obtain ⟨m, n⟩ := z
      obtain ⟨e1, t, it, has, q, elt, own, e2⟩ := isNew_ok hz
      subst e2
      have hn : ckN (.comp t it has q elt own) C (.ListComp eelt gs scope lp) = true := by
        have := h2.2
        rcases e1 with ⟨_, rfl⟩ | ⟨_, rfl⟩
        · rw [ckE] at this; exact this
        · rw [ckE] at this; exact this
      obtain ⟨eelt', tg, iter, ifs, scope', p, tt, e3, P⟩ := comp_parts (B := B) (ck_all it) (ck_all q) (ck_all elt) hcc hn g.toGX
      cases e3
      have hy : X.env.scope.names.lookup x = some .local := by
        unfold swB at hsw
        simp only [Bool.and_eq_true, decide_eq_true_eq] at hsw
        rw [g.sc]
        exact hsw.1.1
      have := ss_setLc (m := m) (pos := pos) (p2 := px) (p1 := lp) g.toGX P.hh k1 hy (by rw [sw_ok g, hsw]) P.ok P.si P.sg P.tt P.se P.sl P.pl
      rw [P.ow] at this
      rcases e1 with ⟨rfl, rfl⟩ | ⟨rfl, rfl⟩
      · exact this
      · exact this
    · rename_i hsw
      exact ss_set g.toGX k1 k2 k3 (by rw [sw_ok g, Bool.eq_false_iff.mpr hsw]) ((ck_all e).e _ _ h2 g.toGX).1
  · rw [Bool.and_eq_true] at h2
    exact ss_set g.toGX k1 k2 k3 (noComp_sw h2.1 _ _ _) ((ck_all e).e _ _ h2.2 g.toGX).1
theorem swapped_ok (g : GS C W E ξ Wx X) {x y : Str} {px py pt pt2 : Pos} {k k2 : Nat} {e1 e2 : Expr} (hx : C.sc.names.lookup x = some .local) (hy : C.sc.names.lookup y = some .local) (hn : x ≠ y) (hl : (px.line == py.line) = true) (p1 : plainX e1 = true) (p2 : plainX e2 = true)
    (hf : [e1, e2].all (foldedForSure 8) = false) (hcs : [e1, e2].all (constantsAlone 8) = false) : swappedStores [.Tuple [.Name x px, .Name y py] k pt] (.Tuple [e1, e2] k2 pt2) X.env = pure (some [x, y]) := by
  have kx : X.env.kindOf x = some .local := by show X.env.scope.names.lookup x = _; rw [g.sc]; exact hx
  have ky : X.env.kindOf y = some .local := by show X.env.scope.names.lookup y = _; rw [g.sc]; exact hy
  have st : ([e1, e2].any fun | .Starred .. => true | _ => false) = false := by
    rw [List.any_cons, List.any_cons, List.any_nil]
    cases e1 <;> first | (cases p1; done) | (cases e2 <;> first | (cases p2; done) | rfl)
  have hd : [x, y].eraseDups.length = 2 := by
    have : (y == x) = false := by rw [beq_eq_false_iff_ne]; exact fun e => hn e.symm
    simp [List.eraseDups_cons, this]
  have l2 : (py.line == px.line) = true := by rw [beq_iff_eq] at hl ⊢; exact hl.symm
  unfold swappedStores
  simp only [List.length_cons, List.length_nil, kind_fn g.kin, st, List.head?_cons, Option.map_some, Option.getD_some, List.filterMap_cons, List.filterMap_nil, kx, ky, Expr.pos, hf, hcs]
  simp [l2, hd]
  rintro (h | h)
  · cases e1 <;> first | (cases h; done) | (cases p1; done)
  · cases e2 <;> first | (cases h; done) | (cases p2; done)
theorem swapped3_ok (g : GS C W E ξ Wx X) {x y z : Str} {px py pz pt pt2 : Pos} {k k2 : Nat} {e1 e2 e3 : Expr} (hx : C.sc.names.lookup x = some .local) (hy : C.sc.names.lookup y = some .local) (hz : C.sc.names.lookup z = some .local) (hn : x ≠ y ∧ x ≠ z ∧ y ≠ z) (hl : (px.line == py.line) = true) (hl3 : (px.line == pz.line) = true)
    (p1 : plainX e1 = true) (p2 : plainX e2 = true) (p3 : plainX e3 = true) (hf : [e1, e2, e3].all (foldedForSure 8) = false) (hcs : [e1, e2, e3].all (constantsAlone 8) = false) : swappedStores [.Tuple [.Name x px, .Name y py, .Name z pz] k pt] (.Tuple [e1, e2, e3] k2 pt2) X.env = pure (some [x, y, z]) := by
  have kx : X.env.kindOf x = some .local := by show X.env.scope.names.lookup x = _; rw [g.sc]; exact hx
  have ky : X.env.kindOf y = some .local := by show X.env.scope.names.lookup y = _; rw [g.sc]; exact hy
  have kz : X.env.kindOf z = some .local := by show X.env.scope.names.lookup z = _; rw [g.sc]; exact hz
  have st : ([e1, e2, e3].any fun | .Starred .. => true | _ => false) = false := by
    have s1 : ∀ e : Expr, plainX e = true → (match e with | .Starred .. => true | _ => false) = false := fun e h => by cases e <;> first | (cases h; done) | rfl
    rw [List.any_cons, List.any_cons, List.any_cons, List.any_nil, s1 e1 p1, s1 e2 p2, s1 e3 p3]
    rfl
  have hd : [x, y, z].eraseDups.length = 3 := by
    have b1 : (y == x) = false := by rw [beq_eq_false_iff_ne]; exact fun e => hn.1 e.symm
    have b2 : (z == x) = false := by rw [beq_eq_false_iff_ne]; exact fun e => hn.2.1 e.symm
    have b3 : (z == y) = false := by rw [beq_eq_false_iff_ne]; exact fun e => hn.2.2 e.symm
    simp [List.eraseDups_cons, b1, b2, b3]
  have l2 : (py.line == px.line) = true := by rw [beq_iff_eq] at hl ⊢; exact hl.symm
  have l3 : (pz.line == px.line) = true := by rw [beq_iff_eq] at hl3 ⊢; exact hl3.symm
  unfold swappedStores
  simp only [List.length_cons, List.length_nil, kind_fn g.kin, st, List.head?_cons, Option.map_some, Option.getD_some, List.filterMap_cons, List.filterMap_nil, kx, ky, kz, Expr.pos, hf, hcs]
  simp [l2, l3, hd]
  rintro (h | h | h)
  · cases e1 <;> first | (cases h; done) | (cases p1; done)
  · cases e2 <;> first | (cases h; done) | (cases p2; done)
  · cases e3 <;> first | (cases h; done) | (cases p3; done)
theorem cell_ok (g : GS C W E ξ Wx X) {tg ea : Expr} (h : cellB C tg ea = true) : swappedStores [tg] ea X.env = pure none := by
  unfold cellB at h
  split at h <;> first | (cases h; done) | skip
  rename_i t1 t2 e1 e2 et ee
  split at h <;> first | (cases h; done) | skip
  rename_i x px y py ex ey
  obtain ⟨k, pt, rfl⟩ := xTup_ok et
  obtain ⟨k2, pt2, rfl⟩ := xTup_ok ee
  have := xNameP_ok ex; subst this
  have := xNameP_ok ey; subst this
  simp only [Bool.and_eq_true, decide_eq_true_eq] at h
  obtain ⟨⟨p1, p2⟩, hx⟩ := h
  have kx : (X.env.kindOf x == some NameKind.local) = false := by
    rw [← g.sc] at hx
    exact beq_eq_false_iff_ne.mpr hx
  have st : ([e1, e2].any fun | .Starred .. => true | _ => false) = false := by
    rw [List.any_cons, List.any_cons, List.any_nil]
    cases e1 <;> first | (cases p1; done) | (cases e2 <;> first | (cases p2; done) | rfl)
  unfold swappedStores
  simp only [List.length_cons, List.length_nil, kind_fn g.kin, st, List.head?_cons, Option.map_some, Option.getD_some, List.filterMap_cons, List.filterMap_nil, kx, Expr.pos]
  by_cases ky : (X.env.kindOf y == some NameKind.local && py.line == px.line) = true
  · simp [ky]
    try rfl
  · simp [ky]
    try rfl
theorem ss_unpackW {a : IE} {ea : Expr} {p1 pos : Pos} {tgs : List Expr} {k : Nat} {l : IT} (g : GX C W E ξ Wx X) (hc : noComp ea = true) (hw : swappedStores [.Tuple tgs k p1] ea X.env = pure none) (hg : SG W B ξ X (.Tuple tgs k p1) (.tp l)) (ha : SE W B E ξ Wx X ea a) :
    SS W B E ξ Wx X (.Assign [.Tuple tgs k p1] ea pos) (.asg (.tp l) a) := by
  intro σ S F ρ G H τ D R ro h
  rw [exS] at h
  obtain ⟨gg, pg, kg⟩ := hg
  refine sTo (ps_asg (pE ea) pg (by rw [swapsWithSole]; exact noComp_sw hc _ _ _) hw) (ha σ S F ρ G H τ _ R ro (h.bind (RA := RV W B) fun z S1 F1 ρ1 H1 v st1 R1 r1 h1 => ?_))
  obtain ⟨f, e, h2⟩ := h1.opt
  cases eb : bindT S1 (.tp l) [z] σ with
  | none => rw [eb] at e; cases e
  | some σ' =>
    rw [eb] at e
    cases e
    exact kg σ σ' τ S1 F1 ρ1 G H1 z v _ R1 (ro.mono st1) r1 eb fun τ' ro' _ => h2.nx R1 ro'
theorem ckPar_ok {is : List Nat} {es : IE} {tg ea : Expr} {pos : Pos} (h : ckPar C is es tg ea = true) (g : GS C W E ξ Wx X) : SS W B E ξ Wx X (.Assign [tg] ea pos) (.par is es) := by
  unfold ckPar at h
  split at h <;> first | (cases h; done) | skip
  rotate_left
  · rename_i i j l t1 t2 t3 e1 e2 e3 et ee
    split at h <;> first | (cases h; done) | skip
    rename_i x px y py z pz ex ey ez
    obtain ⟨k, pt, rfl⟩ := xTup_ok et
    obtain ⟨k2, pt2, rfl⟩ := xTup_ok ee
    have := xNameP_ok ex; subst this
    have := xNameP_ok ey; subst this
    have := xNameP_ok ez; subst this
    simp only [Bool.and_eq_true, Bool.not_eq_true', decide_eq_true_eq] at h
    obtain ⟨⟨⟨⟨⟨⟨⟨⟨⟨h1, h2⟩, h8⟩, h82⟩, h9⟩, h10⟩, h101⟩, h11⟩, h12⟩, h13⟩ := h
    obtain ⟨n1, n2, n3, d1, d2, d3, l1, l2, l3, m1, m2, m3⟩ := h2
    exact ss_par3 g.toGX h1 n1 n2 n3 d1 d2 d3 (by rw [g.sc]; exact l1) (by rw [g.sc]; exact l2) (by rw [g.sc]; exact l3) (swapped3_ok g l1 l2 l3 ⟨m1, m2, m3⟩ h8 h82 h9 h10 h101 h11 h12) ((ck_all es).l _ _ h13 g.toGX)
  rename_i i j t1 t2 e1 e2 et ee
  split at h <;> first | (cases h; done) | skip
  rename_i x px y py ex ey
  obtain ⟨k, pt, rfl⟩ := xTup_ok et
  obtain ⟨k2, pt2, rfl⟩ := xTup_ok ee
  have := xNameP_ok ex; subst this
  have := xNameP_ok ey; subst this
  simp only [Bool.and_eq_true, Bool.not_eq_true', decide_eq_true_eq] at h
  obtain ⟨⟨⟨⟨⟨⟨⟨⟨⟨⟨⟨⟨h1, h2⟩, h3⟩, h4⟩, h5⟩, h6⟩, h7⟩, h8⟩, h9⟩, h10⟩, h11⟩, h12⟩, h13⟩ := h
  exact ss_par2 g.toGX h1 h2 h3 h4 (by rw [g.sc]; exact h5) (by rw [g.sc]; exact h6) (swapped_ok g h5 h6 h7 h8 h9 h10 h11 h12) ((ck_all es).l _ _ h13 g.toGX)
end
theorem sw_attr {e o : Expr} {f : Str} {p : Pos} {l : Nat} {env : PySem.Env} : swapsWith e (some (.Attribute o f p)) l env = pure false := by
  cases e <;> rfl
theorem ck_stmt (s : IS) : (∀ C sts, ckS s C sts = true → ∀ {W B E ξ Wx X}, GS C W E ξ Wx X → SB W B E ξ Wx X sts s) ∧ (∀ C st, ck1 s C st = true → ∀ {W B E ξ Wx X}, GS C W E ξ Wx X → SS W B E ξ Wx X st s) := by
  induction s with
  | skip =>
    refine ⟨fun C sts h {_ _ _ _ _ _} g => ?_, fun C st h => by simp [ck1] at h⟩
    rw [ckS, List.isEmpty_iff] at h
    subst h
    exact sb_skip
  | frz i s ih =>
    refine ⟨fun C sts h {_ _ _ _ _ _} g => ?_, fun C st h => by simp [ck1] at h⟩
    rw [ckS, Bool.and_eq_true, decide_eq_true_eq] at h
    exact sb_frz (ih.1 _ _ h.2 g) g.toGX h.1
  | seq s1 s2 ih1 ih2 =>
    refine ⟨fun C sts h {_ _ _ _ _ _} g => ?_, fun C st h => by simp [ck1] at h⟩
    cases sts with
    | nil => simp [ckS] at h
    | cons st rest =>
      rw [ckS, Bool.and_eq_true] at h
      exact sb_seq (ih1.2 _ _ h.1 g) (ih2.1 _ _ h.2 g)
  | asg t e =>
    refine ⟨fun C sts h => by simp [ckS] at h, fun C st h {_ _ _ _ _ _} g => ?_⟩
    unfold ck1 at h
    split at h <;> first | (cases h; done) | skip
    rename_i tg ea l ey
    obtain ⟨p, rfl, _⟩ := yAsg_ok ey
    split at h
    · split at h <;> first | (cases h; done) | skip
      rename_i x px ex
      have := xNameP_ok ex; subst this
      exact ckSet_ok h g
    · rename_i hnm
      simp only [Bool.and_eq_true, Bool.not_eq_true'] at h
      obtain ⟨⟨⟨⟨⟨h1, h2⟩, h3⟩, h4⟩, h5⟩, h6⟩ := h
      obtain ⟨es, et⟩ := Option.isSome_iff_exists.mp h2
      obtain ⟨k, pt, etg⟩ := xTup_ok et
      subst etg
      cases t with
      | tp l =>
        rcases Bool.or_eq_true _ _ |>.mp h4 with h4 | h4
        · exact ss_unpack g.toGX h1 h3 h4 (ckG_ok g.toGX _ _ h5) ((ck_all e).e _ _ h6 g.toGX).1
        · exact ss_unpackW g.toGX h3 (cell_ok g h4) (ckG_ok g.toGX _ _ h5) ((ck_all e).e _ _ h6 g.toGX).1
      | nm i => exact absurd rfl (hnm i)
      | nil => simp [ckG] at h5
      | cons _ _ => simp [ckG] at h5
  | par is es =>
    refine ⟨fun C sts h => by simp [ckS] at h, fun C st h {_ _ _ _ _ _} g => ?_⟩
    rw [ck1] at h
    split at h <;> first | (cases h; done) | skip
    rename_i tg ea l ey
    obtain ⟨p, rfl, _⟩ := yAsg_ok ey
    exact ckPar_ok h g
  | setix a i e =>
    refine ⟨fun C sts h => by simp [ckS] at h, fun C st h {_ _ _ _ _ _} g => ?_⟩
    rw [ck1] at h
    split at h <;> first | (cases h; done) | skip
    rename_i tg ea l ey
    obtain ⟨p, rfl, _⟩ := yAsg_ok ey
    split at h <;> first | (cases h; done) | skip
    rename_i eo ei es
    obtain ⟨ps, etg⟩ := xSub_ok es
    subst etg
    simp only [Bool.and_eq_true] at h
    obtain ⟨⟨⟨⟨⟨h1, h2⟩, h3⟩, h4⟩, h5⟩, h6⟩ := h
    exact ss_setix g.toGX h1 h2 h3 ((ck_all a).e _ _ h4 g.toGX).1 ((ck_all i).e _ _ h5 g.toGX).1 ((ck_all e).e _ _ h6 g.toGX).1
  | setix2 a i b j e f =>
    refine ⟨fun C sts h => by simp [ckS] at h, fun C st h {_ _ _ _ _ _} g => ?_⟩
    rw [ck1] at h
    split at h <;> first | (cases h; done) | skip
    rename_i tg ea l ey
    obtain ⟨p, rfl, _⟩ := yAsg_ok ey
    split at h <;> first | (cases h; done) | skip
    rename_i t1 t2 e1 e2 et ee
    split at h <;> first | (cases h; done) | skip
    rename_i eo ei eo2 ei2 es es2
    obtain ⟨k, pt, rfl⟩ := xTup_ok et
    obtain ⟨k2, pt2, rfl⟩ := xTup_ok ee
    obtain ⟨ps, etg⟩ := xSub_ok es
    subst etg
    obtain ⟨ps2, etg2⟩ := xSub_ok es2
    subst etg2
    simp only [Bool.and_eq_true, Bool.not_eq_true'] at h
    obtain ⟨⟨⟨⟨⟨⟨⟨⟨⟨h1, h2⟩, h3⟩, h4⟩, h5⟩, h6⟩, h7⟩, h8⟩, h9⟩, h10⟩ := h
    exact ss_setix2 g.toGX h1 h2 h3 (sub_sw h4 h5 (kind_fn g.kin)) ((ck_all a).e _ _ h6 g.toGX).1 ((ck_all i).e _ _ h7 g.toGX).1 ((ck_all b).e _ _ h8 g.toGX).1 ((ck_all j).e _ _ h9 g.toGX).1 ((ck_all _).e _ _ h10 g.toGX).1
  | setfld a f e =>
    refine ⟨fun C sts h => by simp [ckS] at h, fun C st h {_ _ _ _ _ _} g => ?_⟩
    rw [ck1] at h
    split at h <;> first | (cases h; done) | skip
    rename_i tg ea l ey
    obtain ⟨p, rfl, _⟩ := yAsg_ok ey
    split at h <;> first | (cases h; done) | skip
    rename_i eo name pa es
    have := xAttr_ok es; subst this
    simp only [Bool.and_eq_true, decide_eq_true_eq] at h
    obtain ⟨⟨h1, h3⟩, h4⟩ := h
    dsimp only at h1 ⊢
    subst h1
    exact ss_setfld g.toGX (fun l => sw_attr) ((ck_all a).e _ _ h3 g.toGX).1 ((ck_all e).e _ _ h4 g.toGX).1
  | aug i op e =>
    refine ⟨fun C sts h => by simp [ckS] at h, fun C st h {W B E ξ Wx X} g => ?_⟩
    rw [ck1] at h
    split at h <;> first | (cases h; done) | skip
    rename_i tg o ea ey
    obtain ⟨p, rfl⟩ := yAug_ok ey
    split at h <;> first | (cases h; done) | skip
    rename_i x ex
    obtain ⟨px, etg⟩ := xName_ok ex
    simp only [Bool.and_eq_true, Bool.or_eq_true, beq_iff_eq] at h
    obtain ⟨⟨⟨h1, h2⟩, h3⟩, h4⟩ := h
    have := opB_ok h1
    obtain ⟨k1, k2, k3⟩ := own_ok h3
    have k := ss_aug (B := B) (pos := p) (p1 := px) g.toGX h2 k1 k2 k3 ((ck_all e).e _ _ h4 g.toGX).1
    dsimp only at etg this ⊢
    subst etg
    subst this
    exact k
  | expr e =>
    refine ⟨fun C sts h => by simp [ckS] at h, fun C st h {_ _ _ _ _ _} g => ?_⟩
    rw [ck1] at h
    split at h <;> first | (cases h; done) | skip
    rename_i ea ey
    obtain ⟨p, rfl⟩ := yExpr_ok ey
    rw [Bool.and_eq_true] at h
    exact ss_expr h.1 ((ck_all e).e _ _ h.2 g.toGX).1
  | ret e =>
    refine ⟨fun C sts h => by simp [ckS] at h, fun C st h {_ _ _ _ _ _} g => ?_⟩
    rw [ck1] at h
    split at h <;> first | (cases h; done) | skip
    rename_i ea ey
    obtain ⟨p, rfl⟩ := yRet_ok ey
    exact ss_ret ((ck_all e).e _ _ h g.toGX).1
  | iff t a b iha ihb =>
    refine ⟨fun C sts h => by simp [ckS] at h, fun C st h {_ _ _ _ _ _} g => ?_⟩
    rw [ck1] at h
    split at h <;> first | (cases h; done) | skip
    rename_i ey
    obtain ⟨p, rfl⟩ := yIf_ok ey
    simp only [Bool.and_eq_true] at h
    exact ss_iff ((ck_all t).e _ _ h.1.1 g.toGX).2 (iha.1 _ _ h.1.2 g) (ihb.1 _ _ h.2 g)
  | «for» t it b ihb =>
    refine ⟨fun C sts h => by simp [ckS] at h, fun C st h {_ _ _ _ _ _} g => ?_⟩
    rw [ck1] at h
    split at h <;> first | (cases h; done) | skip
    rename_i ey
    obtain ⟨p, rfl⟩ := yFor_ok ey
    simp only [Bool.and_eq_true, Bool.not_eq_true'] at h
    obtain ⟨⟨⟨⟨⟨h1, h2⟩, h3⟩, h4⟩, h5⟩, h6⟩ := h
    exact ss_for g h1 h2 h3 ((ck_all it).i _ _ _ h4 g.toGX) (ckG_ok g.toGX _ _ h5) (ihb.1 _ _ h6 g)
  | whl k t b ihb =>
    refine ⟨fun C sts h => by simp [ckS] at h, fun C st h {_ _ _ _ _ _} g => ?_⟩
    rw [ck1] at h
    split at h <;> first | (cases h; done) | skip
    rename_i ey
    obtain ⟨p, rfl⟩ := yWhl_ok ey
    rw [Bool.and_eq_true] at h
    exact ss_whl g ((ck_all t).e _ _ h.1 g.toGX).2 (ihb.1 _ _ h.2 g)
  | raise k =>
    refine ⟨fun C sts h => by simp [ckS] at h, fun C st h {_ _ _ _ _ _} g => ?_⟩
    rw [ck1] at h
    split at h <;> first | (cases h; done) | skip
    rename_i ey
    obtain ⟨p1, m, j, p2, p3, p, rfl⟩ := yRaise_ok ey
    simp only [Bool.and_eq_true, Bool.not_eq_true'] at h
    obtain ⟨⟨⟨h1, h2⟩, h3⟩, h4⟩ := h
    obtain ⟨k1, k2, k3⟩ := glo_ok h2
    rw [← g.tp] at h3 h4
    exact ss_raise g.toGX h1 k1 k2 k3 h3 h4
  | tryx e k i s ih =>
    refine ⟨fun C sts h => by simp [ckS] at h, fun C st h {_ _ _ _ _ _} g => ?_⟩
    rw [ck1] at h
    split at h <;> first | (cases h; done) | skip
    rename_i ey
    obtain ⟨pe, np, p', p, rfl⟩ := yTry_ok ey
    simp only [Bool.and_eq_true, Bool.not_eq_true', decide_eq_true_eq] at h
    obtain ⟨⟨⟨⟨⟨⟨h1, h2⟩, h3⟩, h4⟩, h5⟩, h6⟩, h7⟩ := h
    obtain ⟨k1, k2, k3⟩ := glo_ok h4
    exact ss_try g h1 h2 (by rw [g.sc]; exact h3) k1 k2 k3 h5 (fun X' Wy g' => ((ck_all e).e _ _ h6 g').1) fun j b X' g' => ih.1 _ _ h7 g'
end TW
/-! TWV -/
set_option Elab.async false
set_option linter.all false
set_option maxRecDepth 100000
namespace TW
open PySem PySem.Spec PyProof.Rows L2
/-- the interpreter's defs stand in the text -/
structure DefOk (W : Wd) (T : Tb) (f : Nat) (D : Df) (x qual : Str) (st : Stmt) (fd : FuncData) (N ps : List Str) : Prop where
  fn : Fun W.K x qual st (W.fn f) fd
  sc : FnScope N ps (defScope st)
  np : ps.length = D.np
  ns : N.length = D.ns
  bd : ∀ us : List Value, us.length = ps.length → bindArgs fd ⟨us, []⟩ = pure (ps.zip us)
  ck : ckS D.body ⟨T, N, defScope st, defScope st, false, none, qual ++ ".<locals>."⟩ (defBody st) = true
  mkr : T.mks.contains (qual ++ ".<locals>.") = true → ∃ c P, fd.code = .ref c ∧ (c, P) ∈ W.cs ∧ (P, lamN (qual ++ ".<locals>.")) ∈ W.T ∧ ∀ p ∈ W.T, p.1 = P → p.2 = lamN (qual ++ ".<locals>.")
/-- plain parameters, two at most -/
def argB : List Str → Arguments → Bool
  | ps, ⟨[], as, none, [], [], none, []⟩ => decide (as.map (·.arg) = ps) && decide (ps.length ≤ 2) && decide ps.Nodup
  | _, _ => false
theorem bind1 {x : Arg} {u : Value} {q : Str} {body : Expr} {sc : Scope} {cl : List (Str × Addr)} {pm cv ctv : Value} : bindArgs (PySem.W.kla_fn "<lambda>" q ⟨[], [x], none, [], [], none, []⟩ body sc cl pm cv ctv) ⟨[u], []⟩ = pure [(x.arg, u)] := by
  simp [bindArgs, seqItems?, notAStandIn, List.lookup]
theorem bind2 {x y : Arg} {u v : Value} {q : Str} {body : Expr} {sc : Scope} {cl : List (Str × Addr)} {pm cv ctv : Value} (h : x.arg ≠ y.arg) : bindArgs (PySem.W.kla_fn "<lambda>" q ⟨[], [x, y], none, [], [], none, []⟩ body sc cl pm cv ctv) ⟨[u, v], []⟩ = pure [(x.arg, u), (y.arg, v)] := by
  have e : (y.arg == x.arg) = false := beq_eq_false_iff_ne.mpr fun z => h z.symm
  simp [bindArgs, seqItems?, notAStandIn, List.lookup, e]
theorem arg_bind {ps : List Str} {a : Arguments} {q : Str} {body : Expr} {sc : Scope} {cl : List (Str × Addr)} {pm cv ctv : Value} (h : argB ps a = true) : ∀ us : List Value, us.length = ps.length → bindArgs (PySem.W.kla_fn "<lambda>" q a body sc cl pm cv ctv) ⟨us, []⟩ = pure (ps.zip us) := by
  intro us hl
  unfold argB at h
  split at h
  · rename_i as
    simp only [Bool.and_eq_true, decide_eq_true_eq] at h
    obtain ⟨⟨rfl, h2⟩, h3⟩ := h
    match as, us, hl, h2, h3 with
    | [], [], _, _, _ => rfl
    | [x], [u], _, _, _ => exact bind1
    | [x, y], [u, v], _, _, h3 => exact bind2 (by simpa using h3)
    | _ :: _ :: _ :: _, _, _, h2, _ => simp only [List.map_cons, List.length_cons] at h2; omega
    | [], _ :: _, hl, _, _ => simp at hl
    | [_], [], hl, _, _ => simp at hl
    | [_], _ :: _ :: _, hl, _, _ => simp at hl
    | [_, _], [], hl, _, _ => simp at hl
    | [_, _], [_], hl, _, _ => simp at hl
    | [_, _], _ :: _ :: _ :: _, hl, _, _ => simp at hl
  · cases h
/-- a lambda against its interpreter's text -/
def lamC (T : Tb) (ps N : List Str) (ie : IE) (L : LamW) : Bool :=
  NdefX.nscB N ps [] L.scope && argB ps L.params && ckE ie ⟨{ T with lb := fun _ _ => false, mks := [] }, N, L.scope, L.scope, false, none, L.qual ++ ".<locals>."⟩ L.body
/-- all that is asked of the text -/
structure TextOk (W : Wd) (T : Tb) (Q : Prg) (mg : Str → Option Value) : Prop where
  df : ∀ f D, Q.df f = some D → ∃ x qual st fd N ps, DefOk W T f D x qual st fd N ps
  gt : ∀ x k, T.gt.lookup x = some k → ∃ u, mg x = some u ∧ gval W k u
  bn : ∀ x, T.bn.contains x = true → mg x = none
  kf : KF W Q.P
  of : OF W Q.P Q.mt Q.init fun f => (Q.df f).isSome
  tp : Q.P = T.P
  lm : ∀ k L D, W.lm k L → Q.lf k = some D → ∃ ps N ie, D.body = .ret ie ∧ ps.length = D.np ∧ N.length = D.ns ∧ lamC T ps N ie L = true
  lw : ∀ k L, T.lb k L = true → W.lm k L
section
variable {W : Wd} {T : Tb} {Q : Prg} {P : Program} {w : World} {mg : Str → Option Value} {base : Heap}
/-- what a call promises, d calls deep -/
def spN (W : Wd) (Q : Prg) (d f : Nat) : Sp := fun vs H Qk Ex => ∃ (m : Bool) (B F : Hp) (ρ : Nat → Addr) (S : Sto) (G : Hp) (us : List U), Rel W B F ρ S G H ∧ RVs W B F ρ S.length us vs ∧
  Po W B (RV W B) (fun c H' => Ex (.ref (W.cl c)) none H') (callN Q d m f us S) F ρ S G Qk
theorem start_ro {B F : Hp} {ρ : Nat → Addr} {n : Nat} {us : List U} {vs : List V} {N : List Str} {k : Nat} (r : RVs W B F ρ n us vs) (hk : N.length = k) : RO W B F ρ n (startU k us) (L2.start N vs) := by
  have hl := r.length
  refine ⟨?_, fun i u e => ?_⟩
  · unfold startU L2.start
    simp only [List.length_append, List.length_map, List.length_replicate]
    rw [hl, hk]
  · unfold startU at e
    unfold L2.start
    by_cases hi : i < us.length
    · rw [List.getElem?_append_left (by rw [List.length_map]; exact hi), List.getElem?_map] at e
      cases eu : us[i]? with
      | none => rw [eu] at e; cases e
      | some u' =>
        rw [eu] at e
        cases e
        obtain ⟨v, hv, rv⟩ := r.get eu
        refine ⟨v, ?_, rv⟩
        rw [List.getElem?_append_left (by rw [List.length_map, ← hl]; exact hi), List.getElem?_map, hv]
        rfl
    · rw [List.getElem?_append_right (by rw [List.length_map]; omega), List.getElem?_replicate] at e
      split at e <;> cases e
/-- what is left to show of a def's body -/
theorem body_in {B F G H : Hp} {ρ : Nat → Addr} {S : Sto} {Ex : XK} {Qk : VK} {r : R Fl} (h : Po W B (RV W B) (fun c H' => Ex (.ref (W.cl c)) none H') r.done F ρ S G Qk) :
    PoS W B none (fun cls d _ H => Ex cls d H) r F ρ S G { nx := fun _ H' => Qk .non H', rt := Qk } := by
  cases r with
  | ok x S1 =>
    cases x with
    | nx σ => exact fun F' ρ' H' τ' st R _ => h F' ρ' H' .non st R .non
    | rt u => exact fun F' ρ' H' v st R r => h F' ρ' H' v st R r
  | ex c S1 => exact fun F' ρ' H' st R _ => h F' ρ' H' st R
  | bad => exact h
theorem body_shut {B F G H : Hp} {ρ : Nat → Addr} {S : Sto} {Ex : XK} {Qk : VK} {r : R Fl} {m : Bool} (R : Rel W B F ρ S G H) (h : Po W B (RV W B) (fun c H' => Ex (.ref (W.cl c)) none H') (r.done.shut m S) F ρ S G Qk) :
    PoS W (asideAll F H) none (fun cls d _ H => Ex cls d H) r F ρ [] (asideAll F H) { nx := fun _ H' => Qk .non H', rt := Qk } := by
  cases r with
  | bad => exact h
  | ex c S1 =>
    intro F' ρ' H' st R' _
    obtain ⟨R2, st2⟩ := R.back R' st.f
    exact h F' ρ H' st2 R2
  | ok x S1 =>
    cases x with
    | nx σ =>
      intro F' ρ' H' τ' st R' _
      obtain ⟨R2, st2⟩ := R.back R' st.f
      exact h F' ρ H' .non st2 R2 .non
    | rt u =>
      intro F' ρ' H' v st R' rv
      have h' : Po W B (RV W B) (fun c H' => Ex (.ref (W.cl c)) none H') (TW.R.shut m S (.ok u S1)) F ρ S G Qk := h
      unfold TW.R.shut at h'
      dsimp only at h'
      split at h'
      · rename_i hp
        obtain ⟨R2, st2⟩ := R.back R' st.f
        exact h' F' ρ H' v st2 R2 (rv.pure hp)
      · split at h' <;> first | (exact h'.elim) | skip
        rename_i k _
        split at h' <;> first | (exact h'.elim) | skip
        rename_i us ek
        split at h' <;> first | (exact h'.elim) | skip
        rename_i hp
        cases rv
        obtain ⟨vs, c1, c2, c3⟩ := R'.cell k _ ek
        cases m with
        | false =>
          dsimp only at h'
          obtain ⟨R3, st3⟩ := R'.frozen ek c1
          obtain ⟨R2, st2⟩ := R.back R3 (st.f.trans st3.f)
          exact h' _ ρ H' _ st2 R2 (.fl upd_same c2 ((st3.rvs c3).pure hp))
        | true =>
          dsimp only at h'
          obtain ⟨R2, st2⟩ := R.back R' st.f
          have hal := R'.sep k _ ek rfl
          have nin : ∀ a o, H a = some o → NT o → F a = none → ρ' k ≠ a := fun a o e n f => (R'.fr a o (asideAll_some.mpr ⟨f, e, n⟩)).2.2 k _ ek rfl
          have nG : G (ρ' k) = none := by
            cases e : G (ρ' k) with
            | none => rfl
            | some o => exact absurd rfl (nin _ o (R.fr _ o e).1 (R.gnt e) (R.fr _ o e).2.1)
          have nS : ∀ i c, S[i]? = some c → c.alive = true → ρ i ≠ ρ' k := fun i c e al z => by
            have q := R.cell i c e
            have s := R.sep i c e al
            cases c with
            | lst ws => obtain ⟨xs, h1, _⟩ := q; exact nin _ _ h1 (fun _ z => by cases z) s z.symm
            | ins c fs => obtain ⟨dx, xs, h1, _⟩ := q; exact nin _ _ h1 (fun _ z => by cases z) s z.symm
            | dead => cases al
          obtain ⟨R4, st4⟩ := R2.given (us := us) c1 hal nG nS c2 (c3.pure hp)
          refine h' _ _ H' _ (st2.trans st4) R4 ?_
          have := RV.ref (W := W) (B := B) (F := F') (ρ := fun i => if i = S.length then ρ' k else ρ i) (n := (S ++ [O.lst us]).length) (m := S.length) (by rw [List.length_append]; exact Nat.lt_succ_self _)
          rw [if_pos rfl] at this
          exact this
theorem spN_len (ht : TextOk W T Q mg) {d f : Nat} {D : Df} (hD : Q.df f = some D) {ps : List Str} (np : ps.length = D.np) : ∀ vs H Qk E, spN W Q d f vs H Qk E → vs.length = ps.length := by
  intro vs H Qk E ⟨m, B, F, ρ, S, G, us, R0, rv, hp⟩
  cases d with
  | zero => exact hp.elim
  | succ d =>
    rw [callN, hD] at hp
    dsimp only at hp
    split at hp
    · rename_i h
      rw [← rv.length, h, np]
    · exact hp.elim
/-- a lambda is run at depth d -/
def LamRun (W : Wd) (Q : Prg) (P : Program) (w : World) (mg : Str → Option Value) (base : Heap) (d k : Nat) : Prop :=
  ∀ (A : Around) (m : Bool) (B F : Hp) (ρ : Nat → Addr) (S : Sto) (G H : Hp) (us : List U) (vs : List V) (Qk : VK) (Ex : XK) (L : LamW) (f c : Addr) (outer : List PySem.Env) (s : Shared) (args : List Value), Room (2 * d + 1) A → Env0 P w W.K mg base A outer s H → Rel W B F ρ S G H → RVs W B F ρ S.length us vs → Vals vs args →
    W.lm k L → F f = some (LamO f L [] c) → F c = some (LamX.CodeO c L.qual) → Po W B (RV W B) (fun c H' => Ex (.ref (W.cl c)) none H') (callN Q d m k us S) F ρ S G Qk →
    codeAny (model P w) A (.call (.ref f) ⟨args, []⟩) (CR (L2N.CX P w) outer P w H s Qk Ex) s
/-- the value of a lambda's body -/
theorem PoS.retE {B F G : Hp} {ρ : Nat → Addr} {S : Sto} {ξ : Option (Nat × Addr)} {Wx : WX} {E : Env} {σ : Sl} {ie : IE} {D : Ends} {τ : L2.St} (h : PoS W B ξ Wx (exS (.ret ie) E σ S) F ρ S G D) : Po W B (RV W B) (XWof W Wx τ) (evE E σ ie S) F ρ S G D.rt := by
  rw [exS] at h
  exact h.bind (RA := RV W B) fun x S1 F1 ρ1 H1 v st1 R1 r1 h1 => h1.rt R1 r1
section
variable {x qual : Str} {st : Stmt} {fd : FuncData} {N ps : List Str} {f d : Nat} {D : Df}
/-- a def's body, where the calls d deep are right -/
theorem def_body (ht : TextOk W T Q mg) (hcs : ∀ p ∈ W.cs, LamX.TabB base mg p.1 p.2) (hF : ∀ g, (Q.df g).isSome = true → ∃ fd' ps', FnOk P w W.K mg base (L2N.CX P w) (2 * d + 1) (W.fn g) fd' ps' (spN W Q d g) ∧ PySem.W.keepIn W.K (.ref (W.fn g)) = true ∧ Binds W.K fd' ps' [])
    (hLm : ∀ k, (Q.df k).isNone = true → (Q.lf k).isSome = true → LamRun W Q P w mg base d k) (hD : Q.df f = some D) (K : DefOk W T f D x qual st fd N ps) : FnOk P w W.K mg base (L2N.CX P w) (2 * (d + 1) + 1) (W.fn f) fd ps (spN W Q (d + 1) f) := by
  obtain ⟨oc, od, kV, doc, pm, an, cdv, ct, osl, e, lk, hcd⟩ := K.fn.ex
  subst e
  refine fn_of (k := 2 * d + 2) lk hcd K.sc (spN_len ht hD K.np) fun A outer s H vs Qk Ex hr ⟨m, B, F, ρ, S, G, us, R0, rv, hp⟩ => ?_
  refine ⟨_, pB _, ?_⟩
  have gs : ∀ (B : Hp), GS ⟨T, N, defScope st, defScope st, false, none, qual ++ ".<locals>."⟩ W (Q.env (callN Q d)) none (fun cls dd _ H => Ex cls dd H) (cxOf (L2N.CX P w) P w W.K mg base N qual (defScope st) (W.fn f) cdv A outer s H Ex) := fun B =>
    { K := rfl
      N := rfl
      nd := K.sc.nd
      sc := rfl
      gt := ht.gt
      bn := ht.bn
      fn := fun x hx => ⟨hx, .inl rfl⟩
      calm := fun _ => rfl
      un := by
        have := hr.un
        show (A.deeper _).units + 65 < cLine
        omega
      tk := L2N.takes_of rfl rfl rfl rfl
      hc := fun h => by cases h
      call := fun _ g hg => by
        obtain ⟨fd', ps', h1, h2, h3⟩ := hF g hg
        exact ⟨fd', ps', 2 * d + 1, spN W Q d g, h1, hr, h2, h3, fun m B F ρ S G H us vs Qk Ex R0 rv hp => ⟨m, B, F, ρ, S, G, us, R0, rv, hp⟩⟩
      lam := fun _ k hk => by
        have hk' : ((Q.df k).isNone && (Q.lf k).isSome) = true := hk
        rw [Bool.and_eq_true] at hk'
        exact fun m B F ρ S G H us vs Qk Ex L f c outer s args e0 R0 rv ra hl hf hc hp => hLm k hk'.1 hk'.2 _ m B F ρ S G H us vs Qk Ex L f c outer s args (hr.mono (Nat.le_succ _)) e0 R0 rv ra hl hf hc hp
      qn := rfl
      mks := fun _ h => by
        obtain ⟨c, P, h1, h2, h3, h4⟩ := K.mkr h
        exact ⟨c, P, hcs _ h2, h1, h3, h4⟩
      lw := ht.lw
      kf := ht.kf
      of := ht.of
      tp := ht.tp
      xn := fun i a h => by cases h
      h0 := fun _ => ⟨rfl, rfl⟩
      hx := fun i k h => by cases h
      po := passes_of rfl
      stk := rfl
      frm := rfl
      kin := K.sc.kind }
  rw [callN, hD] at hp
  dsimp only at hp
  split at hp
  · split at hp
    · split at hp
      · rename_i ws e
        refine (ck_stmt D.body).1 _ _ K.ck (gs (asideAll F H)) _ [] F ρ (asideAll F H) H _ _ R0.shut ⟨start_ro (RVs.lent R0 e rv) K.ns, fun i a h => by cases h⟩ (body_shut R0 hp)
      · exact hp.elim
    · refine (ck_stmt D.body).1 _ _ K.ck (gs B) _ S F ρ G H _ _ R0 ⟨start_ro rv K.ns, fun i a h => by cases h⟩ (body_in (H := H) hp)
  · exact hp.elim
/-- a lambda's body, where the calls d deep are right -/
theorem lam_body {k : Nat} (ht : TextOk W T Q mg) (hF : ∀ g, (Q.df g).isSome = true → ∃ fd' ps', FnOk P w W.K mg base (L2N.CX P w) (2 * d + 1) (W.fn g) fd' ps' (spN W Q d g) ∧ PySem.W.keepIn W.K (.ref (W.fn g)) = true ∧ Binds W.K fd' ps' [])
    (hLm : ∀ k, (Q.df k).isNone = true → (Q.lf k).isSome = true → LamRun W Q P w mg base d k) (hk1 : (Q.df k).isNone = true) (hk2 : (Q.lf k).isSome = true) : LamRun W Q P w mg base (d + 1) k := by
  intro A m B F ρ S G H us vs Qk Ex L f c outer s args hr e0 R rv ra hl hf hc hp
  obtain ⟨D, hD⟩ := Option.isSome_iff_exists.mp hk2
  obtain ⟨ps, N, ie, hbody, hnp, hns, hck⟩ := ht.lm k L D hl hD
  unfold lamC at hck
  simp only [Bool.and_eq_true] at hck
  obtain ⟨⟨hsc, harg⟩, hck⟩ := hck
  have SC := NdefX.nscope_by hsc
  have hl1 : us.length = ps.length := by
    rw [callN, Option.isNone_iff_eq_none.mp hk1, hD] at hp
    dsimp only at hp
    split at hp
    · rename_i h; rw [h, hnp]
    · exact hp.elim
  have hlv : vs.length = ps.length := by rw [← rv.length]; exact hl1
  have hla : args.length = ps.length := by rw [← ra.length]; exact hlv
  obtain ⟨⟨pm, ctv, of1⟩, _, _⟩ := e0.hok f _ (R.sub _ _ hf)
  obtain ⟨⟨oc, ovs, ot, hoc, hdc, hvc⟩, _, _⟩ := e0.hok c _ (R.sub _ _ hc)
  have lim : s.heap.NoLimit := e0.mod.nolimit.keeps fun b o e => (e0.bs b o e).1
  refine PySem.W.kla_callFunE hr.depth of1 rfl SC.co SC.gen rfl ⟨c, oc, ovs, ot, rfl, hoc, hdc, hvc⟩ ?_
  rw [arg_bind harg args hla]
  refine wpAny_pure (wpAny_newFunctionEnv SC.nocell (fun y hy => ?_) (fun h₁ hnsp hsb => ⟨lim.fresh _ hsb, ?_⟩) SC.kind)
  · exact SC.par _ (List.of_mem_zip hy).1
  show codeAny _ _ (.expr L.body (NdefX.envF ⟨"<lambda>", L.qual, L.params, [], L.scope, [], c⟩ f s.heap.objs.size)) _ _
  have kp : ∀ b o, s.heap.get? b = some o → h₁.get? b = some o := fun b o e => hsb.extBut b o (Nat.ne_of_lt (Heap.lt_size e)) (Heap.get?_push_of_some _ e)
  have CA : NdefX.CellsAt [] [] ([] : List (Option V)) s.heap H := ⟨rfl, fun y c e => by simp at e, fun x y c e => by simp at e, fun i y e => by simp at e⟩
  have J : Inv (NdefX.ncx (L2N.CX P w) P w W.K mg base N ⟨"<lambda>", L.qual, L.params, [], L.scope, [], c⟩ f A outer s H Ex) [] (NdefX.startF N vs []) H { s with heap := h₁, toks := s.toks + (ps.zip args).length } :=
    NdefX.inv_startN SC hr.hd e0 hlv ra CA hnsp kp
  have rA : Room (2 * d + 2) (A.deeper (NdefX.envF ⟨"<lambda>", L.qual, L.params, [], L.scope, [], c⟩ f s.heap.objs.size)) := Room.deeper (k := 2 * d + 2) hr _
  have st0 : NdefX.startF N vs [] = L2.start N vs := by
    unfold NdefX.startF L2.start
    simp
  have gx : GX ⟨{ T with lb := fun _ _ => false, mks := [] }, N, L.scope, L.scope, false, none, L.qual ++ ".<locals>."⟩ W (Q.env (callN Q d)) none (fun cls dd _ H => Ex cls dd H) (NdefX.ncx (L2N.CX P w) P w W.K mg base N ⟨"<lambda>", L.qual, L.params, [], L.scope, [], c⟩ f A outer s H Ex) :=
    { K := rfl
      N := rfl
      nd := SC.nd
      sc := rfl
      gt := ht.gt
      bn := ht.bn
      fn := fun x hx => ⟨hx, .inr (hx.elim id fun z => absurd rfl (SC.nocell _ (PySem.mem_of_lookup z)))⟩
      calm := fun _ => rfl
      un := by
        have := rA.un
        show (A.deeper _).units + 65 < cLine
        omega
      tk := L2N.takes_of rfl rfl rfl rfl
      hc := fun h => by cases h
      call := fun _ g hg => by
        obtain ⟨fd', ps', h1, h2, h3⟩ := hF g hg
        exact ⟨fd', ps', 2 * d + 1, spN W Q d g, h1, rA, h2, h3, fun m B F ρ S G H us vs Qk Ex R0 rv hp => ⟨m, B, F, ρ, S, G, us, R0, rv, hp⟩⟩
      lam := fun _ k hk => by
        have hk' : ((Q.df k).isNone && (Q.lf k).isSome) = true := hk
        rw [Bool.and_eq_true] at hk'
        exact fun m B F ρ S G H us vs Qk Ex L f c outer s args e0 R0 rv ra hl hf hc hp => hLm k hk'.1 hk'.2 _ m B F ρ S G H us vs Qk Ex L f c outer s args (rA.mono (Nat.le_succ _)) e0 R0 rv ra hl hf hc hp
      qn := rfl
      mks := fun _ h => by simp at h
      lw := fun k L h => by cases h
      kf := ht.kf
      of := ht.of
      tp := ht.tp
      xn := fun i a h => by cases h
      h0 := fun _ => ⟨rfl, rfl⟩
      hx := fun i k h => by cases h }
  refine PySem.W.kla_codeExpr ?_
  have key : wE (NdefX.ncx (L2N.CX P w) P w W.K mg base N ⟨"<lambda>", L.qual, L.params, [], L.scope, [], c⟩ f A outer s H Ex) L.body (L2.start N vs) H Qk := by
    rw [callN, Option.isNone_iff_eq_none.mp hk1, hD] at hp
    dsimp only at hp
    split at hp
    · split at hp
      · split at hp
        · rename_i ws e
          have h2 := body_shut R hp
          rw [hbody] at h2
          exact ((ck_all ie).e _ _ hck gx).1 _ [] F ρ (asideAll F H) H _ _ R.shut ⟨start_ro (RVs.lent R e rv) hns, fun i a h => by cases h⟩ h2.retE
        · exact hp.elim
      · have h2 := body_in (H := H) hp
        rw [hbody] at h2
        exact ((ck_all ie).e _ _ hck gx).1 _ S F ρ G H _ _ R ⟨start_ro rv hns, fun i a h => by cases h⟩ h2.retE
    · exact hp.elim
  rw [st0] at J
  refine wpAny_mono (key [] _ J) (fun v s' hq => ?_) fun e s' hq => hq
  obtain ⟨v', H', J', r', q⟩ := hq
  exact ⟨v', H', J'.os, J'.bare, J'.base, J'.hok, r', q⟩
end
/-- every def and lambda meets its contract -/
theorem all_ok (ht : TextOk W T Q mg) (hcs : ∀ p ∈ W.cs, LamX.TabB base mg p.1 p.2) : ∀ d : Nat, (∀ (f : Nat) (D : Df) {x qual : Str} {st : Stmt} {fd : FuncData} {N ps : List Str}, Q.df f = some D → DefOk W T f D x qual st fd N ps → FnOk P w W.K mg base (L2N.CX P w) (2 * d + 1) (W.fn f) fd ps (spN W Q d f)) ∧
    ∀ k, (Q.df k).isNone = true → (Q.lf k).isSome = true → LamRun W Q P w mg base d k := by
  intro d
  induction d with
  | zero =>
    refine ⟨fun f D {x qual st fd N ps} hD K => ?_, fun k _ _ A m B F ρ S G H us vs Qk Ex L f c outer s args _ _ _ _ _ _ _ _ hp => hp.elim⟩
    obtain ⟨oc, od, kV, doc, pm, an, cdv, ct, osl, e, lk, hcd⟩ := K.fn.ex
    subst e
    exact fn_of lk hcd K.sc (spN_len ht hD K.np) fun A outer s H vs Qk E hr ⟨m, B, F, ρ, S, G, us, R0, rv, hp⟩ => hp.elim
  | succ d ih =>
    have hF : ∀ g, (Q.df g).isSome = true → ∃ fd' ps', FnOk P w W.K mg base (L2N.CX P w) (2 * d + 1) (W.fn g) fd' ps' (spN W Q d g) ∧ PySem.W.keepIn W.K (.ref (W.fn g)) = true ∧ Binds W.K fd' ps' [] := fun g hg => by
      obtain ⟨D', hD'⟩ := Option.isSome_iff_exists.mp hg
      obtain ⟨x', qual', st', fd', N', ps', K'⟩ := ht.df g D' hD'
      exact ⟨fd', ps', ih.1 g D' hD' K', K'.fn.kp, .all K'.bd⟩
    exact ⟨fun f D {_ _ _ _ _ _} hD K => def_body ht hcs hF ih.2 hD K, fun k h1 h2 => lam_body ht hF ih.2 h1 h2⟩
end
end TW
/-! TWW -/
set_option Elab.async false
set_option linter.all false
set_option maxRecDepth 100000
namespace TW
open PySem PySem.Spec PyProof.Rows L2
/-- what the head must tell of a law's text; ts: the tables that are laid -/
structure HeadOk (T : Tb) (Q : Prg) (lawIx : Nat) (x : Str) (K : PySem.W.Frag) (mg : Str → Option Value) (fa : Addr) (ts : List Addr) : Prop where
  ex : ∃ W : Wd, W.K = K ∧ TextOk W T Q mg ∧ W.fn lawIx = fa ∧ (∃ D qual st fd N, Q.df lawIx = some D ∧ DefOk W T lawIx D (PySem.Str.ofString "law") qual st fd N [x]) ∧
    (∀ p ∈ W.cs, p.2 ∈ ts ∧ K.lookup p.2 = none ∧ PySem.W.codeHdIn K p.1 p.2 = true) ∧ ∀ p ∈ W.T, ∃ c, (c, p.1) ∈ W.cs
theorem rvs_ints {W : Wd} {B F : Hp} {ρ : Nat → Addr} {n : Nat} : ∀ ns : List Int, RVs W B F ρ n (ns.map .int) (ns.map V.int)
  | [] => .nil
  | i :: r => .cons (.int i) (rvs_ints r)
/-- the abstract heap at the start -/
theorem rel_start {W : Wd} {H : Hp} {ρ : Nat → Addr} (h : ∀ p ∈ W.T, H p.1 = some (.tbl #[])) : Rel W (asideAll (fun _ => none) H) (fun _ => none) ρ [] (asideAll (fun _ => none) H) H := by
  refine ⟨fun a o e => (by cases e), fun i c e => (by cases e), fun i c e => (by cases e), fun i j c d e => (by cases e), fun a o e => ⟨(asideAll_some.mp e).2.1, rfl, fun i c e => (by cases e)⟩, Sub.refl _, fun a ps e => ⟨rfl, asideAll_tbl e⟩, fun p hp => ⟨#[], h p hp, True.intro, fun pos cv hc => ?_⟩⟩
  have z : codeAmong pos [] = some cv := hc
  simp [codeAmong] at z
theorem sql_aside {K : PySem.W.Frag} {H : Hp} {a : Addr} {xs : List V} (h : SqL K H a xs) : SqL K (asideAll (fun _ => none) H) a xs := by
  rcases h with (h | ⟨o, h⟩) | h
  · exact .inl (.inl (asideAll_some.mpr ⟨rfl, h, fun ps z => by cases z⟩))
  · exact .inl (.inr ⟨o, asideAll_some.mpr ⟨rfl, h, fun ps z => by cases z⟩⟩)
  · exact .inr h
theorem walkTW {l : PySem.W.OpenLaw} {q : Program} {loose : List Str} {XP : (Str → Option Value) → Heap → Prop} {YP : World → Heap → Prop} {d : DefRec} {K : Params → PySem.W.Frag} {x : Str} {T : Tb} {Q : Prg} {lawIx dd : Nat} {ts : List Addr}
    (hn : l.most = some 63) (hdf : d.params.defaults = []) (hdd : dd ≤ 40)
    (hY : ∀ (w : World) (h : Heap), YP w h → (K w.params).In h ∧ ∀ P ∈ ts, h.get? P = some (PySem.W.tabObj #[]))
    (F : ∀ (w : World) (mg : Str → Option Value) (fa : Addr) (h : Heap), (K w.params).In h → h.Ns mainGlobals mg → mg d.name = some (.ref fa) → HeadOk T Q lawIx x (K w.params) mg fa ts)
    (run : ∀ ns : List Int, ns.length ≤ 63 → (∀ z ∈ ns, Builtin.Int.intBits z ≤ 1048576) → ∃ S, callN Q dd false lawIx [.sc (ns.map .int)] [] = .ok (.bl true) S) :
    PySem.W.WalkO q loose XP YP l.row.toRowW d [] (fun f vs => PySem.call f vs) := by
  refine LamX.walk_ofTsE (l := l) (n := 63) (k := 2 * dd + 1) (x := x) (CX := fun w => L2N.CX l.prog w) hn (by decide) hdf ⟨rfl, ?_, ?_⟩ (fun w mg fa h Y G hmg => ?_) (fun w H s e s' c => ?_)
  · show callerA.depth + 3 * (2 * dd + 1) + 5 < recursionLimit
    have : callerA.depth + 3 * 81 + 5 < recursionLimit := by decide
    omega
  · show callerA.units + 16 * (2 * dd + 1) + 200 < cLine
    have : callerA.units + 16 * 81 + 200 < cLine := by decide
    omega
  · obtain ⟨KX, hT⟩ := hY w h Y
    obtain ⟨W, hK, tx, hfa, ⟨D, qual, st, fd, N, hD, dk⟩, hcs, hWT⟩ := (F w mg fa h KX G hmg).ex
    refine ⟨K w.params, KX, fd, W.cs, spN W Q dd lawIx, fun p hp => hT _ (hcs p hp).1, fun p hp => (hcs p hp).2.1, fun p hp => PySem.W.codeHd_of_K KX (hcs p hp).2.2, fun s u => .of_eq (dk.bd [u] rfl), fun H a ns h1 hb hH hS => ?_, fun base _ _ hB => ?_⟩
    · obtain ⟨S, e⟩ := run ns h1 hb
      refine ⟨false, asideAll (fun _ => none) H, fun _ => none, fun _ => 0, [], asideAll (fun _ => none) H, [.sc (ns.map .int)], rel_start fun p hp => ?_, .cons (.sc (by rw [hK]; exact sql_aside hS) (by rw [List.length_map]; exact Nat.le_trans h1 (by decide)) (rvs_ints ns)) .nil, ?_⟩
      · obtain ⟨c, hc⟩ := hWT p hp
        exact hH _ hc
      · rw [e]
        intro F' ρ' H' v st R r
        cases r
        rfl
    · have fo := (all_ok (P := l.prog) (w := w) (base := base) tx hB dd).1 lawIx D hD dk
      rw [hK, hfa] at fo
      exact fo
  · obtain ⟨_, _, _, _, _, _, _, _, _, _, _, _, z⟩ := c
    exact z
end TW
/-! TWX -/
set_option Elab.async false
set_option linter.all false
set_option maxRecDepth 100000
namespace TW
open PySem PySem.Spec PyProof.Rows L2
def tys : List Ty := [.int, .bool, .str, .list, .tuple, .dict, .nont, .valErr]
theorem in_tys (a : Ty) : a ∈ tys := by cases a <;> decide
theorem same_map {α β : Type} {f g : α → β} {l : List α} (h : l.map f = l.map g) {a : α} (ha : a ∈ l) : f a = g a := List.map_inj_left.mp h a ha
/-- what is asked of the classes: xs exceptions, ps plain ones -/
structure KFeq (K : PySem.W.Frag) (cl : Nat → Addr) (P : Pg) (xs ps : List Nat) : Prop where
  own : ((xs ++ ps).map fun j => tys.map fun a => PySem.W.kitOne K (.type (tyName a)) (.ref (cl j))) = (xs ++ ps).map fun j => tys.map fun a => some false
  sub : ((xs ++ ps).map fun k => (xs ++ ps).map fun j => PySem.W.kitOne K (.ref (cl k)) (.ref (cl j))) = (xs ++ ps).map fun k => (xs ++ ps).map fun j => some (P.sub k j)
  mro : ((xs ++ ps).map fun k => PySem.W.mroIn K (cl k) (.type "object")) = (xs ++ ps).map fun k => some true
  pg : (ps.map fun k => PySem.W.plainGet K (cl k) Str.empty) = ps.map fun _ => true
  hd : ((xs ++ ps).map fun k => PySem.W.hasDictIn K (cl k)) = (xs ++ ps).map fun _ => true
  po : (ps.map fun k => PySem.W.plainOver K (cl k)) = ps.map fun _ => true
  sa : (ps.map fun k => PySem.W.findIn K (.ref (cl k)) "__setattr__") = ps.map fun _ => some (some (.builtin "object.__setattr__"))
  at_ : ((xs ++ ps).map fun k => PySem.W.findIn K (.ref (cl k)) "__class__") = (xs ++ ps).map fun _ => some (some (.builtin "object.__class__"))
  sp : PySem.W.specialIn K (.builtin "object.__class__") "__get__" = some (some (.builtin "getset_descriptor.__get__"))
  tk : PySem.W.takesIn K (.builtin "object.__class__") = some true
  exm : (xs.map fun k => xs.map fun j => PySem.W.exmOne K (.ref (cl k)) (.ref (cl j))) = xs.map fun k => xs.map fun j => some (P.sub k j)
  ga : (xs.map fun k => PySem.W.findIn K (.ref (cl k)) "__getattribute__") = xs.map fun _ => some (some (.builtin "BaseException.__getattribute__"))
  gg : (xs.map fun k => PySem.W.findIn K (.ref (cl k)) "__getattr__") = xs.map fun _ => some none
  sb : (xs.map fun k => PySem.W.subIn K (.ref (cl k)) (.type "BaseException")) = xs.map fun _ => some true
  ini : (xs.map fun k => PySem.W.excIn K (cl k) [.type "ValueError", .type "Exception", .type "BaseException", .type "object"] "ValueError.__new__") = xs.map fun _ => true
  kp : (xs.map fun k => PySem.W.keepIn K (.ref (cl k))) = xs.map fun _ => true
  ty : (xs.map fun k => PySem.W.typeIn K (.ref (cl k))) = xs.map fun _ => some (.type "type")
  ve : (xs.map fun k => PySem.W.kitOne K (.ref (cl k)) (.type "ValueError")) = xs.map fun _ => some true
theorem KFeq.kf {W : Wd} {P : Pg} {xs ps : List Nat} (h : KFeq W.K W.cl P xs ps) (hx : ∀ k, P.okc k = true → P.exc k = true → k ∈ xs) (hp : ∀ k, P.okc k = true → P.exc k = false → k ∈ ps) : KF W P := by
  have ha : ∀ k, P.okc k = true → k ∈ xs ++ ps := fun k ok => by
    cases e : P.exc k with
    | true => exact List.mem_append_left _ (hx k ok e)
    | false => exact List.mem_append_right _ (hp k ok e)
  exact
    { own := fun a j ok => same_map (same_map h.own (ha j ok)) (in_tys a)
      sub := fun k j ok ok' => same_map (same_map h.sub (ha k ok)) (ha j ok')
      cls := fun k ok e => ⟨same_map h.pg (hp k ok e), same_map h.hd (ha k ok), same_map h.po (hp k ok e), same_map h.sa (hp k ok e)⟩
      mro := fun k ok => same_map h.mro (ha k ok)
      at_ := fun k ok e => same_map h.at_ (ha k ok)
      sp := h.sp
      tk := h.tk
      exm := fun k c ok e ok' e' => same_map (same_map h.exm (hx k ok e)) (hx c ok' e')
      exC := fun k ok e => ⟨same_map h.ga (hx k ok e), same_map h.gg (hx k ok e), same_map h.sb (hx k ok e), same_map h.hd (ha k ok), same_map h.at_ (ha k ok), h.sp, h.tk, same_map h.mro (ha k ok)⟩
      exI := fun k ok e => same_map h.ini (hx k ok e)
      exk := fun k ok e => ⟨same_map h.kp (hx k ok e), same_map h.sb (hx k ok e), same_map h.ty (hx k ok e)⟩
      exv := fun k ok e => same_map h.ve (hx k ok e) }
def AllQ {α : Type} (f : α → Prop) : List α → Prop
  | [] => True
  | a :: r => f a ∧ AllQ f r
theorem AllQ.get {α : Type} {f : α → Prop} : ∀ {l : List α} {a : α}, AllQ f l → a ∈ l → f a
  | b :: r, a, h, m => by
    cases m with
    | head => exact h.1
    | tail _ m => exact AllQ.get h.2 m
theorem AllQ.all {α : Type} {f : α → Prop} {l : List α} (h : AllQ f l) (a : α) (m : a ∈ l) : f a := h.get m
theorem mem_lookN {β : Type} {k : Nat} {v : β} : ∀ {l : List (Nat × β)}, l.lookup k = some v → (k, v) ∈ l
  | (j, w) :: r, h => by
    rw [List.lookup_cons] at h
    split at h
    · rename_i e
      cases h
      rw [eq_of_beq e]
      exact List.mem_cons_self
    · exact List.mem_cons_of_mem _ (mem_lookN h)
/-- no class has a field's name -/
def NoAt (K : PySem.W.Frag) (cl : Nat → Addr) (ps : List Nat) : Prop := (ps.map fun k => (List.range 5).map fun f => PySem.W.findIn K (.ref (cl k)) (fldName f)) = ps.map fun _ => (List.range 5).map fun _ => some none
theorem OF.tabs {W : Wd} {P : Pg} {mts its : List (Nat × Nat)} {okf : Nat → Bool} {ps : List Nat} (na : NoAt W.K W.cl ps) (hp : ∀ k, P.okc k = true → P.exc k = false → k ∈ ps)
    (mm : AllQ (fun p : Nat × Nat => okf p.2 = true ∧ P.okc p.1 = true ∧ P.exc p.1 = false ∧ Meth W.K (W.cl p.1) "shows" (W.fn p.2)) mts) (ii : AllQ (fun p : Nat × Nat => okf p.2 = true ∧ Mk W.K (W.cl p.1) (W.fn p.2)) its) :
    OF W P (fun c _ => mts.lookup c) (fun c => its.lookup c) okf where
  na := fun c f ok ne h5 => same_map (same_map na (hp c ok ne)) (List.mem_range.mpr h5)
  mt := fun c m f e => mm.all (c, f) (mem_lookN e)
  make := fun c f e => ii.all (c, f) (mem_lookN e)
/-- addresses by numbers -/
def adr (l : List (Nat × Addr)) (i : Nat) : Addr := (l.lookup i).getD 0
end TW
/-! G10 -/
set_option Elab.async false
set_option linter.all false
set_option maxRecDepth 100000
namespace TWL
open PySem PySem.Spec PyProof.Rows L2 TW
def tops (i : Nat) : Stmt := PySem.Challenge.pw_tipwebs_k10_promises_by_hand.main.body.getD i (.Pass ⟨0, 0, 0, 0⟩)
/-- is_number: thing -/
def I_is_number : IS :=
  (.seq (.ret (.and (.bi .isi (.cons (.v 0) (.cons (.g (.ty .int)) .nil))) (.not (.bi .isi (.cons (.v 0) (.cons (.g (.ty .bool)) .nil))))))
  .skip)
def D_is_number : Df := ⟨1, 1, true, I_is_number⟩
def S_is_number : Stmt := tops 10
def N_is_number : List Str := [(PySem.Str.ofString "thing")]
def P_is_number : List Str := [(PySem.Str.ofString "thing")]
/-- is_tie: thing places one -/
def I_is_tie : IS :=
  (.seq (.iff (.or (.not (.bi .isi (.cons (.v 0) (.cons (.g (.ty .tuple)) .nil)))) (.or (.cmp .ne (.bi .len (.cons (.v 0) .nil)) (.c (.int 2))) (.not (.bi .all (.cons (.newF (.comp (.nm 2) (.wT (.v 0)) false (.c (.bl true)) (.callD false 0 (.cons (.v 2) .nil)) [2])) .nil))))) (.seq (.ret (.c (.bl false)))
  .skip) .skip)
  (.seq (.ret (.chain3 .le .lt .lt (.c (.int 0)) (.ix (.v 0) (.c (.int 0))) (.ix (.v 0) (.c (.int 1))) (.v 1)))
  .skip))
def D_is_tie : Df := ⟨2, 3, true, I_is_tie⟩
def S_is_tie : Stmt := tops 11
def N_is_tie : List Str := [(PySem.Str.ofString "thing"), (PySem.Str.ofString "places"), (PySem.Str.ofString "one")]
def P_is_tie : List Str := [(PySem.Str.ofString "thing"), (PySem.Str.ofString "places")]
/-- check_places: places -/
def I_check_places : IS :=
  (.seq (.iff (.or (.not (.callD false 0 (.cons (.v 0) .nil))) (.not (.chain .le .le (.c (.int 1)) (.v 0) (.g (.int 40))))) (.seq (.raise 1)
  .skip) .skip)
  .skip)
def D_check_places : Df := ⟨1, 1, true, I_check_places⟩
def S_check_places : Stmt := tops 12
def N_check_places : List Str := [(PySem.Str.ofString "places")]
def P_check_places : List Str := [(PySem.Str.ofString "places")]
/-- check_web: places ties tie -/
def I_check_web : IS :=
  (.seq (.expr (.callD false 2 (.cons (.v 0) .nil)))
  (.seq (.iff (.or (.not (.bi .isi (.cons (.v 1) (.cons (.g (.ty .list)) .nil)))) (.not (.bi .all (.cons (.newF (.comp (.nm 2) (.wL (.v 1)) false (.c (.bl true)) (.callD false 1 (.cons (.v 2) (.cons (.v 0) .nil))) [2])) .nil)))) (.seq (.raise 2)
  .skip) .skip)
  (.seq (.iff (.cmp .ne (.lenSet (.v 1)) (.bi .len (.cons (.v 1) .nil))) (.seq (.raise 2)
  .skip) .skip)
  .skip)))
def D_check_web : Df := ⟨2, 3, true, I_check_web⟩
def S_check_web : Stmt := tops 13
def N_check_web : List Str := [(PySem.Str.ofString "places"), (PySem.Str.ofString "ties"), (PySem.Str.ofString "tie")]
def P_check_web : List Str := [(PySem.Str.ofString "places"), (PySem.Str.ofString "ties")]
/-- beside: places ties found one other place some -/
def I_beside : IS :=
  (.seq (.asg (.nm 2) (.newF (.comp (.nm 5) (.wR1 (.v 0)) false (.c (.bl true)) (.newM (.lst .nil)) [5])))
  (.seq (.for (.tp (.cons (.nm 3) (.cons (.nm 4) .nil))) (.wL (.v 1)) (.seq (.expr (.lm .append (.ix (.v 2) (.v 3)) (.cons (.v 4) .nil)))
  (.seq (.expr (.lm .append (.ix (.v 2) (.v 4)) (.cons (.v 3) .nil)))
  .skip)))
  (.seq (.ret (.newF (.comp (.nm 6) (.wL (.v 2)) false (.c (.bl true)) (.newF (.sorted (.v 6))) [6])))
  .skip)))
def D_beside : Df := ⟨2, 7, true, I_beside⟩
def S_beside : Stmt := tops 14
def N_beside : List Str := [(PySem.Str.ofString "places"), (PySem.Str.ofString "ties"), (PySem.Str.ofString "found"), (PySem.Str.ofString "one"), (PySem.Str.ofString "other"), (PySem.Str.ofString "place"), (PySem.Str.ofString "some")]
def P_beside : List Str := [(PySem.Str.ofString "places"), (PySem.Str.ofString "ties")]
/-- row_by: counts left lost found now place -/
def I_row_by : IS :=
  (.seq (.asg (.nm 1) (.newM (.lrange (.bi .len (.cons (.v 0) .nil)))))
  (.seq (.asg (.nm 2) (.c (.int 0)))
  (.seq (.asg (.nm 3) (.newM (.lst .nil)))
  (.seq (.whl 100 (.cmp .gt (.bi .len (.cons (.v 1) .nil)) (.c (.int 1))) (.seq (.asg (.nm 4) (.newF (.comp (.nm 5) (.wQ (.v 1)) false (.c (.bl true)) (.bin .sub (.ix (.v 0) (.v 5)) (.v 2)) [5])))
  (.seq (.iff (.cmp .inn (.c (.int 0)) (.v 4)) (.seq (.expr (.lm .append (.v 3) (.cons (.tup (.cons (.lm .popAt (.v 1) (.cons (.mc .index (.v 4) (.c (.int 0))) .nil)) (.cons (.c (.bl false)) .nil))) .nil)))
  .skip) (.seq (.iff (.cmp .inn (.bin .sub (.bi .len (.cons (.v 1) .nil)) (.c (.int 1))) (.v 4)) (.seq (.expr (.lm .append (.v 3) (.cons (.tup (.cons (.lm .popAt (.v 1) (.cons (.mc .index (.v 4) (.bin .sub (.bi .len (.cons (.v 1) .nil)) (.c (.int 1)))) .nil)) (.cons (.c (.bl true)) .nil))) .nil)))
  (.seq (.aug 2 .add (.c (.int 1)))
  .skip)) (.seq (.ret (.c .non))
  .skip))
  .skip))
  .skip)))
  (.frz 1
  (.seq (.iff (.cmp .ne (.ix (.v 0) (.ix (.v 1) (.c (.int 0)))) (.v 2)) (.seq (.ret (.c .non))
  .skip) .skip)
  (.seq (.expr (.lm .append (.v 3) (.cons (.tup (.cons (.ix (.v 1) (.c (.int 0))) (.cons (.c (.bl false)) .nil))) .nil)))
  (.frz 3
  (.seq (.ret (.newF (.rev (.v 3))))
  .skip)))))))))
def D_row_by : Df := ⟨1, 6, true, I_row_by⟩
def S_row_by : Stmt := tops 15
def N_row_by : List Str := [(PySem.Str.ofString "counts"), (PySem.Str.ofString "left"), (PySem.Str.ofString "lost"), (PySem.Str.ofString "found"), (PySem.Str.ofString "now"), (PySem.Str.ofString "place")]
def P_row_by : List Str := [(PySem.Str.ofString "counts")]
/-- row_in: places ties found some -/
def I_row_in : IS :=
  (.seq (.expr (.callD false 3 (.cons (.v 0) (.cons (.v 1) .nil))))
  (.seq (.asg (.nm 2) (.callD false 5 (.cons (.newF (.comp (.nm 3) (.wL (.callD false 4 (.cons (.v 0) (.cons (.v 1) .nil)))) false (.c (.bl true)) (.bi .len (.cons (.v 3) .nil)) [3])) .nil)))
  (.seq (.iff (.cmp .is (.v 2) (.c .non)) (.seq (.raise 6)
  .skip) .skip)
  (.seq (.ret (.v 2))
  .skip))))
def D_row_in : Df := ⟨2, 4, true, I_row_in⟩
def S_row_in : Stmt := tops 16
def N_row_in : List Str := [(PySem.Str.ofString "places"), (PySem.Str.ofString "ties"), (PySem.Str.ofString "found"), (PySem.Str.ofString "some")]
def P_row_in : List Str := [(PySem.Str.ofString "places"), (PySem.Str.ofString "ties")]
/-- ties_of: row found at place tied other mark -/
def I_ties_of : IS :=
  (.seq (.asg (.nm 1) (.newM (.lst .nil)))
  (.seq (.for (.tp (.cons (.nm 2) (.cons (.tp (.cons (.nm 3) (.cons (.nm 4) .nil))) .nil))) (.wEn (.v 0)) (.seq (.iff (.v 4) (.seq (.expr (.lm .extend (.v 1) (.cons (.newF (.comp (.tp (.cons (.nm 5) (.cons (.nm 6) .nil))) (.wL (.newF (.slice (.v 0) .none (.opt (.v 2))))) false (.c (.bl true)) (.tup (.cons (.bi .min2 (.cons (.v 3) (.cons (.v 5) .nil))) (.cons (.bi .max2 (.cons (.v 3) (.cons (.v 5) .nil))) .nil))) [5, 6])) .nil)))
  .skip) .skip)
  .skip))
  (.frz 1
  (.seq (.ret (.newM (.sorted (.v 1))))
  .skip))))
def D_ties_of : Df := ⟨1, 7, true, I_ties_of⟩
def S_ties_of : Stmt := tops 17
def N_ties_of : List Str := [(PySem.Str.ofString "row"), (PySem.Str.ofString "found"), (PySem.Str.ofString "at"), (PySem.Str.ofString "place"), (PySem.Str.ofString "tied"), (PySem.Str.ofString "other"), (PySem.Str.ofString "mark")]
def P_ties_of : List Str := [(PySem.Str.ofString "row")]
/-- is_part: thing -/
def I_is_part : IS :=
  (.seq (.iff (.or (.not (.bi .isi (.cons (.v 0) (.cons (.g (.ty .tuple)) .nil)))) (.cmp .ne (.bi .len (.cons (.v 0) .nil)) (.c (.int 2)))) (.seq (.ret (.c (.bl false)))
  .skip) .skip)
  (.seq (.ret (.and (.callD false 0 (.cons (.ix (.v 0) (.c (.int 0))) .nil)) (.bi .isi (.cons (.ix (.v 0) (.c (.int 1))) (.cons (.g (.ty .bool)) .nil)))))
  .skip))
def D_is_part : Df := ⟨1, 1, true, I_is_part⟩
def S_is_part : Stmt := tops 38
def N_is_part : List Str := [(PySem.Str.ofString "thing")]
def P_is_part : List Str := [(PySem.Str.ofString "thing")]
/-- row_of: places ties -/
def I_row_of : IS :=
  (.seq (.ret (.callD false 6 (.cons (.v 0) (.cons (.v 1) .nil))))
  .skip)
def D_row_of : Df := ⟨2, 2, true, I_row_of⟩
def S_row_of : Stmt := tops 39
def N_row_of : List Str := [(PySem.Str.ofString "places"), (PySem.Str.ofString "ties")]
def P_row_of : List Str := [(PySem.Str.ofString "places"), (PySem.Str.ofString "ties")]
/-- by_row: row part place tied -/
def I_by_row : IS :=
  (.seq (.iff (.or (.not (.bi .isi (.cons (.v 0) (.cons (.g (.ty .list)) .nil)))) (.or (.not (.chain .le .le (.c (.int 1)) (.bi .len (.cons (.v 0) .nil)) (.g (.int 40)))) (.not (.bi .all (.cons (.newF (.comp (.nm 1) (.wL (.v 0)) false (.c (.bl true)) (.callD false 8 (.cons (.v 1) .nil)) [1])) .nil))))) (.seq (.raise 3)
  .skip) .skip)
  (.seq (.iff (.or (.ix (.ix (.v 0) (.c (.int 0))) (.c (.int 1))) (.cmp .ne (.newF (.sorted (.newF (.comp (.tp (.cons (.nm 2) (.cons (.nm 3) .nil))) (.wL (.v 0)) false (.c (.bl true)) (.v 2) [2, 3])))) (.newF (.lrange (.bi .len (.cons (.v 0) .nil)))))) (.seq (.raise 3)
  .skip) .skip)
  (.seq (.ret (.callD false 7 (.cons (.v 0) .nil)))
  .skip)))
def D_by_row : Df := ⟨1, 4, true, I_by_row⟩
def S_by_row : Stmt := tops 40
def N_by_row : List Str := [(PySem.Str.ofString "row"), (PySem.Str.ofString "part"), (PySem.Str.ofString "place"), (PySem.Str.ofString "tied")]
def P_by_row : List Str := [(PySem.Str.ofString "row")]
/-- by_counts: counts row count -/
def I_by_counts : IS :=
  (.seq (.iff (.or (.not (.bi .isi (.cons (.v 0) (.cons (.g (.ty .list)) .nil)))) (.not (.chain .le .le (.c (.int 1)) (.bi .len (.cons (.v 0) .nil)) (.g (.int 40))))) (.seq (.raise 4)
  .skip) .skip)
  (.seq (.iff (.not (.bi .all (.cons (.newF (.comp (.nm 2) (.wL (.v 0)) false (.c (.bl true)) (.and (.callD false 0 (.cons (.v 2) .nil)) (.cmp .ge (.v 2) (.c (.int 0)))) [2])) .nil))) (.seq (.raise 4)
  .skip) .skip)
  (.seq (.asg (.nm 1) (.callD false 5 (.cons (.v 0) .nil)))
  (.seq (.iff (.cmp .is (.v 1) (.c .non)) (.seq (.raise 6)
  .skip) .skip)
  (.seq (.ret (.callD false 7 (.cons (.v 1) .nil)))
  .skip)))))
def D_by_counts : Df := ⟨1, 3, true, I_by_counts⟩
def S_by_counts : Stmt := tops 41
def N_by_counts : List Str := [(PySem.Str.ofString "counts"), (PySem.Str.ofString "row"), (PySem.Str.ofString "count")]
def P_by_counts : List Str := [(PySem.Str.ofString "counts")]
/-- Weighed.__init__: self weights bound -/
def I_Weighed___init__ : IS :=
  (.seq (.setfld (.v 0) 0 (.newM (.listOf (.v 1))))
  (.seq (.setfld (.v 0) 1 (.v 2))
  .skip))
def D_Weighed___init__ : Df := ⟨3, 3, false, I_Weighed___init__⟩
def S_Weighed___init__ : Stmt := inClass (tops 20) 0
def N_Weighed___init__ : List Str := [(PySem.Str.ofString "self"), (PySem.Str.ofString "weights"), (PySem.Str.ofString "bound")]
def P_Weighed___init__ : List Str := [(PySem.Str.ofString "self"), (PySem.Str.ofString "weights"), (PySem.Str.ofString "bound")]
/-- Weighed.shows: self places ties near one other weight -/
def I_Weighed_shows : IS :=
  (.seq (.iff (.or (.cmp .ne (.bi .len (.cons (.fld (.v 0) 0) .nil)) (.v 1)) (.or (.cmp .lt (.fld (.v 0) 1) (.c (.int 1))) (.not (.bi .all (.cons (.newF (.comp (.nm 6) (.wQ (.fld (.v 0) 0)) false (.c (.bl true)) (.cmp .ge (.v 6) (.c (.int 0))) [6])) .nil))))) (.seq (.ret (.c (.bl false)))
  .skip) .skip)
  (.seq (.asg (.nm 3) (.callD false 4 (.cons (.v 1) (.cons (.v 2) .nil))))
  (.seq (.for (.nm 4) (.wR1 (.v 1)) (.seq (.for (.nm 5) (.wR1 (.v 4)) (.seq (.iff (.cmp .ne (.cmp .ge (.bin .add (.ix (.fld (.v 0) 0) (.v 4)) (.ix (.fld (.v 0) 0) (.v 5))) (.fld (.v 0) 1)) (.cmp .inn (.v 5) (.ix (.v 3) (.v 4)))) (.seq (.ret (.c (.bl false)))
  .skip) .skip)
  .skip))
  .skip))
  (.seq (.ret (.c (.bl true)))
  .skip))))
def D_Weighed_shows : Df := ⟨3, 7, false, I_Weighed_shows⟩
def S_Weighed_shows : Stmt := inClass (tops 20) 1
def N_Weighed_shows : List Str := [(PySem.Str.ofString "self"), (PySem.Str.ofString "places"), (PySem.Str.ofString "ties"), (PySem.Str.ofString "near"), (PySem.Str.ofString "one"), (PySem.Str.ofString "other"), (PySem.Str.ofString "weight")]
def P_Weighed_shows : List Str := [(PySem.Str.ofString "self"), (PySem.Str.ofString "places"), (PySem.Str.ofString "ties")]
/-- Barred.__init__: self four -/
def I_Barred___init__ : IS :=
  (.seq (.setfld (.v 0) 2 (.newM (.listOf (.v 1))))
  .skip)
def D_Barred___init__ : Df := ⟨2, 2, false, I_Barred___init__⟩
def S_Barred___init__ : Stmt := inClass (tops 21) 0
def N_Barred___init__ : List Str := [(PySem.Str.ofString "self"), (PySem.Str.ofString "four")]
def P_Barred___init__ : List Str := [(PySem.Str.ofString "self"), (PySem.Str.ofString "four")]
/-- Barred.shows: self places ties near first second third fourth one -/
def I_Barred_shows : IS :=
  (.seq (.iff (.or (.cmp .ne (.bi .len (.cons (.fld (.v 0) 2) .nil)) (.c (.int 4))) (.or (.cmp .ne (.lenSet (.fld (.v 0) 2)) (.c (.int 4))) (.not (.bi .all (.cons (.newF (.comp (.nm 8) (.wQ (.fld (.v 0) 2)) false (.c (.bl true)) (.chain .le .lt (.c (.int 0)) (.v 8) (.v 1)) [8])) .nil))))) (.seq (.ret (.c (.bl false)))
  .skip) .skip)
  (.seq (.asg (.nm 3) (.callD false 4 (.cons (.v 1) (.cons (.v 2) .nil))))
  (.seq (.asg (.tp (.cons (.nm 4) (.cons (.nm 5) (.cons (.nm 6) (.cons (.nm 7) .nil))))) (.fld (.v 0) 2))
  (.seq (.iff (.or (.cmp .notin (.v 5) (.ix (.v 3) (.v 4))) (.cmp .notin (.v 7) (.ix (.v 3) (.v 6)))) (.seq (.ret (.c (.bl false)))
  .skip) .skip)
  (.seq (.ret (.and (.cmp .notin (.v 6) (.ix (.v 3) (.v 4))) (.cmp .notin (.v 7) (.ix (.v 3) (.v 5)))))
  .skip)))))
def D_Barred_shows : Df := ⟨3, 9, false, I_Barred_shows⟩
def S_Barred_shows : Stmt := inClass (tops 21) 1
def N_Barred_shows : List Str := [(PySem.Str.ofString "self"), (PySem.Str.ofString "places"), (PySem.Str.ofString "ties"), (PySem.Str.ofString "near"), (PySem.Str.ofString "first"), (PySem.Str.ofString "second"), (PySem.Str.ofString "third"), (PySem.Str.ofString "fourth"), (PySem.Str.ofString "one")]
def P_Barred_shows : List Str := [(PySem.Str.ofString "self"), (PySem.Str.ofString "places"), (PySem.Str.ofString "ties")]
/-- are_all: near some tied at place other -/
def I_are_all : IS :=
  (.seq (.iff (.or (.cmp .ne (.v 1) (.newF (.sortedSet (.v 1)))) (.not (.bi .all (.cons (.newF (.comp (.nm 4) (.wL (.v 1)) false (.c (.bl true)) (.chain .le .lt (.c (.int 0)) (.v 4) (.bi .len (.cons (.v 0) .nil))) [4])) .nil)))) (.seq (.ret (.c (.bl false)))
  .skip) .skip)
  (.seq (.for (.tp (.cons (.nm 3) (.cons (.nm 4) .nil))) (.wEn (.v 1)) (.seq (.iff (.bi .any (.cons (.newF (.comp (.nm 5) (.wL (.newF (.slice (.v 1) .none (.opt (.v 3))))) false (.c (.bl true)) (.cmp .ne (.cmp .inn (.v 5) (.ix (.v 0) (.v 4))) (.v 2)) [5])) .nil)) (.seq (.ret (.c (.bl false)))
  .skip) .skip)
  .skip))
  (.seq (.ret (.c (.bl true)))
  .skip)))
def D_are_all : Df := ⟨3, 6, true, I_are_all⟩
def S_are_all : Stmt := tops 22
def N_are_all : List Str := [(PySem.Str.ofString "near"), (PySem.Str.ofString "some"), (PySem.Str.ofString "tied"), (PySem.Str.ofString "at"), (PySem.Str.ofString "place"), (PySem.Str.ofString "other")]
def P_are_all : List Str := [(PySem.Str.ofString "near"), (PySem.Str.ofString "some"), (PySem.Str.ofString "tied")]
/-- are_parted: near groups tied every group -/
def I_are_parted : IS :=
  (.seq (.iff (.not (.bi .all (.cons (.newF (.comp (.nm 4) (.wL (.v 1)) false (.c (.bl true)) (.and (.callD false 16 (.cons (.v 0) (.cons (.v 4) (.cons (.v 2) .nil)))) (.cmp .ne (.v 4) (.newF (.lst .nil)))) [4])) .nil))) (.seq (.ret (.c (.bl false)))
  .skip) .skip)
  (.seq (.asg (.nm 3) (.newM (.lst .nil)))
  (.seq (.for (.nm 4) (.wL (.v 1)) (.seq (.expr (.lm .extend (.v 3) (.cons (.v 4) .nil)))
  .skip))
  (.frz 3
  (.seq (.ret (.cmp .eq (.newF (.sorted (.v 3))) (.newF (.lrange (.bi .len (.cons (.v 0) .nil))))))
  .skip)))))
def D_are_parted : Df := ⟨3, 5, true, I_are_parted⟩
def S_are_parted : Stmt := tops 23
def N_are_parted : List Str := [(PySem.Str.ofString "near"), (PySem.Str.ofString "groups"), (PySem.Str.ofString "tied"), (PySem.Str.ofString "every"), (PySem.Str.ofString "group")]
def P_are_parted : List Str := [(PySem.Str.ofString "near"), (PySem.Str.ofString "groups"), (PySem.Str.ofString "tied")]
/-- Crowd.__init__: self some groups group -/
def I_Crowd___init__ : IS :=
  (.seq (.setfld (.v 0) 3 (.newM (.listOf (.v 1))))
  (.seq (.setfld (.v 0) 4 (.newM (.comp (.nm 3) (.wL (.v 2)) false (.c (.bl true)) (.newM (.listOf (.v 3))) [3])))
  .skip))
def D_Crowd___init__ : Df := ⟨3, 4, false, I_Crowd___init__⟩
def S_Crowd___init__ : Stmt := inClass (tops 24) 0
def N_Crowd___init__ : List Str := [(PySem.Str.ofString "self"), (PySem.Str.ofString "some"), (PySem.Str.ofString "groups"), (PySem.Str.ofString "group")]
def P_Crowd___init__ : List Str := [(PySem.Str.ofString "self"), (PySem.Str.ofString "some"), (PySem.Str.ofString "groups")]
/-- Crowd.shows: self places ties near -/
def I_Crowd_shows : IS :=
  (.seq (.asg (.nm 3) (.callD false 4 (.cons (.v 1) (.cons (.v 2) .nil))))
  (.seq (.iff (.or (.not (.callD false 16 (.cons (.v 3) (.cons (.fld (.v 0) 3) (.cons (.c (.bl true)) .nil))))) (.not (.callD false 17 (.cons (.v 3) (.cons (.fld (.v 0) 4) (.cons (.c (.bl false)) .nil)))))) (.seq (.ret (.c (.bl false)))
  .skip) .skip)
  (.seq (.ret (.cmp .eq (.bi .len (.cons (.fld (.v 0) 3) .nil)) (.bi .len (.cons (.fld (.v 0) 4) .nil))))
  .skip)))
def D_Crowd_shows : Df := ⟨3, 4, false, I_Crowd_shows⟩
def S_Crowd_shows : Stmt := inClass (tops 24) 1
def N_Crowd_shows : List Str := [(PySem.Str.ofString "self"), (PySem.Str.ofString "places"), (PySem.Str.ofString "ties"), (PySem.Str.ofString "near")]
def P_Crowd_shows : List Str := [(PySem.Str.ofString "self"), (PySem.Str.ofString "places"), (PySem.Str.ofString "ties")]
/-- Lonely.__init__: self some groups group -/
def I_Lonely___init__ : IS :=
  (.seq (.setfld (.v 0) 3 (.newM (.listOf (.v 1))))
  (.seq (.setfld (.v 0) 4 (.newM (.comp (.nm 3) (.wL (.v 2)) false (.c (.bl true)) (.newM (.listOf (.v 3))) [3])))
  .skip))
def D_Lonely___init__ : Df := ⟨3, 4, false, I_Lonely___init__⟩
def S_Lonely___init__ : Stmt := inClass (tops 25) 0
def N_Lonely___init__ : List Str := [(PySem.Str.ofString "self"), (PySem.Str.ofString "some"), (PySem.Str.ofString "groups"), (PySem.Str.ofString "group")]
def P_Lonely___init__ : List Str := [(PySem.Str.ofString "self"), (PySem.Str.ofString "some"), (PySem.Str.ofString "groups")]
/-- Lonely.shows: self places ties near -/
def I_Lonely_shows : IS :=
  (.seq (.asg (.nm 3) (.callD false 4 (.cons (.v 1) (.cons (.v 2) .nil))))
  (.seq (.iff (.or (.not (.callD false 16 (.cons (.v 3) (.cons (.fld (.v 0) 3) (.cons (.c (.bl false)) .nil))))) (.not (.callD false 17 (.cons (.v 3) (.cons (.fld (.v 0) 4) (.cons (.c (.bl true)) .nil)))))) (.seq (.ret (.c (.bl false)))
  .skip) .skip)
  (.seq (.ret (.cmp .eq (.bi .len (.cons (.fld (.v 0) 3) .nil)) (.bi .len (.cons (.fld (.v 0) 4) .nil))))
  .skip)))
def D_Lonely_shows : Df := ⟨3, 4, false, I_Lonely_shows⟩
def S_Lonely_shows : Stmt := inClass (tops 25) 1
def N_Lonely_shows : List Str := [(PySem.Str.ofString "self"), (PySem.Str.ofString "places"), (PySem.Str.ofString "ties"), (PySem.Str.ofString "near")]
def P_Lonely_shows : List Str := [(PySem.Str.ofString "self"), (PySem.Str.ofString "places"), (PySem.Str.ofString "ties")]
/-- halves: places ties row untied place tied -/
def I_halves : IS :=
  (.seq (.asg (.nm 2) (.callD false 6 (.cons (.v 0) (.cons (.v 1) .nil))))
  (.seq (.asg (.nm 3) (.newF (.comp (.tp (.cons (.nm 4) (.cons (.nm 5) .nil))) (.wL (.v 2)) true (.not (.v 5)) (.v 4) [4, 5])))
  (.seq (.ret (.tup (.cons (.ix (.ix (.v 2) (.c (.int 0))) (.c (.int 0))) (.cons (.v 3) (.cons (.newF (.comp (.tp (.cons (.nm 4) (.cons (.nm 5) .nil))) (.wL (.v 2)) true (.v 5) (.v 4) [4, 5])) .nil)))))
  .skip)))
def D_halves : Df := ⟨2, 6, true, I_halves⟩
def S_halves : Stmt := tops 31
def N_halves : List Str := [(PySem.Str.ofString "places"), (PySem.Str.ofString "ties"), (PySem.Str.ofString "row"), (PySem.Str.ofString "untied"), (PySem.Str.ofString "place"), (PySem.Str.ofString "tied")]
def P_halves : List Str := [(PySem.Str.ofString "places"), (PySem.Str.ofString "ties")]
/-- crowd: places ties first untied tied place -/
def I_crowd : IS :=
  (.seq (.asg (.tp (.cons (.nm 2) (.cons (.nm 3) (.cons (.nm 4) .nil)))) (.callD false 22 (.cons (.v 0) (.cons (.v 1) .nil))))
  (.seq (.ret (.make 10 (.cons (.newF (.sorted (.newF (.cat (.newF (.lst (.cons (.v 2) .nil))) (.v 4))))) (.cons (.newF (.cat (.newF (.lst (.cons (.newF (.sorted (.v 3))) .nil))) (.newF (.comp (.nm 5) (.wL (.v 4)) false (.c (.bl true)) (.newF (.lst (.cons (.v 5) .nil))) [5])))) .nil))))
  .skip))
def D_crowd : Df := ⟨2, 6, false, I_crowd⟩
def S_crowd : Stmt := tops 32
def N_crowd : List Str := [(PySem.Str.ofString "places"), (PySem.Str.ofString "ties"), (PySem.Str.ofString "first"), (PySem.Str.ofString "untied"), (PySem.Str.ofString "tied"), (PySem.Str.ofString "place")]
def P_crowd : List Str := [(PySem.Str.ofString "places"), (PySem.Str.ofString "ties")]
/-- lonely: places ties first untied tied place -/
def I_lonely : IS :=
  (.seq (.asg (.tp (.cons (.nm 2) (.cons (.nm 3) (.cons (.nm 4) .nil)))) (.callD false 22 (.cons (.v 0) (.cons (.v 1) .nil))))
  (.seq (.ret (.make 11 (.cons (.newF (.sorted (.v 3))) (.cons (.newF (.cat (.newF (.lst (.cons (.newF (.sorted (.newF (.cat (.newF (.lst (.cons (.v 2) .nil))) (.v 4))))) .nil))) (.newF (.comp (.nm 5) (.wL (.v 3)) true (.cmp .ne (.v 5) (.v 2)) (.newF (.lst (.cons (.v 5) .nil))) [5])))) .nil))))
  .skip))
def D_lonely : Df := ⟨2, 6, false, I_lonely⟩
def S_lonely : Stmt := tops 33
def N_lonely : List Str := [(PySem.Str.ofString "places"), (PySem.Str.ofString "ties"), (PySem.Str.ofString "first"), (PySem.Str.ofString "untied"), (PySem.Str.ofString "tied"), (PySem.Str.ofString "place")]
def P_lonely : List Str := [(PySem.Str.ofString "places"), (PySem.Str.ofString "ties")]
/-- kind_by: places number place -/
def I_kind_by : IS :=
  (.seq (.expr (.callD false 2 (.cons (.v 0) .nil)))
  (.seq (.iff (.or (.not (.callD false 0 (.cons (.v 1) .nil))) (.not (.chain .le .lt (.c (.int 0)) (.v 1) (.bin .shl (.c (.int 1)) (.bin .sub (.v 0) (.c (.int 1))))))) (.seq (.raise 5)
  .skip) .skip)
  (.seq (.ret (.callD true 7 (.cons (.newF (.cat (.newF (.lst (.cons (.tup (.cons (.c (.int 0)) (.cons (.c (.bl false)) .nil))) .nil))) (.newF (.comp (.nm 2) (.wR2 (.c (.int 1)) (.v 0)) false (.c (.bl true)) (.tup (.cons (.v 2) (.cons (.cmp .eq (.bin .mod (.bin .shr (.v 1) (.bin .sub (.v 2) (.c (.int 1)))) (.c (.int 2))) (.c (.int 1))) .nil))) [2])))) .nil)))
  .skip)))
def D_kind_by : Df := ⟨2, 3, true, I_kind_by⟩
def S_kind_by : Stmt := tops 35
def N_kind_by : List Str := [(PySem.Str.ofString "places"), (PySem.Str.ofString "number"), (PySem.Str.ofString "place")]
def P_kind_by : List Str := [(PySem.Str.ofString "places"), (PySem.Str.ofString "number")]
/-- number_of: places ties found at place tied -/
def I_number_of : IS :=
  (.seq (.asg (.nm 2) (.c (.int 0)))
  (.seq (.for (.tp (.cons (.nm 3) (.cons (.tp (.cons (.nm 4) (.cons (.nm 5) .nil))) .nil))) (.wEn (.callD false 6 (.cons (.v 0) (.cons (.v 1) .nil)))) (.seq (.iff (.v 5) (.seq (.aug 2 .add (.bin .shl (.c (.int 1)) (.bin .sub (.v 3) (.c (.int 1)))))
  .skip) .skip)
  .skip))
  (.seq (.ret (.v 2))
  .skip)))
def D_number_of : Df := ⟨2, 6, true, I_number_of⟩
def S_number_of : Stmt := tops 36
def N_number_of : List Str := [(PySem.Str.ofString "places"), (PySem.Str.ofString "ties"), (PySem.Str.ofString "found"), (PySem.Str.ofString "at"), (PySem.Str.ofString "place"), (PySem.Str.ofString "tied")]
def P_number_of : List Str := [(PySem.Str.ofString "places"), (PySem.Str.ofString "ties")]
/-- weights_of: row found at place tied -/
def I_weights_of : IS :=
  (.seq (.asg (.nm 1) (.newM (.rep (.newF (.lst (.cons (.c (.int 0)) .nil))) (.bi .len (.cons (.v 0) .nil)))))
  (.seq (.for (.tp (.cons (.nm 2) (.cons (.tp (.cons (.nm 3) (.cons (.nm 4) .nil))) .nil))) (.wEn (.v 0)) (.seq (.setix (.v 1) (.v 3) (.ife (.v 4) (.bin .add (.bi .len (.cons (.v 0) .nil)) (.v 2)) (.bin .sub (.bi .len (.cons (.v 0) .nil)) (.v 2))))
  .skip))
  (.frz 1
  (.seq (.ret (.v 1))
  .skip))))
def D_weights_of : Df := ⟨1, 5, true, I_weights_of⟩
def S_weights_of : Stmt := tops 27
def N_weights_of : List Str := [(PySem.Str.ofString "row"), (PySem.Str.ofString "found"), (PySem.Str.ofString "at"), (PySem.Str.ofString "place"), (PySem.Str.ofString "tied")]
def P_weights_of : List Str := [(PySem.Str.ofString "row")]
/-- four_in: near one other mine theirs place -/
def I_four_in : IS :=
  (.seq (.for (.nm 1) (.wR1 (.bi .len (.cons (.v 0) .nil))) (.seq (.for (.nm 2) (.wR1 (.v 1)) (.seq (.asg (.nm 3) (.newF (.comp (.nm 5) (.wL (.ix (.v 0) (.v 1))) true (.and (.cmp .ne (.v 5) (.v 2)) (.cmp .notin (.v 5) (.ix (.v 0) (.v 2)))) (.v 5) [5])))
  (.seq (.asg (.nm 4) (.newF (.comp (.nm 5) (.wL (.ix (.v 0) (.v 2))) true (.and (.cmp .ne (.v 5) (.v 1)) (.cmp .notin (.v 5) (.ix (.v 0) (.v 1)))) (.v 5) [5])))
  (.seq (.iff (.and (.cmp .ne (.v 3) (.newF (.lst .nil))) (.cmp .ne (.v 4) (.newF (.lst .nil)))) (.seq (.ret (.newF (.lst (.cons (.v 1) (.cons (.ix (.v 3) (.c (.int 0))) (.cons (.ix (.v 4) (.c (.int 0))) (.cons (.v 2) .nil)))))))
  .skip) .skip)
  .skip))))
  .skip))
  (.seq (.ret (.newF (.lst .nil)))
  .skip))
def D_four_in : Df := ⟨1, 6, true, I_four_in⟩
def S_four_in : Stmt := tops 28
def N_four_in : List Str := [(PySem.Str.ofString "near"), (PySem.Str.ofString "one"), (PySem.Str.ofString "other"), (PySem.Str.ofString "mine"), (PySem.Str.ofString "theirs"), (PySem.Str.ofString "place")]
def P_four_in : List Str := [(PySem.Str.ofString "near")]
/-- told: places ties near row some -/
def I_told : IS :=
  (.seq (.expr (.callD false 3 (.cons (.v 0) (.cons (.v 1) .nil))))
  (.seq (.asg (.nm 2) (.callD false 4 (.cons (.v 0) (.cons (.v 1) .nil))))
  (.seq (.asg (.nm 3) (.callD false 5 (.cons (.newF (.comp (.nm 4) (.wL (.v 2)) false (.c (.bl true)) (.bi .len (.cons (.v 4) .nil)) [4])) .nil)))
  (.seq (.iff (.cmp .is (.v 3) (.c .non)) (.seq (.ret (.make 9 (.cons (.callD false 28 (.cons (.v 2) .nil)) .nil)))
  .skip) .skip)
  (.seq (.ret (.make 8 (.cons (.callD false 27 (.cons (.v 3) .nil)) (.cons (.bin .mul (.c (.int 2)) (.v 0)) .nil))))
  .skip)))))
def D_told : Df := ⟨2, 5, false, I_told⟩
def S_told : Stmt := tops 29
def N_told : List Str := [(PySem.Str.ofString "places"), (PySem.Str.ofString "ties"), (PySem.Str.ofString "near"), (PySem.Str.ofString "row"), (PySem.Str.ofString "some")]
def P_told : List Str := [(PySem.Str.ofString "places"), (PySem.Str.ofString "ties")]
/-- _law_word: _law_ask _law_thing error _law_kinds -/
def I__law_word : IS :=
  (.seq (.tryx (.callV false 0 (.cons (.v 1) .nil)) 0 2 (.seq (.asg (.nm 3) (.newF (.lst (.cons (.isE 2 (.cls 4)) (.cons (.isE 2 (.cls 5)) .nil)))))
  (.seq (.asg (.nm 3) (.newF (.cat (.v 3) (.newF (.lst (.cons (.isE 2 (.cls 1)) (.cons (.isE 2 (.cls 3)) .nil)))))))
  (.seq (.asg (.nm 3) (.newF (.cat (.v 3) (.newF (.lst (.cons (.isE 2 (.cls 2)) (.cons (.isE 2 (.cls 6)) .nil)))))))
  (.seq (.ret (.ife (.cmp .inn (.c (.bl true)) (.v 3)) (.ix (.tup (.cons (.c (.str (PySem.Str.ofString "counts"))) (.cons (.c (.str (PySem.Str.ofString "number"))) (.cons (.c (.str (PySem.Str.ofString "places"))) (.cons (.c (.str (PySem.Str.ofString "row"))) (.cons (.c (.str (PySem.Str.ofString "ties"))) (.cons (.c (.str (PySem.Str.ofString "none"))) .nil))))))) (.mc .index (.v 3) (.c (.bl true)))) (.c (.str (PySem.Str.ofString "other")))))
  .skip)))))
  (.seq (.ret (.c (.str (PySem.Str.ofString "done"))))
  .skip))
def D__law_word : Df := ⟨2, 4, true, I__law_word⟩
def S__law_word : Stmt := tops 43
def N__law_word : List Str := [(PySem.Str.ofString "_law_ask"), (PySem.Str.ofString "_law_thing"), (PySem.Str.ofString "error"), (PySem.Str.ofString "_law_kinds")]
def P__law_word : List Str := [(PySem.Str.ofString "_law_ask"), (PySem.Str.ofString "_law_thing")]
/-- _law_star:  -/
def I__law_star : IS :=
  (.seq (.ret (.newF (.lst (.cons (.tup (.cons (.c (.int 0)) (.cons (.c (.int 3)) .nil))) (.cons (.tup (.cons (.c (.int 1)) (.cons (.c (.int 3)) .nil))) (.cons (.tup (.cons (.c (.int 2)) (.cons (.c (.int 3)) .nil))) .nil))))))
  .skip)
def D__law_star : Df := ⟨0, 0, true, I__law_star⟩
def S__law_star : Stmt := tops 44
def N__law_star : List Str := []
def P__law_star : List Str := []
/-- _law_told_right: _law_cases _law_star_here _law_far _law_apart _law_way _law_ring _law_places _law_ties _law_answer _law_due _law_four -/
def I__law_told_right : IS :=
  (.seq (.par [1, 2] (.cons (.callD false 41 .nil) (.cons (.bin .pow (.c (.int 10)) (.c (.int 30))) .nil)))
  (.seq (.asg (.nm 0) (.newF (.lst (.cons (.tup (.cons (.c (.int 4)) (.cons (.v 1) (.cons (.make 8 (.cons (.newF (.lst (.cons (.c (.int 0)) (.cons (.c (.int 0)) (.cons (.c (.int 0)) (.cons (.c (.int 1)) .nil)))))) (.cons (.c (.int 1)) .nil))) (.cons (.c (.bl true)) .nil))))) .nil))))
  (.seq (.asg (.nm 0) (.newF (.cat (.v 0) (.newF (.lst (.cons (.tup (.cons (.c (.int 4)) (.cons (.v 1) (.cons (.make 8 (.cons (.newF (.lst (.cons (.c (.int 1)) (.cons (.c (.int 1)) (.cons (.c (.int 1)) (.cons (.c (.int 2)) .nil)))))) (.cons (.c (.int 3)) .nil))) (.cons (.c (.bl true)) .nil))))) .nil))))))
  (.seq (.asg (.nm 0) (.newF (.cat (.v 0) (.newF (.lst (.cons (.tup (.cons (.c (.int 4)) (.cons (.v 1) (.cons (.make 8 (.cons (.newF (.lst (.cons (.c (.int 0)) (.cons (.c (.int 0)) (.cons (.c (.int 0)) (.cons (.c (.int 1)) .nil)))))) (.cons (.c (.int 0)) .nil))) (.cons (.c (.bl false)) .nil))))) .nil))))))
  (.seq (.asg (.nm 0) (.newF (.cat (.v 0) (.newF (.lst (.cons (.tup (.cons (.c (.int 4)) (.cons (.v 1) (.cons (.make 8 (.cons (.newF (.lst (.cons (.c (.int 0)) (.cons (.c (.int 0)) (.cons (.c (.int 0)) .nil))))) (.cons (.c (.int 1)) .nil))) (.cons (.c (.bl false)) .nil))))) .nil))))))
  (.seq (.asg (.nm 0) (.newF (.cat (.v 0) (.newF (.lst (.cons (.tup (.cons (.c (.int 4)) (.cons (.v 1) (.cons (.make 8 (.cons (.newF (.lst (.cons (.c (.int 0)) (.cons (.c (.int 0)) (.cons (.neg (.c (.int 1))) (.cons (.c (.int 2)) .nil)))))) (.cons (.c (.int 1)) .nil))) (.cons (.c (.bl false)) .nil))))) .nil))))))
  (.seq (.asg (.nm 0) (.newF (.cat (.v 0) (.newF (.lst (.cons (.tup (.cons (.c (.int 2)) (.cons (.newF (.lst (.cons (.tup (.cons (.c (.int 0)) (.cons (.c (.int 1)) .nil))) .nil))) (.cons (.make 8 (.cons (.newF (.lst (.cons (.c (.int 2)) (.cons (.c (.int 2)) .nil)))) (.cons (.c (.int 4)) .nil))) (.cons (.c (.bl true)) .nil))))) (.cons (.tup (.cons (.c (.int 2)) (.cons (.newF (.lst .nil)) (.cons (.make 8 (.cons (.newF (.lst (.cons (.c (.int 2)) (.cons (.c (.int 2)) .nil)))) (.cons (.c (.int 4)) .nil))) (.cons (.c (.bl false)) .nil))))) .nil)))))))
  (.seq (.asg (.nm 0) (.newF (.cat (.v 0) (.newF (.lst (.cons (.tup (.cons (.c (.int 2)) (.cons (.newF (.lst .nil)) (.cons (.make 8 (.cons (.newF (.lst (.cons (.c (.int 1)) (.cons (.c (.int 2)) .nil)))) (.cons (.c (.int 4)) .nil))) (.cons (.c (.bl true)) .nil))))) (.cons (.tup (.cons (.c (.int 2)) (.cons (.newF (.lst (.cons (.tup (.cons (.c (.int 0)) (.cons (.c (.int 1)) .nil))) .nil))) (.cons (.make 8 (.cons (.newF (.lst (.cons (.c (.int 0)) (.cons (.c (.int 0)) .nil)))) (.cons (.c (.int 0)) .nil))) (.cons (.c (.bl false)) .nil))))) .nil)))))))
  (.seq (.asg (.nm 0) (.newF (.cat (.v 0) (.newF (.lst (.cons (.tup (.cons (.c (.int 2)) (.cons (.newF (.lst (.cons (.tup (.cons (.c (.int 0)) (.cons (.c (.int 1)) .nil))) .nil))) (.cons (.make 8 (.cons (.newF (.lst (.cons (.v 2) (.cons (.c (.int 0)) .nil)))) (.cons (.v 2) .nil))) (.cons (.c (.bl true)) .nil))))) .nil))))))
  (.seq (.asg (.nm 0) (.newF (.cat (.v 0) (.newF (.lst (.cons (.tup (.cons (.c (.int 1)) (.cons (.newF (.lst .nil)) (.cons (.make 8 (.cons (.newF (.lst (.cons (.v 2) .nil))) (.cons (.c (.int 1)) .nil))) (.cons (.c (.bl true)) .nil))))) (.cons (.tup (.cons (.c (.int 4)) (.cons (.v 1) (.cons (.make 8 (.cons (.newF (.lst (.cons (.c (.int 1)) (.cons (.c (.int 1)) (.cons (.c (.int 1)) (.cons (.c (.int 1)) .nil)))))) (.cons (.c (.int 2)) .nil))) (.cons (.c (.bl false)) .nil))))) .nil)))))))
  (.seq (.iff (.bi .any (.cons (.newF (.comp (.tp (.cons (.nm 6) (.cons (.nm 7) (.cons (.nm 8) (.cons (.nm 9) .nil))))) (.wL (.v 0)) false (.c (.bl true)) (.cmp .ne (.meth (.v 8) 0 (.cons (.v 6) (.cons (.v 7) .nil))) (.v 9)) [6, 7, 8, 9])) .nil)) (.seq (.ret (.c (.bl false)))
  .skip) .skip)
  (.seq (.par [3, 4, 5] (.cons (.newF (.lst (.cons (.tup (.cons (.c (.int 0)) (.cons (.c (.int 1)) .nil))) (.cons (.tup (.cons (.c (.int 2)) (.cons (.c (.int 3)) .nil))) .nil)))) (.cons (.newF (.lst (.cons (.tup (.cons (.c (.int 0)) (.cons (.c (.int 1)) .nil))) (.cons (.tup (.cons (.c (.int 1)) (.cons (.c (.int 2)) .nil))) (.cons (.tup (.cons (.c (.int 2)) (.cons (.c (.int 3)) .nil))) .nil))))) (.cons (.newF (.lst (.cons (.tup (.cons (.c (.int 0)) (.cons (.c (.int 1)) .nil))) (.cons (.tup (.cons (.c (.int 0)) (.cons (.c (.int 3)) .nil))) (.cons (.tup (.cons (.c (.int 1)) (.cons (.c (.int 2)) .nil))) (.cons (.tup (.cons (.c (.int 2)) (.cons (.c (.int 3)) .nil))) .nil)))))) .nil))))
  (.seq (.asg (.nm 0) (.newF (.lst (.cons (.tup (.cons (.v 3) (.cons (.newF (.lst (.cons (.c (.int 0)) (.cons (.c (.int 1)) (.cons (.c (.int 2)) (.cons (.c (.int 3)) .nil)))))) (.cons (.c (.bl true)) .nil)))) (.cons (.tup (.cons (.v 3) (.cons (.newF (.lst (.cons (.c (.int 0)) (.cons (.c (.int 1)) (.cons (.c (.int 3)) (.cons (.c (.int 2)) .nil)))))) (.cons (.c (.bl true)) .nil)))) .nil)))))
  (.seq (.asg (.nm 0) (.newF (.cat (.v 0) (.newF (.lst (.cons (.tup (.cons (.v 3) (.cons (.newF (.lst (.cons (.c (.int 0)) (.cons (.c (.int 2)) (.cons (.c (.int 1)) (.cons (.c (.int 3)) .nil)))))) (.cons (.c (.bl false)) .nil)))) (.cons (.tup (.cons (.v 4) (.cons (.newF (.lst (.cons (.c (.int 0)) (.cons (.c (.int 1)) (.cons (.c (.int 2)) (.cons (.c (.int 3)) .nil)))))) (.cons (.c (.bl true)) .nil)))) .nil)))))))
  (.seq (.asg (.nm 0) (.newF (.cat (.v 0) (.newF (.lst (.cons (.tup (.cons (.v 4) (.cons (.newF (.lst (.cons (.c (.int 0)) (.cons (.c (.int 1)) (.cons (.c (.int 3)) (.cons (.c (.int 2)) .nil)))))) (.cons (.c (.bl false)) .nil)))) (.cons (.tup (.cons (.v 4) (.cons (.newF (.lst (.cons (.c (.int 1)) (.cons (.c (.int 0)) (.cons (.c (.int 2)) (.cons (.c (.int 3)) .nil)))))) (.cons (.c (.bl false)) .nil)))) (.cons (.tup (.cons (.v 5) (.cons (.newF (.lst (.cons (.c (.int 0)) (.cons (.c (.int 1)) (.cons (.c (.int 2)) (.cons (.c (.int 3)) .nil)))))) (.cons (.c (.bl true)) .nil)))) .nil))))))))
  (.seq (.asg (.nm 0) (.newF (.cat (.v 0) (.newF (.lst (.cons (.tup (.cons (.v 5) (.cons (.newF (.lst (.cons (.c (.int 0)) (.cons (.c (.int 1)) (.cons (.c (.int 3)) (.cons (.c (.int 2)) .nil)))))) (.cons (.c (.bl false)) .nil)))) .nil))))))
  (.seq (.asg (.nm 0) (.newF (.cat (.v 0) (.newF (.lst (.cons (.tup (.cons (.v 3) (.cons (.newF (.lst (.cons (.c (.int 0)) (.cons (.c (.int 1)) (.cons (.c (.int 2)) .nil))))) (.cons (.c (.bl false)) .nil)))) (.cons (.tup (.cons (.v 3) (.cons (.newF (.lst (.cons (.c (.int 0)) (.cons (.c (.int 1)) (.cons (.c (.int 2)) (.cons (.c (.int 2)) .nil)))))) (.cons (.c (.bl false)) .nil)))) .nil)))))))
  (.seq (.asg (.nm 0) (.newF (.cat (.v 0) (.newF (.lst (.cons (.tup (.cons (.v 3) (.cons (.newF (.lst (.cons (.c (.int 0)) (.cons (.c (.int 1)) (.cons (.c (.int 2)) (.cons (.c (.int 4)) .nil)))))) (.cons (.c (.bl false)) .nil)))) (.cons (.tup (.cons (.v 3) (.cons (.newF (.lst (.cons (.c (.int 0)) (.cons (.c (.int 1)) (.cons (.neg (.c (.int 2))) (.cons (.neg (.c (.int 1))) .nil)))))) (.cons (.c (.bl false)) .nil)))) .nil)))))))
  (.seq (.asg (.nm 0) (.newF (.cat (.v 0) (.newF (.lst (.cons (.tup (.cons (.v 1) (.cons (.newF (.lst (.cons (.c (.int 0)) (.cons (.c (.int 3)) (.cons (.c (.int 1)) (.cons (.c (.int 2)) .nil)))))) (.cons (.c (.bl false)) .nil)))) (.cons (.tup (.cons (.v 1) (.cons (.newF (.lst (.cons (.c (.int 0)) (.cons (.c (.int 3)) (.cons (.c (.int 3)) (.cons (.c (.int 1)) .nil)))))) (.cons (.c (.bl false)) .nil)))) .nil)))))))
  (.seq (.iff (.bi .any (.cons (.newF (.comp (.tp (.cons (.nm 7) (.cons (.nm 10) (.cons (.nm 9) .nil)))) (.wL (.v 0)) false (.c (.bl true)) (.cmp .ne (.meth (.make 9 (.cons (.v 10) .nil)) 0 (.cons (.c (.int 4)) (.cons (.v 7) .nil))) (.v 9)) [7, 9, 10])) .nil)) (.seq (.ret (.c (.bl false)))
  .skip) .skip)
  (.seq (.ret (.c (.bl true)))
  .skip)))))))))))))))))))))
def D__law_told_right : Df := ⟨0, 11, true, I__law_told_right⟩
def S__law_told_right : Stmt := tops 45
def N__law_told_right : List Str := [(PySem.Str.ofString "_law_cases"), (PySem.Str.ofString "_law_star_here"), (PySem.Str.ofString "_law_far"), (PySem.Str.ofString "_law_apart"), (PySem.Str.ofString "_law_way"), (PySem.Str.ofString "_law_ring"), (PySem.Str.ofString "_law_places"), (PySem.Str.ofString "_law_ties"), (PySem.Str.ofString "_law_answer"), (PySem.Str.ofString "_law_due"), (PySem.Str.ofString "_law_four")]
def P__law_told_right : List Str := []
/-- _law_sorts_right: _law_star_here _law_ties _law_webs _law_apart _law_way _law_ring _law_found _law_asks _law_places _law_ask -/
def I__law_sorts_right : IS :=
  (.seq (.asg (.nm 0) (.callD false 41 .nil))
  (.seq (.par [3, 4, 5] (.cons (.newF (.lst (.cons (.tup (.cons (.c (.int 0)) (.cons (.c (.int 1)) .nil))) (.cons (.tup (.cons (.c (.int 2)) (.cons (.c (.int 3)) .nil))) .nil)))) (.cons (.newF (.lst (.cons (.tup (.cons (.c (.int 0)) (.cons (.c (.int 1)) .nil))) (.cons (.tup (.cons (.c (.int 1)) (.cons (.c (.int 2)) .nil))) (.cons (.tup (.cons (.c (.int 2)) (.cons (.c (.int 3)) .nil))) .nil))))) (.cons (.newF (.lst (.cons (.tup (.cons (.c (.int 0)) (.cons (.c (.int 1)) .nil))) (.cons (.tup (.cons (.c (.int 0)) (.cons (.c (.int 3)) .nil))) (.cons (.tup (.cons (.c (.int 1)) (.cons (.c (.int 2)) .nil))) (.cons (.tup (.cons (.c (.int 2)) (.cons (.c (.int 3)) .nil))) .nil)))))) .nil))))
  (.seq (.for (.nm 1) (.wT (.tup (.cons (.v 3) (.cons (.v 4) (.cons (.v 5) .nil))))) (.seq (.asg (.nm 6) (.callD false 29 (.cons (.c (.int 4)) (.cons (.newF (.rev (.v 1))) .nil))))
  (.seq (.iff (.or (.not (.bi .isi (.cons (.v 6) (.cons (.g (.cls 9)) .nil)))) (.not (.meth (.v 6) 0 (.cons (.c (.int 4)) (.cons (.v 1) .nil))))) (.seq (.ret (.c (.bl false)))
  .skip) .skip)
  (.seq (.asg (.nm 7) (.newF (.lst (.cons (.lmb 202 []) (.cons (.lmb 201 []) (.cons (.lmb 200 []) .nil))))))
  (.seq (.iff (.cmp .ne (.newF (.comp (.nm 9) (.wL (.v 7)) false (.c (.bl true)) (.callD false 40 (.cons (.v 9) (.cons (.v 1) .nil))) [9])) (.newF (.rep (.newF (.lst (.cons (.c (.str (PySem.Str.ofString "none"))) .nil))) (.c (.int 3))))) (.seq (.ret (.c (.bl false)))
  .skip) .skip)
  .skip)))))
  (.seq (.asg (.nm 2) (.newF (.lst (.cons (.tup (.cons (.c (.int 1)) (.cons (.newF (.lst .nil)) .nil))) (.cons (.tup (.cons (.c (.int 4)) (.cons (.v 0) .nil))) (.cons (.tup (.cons (.c (.int 3)) (.cons (.newF (.lst (.cons (.tup (.cons (.c (.int 0)) (.cons (.c (.int 1)) .nil))) (.cons (.tup (.cons (.c (.int 0)) (.cons (.c (.int 2)) .nil))) (.cons (.tup (.cons (.c (.int 1)) (.cons (.c (.int 2)) .nil))) .nil))))) .nil))) (.cons (.tup (.cons (.c (.int 3)) (.cons (.newF (.lst .nil)) .nil))) (.cons (.tup (.cons (.c (.int 4)) (.cons (.newF (.lst (.cons (.tup (.cons (.c (.int 0)) (.cons (.c (.int 1)) .nil))) (.cons (.tup (.cons (.c (.int 0)) (.cons (.c (.int 2)) .nil))) (.cons (.tup (.cons (.c (.int 0)) (.cons (.c (.int 3)) .nil))) .nil))))) .nil))) (.cons (.tup (.cons (.c (.int 40)) (.cons (.newF (.lst .nil)) .nil))) .nil)))))))))
  (.seq (.for (.tp (.cons (.nm 8) (.cons (.nm 1) .nil))) (.wL (.v 2)) (.seq (.asg (.nm 6) (.callD false 29 (.cons (.v 8) (.cons (.v 1) .nil))))
  (.seq (.iff (.or (.not (.bi .isi (.cons (.v 6) (.cons (.g (.cls 8)) .nil)))) (.not (.meth (.v 6) 0 (.cons (.v 8) (.cons (.v 1) .nil))))) (.seq (.ret (.c (.bl false)))
  .skip) .skip)
  (.seq (.iff (.cmp .ne (.callD false 10 (.cons (.callD false 9 (.cons (.v 8) (.cons (.v 1) .nil))) .nil)) (.newF (.sorted (.v 1)))) (.seq (.ret (.c (.bl false)))
  .skip) .skip)
  .skip))))
  (.seq (.ret (.cmp .eq (.callD false 9 (.cons (.c (.int 1)) (.cons (.newF (.lst .nil)) .nil))) (.newF (.lst (.cons (.tup (.cons (.c (.int 0)) (.cons (.c (.bl false)) .nil))) .nil)))))
  .skip))))))
def D__law_sorts_right : Df := ⟨0, 10, true, I__law_sorts_right⟩
def S__law_sorts_right : Stmt := tops 46
def N__law_sorts_right : List Str := [(PySem.Str.ofString "_law_star_here"), (PySem.Str.ofString "_law_ties"), (PySem.Str.ofString "_law_webs"), (PySem.Str.ofString "_law_apart"), (PySem.Str.ofString "_law_way"), (PySem.Str.ofString "_law_ring"), (PySem.Str.ofString "_law_found"), (PySem.Str.ofString "_law_asks"), (PySem.Str.ofString "_law_places"), (PySem.Str.ofString "_law_ask")]
def P__law_sorts_right : List Str := []
/-- _law_rows_right: _law_star_here _law_cases _law_bads _law_nones _law_bad _law_row _law_due _law_at _law_counts -/
def I__law_rows_right : IS :=
  (.seq (.asg (.nm 0) (.callD false 41 .nil))
  (.seq (.asg (.nm 1) (.newF (.lst (.cons (.tup (.cons (.newF (.lst (.cons (.tup (.cons (.c (.int 0)) (.cons (.c (.bl false)) .nil))) (.cons (.tup (.cons (.c (.int 1)) (.cons (.c (.bl true)) .nil))) .nil)))) (.cons (.newF (.lst (.cons (.tup (.cons (.c (.int 0)) (.cons (.c (.int 1)) .nil))) .nil))) .nil))) .nil))))
  (.seq (.asg (.nm 1) (.newF (.cat (.v 1) (.newF (.lst (.cons (.tup (.cons (.newF (.lst (.cons (.tup (.cons (.c (.int 1)) (.cons (.c (.bl false)) .nil))) (.cons (.tup (.cons (.c (.int 0)) (.cons (.c (.bl true)) .nil))) (.cons (.tup (.cons (.c (.int 2)) (.cons (.c (.bl false)) .nil))) .nil))))) (.cons (.newF (.lst (.cons (.tup (.cons (.c (.int 0)) (.cons (.c (.int 1)) .nil))) .nil))) .nil))) .nil))))))
  (.seq (.asg (.nm 1) (.newF (.cat (.v 1) (.newF (.lst (.cons (.tup (.cons (.newF (.lst (.cons (.tup (.cons (.c (.int 0)) (.cons (.c (.bl false)) .nil))) (.cons (.tup (.cons (.c (.int 1)) (.cons (.c (.bl false)) .nil))) (.cons (.tup (.cons (.c (.int 2)) (.cons (.c (.bl false)) .nil))) (.cons (.tup (.cons (.c (.int 3)) (.cons (.c (.bl true)) .nil))) .nil)))))) (.cons (.v 0) .nil))) (.cons (.tup (.cons (.newF (.lst (.cons (.tup (.cons (.c (.int 0)) (.cons (.c (.bl false)) .nil))) .nil))) (.cons (.newF (.lst .nil)) .nil))) .nil)))))))
  (.seq (.asg (.nm 1) (.newF (.cat (.v 1) (.newF (.lst (.cons (.tup (.cons (.newF (.lst (.cons (.tup (.cons (.c (.int 2)) (.cons (.c (.bl false)) .nil))) (.cons (.tup (.cons (.c (.int 1)) (.cons (.c (.bl true)) .nil))) (.cons (.tup (.cons (.c (.int 0)) (.cons (.c (.bl true)) .nil))) .nil))))) (.cons (.newF (.lst (.cons (.tup (.cons (.c (.int 0)) (.cons (.c (.int 1)) .nil))) (.cons (.tup (.cons (.c (.int 0)) (.cons (.c (.int 2)) .nil))) (.cons (.tup (.cons (.c (.int 1)) (.cons (.c (.int 2)) .nil))) .nil))))) .nil))) .nil))))))
  (.seq (.iff (.bi .any (.cons (.newF (.comp (.tp (.cons (.nm 5) (.cons (.nm 6) .nil))) (.wL (.v 1)) false (.c (.bl true)) (.cmp .ne (.callD false 10 (.cons (.v 5) .nil)) (.v 6)) [5, 6])) .nil)) (.seq (.ret (.c (.bl false)))
  .skip) .skip)
  (.seq (.asg (.nm 2) (.newF (.lst (.cons (.newF (.lst (.cons (.tup (.cons (.c (.int 0)) (.cons (.c (.bl true)) .nil))) .nil))) (.cons (.newF (.lst .nil)) (.cons (.newF (.lst (.cons (.tup (.cons (.c (.int 0)) (.cons (.c (.bl false)) .nil))) (.cons (.tup (.cons (.c (.int 0)) (.cons (.c (.bl true)) .nil))) .nil)))) (.cons (.newF (.lst (.cons (.tup (.cons (.c (.int 1)) (.cons (.c (.bl false)) .nil))) .nil))) (.cons (.newF (.lst (.cons (.tup (.cons (.c (.int 0)) (.cons (.c (.bl false)) .nil))) (.cons (.tup (.cons (.c (.int 2)) (.cons (.c (.bl true)) .nil))) .nil)))) .nil))))))))
  (.seq (.asg (.nm 2) (.newF (.cat (.v 2) (.newF (.lst (.cons (.newF (.lst (.cons (.tup (.cons (.c (.int 0)) (.cons (.c (.int 0)) .nil))) .nil))) (.cons (.newF (.lst (.cons (.newF (.lst (.cons (.c (.int 0)) (.cons (.c (.bl false)) .nil)))) .nil))) (.cons (.c .non) (.cons (.newF (.lst (.cons (.tup (.cons (.c (.bl false)) (.cons (.c (.bl false)) .nil))) .nil))) (.cons (.newF (.lst (.cons (.tup (.cons (.c (.int 0)) (.cons (.c (.bl false)) .nil))) (.cons (.tup (.cons (.c (.int 1)) (.cons (.c (.int 1)) .nil))) .nil)))) .nil))))))))))
  (.seq (.asg (.nm 2) (.newF (.cat (.v 2) (.newF (.lst (.cons (.newF (.comp (.nm 7) (.wR1 (.c (.int 41))) false (.c (.bl true)) (.tup (.cons (.v 7) (.cons (.c (.bl false)) .nil))) [7])) .nil))))))
  (.seq (.iff (.cmp .ne (.newF (.comp (.nm 4) (.wL (.v 2)) false (.c (.bl true)) (.callD false 40 (.cons (.g (.fn 10)) (.cons (.v 4) .nil))) [4])) (.newF (.rep (.newF (.lst (.cons (.c (.str (PySem.Str.ofString "row"))) .nil))) (.c (.int 11))))) (.seq (.ret (.c (.bl false)))
  .skip) .skip)
  (.seq (.asg (.nm 1) (.newF (.lst (.cons (.tup (.cons (.newF (.lst (.cons (.c (.int 0)) .nil))) (.cons (.newF (.lst .nil)) .nil))) (.cons (.tup (.cons (.newF (.lst (.cons (.c (.int 1)) (.cons (.c (.int 1)) (.cons (.c (.int 1)) (.cons (.c (.int 3)) .nil)))))) (.cons (.v 0) .nil))) (.cons (.tup (.cons (.newF (.lst (.cons (.c (.int 2)) (.cons (.c (.int 2)) (.cons (.c (.int 2)) .nil))))) (.cons (.newF (.lst (.cons (.tup (.cons (.c (.int 0)) (.cons (.c (.int 1)) .nil))) (.cons (.tup (.cons (.c (.int 0)) (.cons (.c (.int 2)) .nil))) (.cons (.tup (.cons (.c (.int 1)) (.cons (.c (.int 2)) .nil))) .nil))))) .nil))) .nil))))))
  (.seq (.asg (.nm 1) (.newF (.cat (.v 1) (.newF (.lst (.cons (.tup (.cons (.newF (.lst (.cons (.c (.int 0)) (.cons (.c (.int 0)) .nil)))) (.cons (.newF (.lst .nil)) .nil))) (.cons (.tup (.cons (.newF (.lst (.cons (.c (.int 1)) (.cons (.c (.int 0)) (.cons (.c (.int 1)) .nil))))) (.cons (.newF (.lst (.cons (.tup (.cons (.c (.int 0)) (.cons (.c (.int 2)) .nil))) .nil))) .nil))) (.cons (.tup (.cons (.newF (.lst (.cons (.c (.int 3)) (.cons (.c (.int 1)) (.cons (.c (.int 1)) (.cons (.c (.int 1)) .nil)))))) (.cons (.newF (.lst (.cons (.tup (.cons (.c (.int 0)) (.cons (.c (.int 1)) .nil))) (.cons (.tup (.cons (.c (.int 0)) (.cons (.c (.int 2)) .nil))) (.cons (.tup (.cons (.c (.int 0)) (.cons (.c (.int 3)) .nil))) .nil))))) .nil))) .nil))))))))
  (.seq (.asg (.nm 1) (.newF (.cat (.v 1) (.newF (.lst (.cons (.tup (.cons (.newF (.lst (.cons (.c (.int 2)) (.cons (.c (.int 2)) (.cons (.c (.int 3)) (.cons (.c (.int 1)) .nil)))))) (.cons (.newF (.lst (.cons (.tup (.cons (.c (.int 0)) (.cons (.c (.int 1)) .nil))) (.cons (.tup (.cons (.c (.int 0)) (.cons (.c (.int 2)) .nil))) (.cons (.tup (.cons (.c (.int 1)) (.cons (.c (.int 2)) .nil))) (.cons (.tup (.cons (.c (.int 2)) (.cons (.c (.int 3)) .nil))) .nil)))))) .nil))) .nil))))))
  (.seq (.iff (.bi .any (.cons (.newF (.comp (.tp (.cons (.nm 8) (.cons (.nm 6) .nil))) (.wL (.v 1)) false (.c (.bl true)) (.cmp .ne (.callD false 11 (.cons (.v 8) .nil)) (.v 6)) [6, 8])) .nil)) (.seq (.ret (.c (.bl false)))
  .skip) .skip)
  (.seq (.asg (.nm 3) (.newF (.lst (.cons (.newF (.lst (.cons (.c (.int 1)) (.cons (.c (.int 0)) .nil)))) (.cons (.newF (.lst (.cons (.c (.int 1)) (.cons (.c (.int 1)) (.cons (.c (.int 1)) (.cons (.c (.int 1)) .nil)))))) (.cons (.newF (.lst (.cons (.c (.int 1)) (.cons (.c (.int 2)) (.cons (.c (.int 2)) (.cons (.c (.int 1)) .nil)))))) (.cons (.newF (.lst (.cons (.c (.int 4)) (.cons (.c (.int 0)) (.cons (.c (.int 0)) (.cons (.c (.int 0)) (.cons (.c (.int 0)) .nil))))))) (.cons (.newF (.lst (.cons (.c (.int 2)) (.cons (.c (.int 2)) (.cons (.c (.int 2)) (.cons (.c (.int 2)) .nil)))))) (.cons (.newF (.lst (.cons (.c (.int 5)) .nil))) (.cons (.newF (.lst (.cons (.c (.int 1)) .nil))) .nil))))))))))
  (.seq (.asg (.nm 3) (.newF (.cat (.v 3) (.newF (.lst (.cons (.newF (.lst (.cons (.bin .pow (.c (.int 10)) (.c (.int 30))) (.cons (.bin .pow (.c (.int 10)) (.c (.int 30))) .nil)))) (.cons (.newF (.lst (.cons (.c (.int 3)) (.cons (.c (.int 3)) (.cons (.c (.int 1)) (.cons (.c (.int 1)) .nil)))))) .nil)))))))
  (.seq (.iff (.cmp .ne (.newF (.comp (.nm 4) (.wL (.v 3)) false (.c (.bl true)) (.callD false 40 (.cons (.g (.fn 11)) (.cons (.v 4) .nil))) [4])) (.newF (.rep (.newF (.lst (.cons (.c (.str (PySem.Str.ofString "none"))) .nil))) (.c (.int 9))))) (.seq (.ret (.c (.bl false)))
  .skip) .skip)
  (.seq (.ret (.cmp .eq (.newF (.comp (.nm 4) (.wT (.tup (.cons (.newF (.lst .nil)) (.cons (.newF (.rep (.newF (.lst (.cons (.c (.int 0)) .nil))) (.c (.int 41)))) (.cons (.newF (.lst (.cons (.neg (.c (.int 1))) .nil))) (.cons (.newF (.lst (.cons (.c (.bl true)) .nil))) (.cons (.tup (.cons (.c (.int 0)) .nil)) (.cons (.c .non) (.cons (.newF (.lst (.cons (.c (.str (PySem.Str.ofString "0"))) .nil))) .nil))))))))) false (.c (.bl true)) (.callD false 40 (.cons (.g (.fn 11)) (.cons (.v 4) .nil))) [4])) (.newF (.rep (.newF (.lst (.cons (.c (.str (PySem.Str.ofString "counts"))) .nil))) (.c (.int 7))))))
  .skip))))))))))))))))))
def D__law_rows_right : Df := ⟨0, 9, true, I__law_rows_right⟩
def S__law_rows_right : Stmt := tops 47
def N__law_rows_right : List Str := [(PySem.Str.ofString "_law_star_here"), (PySem.Str.ofString "_law_cases"), (PySem.Str.ofString "_law_bads"), (PySem.Str.ofString "_law_nones"), (PySem.Str.ofString "_law_bad"), (PySem.Str.ofString "_law_row"), (PySem.Str.ofString "_law_due"), (PySem.Str.ofString "_law_at"), (PySem.Str.ofString "_law_counts")]
def P__law_rows_right : List Str := []
/-- _law_kinds_right: _law_n _law_last _law_number _law_ties _law_turned _law_bad _law_one _law_other -/
def I__law_kinds_right : IS :=
  (.seq (.iff (.cmp .ne (.newF (.comp (.nm 2) (.wR1 (.c (.int 4))) false (.c (.bl true)) (.callD false 25 (.cons (.c (.int 3)) (.cons (.v 2) .nil))) [2])) (.newF (.lst (.cons (.newF (.lst .nil)) (.cons (.newF (.lst (.cons (.tup (.cons (.c (.int 0)) (.cons (.c (.int 1)) .nil))) .nil))) (.cons (.newF (.lst (.cons (.tup (.cons (.c (.int 0)) (.cons (.c (.int 2)) .nil))) (.cons (.tup (.cons (.c (.int 1)) (.cons (.c (.int 2)) .nil))) .nil)))) (.cons (.newF (.lst (.cons (.tup (.cons (.c (.int 0)) (.cons (.c (.int 1)) .nil))) (.cons (.tup (.cons (.c (.int 0)) (.cons (.c (.int 2)) .nil))) (.cons (.tup (.cons (.c (.int 1)) (.cons (.c (.int 2)) .nil))) .nil))))) .nil))))))) (.seq (.ret (.c (.bl false)))
  .skip) .skip)
  (.seq (.iff (.cmp .ne (.newF (.comp (.nm 2) (.wR1 (.c (.int 4))) false (.c (.bl true)) (.callD false 26 (.cons (.c (.int 3)) (.cons (.callD false 25 (.cons (.c (.int 3)) (.cons (.v 2) .nil))) .nil))) [2])) (.newF (.lst (.cons (.c (.int 0)) (.cons (.c (.int 1)) (.cons (.c (.int 2)) (.cons (.c (.int 3)) .nil))))))) (.seq (.ret (.c (.bl false)))
  .skip) .skip)
  (.seq (.iff (.or (.cmp .ne (.callD false 26 (.cons (.c (.int 4)) (.cons (.callD false 41 .nil) .nil))) (.c (.int 4))) (.cmp .ne (.callD false 26 (.cons (.c (.int 4)) (.cons (.newF (.lst (.cons (.tup (.cons (.c (.int 0)) (.cons (.c (.int 1)) .nil))) (.cons (.tup (.cons (.c (.int 0)) (.cons (.c (.int 2)) .nil))) (.cons (.tup (.cons (.c (.int 0)) (.cons (.c (.int 3)) .nil))) .nil))))) .nil))) (.c (.int 4)))) (.seq (.ret (.c (.bl false)))
  .skip) .skip)
  (.seq (.iff (.or (.cmp .ne (.callD false 25 (.cons (.c (.int 4)) (.cons (.c (.int 4)) .nil))) (.callD false 41 .nil)) (.or (.cmp .ne (.callD false 25 (.cons (.c (.int 1)) (.cons (.c (.int 0)) .nil))) (.newF (.lst .nil))) (.cmp .ne (.callD false 26 (.cons (.c (.int 1)) (.cons (.newF (.lst .nil)) .nil))) (.c (.int 0))))) (.seq (.ret (.c (.bl false)))
  .skip) .skip)
  (.seq (.asg (.nm 1) (.bin .sub (.bin .pow (.c (.int 2)) (.c (.int 39))) (.c (.int 1))))
  (.seq (.for (.nm 2) (.wT (.tup (.cons (.c (.int 0)) (.cons (.c (.int 1)) (.cons (.v 1) (.cons (.bin .sub (.v 1) (.c (.int 1))) (.cons (.bin .pow (.c (.int 2)) (.c (.int 38))) (.cons (.bin .mod (.v 0) (.bin .add (.v 1) (.c (.int 1)))) (.cons (.bin .mod (.bin .mul (.c (.int 7)) (.v 0)) (.bin .add (.v 1) (.c (.int 1)))) .nil))))))))) (.seq (.asg (.nm 3) (.callD false 25 (.cons (.c (.int 40)) (.cons (.v 2) .nil))))
  (.seq (.asg (.nm 4) (.newF (.comp (.tp (.cons (.nm 6) (.cons (.nm 7) .nil))) (.wL (.v 3)) false (.c (.bl true)) (.tup (.cons (.bin .sub (.c (.int 39)) (.v 7)) (.cons (.bin .sub (.c (.int 39)) (.v 6)) .nil))) [6, 7])))
  (.seq (.iff (.or (.cmp .ne (.callD false 26 (.cons (.c (.int 40)) (.cons (.newF (.rev (.v 3))) .nil))) (.v 2)) (.or (.cmp .ne (.callD false 26 (.cons (.c (.int 40)) (.cons (.v 4) .nil))) (.v 2)) (.cmp .ne (.v 3) (.newF (.sorted (.v 3)))))) (.seq (.ret (.c (.bl false)))
  .skip) .skip)
  .skip))))
  (.seq (.iff (.cmp .ne (.bi .len (.cons (.callD false 25 (.cons (.c (.int 40)) (.cons (.v 1) .nil))) .nil)) (.c (.int 780))) (.seq (.ret (.c (.bl false)))
  .skip) .skip)
  (.seq (.iff (.cmp .ne (.newF (.comp (.nm 5) (.wT (.tup (.cons (.bin .add (.v 1) (.c (.int 1))) (.cons (.neg (.c (.int 1))) (.cons (.c (.bl true)) (.cons (.c .non) .nil)))))) false (.c (.bl true)) (.callD false 40 (.cons (.lmb 203 []) (.cons (.v 5) .nil))) [5])) (.newF (.rep (.newF (.lst (.cons (.c (.str (PySem.Str.ofString "number"))) .nil))) (.c (.int 4))))) (.seq (.ret (.c (.bl false)))
  .skip) .skip)
  (.seq (.iff (.cmp .ne (.newF (.comp (.nm 5) (.wT (.tup (.cons (.c (.int 0)) (.cons (.c (.int 41)) (.cons (.c (.bl true)) (.cons (.c .non) .nil)))))) false (.c (.bl true)) (.callD false 40 (.cons (.lmb 204 []) (.cons (.v 5) .nil))) [5])) (.newF (.rep (.newF (.lst (.cons (.c (.str (PySem.Str.ofString "places"))) .nil))) (.c (.int 4))))) (.seq (.ret (.c (.bl false)))
  .skip) .skip)
  (.seq (.ret (.cmp .eq (.callD false 40 (.cons (.lmb 205 []) (.cons (.c (.int 4)) .nil))) (.c (.str (PySem.Str.ofString "number")))))
  .skip))))))))))
def D__law_kinds_right : Df := ⟨1, 8, true, I__law_kinds_right⟩
def S__law_kinds_right : Stmt := tops 48
def N__law_kinds_right : List Str := [(PySem.Str.ofString "_law_n"), (PySem.Str.ofString "_law_last"), (PySem.Str.ofString "_law_number"), (PySem.Str.ofString "_law_ties"), (PySem.Str.ofString "_law_turned"), (PySem.Str.ofString "_law_bad"), (PySem.Str.ofString "_law_one"), (PySem.Str.ofString "_law_other")]
def P__law_kinds_right : List Str := [(PySem.Str.ofString "_law_n")]
/-- _law_crowds_right: _law_cases _law_star_here _law_three _law_five _law_places _law_ties _law_answer _law_due -/
def I__law_crowds_right : IS :=
  (.seq (.par [1, 2, 3] (.cons (.callD false 41 .nil) (.cons (.newF (.lst (.cons (.tup (.cons (.c (.int 0)) (.cons (.c (.int 1)) .nil))) (.cons (.tup (.cons (.c (.int 0)) (.cons (.c (.int 2)) .nil))) (.cons (.tup (.cons (.c (.int 1)) (.cons (.c (.int 2)) .nil))) .nil))))) (.cons (.newF (.lst (.cons (.tup (.cons (.c (.int 0)) (.cons (.c (.int 1)) .nil))) (.cons (.tup (.cons (.c (.int 0)) (.cons (.c (.int 4)) .nil))) (.cons (.tup (.cons (.c (.int 1)) (.cons (.c (.int 2)) .nil))) (.cons (.tup (.cons (.c (.int 2)) (.cons (.c (.int 3)) .nil))) (.cons (.tup (.cons (.c (.int 3)) (.cons (.c (.int 4)) .nil))) .nil))))))) .nil))))
  (.seq (.asg (.nm 0) (.newF (.lst (.cons (.tup (.cons (.c (.int 4)) (.cons (.v 1) (.cons (.make 10 (.cons (.newF (.lst (.cons (.c (.int 0)) (.cons (.c (.int 3)) .nil)))) (.cons (.newF (.lst (.cons (.newF (.lst (.cons (.c (.int 0)) (.cons (.c (.int 1)) (.cons (.c (.int 2)) .nil))))) (.cons (.newF (.lst (.cons (.c (.int 3)) .nil))) .nil)))) .nil))) (.cons (.c (.bl true)) .nil))))) .nil))))
  (.seq (.asg (.nm 0) (.newF (.cat (.v 0) (.newF (.lst (.cons (.tup (.cons (.c (.int 4)) (.cons (.v 1) (.cons (.make 10 (.cons (.newF (.lst (.cons (.c (.int 1)) (.cons (.c (.int 3)) .nil)))) (.cons (.newF (.lst (.cons (.newF (.lst (.cons (.c (.int 3)) .nil))) (.cons (.newF (.lst (.cons (.c (.int 0)) (.cons (.c (.int 1)) (.cons (.c (.int 2)) .nil))))) .nil)))) .nil))) (.cons (.c (.bl true)) .nil))))) .nil))))))
  (.seq (.asg (.nm 0) (.newF (.cat (.v 0) (.newF (.lst (.cons (.tup (.cons (.c (.int 4)) (.cons (.v 1) (.cons (.make 10 (.cons (.newF (.lst (.cons (.c (.int 0)) (.cons (.c (.int 3)) .nil)))) (.cons (.newF (.lst (.cons (.newF (.lst (.cons (.c (.int 0)) (.cons (.c (.int 1)) .nil)))) (.cons (.newF (.lst (.cons (.c (.int 2)) (.cons (.c (.int 3)) .nil)))) .nil)))) .nil))) (.cons (.c (.bl false)) .nil))))) .nil))))))
  (.seq (.asg (.nm 0) (.newF (.cat (.v 0) (.newF (.lst (.cons (.tup (.cons (.c (.int 4)) (.cons (.v 1) (.cons (.make 10 (.cons (.newF (.lst (.cons (.c (.int 0)) (.cons (.c (.int 1)) .nil)))) (.cons (.newF (.lst (.cons (.newF (.lst (.cons (.c (.int 0)) (.cons (.c (.int 1)) (.cons (.c (.int 2)) .nil))))) (.cons (.newF (.lst (.cons (.c (.int 3)) .nil))) .nil)))) .nil))) (.cons (.c (.bl false)) .nil))))) .nil))))))
  (.seq (.asg (.nm 0) (.newF (.cat (.v 0) (.newF (.lst (.cons (.tup (.cons (.c (.int 4)) (.cons (.v 1) (.cons (.make 10 (.cons (.newF (.lst (.cons (.c (.int 3)) .nil))) (.cons (.newF (.lst (.cons (.newF (.lst (.cons (.c (.int 0)) (.cons (.c (.int 1)) (.cons (.c (.int 2)) .nil))))) (.cons (.newF (.lst (.cons (.c (.int 3)) .nil))) .nil)))) .nil))) (.cons (.c (.bl false)) .nil))))) .nil))))))
  (.seq (.asg (.nm 0) (.newF (.cat (.v 0) (.newF (.lst (.cons (.tup (.cons (.c (.int 4)) (.cons (.v 1) (.cons (.make 10 (.cons (.newF (.lst (.cons (.c (.int 0)) (.cons (.c (.int 3)) .nil)))) (.cons (.newF (.lst (.cons (.newF (.lst (.cons (.c (.int 0)) (.cons (.c (.int 1)) (.cons (.c (.int 2)) (.cons (.c (.int 3)) .nil)))))) (.cons (.newF (.lst .nil)) .nil)))) .nil))) (.cons (.c (.bl false)) .nil))))) .nil))))))
  (.seq (.asg (.nm 0) (.newF (.cat (.v 0) (.newF (.lst (.cons (.tup (.cons (.c (.int 4)) (.cons (.v 1) (.cons (.make 10 (.cons (.newF (.lst (.cons (.c (.int 0)) (.cons (.c (.int 3)) .nil)))) (.cons (.newF (.lst (.cons (.newF (.lst (.cons (.c (.int 0)) (.cons (.c (.int 1)) (.cons (.c (.int 2)) .nil))))) (.cons (.newF (.lst (.cons (.c (.int 2)) (.cons (.c (.int 3)) .nil)))) .nil)))) .nil))) (.cons (.c (.bl false)) .nil))))) .nil))))))
  (.seq (.asg (.nm 0) (.newF (.cat (.v 0) (.newF (.lst (.cons (.tup (.cons (.c (.int 4)) (.cons (.v 1) (.cons (.make 10 (.cons (.newF (.lst (.cons (.c (.int 3)) (.cons (.c (.int 0)) .nil)))) (.cons (.newF (.lst (.cons (.newF (.lst (.cons (.c (.int 0)) (.cons (.c (.int 1)) (.cons (.c (.int 2)) .nil))))) (.cons (.newF (.lst (.cons (.c (.int 3)) .nil))) .nil)))) .nil))) (.cons (.c (.bl false)) .nil))))) .nil))))))
  (.seq (.asg (.nm 0) (.newF (.cat (.v 0) (.newF (.lst (.cons (.tup (.cons (.c (.int 4)) (.cons (.v 1) (.cons (.make 10 (.cons (.newF (.lst (.cons (.c (.int 0)) (.cons (.c (.int 3)) .nil)))) (.cons (.newF (.lst (.cons (.newF (.lst (.cons (.c (.int 2)) (.cons (.c (.int 1)) (.cons (.c (.int 0)) .nil))))) (.cons (.newF (.lst (.cons (.c (.int 3)) .nil))) .nil)))) .nil))) (.cons (.c (.bl false)) .nil))))) .nil))))))
  (.seq (.asg (.nm 0) (.newF (.cat (.v 0) (.newF (.lst (.cons (.tup (.cons (.c (.int 4)) (.cons (.v 1) (.cons (.make 11 (.cons (.newF (.lst (.cons (.c (.int 0)) (.cons (.c (.int 1)) (.cons (.c (.int 2)) .nil))))) (.cons (.newF (.lst (.cons (.newF (.lst (.cons (.c (.int 0)) (.cons (.c (.int 3)) .nil)))) (.cons (.newF (.lst (.cons (.c (.int 1)) .nil))) (.cons (.newF (.lst (.cons (.c (.int 2)) .nil))) .nil))))) .nil))) (.cons (.c (.bl true)) .nil))))) .nil))))))
  (.seq (.asg (.nm 0) (.newF (.cat (.v 0) (.newF (.lst (.cons (.tup (.cons (.c (.int 4)) (.cons (.v 1) (.cons (.make 11 (.cons (.newF (.lst (.cons (.c (.int 0)) (.cons (.c (.int 1)) (.cons (.c (.int 2)) .nil))))) (.cons (.newF (.lst (.cons (.newF (.lst (.cons (.c (.int 0)) .nil))) (.cons (.newF (.lst (.cons (.c (.int 1)) .nil))) (.cons (.newF (.lst (.cons (.c (.int 2)) (.cons (.c (.int 3)) .nil)))) .nil))))) .nil))) (.cons (.c (.bl true)) .nil))))) .nil))))))
  (.seq (.asg (.nm 0) (.newF (.cat (.v 0) (.newF (.lst (.cons (.tup (.cons (.c (.int 4)) (.cons (.v 1) (.cons (.make 11 (.cons (.newF (.lst (.cons (.c (.int 0)) (.cons (.c (.int 1)) .nil)))) (.cons (.newF (.lst (.cons (.newF (.lst (.cons (.c (.int 0)) (.cons (.c (.int 3)) .nil)))) (.cons (.newF (.lst (.cons (.c (.int 1)) .nil))) .nil)))) .nil))) (.cons (.c (.bl false)) .nil))))) .nil))))))
  (.seq (.asg (.nm 0) (.newF (.cat (.v 0) (.newF (.lst (.cons (.tup (.cons (.c (.int 4)) (.cons (.v 1) (.cons (.make 11 (.cons (.newF (.lst (.cons (.c (.int 0)) (.cons (.c (.int 1)) (.cons (.c (.int 3)) .nil))))) (.cons (.newF (.lst (.cons (.newF (.lst (.cons (.c (.int 0)) (.cons (.c (.int 3)) .nil)))) (.cons (.newF (.lst (.cons (.c (.int 1)) .nil))) (.cons (.newF (.lst (.cons (.c (.int 2)) .nil))) .nil))))) .nil))) (.cons (.c (.bl false)) .nil))))) .nil))))))
  (.seq (.asg (.nm 0) (.newF (.cat (.v 0) (.newF (.lst (.cons (.tup (.cons (.c (.int 4)) (.cons (.v 1) (.cons (.make 11 (.cons (.newF (.lst (.cons (.c (.int 0)) (.cons (.c (.int 1)) (.cons (.c (.int 2)) .nil))))) (.cons (.newF (.lst (.cons (.newF (.lst (.cons (.c (.int 0)) .nil))) (.cons (.newF (.lst (.cons (.c (.int 1)) .nil))) (.cons (.newF (.lst (.cons (.c (.int 2)) .nil))) .nil))))) .nil))) (.cons (.c (.bl false)) .nil))))) .nil))))))
  (.seq (.asg (.nm 0) (.newF (.cat (.v 0) (.newF (.lst (.cons (.tup (.cons (.c (.int 3)) (.cons (.v 2) (.cons (.make 10 (.cons (.newF (.lst (.cons (.c (.int 0)) (.cons (.c (.int 1)) (.cons (.c (.int 2)) .nil))))) (.cons (.newF (.lst (.cons (.newF (.lst (.cons (.c (.int 0)) .nil))) (.cons (.newF (.lst (.cons (.c (.int 1)) .nil))) (.cons (.newF (.lst (.cons (.c (.int 2)) .nil))) .nil))))) .nil))) (.cons (.c (.bl true)) .nil))))) .nil))))))
  (.seq (.asg (.nm 0) (.newF (.cat (.v 0) (.newF (.lst (.cons (.tup (.cons (.c (.int 3)) (.cons (.v 2) (.cons (.make 11 (.cons (.newF (.lst (.cons (.c (.int 1)) .nil))) (.cons (.newF (.lst (.cons (.newF (.lst (.cons (.c (.int 0)) (.cons (.c (.int 1)) (.cons (.c (.int 2)) .nil))))) .nil))) .nil))) (.cons (.c (.bl true)) .nil))))) (.cons (.tup (.cons (.c (.int 3)) (.cons (.newF (.lst .nil)) (.cons (.make 10 (.cons (.newF (.lst (.cons (.c (.int 2)) .nil))) (.cons (.newF (.lst (.cons (.newF (.lst (.cons (.c (.int 0)) (.cons (.c (.int 1)) (.cons (.c (.int 2)) .nil))))) .nil))) .nil))) (.cons (.c (.bl true)) .nil))))) .nil)))))))
  (.seq (.asg (.nm 0) (.newF (.cat (.v 0) (.newF (.lst (.cons (.tup (.cons (.c (.int 3)) (.cons (.newF (.lst .nil)) (.cons (.make 11 (.cons (.newF (.lst (.cons (.c (.int 0)) (.cons (.c (.int 1)) (.cons (.c (.int 2)) .nil))))) (.cons (.newF (.lst (.cons (.newF (.lst (.cons (.c (.int 0)) .nil))) (.cons (.newF (.lst (.cons (.c (.int 1)) .nil))) (.cons (.newF (.lst (.cons (.c (.int 2)) .nil))) .nil))))) .nil))) (.cons (.c (.bl true)) .nil))))) .nil))))))
  (.seq (.asg (.nm 0) (.newF (.cat (.v 0) (.newF (.lst (.cons (.tup (.cons (.c (.int 5)) (.cons (.v 3) (.cons (.make 10 (.cons (.newF (.lst (.cons (.c (.int 0)) (.cons (.c (.int 1)) .nil)))) (.cons (.newF (.lst (.cons (.newF (.lst (.cons (.c (.int 0)) (.cons (.c (.int 2)) .nil)))) (.cons (.newF (.lst (.cons (.c (.int 1)) (.cons (.c (.int 3)) .nil)))) (.cons (.newF (.lst (.cons (.c (.int 4)) .nil))) .nil))))) .nil))) (.cons (.c (.bl false)) .nil))))) .nil))))))
  (.seq (.asg (.nm 0) (.newF (.cat (.v 0) (.newF (.lst (.cons (.tup (.cons (.c (.int 5)) (.cons (.v 3) (.cons (.make 10 (.cons (.newF (.lst (.cons (.c (.int 0)) (.cons (.c (.int 1)) (.cons (.c (.int 2)) .nil))))) (.cons (.newF (.lst (.cons (.newF (.lst (.cons (.c (.int 0)) (.cons (.c (.int 2)) .nil)))) (.cons (.newF (.lst (.cons (.c (.int 1)) (.cons (.c (.int 3)) .nil)))) (.cons (.newF (.lst (.cons (.c (.int 4)) .nil))) .nil))))) .nil))) (.cons (.c (.bl false)) .nil))))) .nil))))))
  (.seq (.asg (.nm 0) (.newF (.cat (.v 0) (.newF (.lst (.cons (.tup (.cons (.c (.int 4)) (.cons (.v 1) (.cons (.make 10 (.cons (.newF (.lst (.cons (.c (.int 0)) (.cons (.c (.int 3)) .nil)))) (.cons (.newF (.lst (.cons (.newF (.lst (.cons (.c (.int 0)) (.cons (.c (.int 1)) (.cons (.c (.int 2)) (.cons (.c (.int 4)) .nil)))))) (.cons (.newF (.lst (.cons (.c (.int 3)) .nil))) .nil)))) .nil))) (.cons (.c (.bl false)) .nil))))) .nil))))))
  (.seq (.asg (.nm 0) (.newF (.cat (.v 0) (.newF (.lst (.cons (.tup (.cons (.c (.int 4)) (.cons (.v 1) (.cons (.make 10 (.cons (.newF (.lst (.cons (.c (.int 0)) (.cons (.c (.int 3)) .nil)))) (.cons (.newF (.lst (.cons (.newF (.lst (.cons (.c (.int 0)) (.cons (.c (.int 1)) (.cons (.c (.int 2)) .nil))))) (.cons (.newF (.lst (.cons (.c (.int 3)) .nil))) (.cons (.newF (.lst .nil)) .nil))))) .nil))) (.cons (.c (.bl false)) .nil))))) .nil))))))
  (.seq (.asg (.nm 0) (.newF (.cat (.v 0) (.newF (.lst (.cons (.tup (.cons (.c (.int 1)) (.cons (.newF (.lst .nil)) (.cons (.make 10 (.cons (.newF (.lst (.cons (.c (.int 0)) .nil))) (.cons (.newF (.lst (.cons (.newF (.lst (.cons (.c (.int 0)) .nil))) .nil))) .nil))) (.cons (.c (.bl true)) .nil))))) .nil))))))
  (.seq (.iff (.bi .any (.cons (.newF (.comp (.tp (.cons (.nm 4) (.cons (.nm 5) (.cons (.nm 6) (.cons (.nm 7) .nil))))) (.wL (.v 0)) false (.c (.bl true)) (.cmp .ne (.meth (.v 6) 0 (.cons (.v 4) (.cons (.v 5) .nil))) (.v 7)) [4, 5, 6, 7])) .nil)) (.seq (.ret (.c (.bl false)))
  .skip) .skip)
  (.seq (.ret (.c (.bl true)))
  .skip)))))))))))))))))))))))))
def D__law_crowds_right : Df := ⟨0, 8, true, I__law_crowds_right⟩
def S__law_crowds_right : Stmt := tops 49
def N__law_crowds_right : List Str := [(PySem.Str.ofString "_law_cases"), (PySem.Str.ofString "_law_star_here"), (PySem.Str.ofString "_law_three"), (PySem.Str.ofString "_law_five"), (PySem.Str.ofString "_law_places"), (PySem.Str.ofString "_law_ties"), (PySem.Str.ofString "_law_answer"), (PySem.Str.ofString "_law_due")]
def P__law_crowds_right : List Str := []
/-- _law_greatest_right: _law_cases _law_bad _law_star_here _law_three _law_places _law_ties _law_many _law_lone _law_asks _law_one _law_other _law_ask -/
def I__law_greatest_right : IS :=
  (.seq (.par [2, 3] (.cons (.callD false 41 .nil) (.cons (.newF (.lst (.cons (.tup (.cons (.c (.int 0)) (.cons (.c (.int 1)) .nil))) (.cons (.tup (.cons (.c (.int 0)) (.cons (.c (.int 2)) .nil))) (.cons (.tup (.cons (.c (.int 1)) (.cons (.c (.int 2)) .nil))) .nil))))) .nil)))
  (.seq (.asg (.nm 0) (.newF (.lst (.cons (.tup (.cons (.c (.int 4)) (.cons (.v 2) (.cons (.c (.int 2)) (.cons (.c (.int 3)) .nil))))) (.cons (.tup (.cons (.c (.int 3)) (.cons (.v 3) (.cons (.c (.int 3)) (.cons (.c (.int 1)) .nil))))) (.cons (.tup (.cons (.c (.int 3)) (.cons (.newF (.lst .nil)) (.cons (.c (.int 1)) (.cons (.c (.int 3)) .nil))))) (.cons (.tup (.cons (.c (.int 1)) (.cons (.newF (.lst .nil)) (.cons (.c (.int 1)) (.cons (.c (.int 1)) .nil))))) .nil)))))))
  (.seq (.asg (.nm 0) (.newF (.cat (.v 0) (.newF (.lst (.cons (.tup (.cons (.c (.int 4)) (.cons (.newF (.lst (.cons (.tup (.cons (.c (.int 0)) (.cons (.c (.int 1)) .nil))) (.cons (.tup (.cons (.c (.int 0)) (.cons (.c (.int 2)) .nil))) (.cons (.tup (.cons (.c (.int 1)) (.cons (.c (.int 2)) .nil))) (.cons (.tup (.cons (.c (.int 2)) (.cons (.c (.int 3)) .nil))) .nil)))))) (.cons (.c (.int 3)) (.cons (.c (.int 2)) .nil))))) .nil))))))
  (.seq (.for (.tp (.cons (.nm 4) (.cons (.nm 5) (.cons (.nm 6) (.cons (.nm 7) .nil))))) (.wL (.newF (.cat (.v 0) (.newF (.lst (.cons (.tup (.cons (.c (.int 40)) (.cons (.newF (.lst .nil)) (.cons (.c (.int 1)) (.cons (.c (.int 40)) .nil))))) (.cons (.tup (.cons (.c (.int 40)) (.cons (.callD false 25 (.cons (.c (.int 40)) (.cons (.bin .sub (.bin .pow (.c (.int 2)) (.c (.int 39))) (.c (.int 1))) .nil))) (.cons (.c (.int 40)) (.cons (.c (.int 1)) .nil))))) .nil))))))) (.seq (.par [9, 10] (.cons (.callD false 23 (.cons (.v 4) (.cons (.v 5) .nil))) (.cons (.callD false 24 (.cons (.v 4) (.cons (.v 5) .nil))) .nil)))
  (.seq (.iff (.or (.not (.meth (.v 9) 0 (.cons (.v 4) (.cons (.v 5) .nil)))) (.not (.meth (.v 10) 0 (.cons (.v 4) (.cons (.v 5) .nil))))) (.seq (.ret (.c (.bl false)))
  .skip) .skip)
  (.seq (.iff (.cmp .ne (.newF (.lst (.cons (.bi .len (.cons (.fld (.v 9) 3) .nil)) (.cons (.bi .len (.cons (.fld (.v 10) 3) .nil)) .nil)))) (.newF (.lst (.cons (.v 6) (.cons (.v 7) .nil))))) (.seq (.ret (.c (.bl false)))
  .skip) .skip)
  .skip))))
  (.seq (.for (.nm 1) (.wT (.tup (.cons (.newF (.lst (.cons (.tup (.cons (.c (.int 1)) (.cons (.c (.int 0)) .nil))) .nil))) (.cons (.newF (.lst (.cons (.tup (.cons (.c (.int 0)) (.cons (.c (.int 0)) .nil))) .nil))) (.cons (.newF (.lst (.cons (.tup (.cons (.c (.int 0)) (.cons (.c (.int 1)) .nil))) (.cons (.tup (.cons (.c (.int 0)) (.cons (.c (.int 1)) .nil))) .nil)))) (.cons (.newF (.lst (.cons (.tup (.cons (.c (.int 0)) (.cons (.c (.int 3)) .nil))) .nil))) (.cons (.newF (.lst (.cons (.newF (.lst (.cons (.c (.int 0)) (.cons (.c (.int 1)) .nil)))) .nil))) (.cons (.newF (.lst (.cons (.tup (.cons (.c (.int 0)) (.cons (.c (.bl true)) .nil))) .nil))) (.cons (.tup (.cons (.tup (.cons (.c (.int 0)) (.cons (.c (.int 1)) .nil))) .nil)) (.cons (.c .non) .nil)))))))))) (.seq (.asg (.nm 8) (.newF (.lst (.cons (.lmb 207 []) (.cons (.lmb 206 []) .nil)))))
  (.seq (.asg (.nm 8) (.newF (.cat (.v 8) (.newF (.lst (.cons (.lmb 209 []) (.cons (.lmb 208 []) .nil)))))))
  (.seq (.iff (.cmp .ne (.newF (.comp (.nm 11) (.wL (.v 8)) false (.c (.bl true)) (.callD false 40 (.cons (.v 11) (.cons (.v 1) .nil))) [11])) (.newF (.rep (.newF (.lst (.cons (.c (.str (PySem.Str.ofString "ties"))) .nil))) (.c (.int 4))))) (.seq (.ret (.c (.bl false)))
  .skip) .skip)
  .skip))))
  (.seq (.iff (.cmp .ne (.callD false 40 (.cons (.lmb 210 []) (.cons (.c (.int 0)) .nil))) (.c (.str (PySem.Str.ofString "places")))) (.seq (.ret (.c (.bl false)))
  .skip) .skip)
  (.seq (.ret (.cmp .eq (.callD false 40 (.cons (.lmb 211 []) (.cons (.c (.int 41)) .nil))) (.c (.str (PySem.Str.ofString "places")))))
  .skip)))))))
def D__law_greatest_right : Df := ⟨0, 12, true, I__law_greatest_right⟩
def S__law_greatest_right : Stmt := tops 50
def N__law_greatest_right : List Str := [(PySem.Str.ofString "_law_cases"), (PySem.Str.ofString "_law_bad"), (PySem.Str.ofString "_law_star_here"), (PySem.Str.ofString "_law_three"), (PySem.Str.ofString "_law_places"), (PySem.Str.ofString "_law_ties"), (PySem.Str.ofString "_law_many"), (PySem.Str.ofString "_law_lone"), (PySem.Str.ofString "_law_asks"), (PySem.Str.ofString "_law_one"), (PySem.Str.ofString "_law_other"), (PySem.Str.ofString "_law_ask")]
def P__law_greatest_right : List Str := []
/-- law: _law_script _law_n -/
def I_law : IS :=
  (.seq (.asg (.nm 1) (.bi .abs (.cons (.bi .sum (.cons (.newF (.slice (.v 0) .none (.opt (.c (.int 2))))) .nil)) .nil)))
  (.seq (.iff (.or (.not (.callD false 42 .nil)) (.or (.not (.callD false 43 .nil)) (.not (.callD false 44 .nil)))) (.seq (.ret (.c (.bl false)))
  .skip) .skip)
  (.seq (.ret (.and (.callD false 45 (.cons (.v 1) .nil)) (.and (.callD false 46 .nil) (.callD false 47 .nil))))
  .skip)))
def D_law : Df := ⟨1, 2, true, I_law⟩
def S_law : Stmt := tops 51
def N_law : List Str := [(PySem.Str.ofString "_law_script"), (PySem.Str.ofString "_law_n")]
def P_law : List Str := [(PySem.Str.ofString "_law_script")]
def dfl : List (Nat × Df) := [(0, D_is_number), (1, D_is_tie), (2, D_check_places), (3, D_check_web), (4, D_beside), (5, D_row_by), (6, D_row_in), (7, D_ties_of), (8, D_is_part), (9, D_row_of), (10, D_by_row), (11, D_by_counts), (12, D_Weighed___init__), (13, D_Weighed_shows), (14, D_Barred___init__), (15, D_Barred_shows), (16, D_are_all), (17, D_are_parted), (18, D_Crowd___init__), (19, D_Crowd_shows), (20, D_Lonely___init__), (21, D_Lonely_shows), (22, D_halves), (23, D_crowd), (24, D_lonely), (25, D_kind_by), (26, D_number_of), (27, D_weights_of), (28, D_four_in), (29, D_told), (40, D__law_word), (41, D__law_star), (42, D__law_told_right), (43, D__law_sorts_right), (44, D__law_rows_right), (45, D__law_kinds_right), (46, D__law_crowds_right), (47, D__law_greatest_right), (48, D_law)]
def df (f : Nat) : Option Df := dfl.lookup f
def okC (i : Nat) : Bool := decide (i = 0) || decide (i = 1) || decide (i = 2) || decide (i = 3) || decide (i = 4) || decide (i = 5) || decide (i = 6) || decide (i = 7) || decide (i = 8) || decide (i = 9) || decide (i = 10) || decide (i = 11)
def pg : Pg := ⟨fun i j => decide (i = j) || (decide (1 ≤ i) && decide (i ≤ 6) && decide (j = 0)) || (decide (8 ≤ i) && decide (i ≤ 11) && decide (j = 7)), fun i => decide (i ≤ 6), okC⟩
def mtsT : List (Nat × Nat) := [(8, 13), (9, 15), (10, 19), (11, 21)]
def itsT : List (Nat × Nat) := [(8, 12), (9, 14), (10, 18), (11, 20)]
def lts : List (Nat × List Str × List Str × IE) := [(200, [(PySem.Str.ofString "_law_six")], [(PySem.Str.ofString "_law_six")], (.callD false 26 (.cons (.c (.int 4)) (.cons (.v 0) .nil)))),
  (201, [(PySem.Str.ofString "_law_two")], [(PySem.Str.ofString "_law_two")], (.callD false 23 (.cons (.c (.int 4)) (.cons (.v 0) .nil)))),
  (202, [(PySem.Str.ofString "_law_one")], [(PySem.Str.ofString "_law_one")], (.callD false 9 (.cons (.c (.int 4)) (.cons (.v 0) .nil)))),
  (203, [(PySem.Str.ofString "_law_it")], [(PySem.Str.ofString "_law_it")], (.callD false 25 (.cons (.c (.int 40)) (.cons (.v 0) .nil)))),
  (204, [(PySem.Str.ofString "_law_it")], [(PySem.Str.ofString "_law_it")], (.callD false 25 (.cons (.v 0) (.cons (.c .non) .nil)))),
  (205, [(PySem.Str.ofString "_law_it")], [(PySem.Str.ofString "_law_it")], (.callD false 25 (.cons (.c (.int 3)) (.cons (.v 0) .nil)))),
  (206, [(PySem.Str.ofString "_law_two")], [(PySem.Str.ofString "_law_two")], (.callD false 23 (.cons (.c (.int 3)) (.cons (.v 0) .nil)))),
  (207, [(PySem.Str.ofString "_law_one")], [(PySem.Str.ofString "_law_one")], (.callD false 29 (.cons (.c (.int 3)) (.cons (.v 0) .nil)))),
  (208, [(PySem.Str.ofString "_law_it")], [(PySem.Str.ofString "_law_it")], (.callD false 9 (.cons (.c (.int 3)) (.cons (.v 0) .nil)))),
  (209, [(PySem.Str.ofString "_law_six")], [(PySem.Str.ofString "_law_six")], (.callD false 26 (.cons (.c (.int 3)) (.cons (.v 0) .nil)))),
  (210, [(PySem.Str.ofString "_law_it")], [(PySem.Str.ofString "_law_it")], (.callD false 29 (.cons (.v 0) (.cons (.c .non) .nil)))),
  (211, [(PySem.Str.ofString "_law_it")], [(PySem.Str.ofString "_law_it")], (.callD false 24 (.cons (.v 0) (.cons (.c .non) .nil))))]
def lfl : List (Nat × Df) := [(200, ⟨1, 1, true, .ret (.callD false 26 (.cons (.c (.int 4)) (.cons (.v 0) .nil)))⟩), (201, ⟨1, 1, true, .ret (.callD false 23 (.cons (.c (.int 4)) (.cons (.v 0) .nil)))⟩), (202, ⟨1, 1, true, .ret (.callD false 9 (.cons (.c (.int 4)) (.cons (.v 0) .nil)))⟩), (203, ⟨1, 1, true, .ret (.callD false 25 (.cons (.c (.int 40)) (.cons (.v 0) .nil)))⟩), (204, ⟨1, 1, true, .ret (.callD false 25 (.cons (.v 0) (.cons (.c .non) .nil)))⟩), (205, ⟨1, 1, true, .ret (.callD false 25 (.cons (.c (.int 3)) (.cons (.v 0) .nil)))⟩), (206, ⟨1, 1, true, .ret (.callD false 23 (.cons (.c (.int 3)) (.cons (.v 0) .nil)))⟩), (207, ⟨1, 1, true, .ret (.callD false 29 (.cons (.c (.int 3)) (.cons (.v 0) .nil)))⟩), (208, ⟨1, 1, true, .ret (.callD false 9 (.cons (.c (.int 3)) (.cons (.v 0) .nil)))⟩), (209, ⟨1, 1, true, .ret (.callD false 26 (.cons (.c (.int 3)) (.cons (.v 0) .nil)))⟩), (210, ⟨1, 1, true, .ret (.callD false 29 (.cons (.v 0) (.cons (.c .non) .nil)))⟩), (211, ⟨1, 1, true, .ret (.callD false 24 (.cons (.v 0) (.cons (.c .non) .nil)))⟩)]
def lamF (k : Nat) : Option Df := lfl.lookup k
def Q : Prg := ⟨pg, df, lamF, fun c _ => mtsT.lookup c, fun c => itsT.lookup c⟩
def gtab : List (Str × GK) := [((PySem.Str.ofString "is_number"), .fn 0),
  ((PySem.Str.ofString "is_tie"), .fn 1),
  ((PySem.Str.ofString "check_places"), .fn 2),
  ((PySem.Str.ofString "check_web"), .fn 3),
  ((PySem.Str.ofString "beside"), .fn 4),
  ((PySem.Str.ofString "row_by"), .fn 5),
  ((PySem.Str.ofString "row_in"), .fn 6),
  ((PySem.Str.ofString "ties_of"), .fn 7),
  ((PySem.Str.ofString "is_part"), .fn 8),
  ((PySem.Str.ofString "row_of"), .fn 9),
  ((PySem.Str.ofString "by_row"), .fn 10),
  ((PySem.Str.ofString "by_counts"), .fn 11),
  ((PySem.Str.ofString "are_all"), .fn 16),
  ((PySem.Str.ofString "are_parted"), .fn 17),
  ((PySem.Str.ofString "halves"), .fn 22),
  ((PySem.Str.ofString "crowd"), .fn 23),
  ((PySem.Str.ofString "lonely"), .fn 24),
  ((PySem.Str.ofString "kind_by"), .fn 25),
  ((PySem.Str.ofString "number_of"), .fn 26),
  ((PySem.Str.ofString "weights_of"), .fn 27),
  ((PySem.Str.ofString "four_in"), .fn 28),
  ((PySem.Str.ofString "told"), .fn 29),
  ((PySem.Str.ofString "_law_word"), .fn 40),
  ((PySem.Str.ofString "_law_star"), .fn 41),
  ((PySem.Str.ofString "_law_told_right"), .fn 42),
  ((PySem.Str.ofString "_law_sorts_right"), .fn 43),
  ((PySem.Str.ofString "_law_rows_right"), .fn 44),
  ((PySem.Str.ofString "_law_kinds_right"), .fn 45),
  ((PySem.Str.ofString "_law_crowds_right"), .fn 46),
  ((PySem.Str.ofString "_law_greatest_right"), .fn 47),
  ((PySem.Str.ofString "law"), .fn 48),
  ((PySem.Str.ofString "TipError"), .cls 0),
  ((PySem.Str.ofString "BadPlaces"), .cls 1),
  ((PySem.Str.ofString "BadTies"), .cls 2),
  ((PySem.Str.ofString "BadRow"), .cls 3),
  ((PySem.Str.ofString "BadCounts"), .cls 4),
  ((PySem.Str.ofString "BadNumber"), .cls 5),
  ((PySem.Str.ofString "NoTip"), .cls 6),
  ((PySem.Str.ofString "Answer"), .cls 7),
  ((PySem.Str.ofString "Weighed"), .cls 8),
  ((PySem.Str.ofString "Barred"), .cls 9),
  ((PySem.Str.ofString "Crowd"), .cls 10),
  ((PySem.Str.ofString "Lonely"), .cls 11),
  ((PySem.Str.ofString "MOST"), .int 40)]
def btab : List Str := [(PySem.Str.ofString "abs"), (PySem.Str.ofString "all"), (PySem.Str.ofString "any"), (PySem.Str.ofString "bool"), (PySem.Str.ofString "enumerate"), (PySem.Str.ofString "int"), (PySem.Str.ofString "isinstance"), (PySem.Str.ofString "len"), (PySem.Str.ofString "list"), (PySem.Str.ofString "max"), (PySem.Str.ofString "min"), (PySem.Str.ofString "range"), (PySem.Str.ofString "set"), (PySem.Str.ofString "sorted"), (PySem.Str.ofString "sum"), (PySem.Str.ofString "tuple")]
def T0 : Tb := ⟨gtab, btab, pg, fun _ _ => false, []⟩
def lb (k : Nat) (L : LamW) : Bool := match lts.lookup k with
  | some (ps, N, ie) => lamC T0 ps N ie L
  | none => false
def mks : List Str := [(PySem.Str.ofString "_law_sorts_right") ++ ".<locals>.", (PySem.Str.ofString "_law_kinds_right") ++ ".<locals>.", (PySem.Str.ofString "_law_greatest_right") ++ ".<locals>."]
def wT : List (Addr × Str) := [(352, lamN ((PySem.Str.ofString "_law_sorts_right") ++ ".<locals>.")), (362, lamN ((PySem.Str.ofString "_law_kinds_right") ++ ".<locals>.")), (372, lamN ((PySem.Str.ofString "_law_greatest_right") ++ ".<locals>."))]
def wcs : List (Addr × Addr) := [(354, 352), (364, 362), (374, 372)]
def T : Tb := ⟨gtab, btab, pg, lb, mks⟩
def cc (st : Stmt) (N : List Str) (q : Str) : CC := ⟨T, N, defScope st, defScope st, false, none, q ++ ".<locals>."⟩
theorem tabU {l : List (Addr × Str)} {P : Addr} {q : Str} (h : (l.map (·.1)).Nodup) (m : (P, q) ∈ l) : ∀ p ∈ l, p.1 = P → p.2 = q := by
  intro p hp e
  have key : ∀ l : List (Addr × Str), (l.map (·.1)).Nodup → (P, q) ∈ l → p ∈ l → p.2 = q := by
    intro l
    induction l with
    | nil => intro _ m; cases m
    | cons a r ih =>
      intro h m hp
      rw [List.map_cons, List.nodup_cons] at h
      rcases List.mem_cons.mp m with z | m
      · rcases List.mem_cons.mp hp with w | hp
        · rw [w, ← z]
        · exact absurd (List.mem_map.mpr ⟨p, hp, by rw [e, ← z]⟩) h.1
      · rcases List.mem_cons.mp hp with w | hp
        · exact absurd (List.mem_map.mpr ⟨_, m, by rw [← w, e]⟩) h.1
        · exact ih h.2 m hp
  exact key l h m hp
theorem ck_is_number : ckS D_is_number.body (cc S_is_number N_is_number (PySem.Str.ofString "is_number")) (defBody S_is_number) = true := by decide +kernel
theorem ck_is_tie : ckS D_is_tie.body (cc S_is_tie N_is_tie (PySem.Str.ofString "is_tie")) (defBody S_is_tie) = true := by decide +kernel
theorem ck_check_places : ckS D_check_places.body (cc S_check_places N_check_places (PySem.Str.ofString "check_places")) (defBody S_check_places) = true := by decide +kernel
theorem ck_check_web : ckS D_check_web.body (cc S_check_web N_check_web (PySem.Str.ofString "check_web")) (defBody S_check_web) = true := by decide +kernel
theorem ck_beside : ckS D_beside.body (cc S_beside N_beside (PySem.Str.ofString "beside")) (defBody S_beside) = true := by decide +kernel
theorem ck_row_by : ckS D_row_by.body (cc S_row_by N_row_by (PySem.Str.ofString "row_by")) (defBody S_row_by) = true := by decide +kernel
theorem ck_row_in : ckS D_row_in.body (cc S_row_in N_row_in (PySem.Str.ofString "row_in")) (defBody S_row_in) = true := by decide +kernel
theorem ck_ties_of : ckS D_ties_of.body (cc S_ties_of N_ties_of (PySem.Str.ofString "ties_of")) (defBody S_ties_of) = true := by decide +kernel
theorem ck_is_part : ckS D_is_part.body (cc S_is_part N_is_part (PySem.Str.ofString "is_part")) (defBody S_is_part) = true := by decide +kernel
theorem ck_row_of : ckS D_row_of.body (cc S_row_of N_row_of (PySem.Str.ofString "row_of")) (defBody S_row_of) = true := by decide +kernel
theorem ck_by_row : ckS D_by_row.body (cc S_by_row N_by_row (PySem.Str.ofString "by_row")) (defBody S_by_row) = true := by decide +kernel
theorem ck_by_counts : ckS D_by_counts.body (cc S_by_counts N_by_counts (PySem.Str.ofString "by_counts")) (defBody S_by_counts) = true := by decide +kernel
theorem ck_Weighed___init__ : ckS D_Weighed___init__.body (cc S_Weighed___init__ N_Weighed___init__ (PySem.Str.ofString "Weighed.__init__")) (defBody S_Weighed___init__) = true := by decide +kernel
theorem ck_Weighed_shows : ckS D_Weighed_shows.body (cc S_Weighed_shows N_Weighed_shows (PySem.Str.ofString "Weighed.shows")) (defBody S_Weighed_shows) = true := by decide +kernel
theorem ck_Barred___init__ : ckS D_Barred___init__.body (cc S_Barred___init__ N_Barred___init__ (PySem.Str.ofString "Barred.__init__")) (defBody S_Barred___init__) = true := by decide +kernel
theorem ck_Barred_shows : ckS D_Barred_shows.body (cc S_Barred_shows N_Barred_shows (PySem.Str.ofString "Barred.shows")) (defBody S_Barred_shows) = true := by decide +kernel
theorem ck_are_all : ckS D_are_all.body (cc S_are_all N_are_all (PySem.Str.ofString "are_all")) (defBody S_are_all) = true := by decide +kernel
theorem ck_are_parted : ckS D_are_parted.body (cc S_are_parted N_are_parted (PySem.Str.ofString "are_parted")) (defBody S_are_parted) = true := by decide +kernel
theorem ck_Crowd___init__ : ckS D_Crowd___init__.body (cc S_Crowd___init__ N_Crowd___init__ (PySem.Str.ofString "Crowd.__init__")) (defBody S_Crowd___init__) = true := by decide +kernel
theorem ck_Crowd_shows : ckS D_Crowd_shows.body (cc S_Crowd_shows N_Crowd_shows (PySem.Str.ofString "Crowd.shows")) (defBody S_Crowd_shows) = true := by decide +kernel
theorem ck_Lonely___init__ : ckS D_Lonely___init__.body (cc S_Lonely___init__ N_Lonely___init__ (PySem.Str.ofString "Lonely.__init__")) (defBody S_Lonely___init__) = true := by decide +kernel
theorem ck_Lonely_shows : ckS D_Lonely_shows.body (cc S_Lonely_shows N_Lonely_shows (PySem.Str.ofString "Lonely.shows")) (defBody S_Lonely_shows) = true := by decide +kernel
theorem ck_halves : ckS D_halves.body (cc S_halves N_halves (PySem.Str.ofString "halves")) (defBody S_halves) = true := by decide +kernel
theorem ck_crowd : ckS D_crowd.body (cc S_crowd N_crowd (PySem.Str.ofString "crowd")) (defBody S_crowd) = true := by decide +kernel
theorem ck_lonely : ckS D_lonely.body (cc S_lonely N_lonely (PySem.Str.ofString "lonely")) (defBody S_lonely) = true := by decide +kernel
theorem ck_kind_by : ckS D_kind_by.body (cc S_kind_by N_kind_by (PySem.Str.ofString "kind_by")) (defBody S_kind_by) = true := by decide +kernel
theorem ck_number_of : ckS D_number_of.body (cc S_number_of N_number_of (PySem.Str.ofString "number_of")) (defBody S_number_of) = true := by decide +kernel
theorem ck_weights_of : ckS D_weights_of.body (cc S_weights_of N_weights_of (PySem.Str.ofString "weights_of")) (defBody S_weights_of) = true := by decide +kernel
theorem ck_four_in : ckS D_four_in.body (cc S_four_in N_four_in (PySem.Str.ofString "four_in")) (defBody S_four_in) = true := by decide +kernel
theorem ck_told : ckS D_told.body (cc S_told N_told (PySem.Str.ofString "told")) (defBody S_told) = true := by decide +kernel
theorem ck__law_word : ckS D__law_word.body (cc S__law_word N__law_word (PySem.Str.ofString "_law_word")) (defBody S__law_word) = true := by decide +kernel
theorem ck__law_star : ckS D__law_star.body (cc S__law_star N__law_star (PySem.Str.ofString "_law_star")) (defBody S__law_star) = true := by decide +kernel
theorem ck__law_told_right : ckS D__law_told_right.body (cc S__law_told_right N__law_told_right (PySem.Str.ofString "_law_told_right")) (defBody S__law_told_right) = true := by decide +kernel
theorem ck__law_sorts_right : ckS D__law_sorts_right.body (cc S__law_sorts_right N__law_sorts_right (PySem.Str.ofString "_law_sorts_right")) (defBody S__law_sorts_right) = true := by decide +kernel
theorem ck__law_rows_right : ckS D__law_rows_right.body (cc S__law_rows_right N__law_rows_right (PySem.Str.ofString "_law_rows_right")) (defBody S__law_rows_right) = true := by decide +kernel
theorem ck__law_kinds_right : ckS D__law_kinds_right.body (cc S__law_kinds_right N__law_kinds_right (PySem.Str.ofString "_law_kinds_right")) (defBody S__law_kinds_right) = true := by decide +kernel
theorem ck__law_crowds_right : ckS D__law_crowds_right.body (cc S__law_crowds_right N__law_crowds_right (PySem.Str.ofString "_law_crowds_right")) (defBody S__law_crowds_right) = true := by decide +kernel
theorem ck__law_greatest_right : ckS D__law_greatest_right.body (cc S__law_greatest_right N__law_greatest_right (PySem.Str.ofString "_law_greatest_right")) (defBody S__law_greatest_right) = true := by decide +kernel
theorem ck_law : ckS D_law.body (cc S_law N_law (PySem.Str.ofString "law")) (defBody S_law) = true := by decide +kernel
section
variable {W : Wd} {f : Addr} {oc : Value} {od an : Option Addr} {osl : Array (Option Value)} {kV doc pm cdv ct : Value}
abbrev fo_is_number (kV doc pm : Value) (an : Option Addr) (cdv ct : Value) : FuncData := PySem.W.fnOf (PySem.Str.ofString "is_number") (PySem.Str.ofString "is_number") (defArgs S_is_number) (defBody S_is_number) (defScope S_is_number) .none kV doc pm an cdv ct
theorem ok_is_number (hf : W.fn 0 = f) (l : W.K.lookup f = some ⟨oc, od, .func (fo_is_number kV doc pm an cdv ct), osl⟩) (c : PySem.W.codeIn W.K cdv (PySem.Str.ofString "is_number") = true) (k : PySem.W.keepIn W.K (.ref f) = true) : DefOk W T 0 D_is_number (PySem.Str.ofString "is_number") (PySem.Str.ofString "is_number") S_is_number (fo_is_number kV doc pm an cdv ct) N_is_number P_is_number :=
  ⟨by rw [hf]; exact fun_mk l c k, ⟨by decide +kernel, by decide +kernel, by decide +kernel, by decide +kernel, by decide +kernel, by decide +kernel, by decide +kernel⟩, rfl, rfl, fun us hl => match us, hl with | [_], _ => rfl, ck_is_number, fun h => absurd h (by decide +kernel)⟩
abbrev fo_is_tie (kV doc pm : Value) (an : Option Addr) (cdv ct : Value) : FuncData := PySem.W.fnOf (PySem.Str.ofString "is_tie") (PySem.Str.ofString "is_tie") (defArgs S_is_tie) (defBody S_is_tie) (defScope S_is_tie) .none kV doc pm an cdv ct
theorem ok_is_tie (hf : W.fn 1 = f) (l : W.K.lookup f = some ⟨oc, od, .func (fo_is_tie kV doc pm an cdv ct), osl⟩) (c : PySem.W.codeIn W.K cdv (PySem.Str.ofString "is_tie") = true) (k : PySem.W.keepIn W.K (.ref f) = true) : DefOk W T 1 D_is_tie (PySem.Str.ofString "is_tie") (PySem.Str.ofString "is_tie") S_is_tie (fo_is_tie kV doc pm an cdv ct) N_is_tie P_is_tie :=
  ⟨by rw [hf]; exact fun_mk l c k, ⟨by decide +kernel, by decide +kernel, by decide +kernel, by decide +kernel, by decide +kernel, by decide +kernel, by decide +kernel⟩, rfl, rfl, fun us hl => match us, hl with | [_, _], _ => rfl, ck_is_tie, fun h => absurd h (by decide +kernel)⟩
abbrev fo_check_places (kV doc pm : Value) (an : Option Addr) (cdv ct : Value) : FuncData := PySem.W.fnOf (PySem.Str.ofString "check_places") (PySem.Str.ofString "check_places") (defArgs S_check_places) (defBody S_check_places) (defScope S_check_places) .none kV doc pm an cdv ct
theorem ok_check_places (hf : W.fn 2 = f) (l : W.K.lookup f = some ⟨oc, od, .func (fo_check_places kV doc pm an cdv ct), osl⟩) (c : PySem.W.codeIn W.K cdv (PySem.Str.ofString "check_places") = true) (k : PySem.W.keepIn W.K (.ref f) = true) : DefOk W T 2 D_check_places (PySem.Str.ofString "check_places") (PySem.Str.ofString "check_places") S_check_places (fo_check_places kV doc pm an cdv ct) N_check_places P_check_places :=
  ⟨by rw [hf]; exact fun_mk l c k, ⟨by decide +kernel, by decide +kernel, by decide +kernel, by decide +kernel, by decide +kernel, by decide +kernel, by decide +kernel⟩, rfl, rfl, fun us hl => match us, hl with | [_], _ => rfl, ck_check_places, fun h => absurd h (by decide +kernel)⟩
abbrev fo_check_web (kV doc pm : Value) (an : Option Addr) (cdv ct : Value) : FuncData := PySem.W.fnOf (PySem.Str.ofString "check_web") (PySem.Str.ofString "check_web") (defArgs S_check_web) (defBody S_check_web) (defScope S_check_web) .none kV doc pm an cdv ct
theorem ok_check_web (hf : W.fn 3 = f) (l : W.K.lookup f = some ⟨oc, od, .func (fo_check_web kV doc pm an cdv ct), osl⟩) (c : PySem.W.codeIn W.K cdv (PySem.Str.ofString "check_web") = true) (k : PySem.W.keepIn W.K (.ref f) = true) : DefOk W T 3 D_check_web (PySem.Str.ofString "check_web") (PySem.Str.ofString "check_web") S_check_web (fo_check_web kV doc pm an cdv ct) N_check_web P_check_web :=
  ⟨by rw [hf]; exact fun_mk l c k, ⟨by decide +kernel, by decide +kernel, by decide +kernel, by decide +kernel, by decide +kernel, by decide +kernel, by decide +kernel⟩, rfl, rfl, fun us hl => match us, hl with | [_, _], _ => rfl, ck_check_web, fun h => absurd h (by decide +kernel)⟩
abbrev fo_beside (kV doc pm : Value) (an : Option Addr) (cdv ct : Value) : FuncData := PySem.W.fnOf (PySem.Str.ofString "beside") (PySem.Str.ofString "beside") (defArgs S_beside) (defBody S_beside) (defScope S_beside) .none kV doc pm an cdv ct
theorem ok_beside (hf : W.fn 4 = f) (l : W.K.lookup f = some ⟨oc, od, .func (fo_beside kV doc pm an cdv ct), osl⟩) (c : PySem.W.codeIn W.K cdv (PySem.Str.ofString "beside") = true) (k : PySem.W.keepIn W.K (.ref f) = true) : DefOk W T 4 D_beside (PySem.Str.ofString "beside") (PySem.Str.ofString "beside") S_beside (fo_beside kV doc pm an cdv ct) N_beside P_beside :=
  ⟨by rw [hf]; exact fun_mk l c k, ⟨by decide +kernel, by decide +kernel, by decide +kernel, by decide +kernel, by decide +kernel, by decide +kernel, by decide +kernel⟩, rfl, rfl, fun us hl => match us, hl with | [_, _], _ => rfl, ck_beside, fun h => absurd h (by decide +kernel)⟩
abbrev fo_row_by (kV doc pm : Value) (an : Option Addr) (cdv ct : Value) : FuncData := PySem.W.fnOf (PySem.Str.ofString "row_by") (PySem.Str.ofString "row_by") (defArgs S_row_by) (defBody S_row_by) (defScope S_row_by) .none kV doc pm an cdv ct
theorem ok_row_by (hf : W.fn 5 = f) (l : W.K.lookup f = some ⟨oc, od, .func (fo_row_by kV doc pm an cdv ct), osl⟩) (c : PySem.W.codeIn W.K cdv (PySem.Str.ofString "row_by") = true) (k : PySem.W.keepIn W.K (.ref f) = true) : DefOk W T 5 D_row_by (PySem.Str.ofString "row_by") (PySem.Str.ofString "row_by") S_row_by (fo_row_by kV doc pm an cdv ct) N_row_by P_row_by :=
  ⟨by rw [hf]; exact fun_mk l c k, ⟨by decide +kernel, by decide +kernel, by decide +kernel, by decide +kernel, by decide +kernel, by decide +kernel, by decide +kernel⟩, rfl, rfl, fun us hl => match us, hl with | [_], _ => rfl, ck_row_by, fun h => absurd h (by decide +kernel)⟩
abbrev fo_row_in (kV doc pm : Value) (an : Option Addr) (cdv ct : Value) : FuncData := PySem.W.fnOf (PySem.Str.ofString "row_in") (PySem.Str.ofString "row_in") (defArgs S_row_in) (defBody S_row_in) (defScope S_row_in) .none kV doc pm an cdv ct
theorem ok_row_in (hf : W.fn 6 = f) (l : W.K.lookup f = some ⟨oc, od, .func (fo_row_in kV doc pm an cdv ct), osl⟩) (c : PySem.W.codeIn W.K cdv (PySem.Str.ofString "row_in") = true) (k : PySem.W.keepIn W.K (.ref f) = true) : DefOk W T 6 D_row_in (PySem.Str.ofString "row_in") (PySem.Str.ofString "row_in") S_row_in (fo_row_in kV doc pm an cdv ct) N_row_in P_row_in :=
  ⟨by rw [hf]; exact fun_mk l c k, ⟨by decide +kernel, by decide +kernel, by decide +kernel, by decide +kernel, by decide +kernel, by decide +kernel, by decide +kernel⟩, rfl, rfl, fun us hl => match us, hl with | [_, _], _ => rfl, ck_row_in, fun h => absurd h (by decide +kernel)⟩
abbrev fo_ties_of (kV doc pm : Value) (an : Option Addr) (cdv ct : Value) : FuncData := PySem.W.fnOf (PySem.Str.ofString "ties_of") (PySem.Str.ofString "ties_of") (defArgs S_ties_of) (defBody S_ties_of) (defScope S_ties_of) .none kV doc pm an cdv ct
theorem ok_ties_of (hf : W.fn 7 = f) (l : W.K.lookup f = some ⟨oc, od, .func (fo_ties_of kV doc pm an cdv ct), osl⟩) (c : PySem.W.codeIn W.K cdv (PySem.Str.ofString "ties_of") = true) (k : PySem.W.keepIn W.K (.ref f) = true) : DefOk W T 7 D_ties_of (PySem.Str.ofString "ties_of") (PySem.Str.ofString "ties_of") S_ties_of (fo_ties_of kV doc pm an cdv ct) N_ties_of P_ties_of :=
  ⟨by rw [hf]; exact fun_mk l c k, ⟨by decide +kernel, by decide +kernel, by decide +kernel, by decide +kernel, by decide +kernel, by decide +kernel, by decide +kernel⟩, rfl, rfl, fun us hl => match us, hl with | [_], _ => rfl, ck_ties_of, fun h => absurd h (by decide +kernel)⟩
abbrev fo_is_part (kV doc pm : Value) (an : Option Addr) (cdv ct : Value) : FuncData := PySem.W.fnOf (PySem.Str.ofString "is_part") (PySem.Str.ofString "is_part") (defArgs S_is_part) (defBody S_is_part) (defScope S_is_part) .none kV doc pm an cdv ct
theorem ok_is_part (hf : W.fn 8 = f) (l : W.K.lookup f = some ⟨oc, od, .func (fo_is_part kV doc pm an cdv ct), osl⟩) (c : PySem.W.codeIn W.K cdv (PySem.Str.ofString "is_part") = true) (k : PySem.W.keepIn W.K (.ref f) = true) : DefOk W T 8 D_is_part (PySem.Str.ofString "is_part") (PySem.Str.ofString "is_part") S_is_part (fo_is_part kV doc pm an cdv ct) N_is_part P_is_part :=
  ⟨by rw [hf]; exact fun_mk l c k, ⟨by decide +kernel, by decide +kernel, by decide +kernel, by decide +kernel, by decide +kernel, by decide +kernel, by decide +kernel⟩, rfl, rfl, fun us hl => match us, hl with | [_], _ => rfl, ck_is_part, fun h => absurd h (by decide +kernel)⟩
abbrev fo_row_of (kV doc pm : Value) (an : Option Addr) (cdv ct : Value) : FuncData := PySem.W.fnOf (PySem.Str.ofString "row_of") (PySem.Str.ofString "row_of") (defArgs S_row_of) (defBody S_row_of) (defScope S_row_of) .none kV doc pm an cdv ct
theorem ok_row_of (hf : W.fn 9 = f) (l : W.K.lookup f = some ⟨oc, od, .func (fo_row_of kV doc pm an cdv ct), osl⟩) (c : PySem.W.codeIn W.K cdv (PySem.Str.ofString "row_of") = true) (k : PySem.W.keepIn W.K (.ref f) = true) : DefOk W T 9 D_row_of (PySem.Str.ofString "row_of") (PySem.Str.ofString "row_of") S_row_of (fo_row_of kV doc pm an cdv ct) N_row_of P_row_of :=
  ⟨by rw [hf]; exact fun_mk l c k, ⟨by decide +kernel, by decide +kernel, by decide +kernel, by decide +kernel, by decide +kernel, by decide +kernel, by decide +kernel⟩, rfl, rfl, fun us hl => match us, hl with | [_, _], _ => rfl, ck_row_of, fun h => absurd h (by decide +kernel)⟩
abbrev fo_by_row (kV doc pm : Value) (an : Option Addr) (cdv ct : Value) : FuncData := PySem.W.fnOf (PySem.Str.ofString "by_row") (PySem.Str.ofString "by_row") (defArgs S_by_row) (defBody S_by_row) (defScope S_by_row) .none kV doc pm an cdv ct
theorem ok_by_row (hf : W.fn 10 = f) (l : W.K.lookup f = some ⟨oc, od, .func (fo_by_row kV doc pm an cdv ct), osl⟩) (c : PySem.W.codeIn W.K cdv (PySem.Str.ofString "by_row") = true) (k : PySem.W.keepIn W.K (.ref f) = true) : DefOk W T 10 D_by_row (PySem.Str.ofString "by_row") (PySem.Str.ofString "by_row") S_by_row (fo_by_row kV doc pm an cdv ct) N_by_row P_by_row :=
  ⟨by rw [hf]; exact fun_mk l c k, ⟨by decide +kernel, by decide +kernel, by decide +kernel, by decide +kernel, by decide +kernel, by decide +kernel, by decide +kernel⟩, rfl, rfl, fun us hl => match us, hl with | [_], _ => rfl, ck_by_row, fun h => absurd h (by decide +kernel)⟩
abbrev fo_by_counts (kV doc pm : Value) (an : Option Addr) (cdv ct : Value) : FuncData := PySem.W.fnOf (PySem.Str.ofString "by_counts") (PySem.Str.ofString "by_counts") (defArgs S_by_counts) (defBody S_by_counts) (defScope S_by_counts) .none kV doc pm an cdv ct
theorem ok_by_counts (hf : W.fn 11 = f) (l : W.K.lookup f = some ⟨oc, od, .func (fo_by_counts kV doc pm an cdv ct), osl⟩) (c : PySem.W.codeIn W.K cdv (PySem.Str.ofString "by_counts") = true) (k : PySem.W.keepIn W.K (.ref f) = true) : DefOk W T 11 D_by_counts (PySem.Str.ofString "by_counts") (PySem.Str.ofString "by_counts") S_by_counts (fo_by_counts kV doc pm an cdv ct) N_by_counts P_by_counts :=
  ⟨by rw [hf]; exact fun_mk l c k, ⟨by decide +kernel, by decide +kernel, by decide +kernel, by decide +kernel, by decide +kernel, by decide +kernel, by decide +kernel⟩, rfl, rfl, fun us hl => match us, hl with | [_], _ => rfl, ck_by_counts, fun h => absurd h (by decide +kernel)⟩
abbrev fo_Weighed___init__ (kV doc pm : Value) (an : Option Addr) (cdv ct : Value) : FuncData := PySem.W.fnOf (PySem.Str.ofString "__init__") (PySem.Str.ofString "Weighed.__init__") (defArgs S_Weighed___init__) (defBody S_Weighed___init__) (defScope S_Weighed___init__) .none kV doc pm an cdv ct
theorem ok_Weighed___init__ (hf : W.fn 12 = f) (l : W.K.lookup f = some ⟨oc, od, .func (fo_Weighed___init__ kV doc pm an cdv ct), osl⟩) (c : PySem.W.codeIn W.K cdv (PySem.Str.ofString "Weighed.__init__") = true) (k : PySem.W.keepIn W.K (.ref f) = true) : DefOk W T 12 D_Weighed___init__ (PySem.Str.ofString "__init__") (PySem.Str.ofString "Weighed.__init__") S_Weighed___init__ (fo_Weighed___init__ kV doc pm an cdv ct) N_Weighed___init__ P_Weighed___init__ :=
  ⟨by rw [hf]; exact fun_mk l c k, ⟨by decide +kernel, by decide +kernel, by decide +kernel, by decide +kernel, by decide +kernel, by decide +kernel, by decide +kernel⟩, rfl, rfl, fun us hl => match us, hl with | [_, _, _], _ => rfl, ck_Weighed___init__, fun h => absurd h (by decide +kernel)⟩
abbrev fo_Weighed_shows (kV doc pm : Value) (an : Option Addr) (cdv ct : Value) : FuncData := PySem.W.fnOf (PySem.Str.ofString "shows") (PySem.Str.ofString "Weighed.shows") (defArgs S_Weighed_shows) (defBody S_Weighed_shows) (defScope S_Weighed_shows) .none kV doc pm an cdv ct
theorem ok_Weighed_shows (hf : W.fn 13 = f) (l : W.K.lookup f = some ⟨oc, od, .func (fo_Weighed_shows kV doc pm an cdv ct), osl⟩) (c : PySem.W.codeIn W.K cdv (PySem.Str.ofString "Weighed.shows") = true) (k : PySem.W.keepIn W.K (.ref f) = true) : DefOk W T 13 D_Weighed_shows (PySem.Str.ofString "shows") (PySem.Str.ofString "Weighed.shows") S_Weighed_shows (fo_Weighed_shows kV doc pm an cdv ct) N_Weighed_shows P_Weighed_shows :=
  ⟨by rw [hf]; exact fun_mk l c k, ⟨by decide +kernel, by decide +kernel, by decide +kernel, by decide +kernel, by decide +kernel, by decide +kernel, by decide +kernel⟩, rfl, rfl, fun us hl => match us, hl with | [_, _, _], _ => rfl, ck_Weighed_shows, fun h => absurd h (by decide +kernel)⟩
abbrev fo_Barred___init__ (kV doc pm : Value) (an : Option Addr) (cdv ct : Value) : FuncData := PySem.W.fnOf (PySem.Str.ofString "__init__") (PySem.Str.ofString "Barred.__init__") (defArgs S_Barred___init__) (defBody S_Barred___init__) (defScope S_Barred___init__) .none kV doc pm an cdv ct
theorem ok_Barred___init__ (hf : W.fn 14 = f) (l : W.K.lookup f = some ⟨oc, od, .func (fo_Barred___init__ kV doc pm an cdv ct), osl⟩) (c : PySem.W.codeIn W.K cdv (PySem.Str.ofString "Barred.__init__") = true) (k : PySem.W.keepIn W.K (.ref f) = true) : DefOk W T 14 D_Barred___init__ (PySem.Str.ofString "__init__") (PySem.Str.ofString "Barred.__init__") S_Barred___init__ (fo_Barred___init__ kV doc pm an cdv ct) N_Barred___init__ P_Barred___init__ :=
  ⟨by rw [hf]; exact fun_mk l c k, ⟨by decide +kernel, by decide +kernel, by decide +kernel, by decide +kernel, by decide +kernel, by decide +kernel, by decide +kernel⟩, rfl, rfl, fun us hl => match us, hl with | [_, _], _ => rfl, ck_Barred___init__, fun h => absurd h (by decide +kernel)⟩
abbrev fo_Barred_shows (kV doc pm : Value) (an : Option Addr) (cdv ct : Value) : FuncData := PySem.W.fnOf (PySem.Str.ofString "shows") (PySem.Str.ofString "Barred.shows") (defArgs S_Barred_shows) (defBody S_Barred_shows) (defScope S_Barred_shows) .none kV doc pm an cdv ct
theorem ok_Barred_shows (hf : W.fn 15 = f) (l : W.K.lookup f = some ⟨oc, od, .func (fo_Barred_shows kV doc pm an cdv ct), osl⟩) (c : PySem.W.codeIn W.K cdv (PySem.Str.ofString "Barred.shows") = true) (k : PySem.W.keepIn W.K (.ref f) = true) : DefOk W T 15 D_Barred_shows (PySem.Str.ofString "shows") (PySem.Str.ofString "Barred.shows") S_Barred_shows (fo_Barred_shows kV doc pm an cdv ct) N_Barred_shows P_Barred_shows :=
  ⟨by rw [hf]; exact fun_mk l c k, ⟨by decide +kernel, by decide +kernel, by decide +kernel, by decide +kernel, by decide +kernel, by decide +kernel, by decide +kernel⟩, rfl, rfl, fun us hl => match us, hl with | [_, _, _], _ => rfl, ck_Barred_shows, fun h => absurd h (by decide +kernel)⟩
abbrev fo_are_all (kV doc pm : Value) (an : Option Addr) (cdv ct : Value) : FuncData := PySem.W.fnOf (PySem.Str.ofString "are_all") (PySem.Str.ofString "are_all") (defArgs S_are_all) (defBody S_are_all) (defScope S_are_all) .none kV doc pm an cdv ct
theorem ok_are_all (hf : W.fn 16 = f) (l : W.K.lookup f = some ⟨oc, od, .func (fo_are_all kV doc pm an cdv ct), osl⟩) (c : PySem.W.codeIn W.K cdv (PySem.Str.ofString "are_all") = true) (k : PySem.W.keepIn W.K (.ref f) = true) : DefOk W T 16 D_are_all (PySem.Str.ofString "are_all") (PySem.Str.ofString "are_all") S_are_all (fo_are_all kV doc pm an cdv ct) N_are_all P_are_all :=
  ⟨by rw [hf]; exact fun_mk l c k, ⟨by decide +kernel, by decide +kernel, by decide +kernel, by decide +kernel, by decide +kernel, by decide +kernel, by decide +kernel⟩, rfl, rfl, fun us hl => match us, hl with | [_, _, _], _ => rfl, ck_are_all, fun h => absurd h (by decide +kernel)⟩
abbrev fo_are_parted (kV doc pm : Value) (an : Option Addr) (cdv ct : Value) : FuncData := PySem.W.fnOf (PySem.Str.ofString "are_parted") (PySem.Str.ofString "are_parted") (defArgs S_are_parted) (defBody S_are_parted) (defScope S_are_parted) .none kV doc pm an cdv ct
theorem ok_are_parted (hf : W.fn 17 = f) (l : W.K.lookup f = some ⟨oc, od, .func (fo_are_parted kV doc pm an cdv ct), osl⟩) (c : PySem.W.codeIn W.K cdv (PySem.Str.ofString "are_parted") = true) (k : PySem.W.keepIn W.K (.ref f) = true) : DefOk W T 17 D_are_parted (PySem.Str.ofString "are_parted") (PySem.Str.ofString "are_parted") S_are_parted (fo_are_parted kV doc pm an cdv ct) N_are_parted P_are_parted :=
  ⟨by rw [hf]; exact fun_mk l c k, ⟨by decide +kernel, by decide +kernel, by decide +kernel, by decide +kernel, by decide +kernel, by decide +kernel, by decide +kernel⟩, rfl, rfl, fun us hl => match us, hl with | [_, _, _], _ => rfl, ck_are_parted, fun h => absurd h (by decide +kernel)⟩
abbrev fo_Crowd___init__ (kV doc pm : Value) (an : Option Addr) (cdv ct : Value) : FuncData := PySem.W.fnOf (PySem.Str.ofString "__init__") (PySem.Str.ofString "Crowd.__init__") (defArgs S_Crowd___init__) (defBody S_Crowd___init__) (defScope S_Crowd___init__) .none kV doc pm an cdv ct
theorem ok_Crowd___init__ (hf : W.fn 18 = f) (l : W.K.lookup f = some ⟨oc, od, .func (fo_Crowd___init__ kV doc pm an cdv ct), osl⟩) (c : PySem.W.codeIn W.K cdv (PySem.Str.ofString "Crowd.__init__") = true) (k : PySem.W.keepIn W.K (.ref f) = true) : DefOk W T 18 D_Crowd___init__ (PySem.Str.ofString "__init__") (PySem.Str.ofString "Crowd.__init__") S_Crowd___init__ (fo_Crowd___init__ kV doc pm an cdv ct) N_Crowd___init__ P_Crowd___init__ :=
  ⟨by rw [hf]; exact fun_mk l c k, ⟨by decide +kernel, by decide +kernel, by decide +kernel, by decide +kernel, by decide +kernel, by decide +kernel, by decide +kernel⟩, rfl, rfl, fun us hl => match us, hl with | [_, _, _], _ => rfl, ck_Crowd___init__, fun h => absurd h (by decide +kernel)⟩
abbrev fo_Crowd_shows (kV doc pm : Value) (an : Option Addr) (cdv ct : Value) : FuncData := PySem.W.fnOf (PySem.Str.ofString "shows") (PySem.Str.ofString "Crowd.shows") (defArgs S_Crowd_shows) (defBody S_Crowd_shows) (defScope S_Crowd_shows) .none kV doc pm an cdv ct
theorem ok_Crowd_shows (hf : W.fn 19 = f) (l : W.K.lookup f = some ⟨oc, od, .func (fo_Crowd_shows kV doc pm an cdv ct), osl⟩) (c : PySem.W.codeIn W.K cdv (PySem.Str.ofString "Crowd.shows") = true) (k : PySem.W.keepIn W.K (.ref f) = true) : DefOk W T 19 D_Crowd_shows (PySem.Str.ofString "shows") (PySem.Str.ofString "Crowd.shows") S_Crowd_shows (fo_Crowd_shows kV doc pm an cdv ct) N_Crowd_shows P_Crowd_shows :=
  ⟨by rw [hf]; exact fun_mk l c k, ⟨by decide +kernel, by decide +kernel, by decide +kernel, by decide +kernel, by decide +kernel, by decide +kernel, by decide +kernel⟩, rfl, rfl, fun us hl => match us, hl with | [_, _, _], _ => rfl, ck_Crowd_shows, fun h => absurd h (by decide +kernel)⟩
abbrev fo_Lonely___init__ (kV doc pm : Value) (an : Option Addr) (cdv ct : Value) : FuncData := PySem.W.fnOf (PySem.Str.ofString "__init__") (PySem.Str.ofString "Lonely.__init__") (defArgs S_Lonely___init__) (defBody S_Lonely___init__) (defScope S_Lonely___init__) .none kV doc pm an cdv ct
theorem ok_Lonely___init__ (hf : W.fn 20 = f) (l : W.K.lookup f = some ⟨oc, od, .func (fo_Lonely___init__ kV doc pm an cdv ct), osl⟩) (c : PySem.W.codeIn W.K cdv (PySem.Str.ofString "Lonely.__init__") = true) (k : PySem.W.keepIn W.K (.ref f) = true) : DefOk W T 20 D_Lonely___init__ (PySem.Str.ofString "__init__") (PySem.Str.ofString "Lonely.__init__") S_Lonely___init__ (fo_Lonely___init__ kV doc pm an cdv ct) N_Lonely___init__ P_Lonely___init__ :=
  ⟨by rw [hf]; exact fun_mk l c k, ⟨by decide +kernel, by decide +kernel, by decide +kernel, by decide +kernel, by decide +kernel, by decide +kernel, by decide +kernel⟩, rfl, rfl, fun us hl => match us, hl with | [_, _, _], _ => rfl, ck_Lonely___init__, fun h => absurd h (by decide +kernel)⟩
abbrev fo_Lonely_shows (kV doc pm : Value) (an : Option Addr) (cdv ct : Value) : FuncData := PySem.W.fnOf (PySem.Str.ofString "shows") (PySem.Str.ofString "Lonely.shows") (defArgs S_Lonely_shows) (defBody S_Lonely_shows) (defScope S_Lonely_shows) .none kV doc pm an cdv ct
theorem ok_Lonely_shows (hf : W.fn 21 = f) (l : W.K.lookup f = some ⟨oc, od, .func (fo_Lonely_shows kV doc pm an cdv ct), osl⟩) (c : PySem.W.codeIn W.K cdv (PySem.Str.ofString "Lonely.shows") = true) (k : PySem.W.keepIn W.K (.ref f) = true) : DefOk W T 21 D_Lonely_shows (PySem.Str.ofString "shows") (PySem.Str.ofString "Lonely.shows") S_Lonely_shows (fo_Lonely_shows kV doc pm an cdv ct) N_Lonely_shows P_Lonely_shows :=
  ⟨by rw [hf]; exact fun_mk l c k, ⟨by decide +kernel, by decide +kernel, by decide +kernel, by decide +kernel, by decide +kernel, by decide +kernel, by decide +kernel⟩, rfl, rfl, fun us hl => match us, hl with | [_, _, _], _ => rfl, ck_Lonely_shows, fun h => absurd h (by decide +kernel)⟩
abbrev fo_halves (kV doc pm : Value) (an : Option Addr) (cdv ct : Value) : FuncData := PySem.W.fnOf (PySem.Str.ofString "halves") (PySem.Str.ofString "halves") (defArgs S_halves) (defBody S_halves) (defScope S_halves) .none kV doc pm an cdv ct
theorem ok_halves (hf : W.fn 22 = f) (l : W.K.lookup f = some ⟨oc, od, .func (fo_halves kV doc pm an cdv ct), osl⟩) (c : PySem.W.codeIn W.K cdv (PySem.Str.ofString "halves") = true) (k : PySem.W.keepIn W.K (.ref f) = true) : DefOk W T 22 D_halves (PySem.Str.ofString "halves") (PySem.Str.ofString "halves") S_halves (fo_halves kV doc pm an cdv ct) N_halves P_halves :=
  ⟨by rw [hf]; exact fun_mk l c k, ⟨by decide +kernel, by decide +kernel, by decide +kernel, by decide +kernel, by decide +kernel, by decide +kernel, by decide +kernel⟩, rfl, rfl, fun us hl => match us, hl with | [_, _], _ => rfl, ck_halves, fun h => absurd h (by decide +kernel)⟩
abbrev fo_crowd (kV doc pm : Value) (an : Option Addr) (cdv ct : Value) : FuncData := PySem.W.fnOf (PySem.Str.ofString "crowd") (PySem.Str.ofString "crowd") (defArgs S_crowd) (defBody S_crowd) (defScope S_crowd) .none kV doc pm an cdv ct
theorem ok_crowd (hf : W.fn 23 = f) (l : W.K.lookup f = some ⟨oc, od, .func (fo_crowd kV doc pm an cdv ct), osl⟩) (c : PySem.W.codeIn W.K cdv (PySem.Str.ofString "crowd") = true) (k : PySem.W.keepIn W.K (.ref f) = true) : DefOk W T 23 D_crowd (PySem.Str.ofString "crowd") (PySem.Str.ofString "crowd") S_crowd (fo_crowd kV doc pm an cdv ct) N_crowd P_crowd :=
  ⟨by rw [hf]; exact fun_mk l c k, ⟨by decide +kernel, by decide +kernel, by decide +kernel, by decide +kernel, by decide +kernel, by decide +kernel, by decide +kernel⟩, rfl, rfl, fun us hl => match us, hl with | [_, _], _ => rfl, ck_crowd, fun h => absurd h (by decide +kernel)⟩
abbrev fo_lonely (kV doc pm : Value) (an : Option Addr) (cdv ct : Value) : FuncData := PySem.W.fnOf (PySem.Str.ofString "lonely") (PySem.Str.ofString "lonely") (defArgs S_lonely) (defBody S_lonely) (defScope S_lonely) .none kV doc pm an cdv ct
theorem ok_lonely (hf : W.fn 24 = f) (l : W.K.lookup f = some ⟨oc, od, .func (fo_lonely kV doc pm an cdv ct), osl⟩) (c : PySem.W.codeIn W.K cdv (PySem.Str.ofString "lonely") = true) (k : PySem.W.keepIn W.K (.ref f) = true) : DefOk W T 24 D_lonely (PySem.Str.ofString "lonely") (PySem.Str.ofString "lonely") S_lonely (fo_lonely kV doc pm an cdv ct) N_lonely P_lonely :=
  ⟨by rw [hf]; exact fun_mk l c k, ⟨by decide +kernel, by decide +kernel, by decide +kernel, by decide +kernel, by decide +kernel, by decide +kernel, by decide +kernel⟩, rfl, rfl, fun us hl => match us, hl with | [_, _], _ => rfl, ck_lonely, fun h => absurd h (by decide +kernel)⟩
abbrev fo_kind_by (kV doc pm : Value) (an : Option Addr) (cdv ct : Value) : FuncData := PySem.W.fnOf (PySem.Str.ofString "kind_by") (PySem.Str.ofString "kind_by") (defArgs S_kind_by) (defBody S_kind_by) (defScope S_kind_by) .none kV doc pm an cdv ct
theorem ok_kind_by (hf : W.fn 25 = f) (l : W.K.lookup f = some ⟨oc, od, .func (fo_kind_by kV doc pm an cdv ct), osl⟩) (c : PySem.W.codeIn W.K cdv (PySem.Str.ofString "kind_by") = true) (k : PySem.W.keepIn W.K (.ref f) = true) : DefOk W T 25 D_kind_by (PySem.Str.ofString "kind_by") (PySem.Str.ofString "kind_by") S_kind_by (fo_kind_by kV doc pm an cdv ct) N_kind_by P_kind_by :=
  ⟨by rw [hf]; exact fun_mk l c k, ⟨by decide +kernel, by decide +kernel, by decide +kernel, by decide +kernel, by decide +kernel, by decide +kernel, by decide +kernel⟩, rfl, rfl, fun us hl => match us, hl with | [_, _], _ => rfl, ck_kind_by, fun h => absurd h (by decide +kernel)⟩
abbrev fo_number_of (kV doc pm : Value) (an : Option Addr) (cdv ct : Value) : FuncData := PySem.W.fnOf (PySem.Str.ofString "number_of") (PySem.Str.ofString "number_of") (defArgs S_number_of) (defBody S_number_of) (defScope S_number_of) .none kV doc pm an cdv ct
theorem ok_number_of (hf : W.fn 26 = f) (l : W.K.lookup f = some ⟨oc, od, .func (fo_number_of kV doc pm an cdv ct), osl⟩) (c : PySem.W.codeIn W.K cdv (PySem.Str.ofString "number_of") = true) (k : PySem.W.keepIn W.K (.ref f) = true) : DefOk W T 26 D_number_of (PySem.Str.ofString "number_of") (PySem.Str.ofString "number_of") S_number_of (fo_number_of kV doc pm an cdv ct) N_number_of P_number_of :=
  ⟨by rw [hf]; exact fun_mk l c k, ⟨by decide +kernel, by decide +kernel, by decide +kernel, by decide +kernel, by decide +kernel, by decide +kernel, by decide +kernel⟩, rfl, rfl, fun us hl => match us, hl with | [_, _], _ => rfl, ck_number_of, fun h => absurd h (by decide +kernel)⟩
abbrev fo_weights_of (kV doc pm : Value) (an : Option Addr) (cdv ct : Value) : FuncData := PySem.W.fnOf (PySem.Str.ofString "weights_of") (PySem.Str.ofString "weights_of") (defArgs S_weights_of) (defBody S_weights_of) (defScope S_weights_of) .none kV doc pm an cdv ct
theorem ok_weights_of (hf : W.fn 27 = f) (l : W.K.lookup f = some ⟨oc, od, .func (fo_weights_of kV doc pm an cdv ct), osl⟩) (c : PySem.W.codeIn W.K cdv (PySem.Str.ofString "weights_of") = true) (k : PySem.W.keepIn W.K (.ref f) = true) : DefOk W T 27 D_weights_of (PySem.Str.ofString "weights_of") (PySem.Str.ofString "weights_of") S_weights_of (fo_weights_of kV doc pm an cdv ct) N_weights_of P_weights_of :=
  ⟨by rw [hf]; exact fun_mk l c k, ⟨by decide +kernel, by decide +kernel, by decide +kernel, by decide +kernel, by decide +kernel, by decide +kernel, by decide +kernel⟩, rfl, rfl, fun us hl => match us, hl with | [_], _ => rfl, ck_weights_of, fun h => absurd h (by decide +kernel)⟩
abbrev fo_four_in (kV doc pm : Value) (an : Option Addr) (cdv ct : Value) : FuncData := PySem.W.fnOf (PySem.Str.ofString "four_in") (PySem.Str.ofString "four_in") (defArgs S_four_in) (defBody S_four_in) (defScope S_four_in) .none kV doc pm an cdv ct
theorem ok_four_in (hf : W.fn 28 = f) (l : W.K.lookup f = some ⟨oc, od, .func (fo_four_in kV doc pm an cdv ct), osl⟩) (c : PySem.W.codeIn W.K cdv (PySem.Str.ofString "four_in") = true) (k : PySem.W.keepIn W.K (.ref f) = true) : DefOk W T 28 D_four_in (PySem.Str.ofString "four_in") (PySem.Str.ofString "four_in") S_four_in (fo_four_in kV doc pm an cdv ct) N_four_in P_four_in :=
  ⟨by rw [hf]; exact fun_mk l c k, ⟨by decide +kernel, by decide +kernel, by decide +kernel, by decide +kernel, by decide +kernel, by decide +kernel, by decide +kernel⟩, rfl, rfl, fun us hl => match us, hl with | [_], _ => rfl, ck_four_in, fun h => absurd h (by decide +kernel)⟩
abbrev fo_told (kV doc pm : Value) (an : Option Addr) (cdv ct : Value) : FuncData := PySem.W.fnOf (PySem.Str.ofString "told") (PySem.Str.ofString "told") (defArgs S_told) (defBody S_told) (defScope S_told) .none kV doc pm an cdv ct
theorem ok_told (hf : W.fn 29 = f) (l : W.K.lookup f = some ⟨oc, od, .func (fo_told kV doc pm an cdv ct), osl⟩) (c : PySem.W.codeIn W.K cdv (PySem.Str.ofString "told") = true) (k : PySem.W.keepIn W.K (.ref f) = true) : DefOk W T 29 D_told (PySem.Str.ofString "told") (PySem.Str.ofString "told") S_told (fo_told kV doc pm an cdv ct) N_told P_told :=
  ⟨by rw [hf]; exact fun_mk l c k, ⟨by decide +kernel, by decide +kernel, by decide +kernel, by decide +kernel, by decide +kernel, by decide +kernel, by decide +kernel⟩, rfl, rfl, fun us hl => match us, hl with | [_, _], _ => rfl, ck_told, fun h => absurd h (by decide +kernel)⟩
abbrev fo__law_word (kV doc pm : Value) (an : Option Addr) (cdv ct : Value) : FuncData := PySem.W.fnOf (PySem.Str.ofString "_law_word") (PySem.Str.ofString "_law_word") (defArgs S__law_word) (defBody S__law_word) (defScope S__law_word) .none kV doc pm an cdv ct
theorem ok__law_word (hf : W.fn 40 = f) (l : W.K.lookup f = some ⟨oc, od, .func (fo__law_word kV doc pm an cdv ct), osl⟩) (c : PySem.W.codeIn W.K cdv (PySem.Str.ofString "_law_word") = true) (k : PySem.W.keepIn W.K (.ref f) = true) : DefOk W T 40 D__law_word (PySem.Str.ofString "_law_word") (PySem.Str.ofString "_law_word") S__law_word (fo__law_word kV doc pm an cdv ct) N__law_word P__law_word :=
  ⟨by rw [hf]; exact fun_mk l c k, ⟨by decide +kernel, by decide +kernel, by decide +kernel, by decide +kernel, by decide +kernel, by decide +kernel, by decide +kernel⟩, rfl, rfl, fun us hl => match us, hl with | [_, _], _ => rfl, ck__law_word, fun h => absurd h (by decide +kernel)⟩
abbrev fo__law_star (kV doc pm : Value) (an : Option Addr) (cdv ct : Value) : FuncData := PySem.W.fnOf (PySem.Str.ofString "_law_star") (PySem.Str.ofString "_law_star") (defArgs S__law_star) (defBody S__law_star) (defScope S__law_star) .none kV doc pm an cdv ct
theorem ok__law_star (hf : W.fn 41 = f) (l : W.K.lookup f = some ⟨oc, od, .func (fo__law_star kV doc pm an cdv ct), osl⟩) (c : PySem.W.codeIn W.K cdv (PySem.Str.ofString "_law_star") = true) (k : PySem.W.keepIn W.K (.ref f) = true) : DefOk W T 41 D__law_star (PySem.Str.ofString "_law_star") (PySem.Str.ofString "_law_star") S__law_star (fo__law_star kV doc pm an cdv ct) N__law_star P__law_star :=
  ⟨by rw [hf]; exact fun_mk l c k, ⟨by decide +kernel, by decide +kernel, by decide +kernel, by decide +kernel, by decide +kernel, by decide +kernel, by decide +kernel⟩, rfl, rfl, fun us hl => match us, hl with | [], _ => rfl, ck__law_star, fun h => absurd h (by decide +kernel)⟩
abbrev fo__law_told_right (kV doc pm : Value) (an : Option Addr) (cdv ct : Value) : FuncData := PySem.W.fnOf (PySem.Str.ofString "_law_told_right") (PySem.Str.ofString "_law_told_right") (defArgs S__law_told_right) (defBody S__law_told_right) (defScope S__law_told_right) .none kV doc pm an cdv ct
theorem ok__law_told_right (hf : W.fn 42 = f) (l : W.K.lookup f = some ⟨oc, od, .func (fo__law_told_right kV doc pm an cdv ct), osl⟩) (c : PySem.W.codeIn W.K cdv (PySem.Str.ofString "_law_told_right") = true) (k : PySem.W.keepIn W.K (.ref f) = true) : DefOk W T 42 D__law_told_right (PySem.Str.ofString "_law_told_right") (PySem.Str.ofString "_law_told_right") S__law_told_right (fo__law_told_right kV doc pm an cdv ct) N__law_told_right P__law_told_right :=
  ⟨by rw [hf]; exact fun_mk l c k, ⟨by decide +kernel, by decide +kernel, by decide +kernel, by decide +kernel, by decide +kernel, by decide +kernel, by decide +kernel⟩, rfl, rfl, fun us hl => match us, hl with | [], _ => rfl, ck__law_told_right, fun h => absurd h (by decide +kernel)⟩
abbrev fo__law_sorts_right (kV doc pm : Value) (an : Option Addr) (cdv ct : Value) : FuncData := PySem.W.fnOf (PySem.Str.ofString "_law_sorts_right") (PySem.Str.ofString "_law_sorts_right") (defArgs S__law_sorts_right) (defBody S__law_sorts_right) (defScope S__law_sorts_right) .none kV doc pm an cdv ct
theorem ok__law_sorts_right (hf : W.fn 43 = f) (l : W.K.lookup f = some ⟨oc, od, .func (fo__law_sorts_right kV doc pm an (.ref 354) ct), osl⟩) (c : PySem.W.codeIn W.K (.ref 354) (PySem.Str.ofString "_law_sorts_right") = true) (k : PySem.W.keepIn W.K (.ref f) = true) (hT : W.T = wT) (hc : W.cs = wcs) : DefOk W T 43 D__law_sorts_right (PySem.Str.ofString "_law_sorts_right") (PySem.Str.ofString "_law_sorts_right") S__law_sorts_right (fo__law_sorts_right kV doc pm an (.ref 354) ct) N__law_sorts_right P__law_sorts_right :=
  ⟨by rw [hf]; exact fun_mk l c k, ⟨by decide +kernel, by decide +kernel, by decide +kernel, by decide +kernel, by decide +kernel, by decide +kernel, by decide +kernel⟩, rfl, rfl, fun us hl => match us, hl with | [], _ => rfl, ck__law_sorts_right, fun _ => ⟨354, 352, rfl, by rw [hc]; decide +kernel, by rw [hT]; exact List.mem_of_getElem? (i := 0) rfl, by rw [hT]; exact tabU (by decide +kernel) (List.mem_of_getElem? (i := 0) rfl)⟩⟩
abbrev fo__law_rows_right (kV doc pm : Value) (an : Option Addr) (cdv ct : Value) : FuncData := PySem.W.fnOf (PySem.Str.ofString "_law_rows_right") (PySem.Str.ofString "_law_rows_right") (defArgs S__law_rows_right) (defBody S__law_rows_right) (defScope S__law_rows_right) .none kV doc pm an cdv ct
theorem ok__law_rows_right (hf : W.fn 44 = f) (l : W.K.lookup f = some ⟨oc, od, .func (fo__law_rows_right kV doc pm an cdv ct), osl⟩) (c : PySem.W.codeIn W.K cdv (PySem.Str.ofString "_law_rows_right") = true) (k : PySem.W.keepIn W.K (.ref f) = true) : DefOk W T 44 D__law_rows_right (PySem.Str.ofString "_law_rows_right") (PySem.Str.ofString "_law_rows_right") S__law_rows_right (fo__law_rows_right kV doc pm an cdv ct) N__law_rows_right P__law_rows_right :=
  ⟨by rw [hf]; exact fun_mk l c k, ⟨by decide +kernel, by decide +kernel, by decide +kernel, by decide +kernel, by decide +kernel, by decide +kernel, by decide +kernel⟩, rfl, rfl, fun us hl => match us, hl with | [], _ => rfl, ck__law_rows_right, fun h => absurd h (by decide +kernel)⟩
abbrev fo__law_kinds_right (kV doc pm : Value) (an : Option Addr) (cdv ct : Value) : FuncData := PySem.W.fnOf (PySem.Str.ofString "_law_kinds_right") (PySem.Str.ofString "_law_kinds_right") (defArgs S__law_kinds_right) (defBody S__law_kinds_right) (defScope S__law_kinds_right) .none kV doc pm an cdv ct
theorem ok__law_kinds_right (hf : W.fn 45 = f) (l : W.K.lookup f = some ⟨oc, od, .func (fo__law_kinds_right kV doc pm an (.ref 364) ct), osl⟩) (c : PySem.W.codeIn W.K (.ref 364) (PySem.Str.ofString "_law_kinds_right") = true) (k : PySem.W.keepIn W.K (.ref f) = true) (hT : W.T = wT) (hc : W.cs = wcs) : DefOk W T 45 D__law_kinds_right (PySem.Str.ofString "_law_kinds_right") (PySem.Str.ofString "_law_kinds_right") S__law_kinds_right (fo__law_kinds_right kV doc pm an (.ref 364) ct) N__law_kinds_right P__law_kinds_right :=
  ⟨by rw [hf]; exact fun_mk l c k, ⟨by decide +kernel, by decide +kernel, by decide +kernel, by decide +kernel, by decide +kernel, by decide +kernel, by decide +kernel⟩, rfl, rfl, fun us hl => match us, hl with | [_], _ => rfl, ck__law_kinds_right, fun _ => ⟨364, 362, rfl, by rw [hc]; decide +kernel, by rw [hT]; exact List.mem_of_getElem? (i := 1) rfl, by rw [hT]; exact tabU (by decide +kernel) (List.mem_of_getElem? (i := 1) rfl)⟩⟩
abbrev fo__law_crowds_right (kV doc pm : Value) (an : Option Addr) (cdv ct : Value) : FuncData := PySem.W.fnOf (PySem.Str.ofString "_law_crowds_right") (PySem.Str.ofString "_law_crowds_right") (defArgs S__law_crowds_right) (defBody S__law_crowds_right) (defScope S__law_crowds_right) .none kV doc pm an cdv ct
theorem ok__law_crowds_right (hf : W.fn 46 = f) (l : W.K.lookup f = some ⟨oc, od, .func (fo__law_crowds_right kV doc pm an cdv ct), osl⟩) (c : PySem.W.codeIn W.K cdv (PySem.Str.ofString "_law_crowds_right") = true) (k : PySem.W.keepIn W.K (.ref f) = true) : DefOk W T 46 D__law_crowds_right (PySem.Str.ofString "_law_crowds_right") (PySem.Str.ofString "_law_crowds_right") S__law_crowds_right (fo__law_crowds_right kV doc pm an cdv ct) N__law_crowds_right P__law_crowds_right :=
  ⟨by rw [hf]; exact fun_mk l c k, ⟨by decide +kernel, by decide +kernel, by decide +kernel, by decide +kernel, by decide +kernel, by decide +kernel, by decide +kernel⟩, rfl, rfl, fun us hl => match us, hl with | [], _ => rfl, ck__law_crowds_right, fun h => absurd h (by decide +kernel)⟩
abbrev fo__law_greatest_right (kV doc pm : Value) (an : Option Addr) (cdv ct : Value) : FuncData := PySem.W.fnOf (PySem.Str.ofString "_law_greatest_right") (PySem.Str.ofString "_law_greatest_right") (defArgs S__law_greatest_right) (defBody S__law_greatest_right) (defScope S__law_greatest_right) .none kV doc pm an cdv ct
theorem ok__law_greatest_right (hf : W.fn 47 = f) (l : W.K.lookup f = some ⟨oc, od, .func (fo__law_greatest_right kV doc pm an (.ref 374) ct), osl⟩) (c : PySem.W.codeIn W.K (.ref 374) (PySem.Str.ofString "_law_greatest_right") = true) (k : PySem.W.keepIn W.K (.ref f) = true) (hT : W.T = wT) (hc : W.cs = wcs) : DefOk W T 47 D__law_greatest_right (PySem.Str.ofString "_law_greatest_right") (PySem.Str.ofString "_law_greatest_right") S__law_greatest_right (fo__law_greatest_right kV doc pm an (.ref 374) ct) N__law_greatest_right P__law_greatest_right :=
  ⟨by rw [hf]; exact fun_mk l c k, ⟨by decide +kernel, by decide +kernel, by decide +kernel, by decide +kernel, by decide +kernel, by decide +kernel, by decide +kernel⟩, rfl, rfl, fun us hl => match us, hl with | [], _ => rfl, ck__law_greatest_right, fun _ => ⟨374, 372, rfl, by rw [hc]; decide +kernel, by rw [hT]; exact List.mem_of_getElem? (i := 2) rfl, by rw [hT]; exact tabU (by decide +kernel) (List.mem_of_getElem? (i := 2) rfl)⟩⟩
abbrev fo_law (kV doc pm : Value) (an : Option Addr) (cdv ct : Value) : FuncData := PySem.W.fnOf (PySem.Str.ofString "law") (PySem.Str.ofString "law") (defArgs S_law) (defBody S_law) (defScope S_law) .none kV doc pm an cdv ct
theorem ok_law (hf : W.fn 48 = f) (l : W.K.lookup f = some ⟨oc, od, .func (fo_law kV doc pm an cdv ct), osl⟩) (c : PySem.W.codeIn W.K cdv (PySem.Str.ofString "law") = true) (k : PySem.W.keepIn W.K (.ref f) = true) : DefOk W T 48 D_law (PySem.Str.ofString "law") (PySem.Str.ofString "law") S_law (fo_law kV doc pm an cdv ct) N_law P_law :=
  ⟨by rw [hf]; exact fun_mk l c k, ⟨by decide +kernel, by decide +kernel, by decide +kernel, by decide +kernel, by decide +kernel, by decide +kernel, by decide +kernel⟩, rfl, rfl, fun us hl => match us, hl with | [_], _ => rfl, ck_law, fun h => absurd h (by decide +kernel)⟩
end
theorem pls (k : Nat) (ok : pg.okc k = true) (e : pg.exc k = false) : k ∈ ([7, 8, 9, 10, 11] : List Nat) := by
  have ok' : okC k = true := ok
  have e' : decide (k ≤ 6) = false := e
  simp only [okC, Bool.or_eq_true, decide_eq_true_eq] at ok'
  simp only [List.mem_cons, List.not_mem_nil, or_false, decide_eq_true_eq, decide_eq_false_iff_not] at e' ⊢
  omega
theorem exs (k : Nat) (ok : pg.okc k = true) (e : pg.exc k = true) : k ∈ ([0, 1, 2, 3, 4, 5, 6] : List Nat) := by
  have ok' : okC k = true := ok
  have e' : decide (k ≤ 6) = true := e
  simp only [okC, Bool.or_eq_true, decide_eq_true_eq] at ok'
  simp only [List.mem_cons, List.not_mem_nil, or_false, decide_eq_true_eq, decide_eq_false_iff_not] at e' ⊢
  omega
theorem lf_body : ∀ k ps N ie D, (k, ps, N, ie) ∈ lts → (k, D) ∈ lfl → ∃ ie', D.body = .ret ie' ∧ ie' = ie := by
  intro k ps N ie D h1 h2
  unfold lts at h1
  unfold lfl at h2
  simp only [List.mem_cons, List.not_mem_nil, or_false, Prod.mk.injEq] at h1 h2
  rcases h1 with ⟨rfl, rfl, rfl, rfl⟩ | ⟨rfl, rfl, rfl, rfl⟩ | ⟨rfl, rfl, rfl, rfl⟩ | ⟨rfl, rfl, rfl, rfl⟩ | ⟨rfl, rfl, rfl, rfl⟩ | ⟨rfl, rfl, rfl, rfl⟩ | ⟨rfl, rfl, rfl, rfl⟩ | ⟨rfl, rfl, rfl, rfl⟩ | ⟨rfl, rfl, rfl, rfl⟩ | ⟨rfl, rfl, rfl, rfl⟩ | ⟨rfl, rfl, rfl, rfl⟩ | ⟨rfl, rfl, rfl, rfl⟩ <;> rcases h2 with ⟨h, rfl⟩ | ⟨h, rfl⟩ | ⟨h, rfl⟩ | ⟨h, rfl⟩ | ⟨h, rfl⟩ | ⟨h, rfl⟩ | ⟨h, rfl⟩ | ⟨h, rfl⟩ | ⟨h, rfl⟩ | ⟨h, rfl⟩ | ⟨h, rfl⟩ | ⟨h, rfl⟩ <;> first | exact ⟨_, rfl, rfl⟩ | (exact absurd h (by decide))
theorem lm_ok : ∀ k L D, lb k L = true → Q.lf k = some D → ∃ ps N ie, D.body = .ret ie ∧ ps.length = D.np ∧ N.length = D.ns ∧ lamC T ps N ie L = true := by
  intro k L D h hD
  unfold lb at h
  split at h
  · rename_i ps N ie e
    have m := mem_lookN e
    have key : (lts.all fun z => decide (z.2.1.length = z.2.2.1.length) && (match lfl.lookup z.1 with | some D => decide (D.np = z.2.1.length) && decide (D.ns = z.2.2.1.length) | none => false)) = true := by decide +kernel
    have := List.all_eq_true.mp key _ m
    have hD' : lfl.lookup k = some D := hD
    simp only [hD', Bool.and_eq_true, decide_eq_true_eq] at this
    have bd : ∃ ie', D.body = .ret ie' ∧ ie' = ie := lf_body k ps N ie D m (mem_lookN hD')
    obtain ⟨ie', b1, rfl⟩ := bd
    exact ⟨ps, N, ie', b1, this.2.1.symm, this.2.2.symm, h⟩
  · cases h
theorem wT_cs : ∀ p ∈ wT, ∃ c, (c, p.1) ∈ wcs := by
  intro p hp
  have h : (wT.all fun p => wcs.any fun z => decide (z.2 = p.1)) = true := by decide +kernel
  have := List.all_eq_true.mp h p hp
  obtain ⟨z, hz, e⟩ := List.any_eq_true.mp this
  have e := of_decide_eq_true e
  exact ⟨z.1, by rw [← e]; exact hz⟩
theorem all_mk {K : PySem.W.Frag} {h : Heap} {mg : Str → Option Value} {fa : Addr} (X : K.In h) (G : h.Ns mainGlobals mg) (hfa : mg (PySem.Str.ofString "law") = some (.ref fa))
    {f0 f1 f2 f3 f4 f5 f6 f7 f8 f9 f10 f11 f12 f13 f14 f15 f16 f17 f18 f19 f20 f21 f22 f23 f24 f25 f26 f27 f28 f29 f30 f31 f32 f33 f34 f35 f36 f37 f38 : Addr} {C0 C1 C2 C3 C4 C5 C6 C7 C8 C9 C10 C11 : Addr}
    {od0 an0 : Option Addr} {sl0 : Array (Option Value)} {oc0 kV0 dc0 pm0 cd0 ct0 : Value}
    {od1 an1 : Option Addr} {sl1 : Array (Option Value)} {oc1 kV1 dc1 pm1 cd1 ct1 : Value}
    {od2 an2 : Option Addr} {sl2 : Array (Option Value)} {oc2 kV2 dc2 pm2 cd2 ct2 : Value}
    {od3 an3 : Option Addr} {sl3 : Array (Option Value)} {oc3 kV3 dc3 pm3 cd3 ct3 : Value}
    {od4 an4 : Option Addr} {sl4 : Array (Option Value)} {oc4 kV4 dc4 pm4 cd4 ct4 : Value}
    {od5 an5 : Option Addr} {sl5 : Array (Option Value)} {oc5 kV5 dc5 pm5 cd5 ct5 : Value}
    {od6 an6 : Option Addr} {sl6 : Array (Option Value)} {oc6 kV6 dc6 pm6 cd6 ct6 : Value}
    {od7 an7 : Option Addr} {sl7 : Array (Option Value)} {oc7 kV7 dc7 pm7 cd7 ct7 : Value}
    {od8 an8 : Option Addr} {sl8 : Array (Option Value)} {oc8 kV8 dc8 pm8 cd8 ct8 : Value}
    {od9 an9 : Option Addr} {sl9 : Array (Option Value)} {oc9 kV9 dc9 pm9 cd9 ct9 : Value}
    {od10 an10 : Option Addr} {sl10 : Array (Option Value)} {oc10 kV10 dc10 pm10 cd10 ct10 : Value}
    {od11 an11 : Option Addr} {sl11 : Array (Option Value)} {oc11 kV11 dc11 pm11 cd11 ct11 : Value}
    {od12 an12 : Option Addr} {sl12 : Array (Option Value)} {oc12 kV12 dc12 pm12 cd12 ct12 : Value}
    {od13 an13 : Option Addr} {sl13 : Array (Option Value)} {oc13 kV13 dc13 pm13 cd13 ct13 : Value}
    {od14 an14 : Option Addr} {sl14 : Array (Option Value)} {oc14 kV14 dc14 pm14 cd14 ct14 : Value}
    {od15 an15 : Option Addr} {sl15 : Array (Option Value)} {oc15 kV15 dc15 pm15 cd15 ct15 : Value}
    {od16 an16 : Option Addr} {sl16 : Array (Option Value)} {oc16 kV16 dc16 pm16 cd16 ct16 : Value}
    {od17 an17 : Option Addr} {sl17 : Array (Option Value)} {oc17 kV17 dc17 pm17 cd17 ct17 : Value}
    {od18 an18 : Option Addr} {sl18 : Array (Option Value)} {oc18 kV18 dc18 pm18 cd18 ct18 : Value}
    {od19 an19 : Option Addr} {sl19 : Array (Option Value)} {oc19 kV19 dc19 pm19 cd19 ct19 : Value}
    {od20 an20 : Option Addr} {sl20 : Array (Option Value)} {oc20 kV20 dc20 pm20 cd20 ct20 : Value}
    {od21 an21 : Option Addr} {sl21 : Array (Option Value)} {oc21 kV21 dc21 pm21 cd21 ct21 : Value}
    {od22 an22 : Option Addr} {sl22 : Array (Option Value)} {oc22 kV22 dc22 pm22 cd22 ct22 : Value}
    {od23 an23 : Option Addr} {sl23 : Array (Option Value)} {oc23 kV23 dc23 pm23 cd23 ct23 : Value}
    {od24 an24 : Option Addr} {sl24 : Array (Option Value)} {oc24 kV24 dc24 pm24 cd24 ct24 : Value}
    {od25 an25 : Option Addr} {sl25 : Array (Option Value)} {oc25 kV25 dc25 pm25 cd25 ct25 : Value}
    {od26 an26 : Option Addr} {sl26 : Array (Option Value)} {oc26 kV26 dc26 pm26 cd26 ct26 : Value}
    {od27 an27 : Option Addr} {sl27 : Array (Option Value)} {oc27 kV27 dc27 pm27 cd27 ct27 : Value}
    {od28 an28 : Option Addr} {sl28 : Array (Option Value)} {oc28 kV28 dc28 pm28 cd28 ct28 : Value}
    {od29 an29 : Option Addr} {sl29 : Array (Option Value)} {oc29 kV29 dc29 pm29 cd29 ct29 : Value}
    {od30 an30 : Option Addr} {sl30 : Array (Option Value)} {oc30 kV30 dc30 pm30 cd30 ct30 : Value}
    {od31 an31 : Option Addr} {sl31 : Array (Option Value)} {oc31 kV31 dc31 pm31 cd31 ct31 : Value}
    {od32 an32 : Option Addr} {sl32 : Array (Option Value)} {oc32 kV32 dc32 pm32 cd32 ct32 : Value}
    {od33 an33 : Option Addr} {sl33 : Array (Option Value)} {oc33 kV33 dc33 pm33 ct33 : Value}
    {od34 an34 : Option Addr} {sl34 : Array (Option Value)} {oc34 kV34 dc34 pm34 cd34 ct34 : Value}
    {od35 an35 : Option Addr} {sl35 : Array (Option Value)} {oc35 kV35 dc35 pm35 ct35 : Value}
    {od36 an36 : Option Addr} {sl36 : Array (Option Value)} {oc36 kV36 dc36 pm36 cd36 ct36 : Value}
    {od37 an37 : Option Addr} {sl37 : Array (Option Value)} {oc37 kV37 dc37 pm37 ct37 : Value}
    {od38 an38 : Option Addr} {sl38 : Array (Option Value)} {oc38 kV38 dc38 pm38 cd38 ct38 : Value}
    {tm : Tok} (aM : PySem.W.nsIn K mainGlobals (PySem.Str.ofString "MOST") = some (some (.int 40 tm)))
    (aC0 : PySem.W.nsIn K mainGlobals (PySem.Str.ofString "TipError") = some (some (.ref C0)))
    (aC1 : PySem.W.nsIn K mainGlobals (PySem.Str.ofString "BadPlaces") = some (some (.ref C1)))
    (aC2 : PySem.W.nsIn K mainGlobals (PySem.Str.ofString "BadTies") = some (some (.ref C2)))
    (aC3 : PySem.W.nsIn K mainGlobals (PySem.Str.ofString "BadRow") = some (some (.ref C3)))
    (aC4 : PySem.W.nsIn K mainGlobals (PySem.Str.ofString "BadCounts") = some (some (.ref C4)))
    (aC5 : PySem.W.nsIn K mainGlobals (PySem.Str.ofString "BadNumber") = some (some (.ref C5)))
    (aC6 : PySem.W.nsIn K mainGlobals (PySem.Str.ofString "NoTip") = some (some (.ref C6)))
    (aC7 : PySem.W.nsIn K mainGlobals (PySem.Str.ofString "Answer") = some (some (.ref C7)))
    (aC8 : PySem.W.nsIn K mainGlobals (PySem.Str.ofString "Weighed") = some (some (.ref C8)))
    (aC9 : PySem.W.nsIn K mainGlobals (PySem.Str.ofString "Barred") = some (some (.ref C9)))
    (aC10 : PySem.W.nsIn K mainGlobals (PySem.Str.ofString "Crowd") = some (some (.ref C10)))
    (aC11 : PySem.W.nsIn K mainGlobals (PySem.Str.ofString "Lonely") = some (some (.ref C11)))
    (a0 : PySem.W.nsIn K mainGlobals (PySem.Str.ofString "is_number") = some (some (.ref f0)))
    (l0 : K.lookup f0 = some ⟨oc0, od0, .func (fo_is_number kV0 dc0 pm0 an0 cd0 ct0), sl0⟩) (c0 : PySem.W.codeIn K cd0 (PySem.Str.ofString "is_number") = true) (k0 : PySem.W.keepIn K (.ref f0) = true)
    (a1 : PySem.W.nsIn K mainGlobals (PySem.Str.ofString "is_tie") = some (some (.ref f1)))
    (l1 : K.lookup f1 = some ⟨oc1, od1, .func (fo_is_tie kV1 dc1 pm1 an1 cd1 ct1), sl1⟩) (c1 : PySem.W.codeIn K cd1 (PySem.Str.ofString "is_tie") = true) (k1 : PySem.W.keepIn K (.ref f1) = true)
    (a2 : PySem.W.nsIn K mainGlobals (PySem.Str.ofString "check_places") = some (some (.ref f2)))
    (l2 : K.lookup f2 = some ⟨oc2, od2, .func (fo_check_places kV2 dc2 pm2 an2 cd2 ct2), sl2⟩) (c2 : PySem.W.codeIn K cd2 (PySem.Str.ofString "check_places") = true) (k2 : PySem.W.keepIn K (.ref f2) = true)
    (a3 : PySem.W.nsIn K mainGlobals (PySem.Str.ofString "check_web") = some (some (.ref f3)))
    (l3 : K.lookup f3 = some ⟨oc3, od3, .func (fo_check_web kV3 dc3 pm3 an3 cd3 ct3), sl3⟩) (c3 : PySem.W.codeIn K cd3 (PySem.Str.ofString "check_web") = true) (k3 : PySem.W.keepIn K (.ref f3) = true)
    (a4 : PySem.W.nsIn K mainGlobals (PySem.Str.ofString "beside") = some (some (.ref f4)))
    (l4 : K.lookup f4 = some ⟨oc4, od4, .func (fo_beside kV4 dc4 pm4 an4 cd4 ct4), sl4⟩) (c4 : PySem.W.codeIn K cd4 (PySem.Str.ofString "beside") = true) (k4 : PySem.W.keepIn K (.ref f4) = true)
    (a5 : PySem.W.nsIn K mainGlobals (PySem.Str.ofString "row_by") = some (some (.ref f5)))
    (l5 : K.lookup f5 = some ⟨oc5, od5, .func (fo_row_by kV5 dc5 pm5 an5 cd5 ct5), sl5⟩) (c5 : PySem.W.codeIn K cd5 (PySem.Str.ofString "row_by") = true) (k5 : PySem.W.keepIn K (.ref f5) = true)
    (a6 : PySem.W.nsIn K mainGlobals (PySem.Str.ofString "row_in") = some (some (.ref f6)))
    (l6 : K.lookup f6 = some ⟨oc6, od6, .func (fo_row_in kV6 dc6 pm6 an6 cd6 ct6), sl6⟩) (c6 : PySem.W.codeIn K cd6 (PySem.Str.ofString "row_in") = true) (k6 : PySem.W.keepIn K (.ref f6) = true)
    (a7 : PySem.W.nsIn K mainGlobals (PySem.Str.ofString "ties_of") = some (some (.ref f7)))
    (l7 : K.lookup f7 = some ⟨oc7, od7, .func (fo_ties_of kV7 dc7 pm7 an7 cd7 ct7), sl7⟩) (c7 : PySem.W.codeIn K cd7 (PySem.Str.ofString "ties_of") = true) (k7 : PySem.W.keepIn K (.ref f7) = true)
    (a8 : PySem.W.nsIn K mainGlobals (PySem.Str.ofString "is_part") = some (some (.ref f8)))
    (l8 : K.lookup f8 = some ⟨oc8, od8, .func (fo_is_part kV8 dc8 pm8 an8 cd8 ct8), sl8⟩) (c8 : PySem.W.codeIn K cd8 (PySem.Str.ofString "is_part") = true) (k8 : PySem.W.keepIn K (.ref f8) = true)
    (a9 : PySem.W.nsIn K mainGlobals (PySem.Str.ofString "row_of") = some (some (.ref f9)))
    (l9 : K.lookup f9 = some ⟨oc9, od9, .func (fo_row_of kV9 dc9 pm9 an9 cd9 ct9), sl9⟩) (c9 : PySem.W.codeIn K cd9 (PySem.Str.ofString "row_of") = true) (k9 : PySem.W.keepIn K (.ref f9) = true)
    (a10 : PySem.W.nsIn K mainGlobals (PySem.Str.ofString "by_row") = some (some (.ref f10)))
    (l10 : K.lookup f10 = some ⟨oc10, od10, .func (fo_by_row kV10 dc10 pm10 an10 cd10 ct10), sl10⟩) (c10 : PySem.W.codeIn K cd10 (PySem.Str.ofString "by_row") = true) (k10 : PySem.W.keepIn K (.ref f10) = true)
    (a11 : PySem.W.nsIn K mainGlobals (PySem.Str.ofString "by_counts") = some (some (.ref f11)))
    (l11 : K.lookup f11 = some ⟨oc11, od11, .func (fo_by_counts kV11 dc11 pm11 an11 cd11 ct11), sl11⟩) (c11 : PySem.W.codeIn K cd11 (PySem.Str.ofString "by_counts") = true) (k11 : PySem.W.keepIn K (.ref f11) = true)
    (a12 : PySem.W.findIn K (.ref C8) (PySem.Str.ofString "__init__") = some (some (.ref f12))) (n12 : PySem.W.isFn K (.ref f12) = true)
    (l12 : K.lookup f12 = some ⟨oc12, od12, .func (fo_Weighed___init__ kV12 dc12 pm12 an12 cd12 ct12), sl12⟩) (c12 : PySem.W.codeIn K cd12 (PySem.Str.ofString "Weighed.__init__") = true) (k12 : PySem.W.keepIn K (.ref f12) = true)
    (a13 : PySem.W.findIn K (.ref C8) (PySem.Str.ofString "shows") = some (some (.ref f13))) (n13 : PySem.W.isFn K (.ref f13) = true)
    (l13 : K.lookup f13 = some ⟨oc13, od13, .func (fo_Weighed_shows kV13 dc13 pm13 an13 cd13 ct13), sl13⟩) (c13 : PySem.W.codeIn K cd13 (PySem.Str.ofString "Weighed.shows") = true) (k13 : PySem.W.keepIn K (.ref f13) = true)
    (a14 : PySem.W.findIn K (.ref C9) (PySem.Str.ofString "__init__") = some (some (.ref f14))) (n14 : PySem.W.isFn K (.ref f14) = true)
    (l14 : K.lookup f14 = some ⟨oc14, od14, .func (fo_Barred___init__ kV14 dc14 pm14 an14 cd14 ct14), sl14⟩) (c14 : PySem.W.codeIn K cd14 (PySem.Str.ofString "Barred.__init__") = true) (k14 : PySem.W.keepIn K (.ref f14) = true)
    (a15 : PySem.W.findIn K (.ref C9) (PySem.Str.ofString "shows") = some (some (.ref f15))) (n15 : PySem.W.isFn K (.ref f15) = true)
    (l15 : K.lookup f15 = some ⟨oc15, od15, .func (fo_Barred_shows kV15 dc15 pm15 an15 cd15 ct15), sl15⟩) (c15 : PySem.W.codeIn K cd15 (PySem.Str.ofString "Barred.shows") = true) (k15 : PySem.W.keepIn K (.ref f15) = true)
    (a16 : PySem.W.nsIn K mainGlobals (PySem.Str.ofString "are_all") = some (some (.ref f16)))
    (l16 : K.lookup f16 = some ⟨oc16, od16, .func (fo_are_all kV16 dc16 pm16 an16 cd16 ct16), sl16⟩) (c16 : PySem.W.codeIn K cd16 (PySem.Str.ofString "are_all") = true) (k16 : PySem.W.keepIn K (.ref f16) = true)
    (a17 : PySem.W.nsIn K mainGlobals (PySem.Str.ofString "are_parted") = some (some (.ref f17)))
    (l17 : K.lookup f17 = some ⟨oc17, od17, .func (fo_are_parted kV17 dc17 pm17 an17 cd17 ct17), sl17⟩) (c17 : PySem.W.codeIn K cd17 (PySem.Str.ofString "are_parted") = true) (k17 : PySem.W.keepIn K (.ref f17) = true)
    (a18 : PySem.W.findIn K (.ref C10) (PySem.Str.ofString "__init__") = some (some (.ref f18))) (n18 : PySem.W.isFn K (.ref f18) = true)
    (l18 : K.lookup f18 = some ⟨oc18, od18, .func (fo_Crowd___init__ kV18 dc18 pm18 an18 cd18 ct18), sl18⟩) (c18 : PySem.W.codeIn K cd18 (PySem.Str.ofString "Crowd.__init__") = true) (k18 : PySem.W.keepIn K (.ref f18) = true)
    (a19 : PySem.W.findIn K (.ref C10) (PySem.Str.ofString "shows") = some (some (.ref f19))) (n19 : PySem.W.isFn K (.ref f19) = true)
    (l19 : K.lookup f19 = some ⟨oc19, od19, .func (fo_Crowd_shows kV19 dc19 pm19 an19 cd19 ct19), sl19⟩) (c19 : PySem.W.codeIn K cd19 (PySem.Str.ofString "Crowd.shows") = true) (k19 : PySem.W.keepIn K (.ref f19) = true)
    (a20 : PySem.W.findIn K (.ref C11) (PySem.Str.ofString "__init__") = some (some (.ref f20))) (n20 : PySem.W.isFn K (.ref f20) = true)
    (l20 : K.lookup f20 = some ⟨oc20, od20, .func (fo_Lonely___init__ kV20 dc20 pm20 an20 cd20 ct20), sl20⟩) (c20 : PySem.W.codeIn K cd20 (PySem.Str.ofString "Lonely.__init__") = true) (k20 : PySem.W.keepIn K (.ref f20) = true)
    (a21 : PySem.W.findIn K (.ref C11) (PySem.Str.ofString "shows") = some (some (.ref f21))) (n21 : PySem.W.isFn K (.ref f21) = true)
    (l21 : K.lookup f21 = some ⟨oc21, od21, .func (fo_Lonely_shows kV21 dc21 pm21 an21 cd21 ct21), sl21⟩) (c21 : PySem.W.codeIn K cd21 (PySem.Str.ofString "Lonely.shows") = true) (k21 : PySem.W.keepIn K (.ref f21) = true)
    (a22 : PySem.W.nsIn K mainGlobals (PySem.Str.ofString "halves") = some (some (.ref f22)))
    (l22 : K.lookup f22 = some ⟨oc22, od22, .func (fo_halves kV22 dc22 pm22 an22 cd22 ct22), sl22⟩) (c22 : PySem.W.codeIn K cd22 (PySem.Str.ofString "halves") = true) (k22 : PySem.W.keepIn K (.ref f22) = true)
    (a23 : PySem.W.nsIn K mainGlobals (PySem.Str.ofString "crowd") = some (some (.ref f23)))
    (l23 : K.lookup f23 = some ⟨oc23, od23, .func (fo_crowd kV23 dc23 pm23 an23 cd23 ct23), sl23⟩) (c23 : PySem.W.codeIn K cd23 (PySem.Str.ofString "crowd") = true) (k23 : PySem.W.keepIn K (.ref f23) = true)
    (a24 : PySem.W.nsIn K mainGlobals (PySem.Str.ofString "lonely") = some (some (.ref f24)))
    (l24 : K.lookup f24 = some ⟨oc24, od24, .func (fo_lonely kV24 dc24 pm24 an24 cd24 ct24), sl24⟩) (c24 : PySem.W.codeIn K cd24 (PySem.Str.ofString "lonely") = true) (k24 : PySem.W.keepIn K (.ref f24) = true)
    (a25 : PySem.W.nsIn K mainGlobals (PySem.Str.ofString "kind_by") = some (some (.ref f25)))
    (l25 : K.lookup f25 = some ⟨oc25, od25, .func (fo_kind_by kV25 dc25 pm25 an25 cd25 ct25), sl25⟩) (c25 : PySem.W.codeIn K cd25 (PySem.Str.ofString "kind_by") = true) (k25 : PySem.W.keepIn K (.ref f25) = true)
    (a26 : PySem.W.nsIn K mainGlobals (PySem.Str.ofString "number_of") = some (some (.ref f26)))
    (l26 : K.lookup f26 = some ⟨oc26, od26, .func (fo_number_of kV26 dc26 pm26 an26 cd26 ct26), sl26⟩) (c26 : PySem.W.codeIn K cd26 (PySem.Str.ofString "number_of") = true) (k26 : PySem.W.keepIn K (.ref f26) = true)
    (a27 : PySem.W.nsIn K mainGlobals (PySem.Str.ofString "weights_of") = some (some (.ref f27)))
    (l27 : K.lookup f27 = some ⟨oc27, od27, .func (fo_weights_of kV27 dc27 pm27 an27 cd27 ct27), sl27⟩) (c27 : PySem.W.codeIn K cd27 (PySem.Str.ofString "weights_of") = true) (k27 : PySem.W.keepIn K (.ref f27) = true)
    (a28 : PySem.W.nsIn K mainGlobals (PySem.Str.ofString "four_in") = some (some (.ref f28)))
    (l28 : K.lookup f28 = some ⟨oc28, od28, .func (fo_four_in kV28 dc28 pm28 an28 cd28 ct28), sl28⟩) (c28 : PySem.W.codeIn K cd28 (PySem.Str.ofString "four_in") = true) (k28 : PySem.W.keepIn K (.ref f28) = true)
    (a29 : PySem.W.nsIn K mainGlobals (PySem.Str.ofString "told") = some (some (.ref f29)))
    (l29 : K.lookup f29 = some ⟨oc29, od29, .func (fo_told kV29 dc29 pm29 an29 cd29 ct29), sl29⟩) (c29 : PySem.W.codeIn K cd29 (PySem.Str.ofString "told") = true) (k29 : PySem.W.keepIn K (.ref f29) = true)
    (a30 : PySem.W.nsIn K mainGlobals (PySem.Str.ofString "_law_word") = some (some (.ref f30)))
    (l30 : K.lookup f30 = some ⟨oc30, od30, .func (fo__law_word kV30 dc30 pm30 an30 cd30 ct30), sl30⟩) (c30 : PySem.W.codeIn K cd30 (PySem.Str.ofString "_law_word") = true) (k30 : PySem.W.keepIn K (.ref f30) = true)
    (a31 : PySem.W.nsIn K mainGlobals (PySem.Str.ofString "_law_star") = some (some (.ref f31)))
    (l31 : K.lookup f31 = some ⟨oc31, od31, .func (fo__law_star kV31 dc31 pm31 an31 cd31 ct31), sl31⟩) (c31 : PySem.W.codeIn K cd31 (PySem.Str.ofString "_law_star") = true) (k31 : PySem.W.keepIn K (.ref f31) = true)
    (a32 : PySem.W.nsIn K mainGlobals (PySem.Str.ofString "_law_told_right") = some (some (.ref f32)))
    (l32 : K.lookup f32 = some ⟨oc32, od32, .func (fo__law_told_right kV32 dc32 pm32 an32 cd32 ct32), sl32⟩) (c32 : PySem.W.codeIn K cd32 (PySem.Str.ofString "_law_told_right") = true) (k32 : PySem.W.keepIn K (.ref f32) = true)
    (a33 : PySem.W.nsIn K mainGlobals (PySem.Str.ofString "_law_sorts_right") = some (some (.ref f33)))
    (l33 : K.lookup f33 = some ⟨oc33, od33, .func (fo__law_sorts_right kV33 dc33 pm33 an33 (.ref 354) ct33), sl33⟩) (c33 : PySem.W.codeIn K (.ref 354) (PySem.Str.ofString "_law_sorts_right") = true) (k33 : PySem.W.keepIn K (.ref f33) = true)
    (a34 : PySem.W.nsIn K mainGlobals (PySem.Str.ofString "_law_rows_right") = some (some (.ref f34)))
    (l34 : K.lookup f34 = some ⟨oc34, od34, .func (fo__law_rows_right kV34 dc34 pm34 an34 cd34 ct34), sl34⟩) (c34 : PySem.W.codeIn K cd34 (PySem.Str.ofString "_law_rows_right") = true) (k34 : PySem.W.keepIn K (.ref f34) = true)
    (a35 : PySem.W.nsIn K mainGlobals (PySem.Str.ofString "_law_kinds_right") = some (some (.ref f35)))
    (l35 : K.lookup f35 = some ⟨oc35, od35, .func (fo__law_kinds_right kV35 dc35 pm35 an35 (.ref 364) ct35), sl35⟩) (c35 : PySem.W.codeIn K (.ref 364) (PySem.Str.ofString "_law_kinds_right") = true) (k35 : PySem.W.keepIn K (.ref f35) = true)
    (a36 : PySem.W.nsIn K mainGlobals (PySem.Str.ofString "_law_crowds_right") = some (some (.ref f36)))
    (l36 : K.lookup f36 = some ⟨oc36, od36, .func (fo__law_crowds_right kV36 dc36 pm36 an36 cd36 ct36), sl36⟩) (c36 : PySem.W.codeIn K cd36 (PySem.Str.ofString "_law_crowds_right") = true) (k36 : PySem.W.keepIn K (.ref f36) = true)
    (a37 : PySem.W.nsIn K mainGlobals (PySem.Str.ofString "_law_greatest_right") = some (some (.ref f37)))
    (l37 : K.lookup f37 = some ⟨oc37, od37, .func (fo__law_greatest_right kV37 dc37 pm37 an37 (.ref 374) ct37), sl37⟩) (c37 : PySem.W.codeIn K (.ref 374) (PySem.Str.ofString "_law_greatest_right") = true) (k37 : PySem.W.keepIn K (.ref f37) = true)
    (a38 : PySem.W.nsIn K mainGlobals (PySem.Str.ofString "law") = some (some (.ref f38)))
    (l38 : K.lookup f38 = some ⟨oc38, od38, .func (fo_law kV38 dc38 pm38 an38 cd38 ct38), sl38⟩) (c38 : PySem.W.codeIn K cd38 (PySem.Str.ofString "law") = true) (k38 : PySem.W.keepIn K (.ref f38) = true)
    (m8 : PySem.W.makesIn K C8 = true) (q8 : PySem.W.keepIn K (.ref C8) = true)
    (m9 : PySem.W.makesIn K C9 = true) (q9 : PySem.W.keepIn K (.ref C9) = true)
    (m10 : PySem.W.makesIn K C10 = true) (q10 : PySem.W.keepIn K (.ref C10) = true)
    (m11 : PySem.W.makesIn K C11 = true) (q11 : PySem.W.keepIn K (.ref C11) = true)
    (z0 : PySem.W.nsIn K mainGlobals (PySem.Str.ofString "abs") = some none)
    (z1 : PySem.W.nsIn K mainGlobals (PySem.Str.ofString "all") = some none)
    (z2 : PySem.W.nsIn K mainGlobals (PySem.Str.ofString "any") = some none)
    (z3 : PySem.W.nsIn K mainGlobals (PySem.Str.ofString "bool") = some none)
    (z4 : PySem.W.nsIn K mainGlobals (PySem.Str.ofString "enumerate") = some none)
    (z5 : PySem.W.nsIn K mainGlobals (PySem.Str.ofString "int") = some none)
    (z6 : PySem.W.nsIn K mainGlobals (PySem.Str.ofString "isinstance") = some none)
    (z7 : PySem.W.nsIn K mainGlobals (PySem.Str.ofString "len") = some none)
    (z8 : PySem.W.nsIn K mainGlobals (PySem.Str.ofString "list") = some none)
    (z9 : PySem.W.nsIn K mainGlobals (PySem.Str.ofString "max") = some none)
    (z10 : PySem.W.nsIn K mainGlobals (PySem.Str.ofString "min") = some none)
    (z11 : PySem.W.nsIn K mainGlobals (PySem.Str.ofString "range") = some none)
    (z12 : PySem.W.nsIn K mainGlobals (PySem.Str.ofString "set") = some none)
    (z13 : PySem.W.nsIn K mainGlobals (PySem.Str.ofString "sorted") = some none)
    (z14 : PySem.W.nsIn K mainGlobals (PySem.Str.ofString "sum") = some none)
    (z15 : PySem.W.nsIn K mainGlobals (PySem.Str.ofString "tuple") = some none)
    (tk : (wcs.all fun p => decide (p.2 ∈ ([372, 362, 352] : List Addr)) && (K.lookup p.2).isNone && PySem.W.codeHdIn K p.1 p.2) = true) (na : NoAt K (adr [(0, C0), (1, C1), (2, C2), (3, C3), (4, C4), (5, C5), (6, C6), (7, C7), (8, C8), (9, C9), (10, C10), (11, C11)]) [7, 8, 9, 10, 11]) (kf : KFeq K (adr [(0, C0), (1, C1), (2, C2), (3, C3), (4, C4), (5, C5), (6, C6), (7, C7), (8, C8), (9, C9), (10, C10), (11, C11)]) pg [0, 1, 2, 3, 4, 5, 6] [7, 8, 9, 10, 11]) :
    HeadOk T Q 48 (PySem.Str.ofString "_law_script") K mg fa [372, 362, 352] := by
  have e := hfa.symm.trans (PySem.W.mg_of X G a38)
  have e' : fa = f38 := by cases e; rfl
  rw [e']
  let W : Wd := ⟨K, adr [(0, f0), (1, f1), (2, f2), (3, f3), (4, f4), (5, f5), (6, f6), (7, f7), (8, f8), (9, f9), (10, f10), (11, f11), (12, f12), (13, f13), (14, f14), (15, f15), (16, f16), (17, f17), (18, f18), (19, f19), (20, f20), (21, f21), (22, f22), (23, f23), (24, f24), (25, f25), (26, f26), (27, f27), (28, f28), (29, f29), (40, f30), (41, f31), (42, f32), (43, f33), (44, f34), (45, f35), (46, f36), (47, f37), (48, f38)], adr [(0, C0), (1, C1), (2, C2), (3, C3), (4, C4), (5, C5), (6, C6), (7, C7), (8, C8), (9, C9), (10, C10), (11, C11)], fun k L => lb k L = true, wT, wcs⟩
  have d0 := ok_is_number (W := W) (f := f0) rfl l0 c0 k0
  have d1 := ok_is_tie (W := W) (f := f1) rfl l1 c1 k1
  have d2 := ok_check_places (W := W) (f := f2) rfl l2 c2 k2
  have d3 := ok_check_web (W := W) (f := f3) rfl l3 c3 k3
  have d4 := ok_beside (W := W) (f := f4) rfl l4 c4 k4
  have d5 := ok_row_by (W := W) (f := f5) rfl l5 c5 k5
  have d6 := ok_row_in (W := W) (f := f6) rfl l6 c6 k6
  have d7 := ok_ties_of (W := W) (f := f7) rfl l7 c7 k7
  have d8 := ok_is_part (W := W) (f := f8) rfl l8 c8 k8
  have d9 := ok_row_of (W := W) (f := f9) rfl l9 c9 k9
  have d10 := ok_by_row (W := W) (f := f10) rfl l10 c10 k10
  have d11 := ok_by_counts (W := W) (f := f11) rfl l11 c11 k11
  have d12 := ok_Weighed___init__ (W := W) (f := f12) rfl l12 c12 k12
  have d13 := ok_Weighed_shows (W := W) (f := f13) rfl l13 c13 k13
  have d14 := ok_Barred___init__ (W := W) (f := f14) rfl l14 c14 k14
  have d15 := ok_Barred_shows (W := W) (f := f15) rfl l15 c15 k15
  have d16 := ok_are_all (W := W) (f := f16) rfl l16 c16 k16
  have d17 := ok_are_parted (W := W) (f := f17) rfl l17 c17 k17
  have d18 := ok_Crowd___init__ (W := W) (f := f18) rfl l18 c18 k18
  have d19 := ok_Crowd_shows (W := W) (f := f19) rfl l19 c19 k19
  have d20 := ok_Lonely___init__ (W := W) (f := f20) rfl l20 c20 k20
  have d21 := ok_Lonely_shows (W := W) (f := f21) rfl l21 c21 k21
  have d22 := ok_halves (W := W) (f := f22) rfl l22 c22 k22
  have d23 := ok_crowd (W := W) (f := f23) rfl l23 c23 k23
  have d24 := ok_lonely (W := W) (f := f24) rfl l24 c24 k24
  have d25 := ok_kind_by (W := W) (f := f25) rfl l25 c25 k25
  have d26 := ok_number_of (W := W) (f := f26) rfl l26 c26 k26
  have d27 := ok_weights_of (W := W) (f := f27) rfl l27 c27 k27
  have d28 := ok_four_in (W := W) (f := f28) rfl l28 c28 k28
  have d29 := ok_told (W := W) (f := f29) rfl l29 c29 k29
  have d30 := ok__law_word (W := W) (f := f30) rfl l30 c30 k30
  have d31 := ok__law_star (W := W) (f := f31) rfl l31 c31 k31
  have d32 := ok__law_told_right (W := W) (f := f32) rfl l32 c32 k32
  have d33 := ok__law_sorts_right (W := W) (f := f33) rfl l33 c33 k33 rfl rfl
  have d34 := ok__law_rows_right (W := W) (f := f34) rfl l34 c34 k34
  have d35 := ok__law_kinds_right (W := W) (f := f35) rfl l35 c35 k35 rfl rfl
  have d36 := ok__law_crowds_right (W := W) (f := f36) rfl l36 c36 k36
  have d37 := ok__law_greatest_right (W := W) (f := f37) rfl l37 c37 k37 rfl rfl
  have d38 := ok_law (W := W) (f := f38) rfl l38 c38 k38
  have gg : AllQ (fun p : Str × GK => ∃ u, mg p.1 = some u ∧ gval W p.2 u) gtab :=
    ⟨⟨_, PySem.W.mg_of X G a0, rfl⟩,
     ⟨_, PySem.W.mg_of X G a1, rfl⟩,
     ⟨_, PySem.W.mg_of X G a2, rfl⟩,
     ⟨_, PySem.W.mg_of X G a3, rfl⟩,
     ⟨_, PySem.W.mg_of X G a4, rfl⟩,
     ⟨_, PySem.W.mg_of X G a5, rfl⟩,
     ⟨_, PySem.W.mg_of X G a6, rfl⟩,
     ⟨_, PySem.W.mg_of X G a7, rfl⟩,
     ⟨_, PySem.W.mg_of X G a8, rfl⟩,
     ⟨_, PySem.W.mg_of X G a9, rfl⟩,
     ⟨_, PySem.W.mg_of X G a10, rfl⟩,
     ⟨_, PySem.W.mg_of X G a11, rfl⟩,
     ⟨_, PySem.W.mg_of X G a16, rfl⟩,
     ⟨_, PySem.W.mg_of X G a17, rfl⟩,
     ⟨_, PySem.W.mg_of X G a22, rfl⟩,
     ⟨_, PySem.W.mg_of X G a23, rfl⟩,
     ⟨_, PySem.W.mg_of X G a24, rfl⟩,
     ⟨_, PySem.W.mg_of X G a25, rfl⟩,
     ⟨_, PySem.W.mg_of X G a26, rfl⟩,
     ⟨_, PySem.W.mg_of X G a27, rfl⟩,
     ⟨_, PySem.W.mg_of X G a28, rfl⟩,
     ⟨_, PySem.W.mg_of X G a29, rfl⟩,
     ⟨_, PySem.W.mg_of X G a30, rfl⟩,
     ⟨_, PySem.W.mg_of X G a31, rfl⟩,
     ⟨_, PySem.W.mg_of X G a32, rfl⟩,
     ⟨_, PySem.W.mg_of X G a33, rfl⟩,
     ⟨_, PySem.W.mg_of X G a34, rfl⟩,
     ⟨_, PySem.W.mg_of X G a35, rfl⟩,
     ⟨_, PySem.W.mg_of X G a36, rfl⟩,
     ⟨_, PySem.W.mg_of X G a37, rfl⟩,
     ⟨_, PySem.W.mg_of X G a38, rfl⟩,
     ⟨_, PySem.W.mg_of X G aC0, rfl⟩,
     ⟨_, PySem.W.mg_of X G aC1, rfl⟩,
     ⟨_, PySem.W.mg_of X G aC2, rfl⟩,
     ⟨_, PySem.W.mg_of X G aC3, rfl⟩,
     ⟨_, PySem.W.mg_of X G aC4, rfl⟩,
     ⟨_, PySem.W.mg_of X G aC5, rfl⟩,
     ⟨_, PySem.W.mg_of X G aC6, rfl⟩,
     ⟨_, PySem.W.mg_of X G aC7, rfl⟩,
     ⟨_, PySem.W.mg_of X G aC8, rfl⟩,
     ⟨_, PySem.W.mg_of X G aC9, rfl⟩,
     ⟨_, PySem.W.mg_of X G aC10, rfl⟩,
     ⟨_, PySem.W.mg_of X G aC11, rfl⟩,
     ⟨_, PySem.W.mg_of X G aM, ⟨_, rfl⟩⟩, trivial⟩
  have bb : AllQ (fun x : Str => mg x = none) btab := ⟨PySem.W.mg_none_of X G z0, PySem.W.mg_none_of X G z1, PySem.W.mg_none_of X G z2, PySem.W.mg_none_of X G z3, PySem.W.mg_none_of X G z4, PySem.W.mg_none_of X G z5, PySem.W.mg_none_of X G z6, PySem.W.mg_none_of X G z7, PySem.W.mg_none_of X G z8, PySem.W.mg_none_of X G z9, PySem.W.mg_none_of X G z10, PySem.W.mg_none_of X G z11, PySem.W.mg_none_of X G z12, PySem.W.mg_none_of X G z13, PySem.W.mg_none_of X G z14, PySem.W.mg_none_of X G z15, trivial⟩
  have dd : AllQ (fun p : Nat × Df => ∃ x qual st fd N ps, DefOk W T p.1 p.2 x qual st fd N ps) dfl := ⟨⟨_, _, _, _, _, _, d0⟩, ⟨_, _, _, _, _, _, d1⟩, ⟨_, _, _, _, _, _, d2⟩, ⟨_, _, _, _, _, _, d3⟩, ⟨_, _, _, _, _, _, d4⟩, ⟨_, _, _, _, _, _, d5⟩, ⟨_, _, _, _, _, _, d6⟩, ⟨_, _, _, _, _, _, d7⟩, ⟨_, _, _, _, _, _, d8⟩, ⟨_, _, _, _, _, _, d9⟩, ⟨_, _, _, _, _, _, d10⟩, ⟨_, _, _, _, _, _, d11⟩, ⟨_, _, _, _, _, _, d12⟩, ⟨_, _, _, _, _, _, d13⟩, ⟨_, _, _, _, _, _, d14⟩, ⟨_, _, _, _, _, _, d15⟩, ⟨_, _, _, _, _, _, d16⟩, ⟨_, _, _, _, _, _, d17⟩, ⟨_, _, _, _, _, _, d18⟩, ⟨_, _, _, _, _, _, d19⟩, ⟨_, _, _, _, _, _, d20⟩, ⟨_, _, _, _, _, _, d21⟩, ⟨_, _, _, _, _, _, d22⟩, ⟨_, _, _, _, _, _, d23⟩, ⟨_, _, _, _, _, _, d24⟩, ⟨_, _, _, _, _, _, d25⟩, ⟨_, _, _, _, _, _, d26⟩, ⟨_, _, _, _, _, _, d27⟩, ⟨_, _, _, _, _, _, d28⟩, ⟨_, _, _, _, _, _, d29⟩, ⟨_, _, _, _, _, _, d30⟩, ⟨_, _, _, _, _, _, d31⟩, ⟨_, _, _, _, _, _, d32⟩, ⟨_, _, _, _, _, _, d33⟩, ⟨_, _, _, _, _, _, d34⟩, ⟨_, _, _, _, _, _, d35⟩, ⟨_, _, _, _, _, _, d36⟩, ⟨_, _, _, _, _, _, d37⟩, ⟨_, _, _, _, _, _, d38⟩, trivial⟩
  have mm : AllQ (fun p : Nat × Nat => ((Q.df p.2).isSome = true) ∧ pg.okc p.1 = true ∧ pg.exc p.1 = false ∧ Meth W.K (W.cl p.1) "shows" (W.fn p.2)) mtsT := ⟨⟨rfl, rfl, rfl, ⟨a13, n13, k13⟩⟩, ⟨rfl, rfl, rfl, ⟨a15, n15, k15⟩⟩, ⟨rfl, rfl, rfl, ⟨a19, n19, k19⟩⟩, ⟨rfl, rfl, rfl, ⟨a21, n21, k21⟩⟩, trivial⟩
  have ii : AllQ (fun p : Nat × Nat => ((Q.df p.2).isSome = true) ∧ Mk W.K (W.cl p.1) (W.fn p.2)) itsT := ⟨⟨rfl, ⟨m8, a12, n12, q8⟩⟩, ⟨rfl, ⟨m9, a14, n14, q9⟩⟩, ⟨rfl, ⟨m10, a18, n18, q10⟩⟩, ⟨rfl, ⟨m11, a20, n20, q11⟩⟩, trivial⟩
  refine ⟨W, rfl, ⟨fun f D hD => dd.all (f, D) (mem_lookN (show dfl.lookup f = some D from hD)), fun x k hk => gg.all (x, k) (PySem.mem_of_lookup (show gtab.lookup x = some k from hk)), fun x hx => bb.all x (List.contains_iff_mem.mp (show btab.contains x = true from hx)), KFeq.kf kf (fun k ok e => ?_) fun k ok e => ?_, OF.tabs na (fun k ok e => ?_) mm ii, rfl, lm_ok, fun k L h => h⟩, rfl, ⟨_, _, _, _, _, rfl, d38⟩, fun p hp => ?_, fun p hp => ?_⟩
  · exact exs k ok e
  · exact pls k ok e
  · exact pls k ok e
  · have := List.all_eq_true.mp tk p hp
    simp only [Bool.and_eq_true, decide_eq_true_eq, Option.isNone_iff_eq_none] at this
    exact ⟨this.1.1, this.1.2, this.2⟩
  · exact wT_cs p hp
end TWL
/-! TWma -/
set_option linter.all false
namespace TWm
/-! ### lists -/
def pos (v : Int) : List Int → Option Nat
  | [] => none
  | x :: r => if x = v then some 0 else (pos v r).map (· + 1)
theorem pos_some {v : Int} : ∀ {l : List Int} {i : Nat}, pos v l = some i → l[i]? = some v
  | x :: r, i, h => by
    unfold pos at h
    split at h
    · rename_i e
      cases h
      rw [e]
      rfl
    · cases e : pos v r with
      | none => rw [e] at h; cases h
      | some j =>
        rw [e] at h
        cases h
        exact pos_some (l := r) e
theorem pos_none {v : Int} : ∀ {l : List Int}, pos v l = none → v ∉ l
  | [], _ => List.not_mem_nil
  | x :: r, h => by
    unfold pos at h
    split at h
    · cases h
    · rename_i ne
      cases e : pos v r with
      | none =>
        intro m
        rcases List.mem_cons.mp m with z | z
        · exact ne z.symm
        · exact pos_none e z
      | some j => rw [e] at h; cases h
theorem erase_perm {α : Type} : ∀ {l : List α} {i : Nat} {v : α}, l[i]? = some v → (v :: l.eraseIdx i).Perm l
  | x :: r, 0, v, h => by cases h; exact List.Perm.refl _
  | x :: r, i + 1, v, h => by
    have ih := erase_perm (l := r) (i := i) (v := v) h
    show (v :: x :: r.eraseIdx i).Perm (x :: r)
    exact (List.Perm.swap x v _).trans (ih.cons x)
theorem erase_map {α β : Type} (f : α → β) : ∀ (l : List α) (i : Nat), (l.eraseIdx i).map f = (l.map f).eraseIdx i
  | [], _ => rfl
  | x :: r, 0 => rfl
  | x :: r, i + 1 => by
    show f x :: (r.eraseIdx i).map f = f x :: (r.map f).eraseIdx i
    rw [erase_map f r i]
theorem map_at {α β : Type} {f : α → β} {l : List α} {i : Nat} {v : β} (h : (l.map f)[i]? = some v) : ∃ x, l[i]? = some x ∧ f x = v := by
  rw [List.getElem?_map, Option.map_eq_some_iff] at h
  exact h
/-! ### row_by -/
def rowGo (c : Nat → Int) : Nat → List Nat → Int → Option (List (Nat × Bool))
  | 0, left, lost => match left with
    | x :: _ => if c x = lost then some [(x, false)] else none
    | [] => none
  | k + 1, left, lost => match pos 0 (left.map fun p => c p - lost) with
    | some i => match left[i]? with
      | some x => (rowGo c k (left.eraseIdx i) lost).map ((x, false) :: ·)
      | none => none
    | none => match pos (k + 1) (left.map fun p => c p - lost) with
      | some i => match left[i]? with
        | some x => (rowGo c k (left.eraseIdx i) (lost + 1)).map ((x, true) :: ·)
        | none => none
      | none => none
/-! ### the counts of a kind -/
def E (b : Nat → Bool) : Nat → List Int
  | 0 => []
  | k + 1 => if b k then (k : Int) :: (E b k).map (· + 1) else 0 :: E b k
theorem E_len (b : Nat → Bool) : ∀ k, (E b k).length = k
  | 0 => rfl
  | k + 1 => by
    unfold E
    split
    · rw [List.length_cons, List.length_map, E_len b k]
    · rw [List.length_cons, E_len b k]
theorem E_nn (b : Nat → Bool) : ∀ k, ∀ x ∈ E b k, 0 ≤ x
  | 0, x, h => (nomatch h)
  | k + 1, x, h => by
    unfold E at h
    split at h
    · rcases List.mem_cons.mp h with rfl | h
      · exact Int.natCast_nonneg k
      · obtain ⟨y, hy, rfl⟩ := List.mem_map.mp h
        have := E_nn b k y hy
        omega
    · rcases List.mem_cons.mp h with rfl | h
      · exact Int.le_refl _
      · exact E_nn b k x h
/-- T1: of a kind's counts come the kind's bits -/
theorem row_bits {b : Nat → Bool} (b0 : b 0 = false) {c : Nat → Int} : ∀ (k : Nat) (left : List Nat) (lost : Int), (left.map fun p => c p - lost).Perm (E b (k + 1)) →
    ∃ found, rowGo c k left lost = some found ∧ found.map (·.2) = ((List.range (k + 1)).map b).reverse
  | 0, left, lost, h => by
    have e : E b 1 = [0] := by simp [E, b0]
    rw [e] at h
    have l1 := h.length_eq
    rw [List.length_map] at l1
    match left, l1 with
    | [x], _ =>
      have m : c x - lost ∈ [(0 : Int)] := h.mem_iff.mp (by simp)
      have z : c x = lost := by simp at m; omega
      refine ⟨[(x, false)], ?_, ?_⟩
      · show (if c x = lost then some [(x, false)] else none) = _
        rw [if_pos z]
      · simp [b0]
  | k + 1, left, lost, h => by
    obtain ⟨now, hnow⟩ : ∃ now, now = left.map fun p => c p - lost := ⟨_, rfl⟩
    rw [← hnow] at h
    have fin : ∀ (v : Bool) (found : List (Nat × Bool)) (x : Nat), b (k + 1) = v → found.map (·.2) = ((List.range (k + 1)).map b).reverse → ((x, v) :: found).map (·.2) = ((List.range (k + 1 + 1)).map b).reverse := by
      intro v found x hv hf
      rw [List.map_cons, hf, List.range_succ (n := k + 1), List.map_append, List.reverse_append, List.map_cons, hv]
      rfl
    cases hb : b (k + 1) with
    | false =>
      have e : E b (k + 1 + 1) = 0 :: E b (k + 1) := by
        show (if b (k + 1) then _ else _) = _
        rw [hb]
        rfl
      rw [e] at h
      have m : (0 : Int) ∈ now := h.mem_iff.mpr List.mem_cons_self
      cases hp : pos 0 now with
      | none => exact absurd m (pos_none hp)
      | some i =>
        have at0 := pos_some hp
        rw [hnow] at at0
        obtain ⟨x, hx, _⟩ := map_at at0
        have pe : (now.eraseIdx i).Perm (E b (k + 1)) := List.Perm.cons_inv ((erase_perm (pos_some hp)).trans h)
        rw [hnow, ← erase_map] at pe
        obtain ⟨found, hf, hm⟩ := row_bits b0 k (left.eraseIdx i) lost pe
        refine ⟨(x, false) :: found, ?_, fin false found x hb hm⟩
        unfold rowGo
        rw [← hnow, hp]
        dsimp only
        rw [hx]
        dsimp only
        rw [hf]
        rfl
    | true =>
      have e : E b (k + 1 + 1) = ((k + 1 : Nat) : Int) :: (E b (k + 1)).map (· + 1) := by
        show (if b (k + 1) then _ else _) = _
        rw [hb]
        rfl
      rw [e] at h
      have n0 : pos 0 now = none := by
        cases hp : pos 0 now with
        | none => rfl
        | some i =>
          exfalso
          have m := h.mem_iff.mp (List.mem_of_getElem? (pos_some hp))
          rcases List.mem_cons.mp m with z | z
          · omega
          · obtain ⟨y, hy, ey⟩ := List.mem_map.mp z
            have := E_nn b (k + 1) y hy
            omega
      have m : ((k : Int) + 1) ∈ now := h.mem_iff.mpr (by rw [show ((k + 1 : Nat) : Int) = (k : Int) + 1 by omega]; exact List.mem_cons_self)
      cases hp : pos (k + 1) now with
      | none => exact absurd m (pos_none hp)
      | some i =>
        have at0 := pos_some hp
        rw [hnow] at at0
        obtain ⟨x, hx, _⟩ := map_at at0
        have pe : (now.eraseIdx i).Perm ((E b (k + 1)).map (· + 1)) := by
          refine List.Perm.cons_inv ((erase_perm (pos_some hp)).trans ?_)
          rw [show ((k + 1 : Nat) : Int) = (k : Int) + 1 by omega] at h
          exact h
        have pe2 := pe.map (· - 1)
        rw [hnow, ← erase_map, List.map_map, List.map_map] at pe2
        have q1 : (left.eraseIdx i).map ((fun x => x - 1) ∘ fun p => c p - lost) = (left.eraseIdx i).map fun p => c p - (lost + 1) := List.map_congr_left fun p _ => by show c p - lost - 1 = _; omega
        have q2 : (E b (k + 1)).map ((fun x => x - 1) ∘ fun x => x + 1) = E b (k + 1) := by
          refine (List.map_congr_left fun p _ => ?_).trans (List.map_id _)
          show p + 1 - 1 = id p
          simp
        rw [q1, q2] at pe2
        obtain ⟨found, hf, hm⟩ := row_bits b0 k (left.eraseIdx i) (lost + 1) pe2
        refine ⟨(x, true) :: found, ?_, fin true found x hb hm⟩
        unfold rowGo
        rw [← hnow, n0, hp]
        dsimp only
        rw [hx]
        dsimp only
        rw [hf]
        rfl
end TWm
/-! TWmb -/
set_option linter.all false
namespace TWm
/-! ### webs as graphs -/
section
variable {adj : Nat → Nat → Bool} {c : Nat → Int}
/-- the ties of v within a list -/
def dg (adj : Nat → Nat → Bool) (l : List Nat) (v : Nat) : Int := (l.countP (adj v) : Nat)
/-- what is left has its ties within what is left -/
structure Inv (adj : Nat → Nat → Bool) (c : Nat → Int) (left : List Nat) (lost : Int) : Prop where
  nd : left.Nodup
  ct : ∀ v ∈ left, c v - lost = dg adj left v
theorem dg_erase {l : List Nat} {i x : Nat} (h : l[i]? = some x) (v : Nat) : dg adj l v = dg adj (l.eraseIdx i) v + if adj v x then 1 else 0 := by
  have p := (erase_perm h).countP_eq (adj v)
  unfold dg
  rw [← p, List.countP_cons]
  split <;> simp
theorem in_erase {l : List Nat} {i x v : Nat} (nd : l.Nodup) (h : l[i]? = some x) : v ∈ l.eraseIdx i ↔ v ∈ l ∧ v ≠ x := by
  have p := erase_perm h
  have nd2 := p.nodup_iff.mpr nd
  rw [List.nodup_cons] at nd2
  rw [← p.mem_iff, List.mem_cons]
  constructor
  · intro m
    exact ⟨.inr m, fun e => nd2.1 (e ▸ m)⟩
  · rintro ⟨rfl | m, n⟩
    · exact absurd rfl n
    · exact m
theorem nd_erase {l : List Nat} {i x : Nat} (nd : l.Nodup) (h : l[i]? = some x) : (l.eraseIdx i).Nodup := ((List.nodup_cons).mp ((erase_perm h).nodup_iff.mpr nd)).2
theorem len_erase {l : List Nat} {i x : Nat} (h : l[i]? = some x) : l.length = (l.eraseIdx i).length + 1 := (erase_perm h).length_eq.symm
theorem dg_zero {l : List Nat} {x : Nat} (h : dg adj l x = 0) : ∀ w ∈ l, adj x w = false := by
  have : l.countP (adj x) = 0 := by unfold dg at h; omega
  rw [List.countP_eq_zero] at this
  intro w hw
  exact Bool.eq_false_iff.mpr (this w hw)
theorem dg_le (l : List Nat) (x : Nat) : dg adj l x ≤ l.length := by
  unfold dg
  have := List.countP_le_length (p := adj x) (l := l)
  omega
theorem dg_full {l : List Nat} {i x : Nat} (ir : adj x x = false) (h : l[i]? = some x) (e : dg adj l x = (l.length : Int) - 1) : ∀ w ∈ l.eraseIdx i, adj x w = true := by
  rw [dg_erase h, ir] at e
  have l1 := len_erase h
  have : (l.eraseIdx i).countP (adj x) = (l.eraseIdx i).length := by unfold dg at e; simp at e; omega
  exact List.countP_eq_length.mp this
theorem Inv.pop0 (I : Inv adj c left lost) (sy : ∀ u v, adj u v = adj v u) {i x : Nat} (h : left[i]? = some x) (z : ∀ w ∈ left, adj x w = false) : Inv adj c (left.eraseIdx i) lost := by
  refine ⟨nd_erase I.nd h, fun v hv => ?_⟩
  have m := ((in_erase I.nd h).mp hv).1
  rw [I.ct v m, dg_erase h v, sy v x, z v m]
  simp
theorem Inv.pop1 (I : Inv adj c left lost) (sy : ∀ u v, adj u v = adj v u) {i x : Nat} (h : left[i]? = some x) (z : ∀ w ∈ left.eraseIdx i, adj x w = true) : Inv adj c (left.eraseIdx i) (lost + 1) := by
  refine ⟨nd_erase I.nd h, fun v hv => ?_⟩
  have m := ((in_erase I.nd h).mp hv).1
  have e := I.ct v m
  rw [dg_erase h v, sy v x, z v hv] at e
  simp at e
  omega
/-- of two places one is tied to whom the other is tied to -/
def Nest (adj : Nat → Nat → Bool) (l : List Nat) : Prop := ∀ u ∈ l, ∀ v ∈ l, u ≠ v → (∀ w ∈ l, adj u w = true → w ≠ v → adj v w = true) ∨ (∀ w ∈ l, adj v w = true → w ≠ u → adj u w = true)
theorem Nest.more {l : List Nat} {i x : Nat} (sy : ∀ u v, adj u v = adj v u) (nd : l.Nodup) (h : l[i]? = some x) (z : (∀ w ∈ l, adj x w = false) ∨ ∀ w ∈ l.eraseIdx i, adj x w = true) (N : Nest adj (l.eraseIdx i)) : Nest adj l := by
  have key : ∀ v ∈ l, v ≠ x → (∀ w ∈ l, adj x w = true → w ≠ v → adj v w = true) ∨ (∀ w ∈ l, adj v w = true → w ≠ x → adj x w = true) := by
    intro v hv hn
    rcases z with z | z
    · exact .inl fun w hw e => by rw [z w hw] at e; cases e
    · exact .inr fun w hw _ n => z w ((in_erase nd h).mpr ⟨hw, n⟩)
  intro u hu v hv hn
  by_cases e1 : u = x
  · subst e1
    exact key v hv (Ne.symm hn)
  · by_cases e2 : v = x
    · subst e2
      exact (key u hu e1).symm
    · have hu' := (in_erase nd h).mpr ⟨hu, e1⟩
      have hv' := (in_erase nd h).mpr ⟨hv, e2⟩
      have same : ∀ a ∈ l.eraseIdx i, ∀ b ∈ l.eraseIdx i, adj a x = true → adj b x = true := by
        intro a ha b hb e
        rcases z with z | z
        · rw [sy a x, z a ((in_erase nd h).mp ha).1] at e; cases e
        · rw [sy b x]; exact z b hb
      rcases N u hu' v hv' hn with q | q
      · refine .inl fun w hw e n => ?_
        by_cases c : w = x
        · subst c; exact same u hu' v hv' e
        · exact q w ((in_erase nd h).mpr ⟨hw, c⟩) e n
      · refine .inr fun w hw e n => ?_
        by_cases c : w = x
        · subst c; exact same v hv' u hu' e
        · exact q w ((in_erase nd h).mpr ⟨hw, c⟩) e n
/-- T2: what has a row is nested -/
theorem row_nest (sy : ∀ u v, adj u v = adj v u) (ir : ∀ u, adj u u = false) : ∀ (k : Nat) (left : List Nat) (lost : Int) (found : List (Nat × Bool)), left.length = k + 1 → Inv adj c left lost → rowGo c k left lost = some found → Nest adj left
  | 0, left, lost, found, hl, I, h => by
    match left, hl with
    | [x], _ =>
      intro u hu v hv n
      rw [List.mem_singleton] at hu hv
      exact absurd (hu.trans hv.symm) n
  | k + 1, left, lost, found, hl, I, h => by
    unfold rowGo at h
    split at h
    · rename_i i hp
      obtain ⟨x, hx, e⟩ := map_at (pos_some hp)
      rw [hx] at h
      dsimp only at h
      cases hr : rowGo c k (left.eraseIdx i) lost with
      | none => rw [hr] at h; cases h
      | some f =>
        have z := dg_zero (by rw [← I.ct x (List.mem_of_getElem? hx)]; exact e)
        exact Nest.more sy I.nd hx (.inl z) (row_nest sy ir k _ lost f (by have := len_erase hx; omega) (I.pop0 sy hx z) hr)
    · split at h
      · rename_i i hp
        obtain ⟨x, hx, e⟩ := map_at (pos_some hp)
        rw [hx] at h
        dsimp only at h
        cases hr : rowGo c k (left.eraseIdx i) (lost + 1) with
        | none => rw [hr] at h; cases h
        | some f =>
          have z := dg_full (ir x) hx (by rw [← I.ct x (List.mem_of_getElem? hx), hl]; simp; exact e)
          exact Nest.more sy I.nd hx (.inr z) (row_nest sy ir k _ (lost + 1) f (by have := len_erase hx; omega) (I.pop1 sy hx z) hr)
      · cases h
theorem lowest (r : Nat → Nat) : ∀ l : List Nat, l ≠ [] → ∃ u ∈ l, ∀ v ∈ l, r u ≤ r v
  | [a], _ => ⟨a, List.mem_cons_self, fun v hv => by rw [List.mem_singleton.mp hv]; exact Nat.le_refl _⟩
  | a :: b :: l, _ => by
    obtain ⟨u, hu, h⟩ := lowest r (b :: l) (by simp)
    by_cases q : r a ≤ r u
    · refine ⟨a, List.mem_cons_self, fun v hv => ?_⟩
      rcases List.mem_cons.mp hv with rfl | hv
      · exact Nat.le_refl _
      · exact Nat.le_trans q (h v hv)
    · refine ⟨u, List.mem_cons_of_mem _ hu, fun v hv => ?_⟩
      rcases List.mem_cons.mp hv with rfl | hv
      · omega
      · exact h v hv
theorem highest (r : Nat → Nat) : ∀ l : List Nat, l ≠ [] → ∃ u ∈ l, ∀ v ∈ l, r v ≤ r u
  | [a], _ => ⟨a, List.mem_cons_self, fun v hv => by rw [List.mem_singleton.mp hv]; exact Nat.le_refl _⟩
  | a :: b :: l, _ => by
    obtain ⟨u, hu, h⟩ := highest r (b :: l) (by simp)
    by_cases q : r u ≤ r a
    · refine ⟨a, List.mem_cons_self, fun v hv => ?_⟩
      rcases List.mem_cons.mp hv with rfl | hv
      · exact Nat.le_refl _
      · exact Nat.le_trans (h v hv) q
    · refine ⟨u, List.mem_cons_of_mem _ hu, fun v hv => ?_⟩
      rcases List.mem_cons.mp hv with rfl | hv
      · omega
      · exact h v hv
/-- whom a lower one is tied to a higher one is tied to -/
def Up (adj : Nat → Nat → Bool) (r : Nat → Nat) (l : List Nat) : Prop := ∀ u ∈ l, ∀ v ∈ l, r u < r v → ∀ w ∈ l, adj u w = true → w ≠ v → adj v w = true
/-- T3: what is nested by a rank has a row -/
theorem up_row (sy : ∀ u v, adj u v = adj v u) (ir : ∀ u, adj u u = false) {r : Nat → Nat} : ∀ (k : Nat) (left : List Nat) (lost : Int), left.length = k + 1 → Inv adj c left lost → (∀ u ∈ left, ∀ v ∈ left, r u = r v → u = v) → Up adj r left → ∃ found, rowGo c k left lost = some found
  | 0, left, lost, hl, I, inj, U => by
    match left, hl with
    | [x], _ =>
      have e := I.ct x List.mem_cons_self
      have z : c x = lost := by
        unfold dg at e
        simp [ir] at e
        omega
      exact ⟨[(x, false)], by show (if c x = lost then some [(x, false)] else none) = _; rw [if_pos z]⟩
  | k + 1, left, lost, hl, I, inj, U => by
    have rec_ : ∀ (i x : Nat) (lost' : Int), left[i]? = some x → Inv adj c (left.eraseIdx i) lost' → ∃ found, rowGo c k (left.eraseIdx i) lost' = some found := by
      intro i x lost' hx I'
      have mm := fun v (hv : v ∈ left.eraseIdx i) => ((in_erase I.nd hx).mp hv).1
      exact up_row sy ir k _ lost' (by have := len_erase hx; omega) I' (fun u hu v hv => inj u (mm u hu) v (mm v hv)) fun u hu v hv q w hw => U u (mm u hu) v (mm v hv) q w (mm w hw)
    unfold rowGo
    cases h0 : pos 0 (left.map fun p => c p - lost) with
    | some i =>
      obtain ⟨x, hx, e⟩ := map_at (pos_some h0)
      have z := dg_zero (by rw [← I.ct x (List.mem_of_getElem? hx)]; exact e)
      obtain ⟨f, hf⟩ := rec_ i x lost hx (I.pop0 sy hx z)
      dsimp only
      rw [hx]
      dsimp only
      rw [hf]
      exact ⟨_, rfl⟩
    | none =>
      dsimp only
      cases h1 : pos (k + 1) (left.map fun p => c p - lost) with
      | some i =>
        obtain ⟨x, hx, e⟩ := map_at (pos_some h1)
        have z := dg_full (ir x) hx (by rw [← I.ct x (List.mem_of_getElem? hx), hl]; simp; exact e)
        obtain ⟨f, hf⟩ := rec_ i x (lost + 1) hx (I.pop1 sy hx z)
        dsimp only
        rw [hx]
        dsimp only
        rw [hf]
        exact ⟨_, rfl⟩
      | none =>
        exfalso
        have ne : left ≠ [] := by intro z; rw [z] at hl; simp at hl
        obtain ⟨u, hu, lo⟩ := lowest r left ne
        obtain ⟨v, hv, hi⟩ := highest r left ne
        -- u has a tie
        have m0 : c u - lost ≠ 0 := fun e => pos_none h0 (List.mem_map.mpr ⟨u, hu, e⟩)
        rw [I.ct u hu] at m0
        have : ∃ w ∈ left, adj u w = true := by
          refine Classical.byContradiction fun q => m0 ?_
          unfold dg
          have : left.countP (adj u) = 0 := List.countP_eq_zero.mpr fun w hw e => q ⟨w, hw, e⟩
          omega
        obtain ⟨w, hw, uw⟩ := this
        -- v lacks one
        have m1 : c v - lost ≠ (k : Int) + 1 := fun e => pos_none h1 (List.mem_map.mpr ⟨v, hv, e⟩)
        rw [I.ct v hv] at m1
        obtain ⟨iv, hiv⟩ := List.getElem?_of_mem hv
        have : ∃ x ∈ left.eraseIdx iv, adj v x = false := by
          refine Classical.byContradiction fun q => m1 ?_
          rw [dg_erase hiv, ir v]
          have : (left.eraseIdx iv).countP (adj v) = (left.eraseIdx iv).length := List.countP_eq_length.mpr fun x hx => by
            cases e : adj v x with
            | true => rfl
            | false => exact absurd ⟨x, hx, e⟩ q
          have l1 := len_erase hiv
          unfold dg
          simp
          omega
        obtain ⟨x, hx', vx⟩ := this
        obtain ⟨hx, xv⟩ := (in_erase I.nd hiv).mp hx'
        have uv : u ≠ v := by
          intro e
          have all : ∀ z ∈ left, z = u := fun z hz => inj z hz u hu (Nat.le_antisymm (e ▸ hi z hz) (lo z hz))
          have := all w hw
          rw [this, ir] at uw
          cases uw
        have ruv : r u < r v := Nat.lt_of_le_of_ne (lo v hv) fun e => uv (inj u hu v hv e)
        cases a : adj u v with
        | true =>
          have xu : x ≠ u := by
            intro e
            rw [e, sy v u, a] at vx
            cases vx
          have rux : r u < r x := Nat.lt_of_le_of_ne (lo x hx) fun e => xu (inj u hu x hx e).symm
          have := U u hu x hx rux v hv a (Ne.symm xv)
          rw [sy x v, vx] at this
          cases this
        | false =>
          have wv : w ≠ v := by
            intro e
            rw [e, a] at uw
            cases uw
          have rwv : r w < r v := Nat.lt_of_le_of_ne (hi w hw) fun e => wv (inj w hw v hv e)
          have := U w hw v hv rwv u hu (by rw [sy w u]; exact uw) uv
          rw [sy v u, a] at this
          cases this
end
end TWm
/-! TWmc -/
set_option linter.all false
namespace TWm
/-! ### the law's own test -/
section
variable {adj : Nat → Nat → Bool} {n : Nat}
def Cs (adj : Nat → Nat → Bool) (n u v : Nat) : Prop := ∀ w, w < n → adj u w = true → adj v w = true ∨ w = v
theorem chain1 {f : Nat → Nat} (C : ∀ i, i + 1 < n → Cs adj n (f i) (f (i + 1))) {i w : Nat} (hw : w < n) (h : adj (f i) w = true) : ∀ d, i + d < n → (∀ m, i < m → m ≤ i + d → w ≠ f m) → adj (f (i + d)) w = true
  | 0, _, _ => h
  | d + 1, hd, nw => by
    have ih := chain1 C hw h d (by omega) fun m h1 h2 => nw m h1 (by omega)
    rcases C (i + d) hd w hw ih with q | q
    · exact q
    · exact absurd q (nw (i + d + 1) (by omega) (by omega))
theorem chain_to {f : Nat → Nat} (C : ∀ i, i + 1 < n → Cs adj n (f i) (f (i + 1))) {i j w : Nat} (hij : i < j) (hj : j < n) (hw : w < n) (h : adj (f i) w = true) (nw : ∀ m, i < m → m ≤ j → w ≠ f m) : adj (f j) w = true := by
  have e : i + (j - i) = j := by omega
  have := chain1 C hw h (j - i) (by omega) (by rw [e]; exact nw)
  rw [e] at this
  exact this
theorem chain_all (sy : ∀ u v, adj u v = adj v u) {f : Nat → Nat} (fl : ∀ i, i < n → f i < n) (inj : ∀ i j, i < n → j < n → f i = f j → i = j) (C : ∀ i, i + 1 < n → Cs adj n (f i) (f (i + 1))) {i j w : Nat} (hij : i < j) (hj : j < n) (hw : w < n)
    (h : adj (f i) w = true) (nw : w ≠ f j) : adj (f j) w = true := by
  by_cases q : ∃ m, i < m ∧ m ≤ j ∧ w = f m
  · obtain ⟨m, h1, h2, rfl⟩ := q
    have mj : m < j := Nat.lt_of_le_of_ne h2 fun e => nw (by rw [e])
    -- o[i] stays with o[j]
    have a1 : adj (f j) (f i) = true := chain_to C mj hj (fl i (by omega)) (by rw [sy]; exact h) fun p p1 p2 e => by
      have := inj i p (by omega) (by omega) e
      omega
    have a2 : adj (f m) (f j) = true := chain_to C h1 (by omega) (fl j hj) (by rw [sy]; exact a1) fun p p1 p2 e => by
      have := inj j p hj (by omega) e
      omega
    rw [sy]
    exact a2
  · exact chain_to C hij hj hw h fun m h1 h2 e => q ⟨m, h1, h2, e⟩
theorem count_back {α : Type} {p q : α → Bool} : ∀ {l : List α}, (∀ x ∈ l, p x = true → q x = true) → l.countP q ≤ l.countP p → ∀ x ∈ l, q x = true → p x = true
  | a :: l, h, le, x, hx, hq => by
    have h' : ∀ x ∈ l, p x = true → q x = true := fun y hy => h y (List.mem_cons_of_mem _ hy)
    have mono : l.countP p ≤ l.countP q := List.countP_mono_left h'
    rw [List.countP_cons, List.countP_cons] at le
    have pa := h a List.mem_cons_self
    cases ep : p a with
    | true =>
      rw [ep, pa ep] at le
      simp at le
      rcases List.mem_cons.mp hx with rfl | hx
      · exact ep
      · exact count_back h' le x hx hq
    | false =>
      cases eq : q a with
      | true => rw [ep, eq] at le; simp at le; omega
      | false =>
        rw [ep, eq] at le
        simp at le
        rcases List.mem_cons.mp hx with rfl | hx
        · rw [eq] at hq; cases hq
        · exact count_back h' le x hx hq
/-- counts but one place -/
theorem count_but {l : List Nat} (nd : l.Nodup) (p : Nat → Bool) {v : Nat} (hv : v ∈ l) : l.countP p = l.countP (fun w => p w && decide (w ≠ v)) + if p v then 1 else 0 := by
  obtain ⟨i, hi⟩ := List.getElem?_of_mem hv
  have pe := erase_perm hi
  have nd2 := (List.nodup_cons.mp (pe.nodup_iff.mpr nd)).1
  rw [← pe.countP_eq p, ← pe.countP_eq, List.countP_cons, List.countP_cons]
  have e : (l.eraseIdx i).countP (fun w => p w && decide (w ≠ v)) = (l.eraseIdx i).countP p := List.countP_congr fun w hw => by
    have : w ≠ v := fun e => nd2 (e ▸ hw)
    simp [this]
  rw [e]
  simp
theorem nest_cs (sy : ∀ u v, adj u v = adj v u) (ir : ∀ u, adj u u = false) (N : Nest adj (List.range n)) {u v : Nat} (hu : u < n) (hv : v < n) (hn : u ≠ v) (le : dg adj (List.range n) u ≤ dg adj (List.range n) v) : Cs adj n u v := by
  have mu := List.mem_range.mpr hu
  have mv := List.mem_range.mpr hv
  intro w hw h
  by_cases e : w = v
  · exact .inr e
  · left
    rcases N u mu v mv hn with q | q
    · exact q w (List.mem_range.mpr hw) h e
    · have c1 := count_but List.nodup_range (adj u) mv
      have c2 := count_but List.nodup_range (adj v) mu
      rw [sy v u] at c2
      have le2 : (List.range n).countP (fun x => adj u x && decide (x ≠ v)) ≤ (List.range n).countP (fun x => adj v x && decide (x ≠ u)) := by
        unfold dg at le
        omega
      have := count_back (p := fun x => adj v x && decide (x ≠ u)) (q := fun x => adj u x && decide (x ≠ v)) (l := List.range n) (fun x hx hp => by
        simp at hp ⊢
        exact ⟨q x hx hp.1 hp.2, fun z => by rw [z, ir v] at hp; exact Bool.false_ne_true hp.1⟩) le2 w (List.mem_range.mpr hw) (by simp [h, e])
      simp at this
      exact this.1
/-! ### ties -/
def adjT (ts : List (Nat × Nat)) (i j : Nat) : Bool := decide ((i, j) ∈ ts) || decide ((j, i) ∈ ts)
theorem adjT_sy (ts : List (Nat × Nat)) (u v : Nat) : adjT ts u v = adjT ts v u := Bool.or_comm _ _
/-- a web's ties -/
structure Web (n : Nat) (ts : List (Nat × Nat)) : Prop where
  lt : ∀ t ∈ ts, t.1 < t.2 ∧ t.2 < n
  nd : ts.Nodup
theorem Web.ir {ts : List (Nat × Nat)} (w : Web n ts) (u : Nat) : adjT ts u u = false := by
  unfold adjT
  have : (u, u) ∉ ts := fun m => Nat.lt_irrefl _ (w.lt _ m).1
  simp [this]
theorem Web.tail {t : Nat × Nat} {ts : List (Nat × Nat)} (w : Web n (t :: ts)) : Web n ts := ⟨fun x hx => w.lt x (List.mem_cons_of_mem _ hx), (List.nodup_cons.mp w.nd).2⟩
/-- how many ties a place has -/
def tdeg (ts : List (Nat × Nat)) (i : Nat) : Nat := ts.countP fun t => decide (t.1 = i) || decide (t.2 = i)
theorem count_one {l : List Nat} (nd : l.Nodup) {p q : Nat → Bool} {x : Nat} (hx : x ∈ l) (px : p x = false) (qx : q x = true) (same : ∀ w, w ≠ x → q w = p w) : l.countP q = l.countP p + 1 := by
  rw [count_but nd q hx, count_but nd p hx, px, qx]
  have : l.countP (fun w => q w && decide (w ≠ x)) = l.countP (fun w => p w && decide (w ≠ x)) := List.countP_congr fun w _ => by
    by_cases e : w = x
    · simp [e]
    · rw [same w e]
  rw [this]
  simp
theorem Web.deg : ∀ {ts : List (Nat × Nat)}, Web n ts → ∀ i, i < n → (List.range n).countP (adjT ts i) = tdeg ts i
  | [], w, i, hi => by
    have : (List.range n).countP (adjT [] i) = 0 := List.countP_eq_zero.mpr fun w _ => by simp [adjT]
    rw [this]
    rfl
  | (a, b) :: ts, w, i, hi => by
    have ih := Web.deg w.tail i hi
    have ab := w.lt (a, b) List.mem_cons_self
    have nin := (List.nodup_cons.mp w.nd).1
    have nin2 : (b, a) ∉ ts := fun m => by have := (w.tail.lt _ m).1; simp at ab this; omega
    unfold tdeg at ih ⊢
    rw [List.countP_cons]
    simp only at ab
    by_cases ea : i = a
    · subst ea
      rw [count_one (p := adjT ts i) List.nodup_range (x := b) (List.mem_range.mpr ab.2) (by simp [adjT, nin, nin2]) (by simp [adjT]) fun x hx => ?_, ih]
      · simp
      · have e1 : ¬ (x = i ∧ i = b) := by omega
        simp [adjT, hx, e1]
    · by_cases eb : i = b
      · subst eb
        rw [count_one (p := adjT ts i) List.nodup_range (x := a) (List.mem_range.mpr (by omega)) (by simp [adjT, nin, nin2]) (by simp [adjT]) fun x hx => ?_, ih]
        · simp
        · have e1 : ¬ (i = a) := ea
          simp [adjT, hx, e1]
      · have same : (List.range n).countP (adjT ((a, b) :: ts) i) = (List.range n).countP (adjT ts i) := List.countP_congr fun x _ => by
          simp [adjT, ea, eb]
        rw [same, ih]
        have e1 : ¬ a = i := fun e => ea e.symm
        have e2 : ¬ b = i := fun e => eb e.symm
        simp [e1, e2]
/-- at the start all ties are within -/
theorem Web.inv {ts : List (Nat × Nat)} (w : Web n ts) {c : Nat → Int} (hc : ∀ i, i < n → c i = tdeg ts i) : Inv (adjT ts) c (List.range n) 0 := by
  refine ⟨List.nodup_range, fun v hv => ?_⟩
  have hv := List.mem_range.mp hv
  unfold dg
  rw [w.deg v hv, hc v hv]
  omega
end
end TWm
/-! TWn -/
set_option Elab.async false
set_option linter.all false
set_option maxRecDepth 100000
namespace TWL
open TW TWm
theorem call_pm {f d : Nat} {m : Bool} {us ws : List U} {S : Sto} {D : Df} (hD : Q.df f = some D) (hp : D.pm = true) (hn : us.length = D.np) (hl : mapO (lend S ldep) us = some ws) :
    callN Q (d + 1) m f us S = (exS D.body (Q.env (callN Q d)) (startU D.ns ws) []).done.shut m S := by
  rw [callN, hD]
  dsimp only
  rw [if_pos hn, hp, hl]
theorem is_number_ok (d : Nat) (m : Bool) (i : Int) (S : Sto) : callN Q (d + 1) m 0 [.int i] S = .ok (.bl true) S := rfl
theorem check_places_ok (d : Nat) (m : Bool) (n : Int) (S : Sto) (h1 : 1 ≤ n) (h2 : n ≤ 40) : callN Q (d + 2) m 2 [.int n] S = .ok .non S := by
  rw [call_pm (D := D_check_places) rfl rfl rfl (ws := [.int n]) rfl]
  simp [D_check_places, I_check_places, exS, evE, evL, R.bind, startU, R.opt, cmpU, is_number_ok, h1, h2, R.done, R.shut, Prg.env, U.pure, show (Q.df 0).isSome = true from rfl]
/-- the turns of a comprehension that touch nothing -/
theorem comp_map {f : U → Sto → R (Option U)} {g : U → U} {S : Sto} : ∀ {items : List U}, (∀ u ∈ items, f u S = .ok (some (g u)) S) → compGo f items S = .ok (items.map g) S
  | [], _ => rfl
  | u :: us, h => by
    rw [compGo, h u List.mem_cons_self]
    show (compGo f us S).bind _ = _
    rw [comp_map fun x hx => h x (List.mem_cons_of_mem _ hx)]
    rfl
theorem is_tie_ok (d : Nat) (m : Bool) (a b n : Int) (S : Sto) (h0 : 0 ≤ a) (h1 : a < b) (h2 : b < n) : callN Q (d + 2) m 1 [pairU (a, b), .int n] S = .ok (.bl true) S := by
  rw [call_pm (D := D_is_tie) rfl rfl rfl (ws := [pairU (a, b), .int n]) rfl]
  simp [D_is_tie, I_is_tie, exS, evE, evL, evN, evI, IE.isQ, R.bind, startU, R.opt, cmpU, is_number_ok, R.done, R.shut, Prg.env, U.pure, show (Q.df 0).isSome = true from rfl, pairU, biU, isiU, tyOf, subTy, rdQ, eqU, toD, dep, eqv, rdL, ixU, compGo, bindT, wipeU, R.noex, mapO, asBl, h0, h1, h2]
/-! ### webs -/
def tieU (t : Nat × Nat) : U := pairU (t.1, t.2)
def tiesU (ts : List (Nat × Nat)) : List U := ts.map tieU
/-- a list that is not walked while it changes -/
def Lst (u : U) (us : List U) : Prop := u = .fl us ∨ u = .bo us
theorem key_ok {n : Nat} (hn : n ≤ 40) {ts : List (Nat × Nat)} (w : Web n ts) : ts.length < 1000 := by
  have nd : (ts.map (fun t : Nat × Nat => t.2 * 40 + t.1) ++ ts.map (fun t : Nat × Nat => t.1 * 40 + t.2)).Nodup := by
    refine List.nodup_append.mpr ⟨?_, ?_, fun a ha b hb => ?_⟩
    · refine List.pairwise_map.mpr (List.Pairwise.imp_of_mem (fun {x y} hx hy ne e => ne ?_) w.nd)
      have h1 := w.lt x hx
      have h2 := w.lt y hy
      refine Prod.ext ?_ ?_ <;> omega
    · refine List.pairwise_map.mpr (List.Pairwise.imp_of_mem (fun {x y} hx hy ne e => ne ?_) w.nd)
      have h1 := w.lt x hx
      have h2 := w.lt y hy
      refine Prod.ext ?_ ?_ <;> omega
    · obtain ⟨x, hx, rfl⟩ := List.mem_map.mp ha
      obtain ⟨y, hy, rfl⟩ := List.mem_map.mp hb
      have h1 := w.lt x hx
      have h2 := w.lt y hy
      omega
  have := L2.nat_nodup_len _ (List.range 1600) nd fun x hx => by
    rw [List.mem_range]
    rcases List.mem_append.mp hx with h | h <;> obtain ⟨t, ht, rfl⟩ := List.mem_map.mp h <;> have h1 := w.lt t ht <;> omega
  rw [List.length_append, List.length_map, List.length_map, List.length_range] at this
  omega
theorem asPairs : ∀ ts : List (Nat × Nat), mapO asPair (tiesU ts) = some (ts.map fun t => ((t.1 : Int), (t.2 : Int)))
  | [] => rfl
  | t :: ts => by
    have := asPairs ts
    unfold tiesU at this ⊢
    rw [List.map_cons, mapO, this]
    rfl
theorem lenSet_ties {ts : List (Nat × Nat)} (nd : ts.Nodup) (few : ts.length < 1000) : lenSetU (tiesU ts) = some ts.length := by
  unfold lenSetU
  cases ts with
  | nil => rfl
  | cons t ts =>
    have e : mapO asInt (tiesU (t :: ts)) = none := rfl
    rw [e, asPairs]
    dsimp only
    have nd2 : ((t :: ts).map fun t => ((t.1 : Int), (t.2 : Int))).Nodup := List.pairwise_map.mpr (nd.imp fun {x y} ne e => ne (by
      simp only [Prod.mk.injEq] at e
      exact Prod.ext (by omega) (by omega)))
    rw [if_pos (by rw [List.length_map]; exact few), ← cntP (by rw [List.length_map]; exact Nat.le_trans (Nat.le_of_lt few) (by decide)) nd2 fun x => Iff.rfl, List.length_map]
theorem allTrue : ∀ (l : List U), (∀ u ∈ l, u = .bl true) → ∃ bs, mapO asBl l = some bs ∧ bs.all id = true
  | [], _ => ⟨[], rfl, rfl⟩
  | u :: l, h => by
    obtain ⟨bs, e1, e2⟩ := allTrue l fun x hx => h x (List.mem_cons_of_mem _ hx)
    refine ⟨true :: bs, ?_, by simpa using e2⟩
    rw [h u List.mem_cons_self, mapO, e1]
    rfl
theorem rdL_fl (S : Sto) (us : List U) : rdL S (.fl us) = some us := rfl
theorem rdL_bo (S : Sto) (us : List U) : rdL S (.bo us) = some us := rfl
theorem rdQ_fl (S : Sto) (us : List U) : rdQ S (.fl us) = some us := rfl
theorem rdQ_bo (S : Sto) (us : List U) : rdQ S (.bo us) = some us := rfl
theorem rdQ_tup (S : Sto) (us : List U) : rdQ S (.tup us) = some us := rfl
theorem env_okf (c : Bool → Nat → List U → Sto → R U) (f : Nat) : (Q.env c).okf f = (Q.df f).isSome := rfl
theorem env_call (c : Bool → Nat → List U → Sto → R U) : (Q.env c).call = c := rfl
theorem env_P (c : Bool → Nat → List U → Sto → R U) : (Q.env c).P = pg := rfl
theorem comp_no {E : Env} {σ : Sl} {t : IT} {it q elt : IE} {own : List Nat} {S : Sto} {items : List U} {g : U → U} (hq : (it.isQ && !(q.quiet && elt.quiet)) = false) (hi : evI E σ it S = .ok items S)
    (h : ∀ u ∈ items, ∃ σ2, bindT S t [u] (wipeU σ own) = some σ2 ∧ evE E σ2 elt S = .ok (g u) S) : evN E σ (.comp t it false q elt own) S = .ok (items.map g) S := by
  rw [evN, hq, hi]
  simp only [Bool.false_eq_true, if_false, R.bind]
  refine comp_map fun u hu => ?_
  obtain ⟨σ2, h1, h2⟩ := h u hu
  rw [h1]
  dsimp only
  rw [h2]
theorem check_web_ok (d : Nat) (m : Bool) {n : Nat} {ts : List (Nat × Nat)} {u v : U} (S : Sto) (hl : lend S ldep u = some v) (lu : Lst v (tiesU ts)) (h1 : 1 ≤ n) (h2 : n ≤ 40) (w : Web n ts) :
    callN Q (d + 3) m 3 [.int n, u] S = .ok .non S := by
  rw [call_pm (D := D_check_web) rfl rfl rfl (ws := [.int n, v]) (by simp [mapO, hl]; rfl)]
  have tt : ∀ (S : Sto) (x : U), x ∈ tiesU ts → callN Q (d + 2) false 1 [x, .int n] S = .ok (.bl true) S := fun S x hx => by
    obtain ⟨t, ht, rfl⟩ := List.mem_map.mp hx
    have := w.lt t ht
    exact is_tie_ok d false t.1 t.2 n S (by omega) (by omega) (by omega)
  have cm : evN (Q.env (callN Q (d + 2))) [some (.int n), some v, none] (.comp (.nm 2) (.wL (.v 1)) false (.c (.bl true)) (.callD false 1 (.cons (.v 2) (.cons (.v 0) .nil))) [2]) [] = .ok ((tiesU ts).map fun _ => U.bl true) [] := by
    refine comp_no rfl (by rcases lu with rfl | rfl <;> rfl) fun x hx => ⟨[some (.int n), some v, some x], rfl, ?_⟩
    simp [evE, evL, R.bind, env_okf, env_call, show (Q.df 1).isSome = true from rfl, tt _ x hx]
  obtain ⟨bs, e1, e2⟩ := allTrue ((tiesU ts).map fun _ => U.bl true) (fun u hu => by obtain ⟨x, _, rfl⟩ := List.mem_map.mp hu; rfl)
  have few := key_ok h2 w
  have ls := lenSet_ties w.nd few
  have len : (tiesU ts).length = ts.length := List.length_map ..
  have cp := check_places_ok (d := d) false n [] (by omega) (by omega)
  have ty : isiU pg [] v (.ty .list) = some true := by rcases lu with rfl | rfl <;> rfl
  have rq : rdQ [] v = some (tiesU ts) := by rcases lu with rfl | rfl <;> rfl
  have rl : rdL [] v = some (tiesU ts) := by rcases lu with rfl | rfl <;> rfl
  simp [D_check_web, I_check_web, exS, evE, evL, R.bind, startU, R.opt, cmpU, cp, R.done, R.shut, env_okf, env_call, env_P, show (Q.df 2).isSome = true from rfl, U.pure, biU, ty, eqU, toD, dep, eqv, cm, rdL_fl, e1, e2, rq, rl, ls, len]
end TWL
/-! TWo -/
set_option Elab.async false
set_option linter.all false
set_option maxRecDepth 100000
namespace TWL
open TW TWm
/-- a for that goes through -/
theorem for_inv {f : U → Sl → Sto → R Fl} (I : List U → Sl → Sto → Prop) : ∀ (rest dn : List U) (σ : Sl) (S : Sto), I dn σ S →
    (∀ dn u σ S, I dn σ S → u ∈ rest → ∃ σ' S', f u σ S = .ok (.nx σ') S' ∧ I (dn ++ [u]) σ' S') →
    ∃ σ' S', forGo f rest σ S = .ok (.nx σ') S' ∧ I (dn ++ rest) σ' S'
  | [], dn, σ, S, h, _ => ⟨σ, S, rfl, by rw [List.append_nil]; exact h⟩
  | u :: rs, dn, σ, S, h, k => by
    obtain ⟨σ1, S1, e1, h1⟩ := k dn u σ S h List.mem_cons_self
    obtain ⟨σ2, S2, e2, h2⟩ := for_inv I rs (dn ++ [u]) σ1 S1 h1 fun dn x σ S a m => k dn x σ S a (List.mem_cons_of_mem _ m)
    refine ⟨σ2, S2, ?_, by simpa using h2⟩
    rw [forGo, e1]
    exact e2
/-! ### cells -/
def cells (n : Nat) (P : Nat → List U) : Sto := (List.range n).map fun i => O.lst (P i)
theorem cells_get {n i : Nat} {P : Nat → List U} (h : i < n) : (cells n P)[i]? = some (.lst (P i)) := by
  unfold cells
  rw [List.getElem?_map, List.getElem?_range h]
  rfl
theorem cells_set {n a : Nat} {P : Nat → List U} {x : List U} : (cells n P).set a (.lst x) = cells n fun i => if i = a then x else P i := by
  refine List.ext_getElem? fun i => ?_
  rw [List.getElem?_set]
  by_cases h : i < n
  · rw [cells_get h, cells_get h]
    by_cases e : a = i
    · subst e
      have : a < (cells n P).length := by unfold cells; simpa using h
      simp [this]
    · have e2 : ¬ i = a := fun z => e z.symm
      simp [e, e2]
  · have l1 : ∀ P, (cells n P)[i]? = none := fun P => by unfold cells; simp; omega
    rw [l1, l1]
    split
    · split
      · rename_i z1 z2
        unfold cells at z2
        simp at z2
        omega
      · rfl
    · rfl
theorem comp_cells {f : U → Sto → R (Option U)} {x : List U} : ∀ {items : List U} {S : Sto}, (∀ u ∈ items, ∀ S, f u S = .ok (some (.ref S.length)) (S ++ [.lst x])) → compGo f items S = .ok ((List.range' S.length items.length).map .ref) (S ++ List.replicate items.length (.lst x))
  | [], S, _ => by
    rw [compGo]
    simp
  | u :: us, S, h => by
    rw [compGo, h u List.mem_cons_self S]
    show (compGo f us (S ++ [.lst x])).bind _ = _
    rw [comp_cells fun y hy => h y (List.mem_cons_of_mem _ hy)]
    simp [R.bind, List.range'_succ, List.replicate_succ]
theorem ranges : ∀ (n k : Nat), rangeU (k : Int) 1 n = (List.range' k n).map fun (i : Nat) => U.int i
  | 0, _ => rfl
  | n + 1, k => by
    have := ranges n (k + 1)
    rw [rangeU, List.range'_succ, List.map_cons, ← this]
    rfl
theorem range0 (n : Nat) : rangeU 0 1 n = (List.range n).map fun (i : Nat) => U.int i := by
  rw [List.range_eq_range']
  exact ranges n 0
theorem asInts : ∀ ns : List Int, mapO asInt (ns.map .int) = some ns
  | [] => rfl
  | n :: ns => by
    rw [List.map_cons, mapO, asInts ns]
    rfl
theorem pure_map {α : Type} {f : α → U} (h : ∀ a, (f a).pure = true) : ∀ l : List α, pureL (l.map f) = true
  | [] => rfl
  | a :: l => by
    rw [List.map_cons, pureL, h a, pure_map h l]
    rfl
/-- whom a place is tied to, in the ties' order -/
def prt (ts : List (Nat × Nat)) (i : Nat) : List Int := ts.filterMap fun t => if t.1 = i then some (t.2 : Int) else if t.2 = i then some (t.1 : Int) else none
theorem prt_len (ts : List (Nat × Nat)) (i : Nat) : (prt ts i).length = tdeg ts i := by
  unfold prt tdeg
  induction ts with
  | nil => rfl
  | cons t ts ih =>
    rw [List.filterMap_cons, List.countP_cons]
    by_cases h1 : t.1 = i
    · simp [h1, ih]
    · by_cases h2 : t.2 = i
      · simp [h1, h2, ih]
      · simp [h1, h2, ih]
theorem prt_snoc (ts : List (Nat × Nat)) (t : Nat × Nat) (i : Nat) : prt (ts ++ [t]) i = prt ts i ++ (if t.1 = i then [(t.2 : Int)] else if t.2 = i then [(t.1 : Int)] else []) := by
  unfold prt
  rw [List.filterMap_append]
  congr 1
  by_cases h1 : t.1 = i
  · simp [h1]
  · by_cases h2 : t.2 = i
    · simp [h1, h2]
    · simp [h1, h2]
theorem isL_cells {n i : Nat} {P : Nat → List U} (h : i < n) : isL (cells n P) (.ref i) = true := by
  simp only [isL, rdL, cells_get h]
  rfl
theorem app_cells {n i : Nat} {P : Nat → List U} {x : U} (h : i < n) (hl : (P i).length < top) : lmU (cells n P) .append [.ref i, x] = .ok .non (cells n fun j => if j = i then P i ++ [x] else P j) := by
  simp only [lmU, cells_get h, if_pos hl, cells_set]
theorem refs_get {n i : Nat} (h : i < n) : ((List.range n).map U.ref)[i]? = some (.ref i) := by
  rw [List.getElem?_map, List.getElem?_range h]
  rfl
theorem ixU_nat {n i : Nat} (h : i < n) : ixU n (i : Int) = some i := by
  unfold ixU
  rw [if_pos (by omega), if_pos (by omega)]
  rfl
theorem walk_range0 {E : Env} {σ : Sl} {S : Sto} {e : IE} {i : Int} (he : evE E σ e S = .ok (.int i) S) (h : i < 1000000 ∧ -1000000 < i) : evI E σ (.wR1 e) S = .ok (rangeU 0 1 i.toNat) S := by
  rw [evI, he]
  simp only [R.bind]
  rw [if_pos h]
theorem walk_range {E : Env} {σ : Sl} {S : Sto} {e : IE} {n : Nat} (he : evE E σ e S = .ok (.int n) S) (hn : n < 1000000) : evI E σ (.wR1 e) S = .ok ((List.range n).map fun (i : Nat) => U.int i) S := by
  have := walk_range0 he ⟨by omega, by omega⟩
  rw [this, ← range0, Int.toNat_natCast]
theorem made_cells {E : Env} {σ : Sl} {t : IT} {e q : IE} {own : List Nat} {n : Nat} (he : evE E σ e [] = .ok (.int n) []) (hn : n < 1000000) (hb : ∀ x S, ∃ σ2, bindT S t [x] (wipeU σ own) = some σ2) :
    evN E σ (.comp t (.wR1 e) false q (.newM (.lst .nil)) own) [] = .ok ((List.range n).map .ref) (cells n fun _ => []) := by
  have rc : cells n (fun _ => []) = List.replicate n (.lst []) := by
    unfold cells
    rw [List.map_const', List.length_range]
  rw [evN, walk_range he hn]
  simp only [IE.isQ, Bool.false_and, Bool.false_eq_true, if_false, R.bind]
  have key := comp_cells (f := fun u S2 => match bindT S2 t [u] (wipeU σ own) with
        | some σ2 => match (evE E σ2 (.newM (.lst .nil)) S2) with
          | .ok r S4 => .ok (some r) S4
          | .ex c S => .ex c S
          | .bad => .bad
        | none => .bad) (x := []) (items := (List.range n).map fun (i : Nat) => U.int i) (S := []) fun x hx S => by
    obtain ⟨σ2, h⟩ := hb x S
    simp only [h, evE, evN, evL, R.bind]
    rfl
  rw [rc]
  rw [List.length_map, List.length_range] at key
  rw [List.range_eq_range']
  rw [List.range_eq_range'] at key
  exact key
def forB (E : Env) (t : IT) (body : IS) (u : U) (σ : Sl) (S : Sto) : R Fl := match bindT S t [u] σ with
  | some σ2 => exS body E σ2 S
  | none => .bad
theorem for_eq (t : IT) (it : IE) (body : IS) (E : Env) (σ : Sl) (S : Sto) : exS (.for t it body) E σ S = (evI E σ it S).bind fun items S1 => forGo (forB E t body) items σ S1 := by
  rw [exS]
  rfl
/-- found[i].append(x) -/
theorem app_at {E : Env} {σ : Sl} {n i : Nat} {P : Nat → List U} {a b c : Nat} {x : U} (ha : σ[a]? = some (some (.fl ((List.range n).map .ref)))) (hb : σ[b]? = some (some (.int i))) (hc : σ[c]? = some (some x)) (h : i < n) (hl : (P i).length < top) :
    exS (.expr (.lm .append (.ix (.v a) (.v b)) (.cons (.v c) .nil))) E σ (cells n P) = .ok (.nx σ) (cells n fun j => if j = i then P i ++ [x] else P j) := by
  simp only [exS, evE, evL, R.bind, ha, hb, hc, rdQ_fl, List.length_map, List.length_range, ixU_nat h, refs_get h, R.opt, isL_cells h, app_cells h hl]
theorem tie_bind {S : Sto} {i j : Nat} {t : Nat × Nat} {σ : Sl} : bindT S (.tp (.cons (.nm i) (.cons (.nm j) .nil))) [tieU t] σ = some ((σ.set i (some (.int t.1))).set j (some (.int t.2))) := rfl
theorem prt_le (ts : List (Nat × Nat)) (i : Nat) : (prt ts i).length ≤ ts.length := List.length_filterMap_le ..
theorem pr_loop {E : Env} {n : Nat} {v : U} {ts : List (Nat × Nat)} (w : Web n ts) (few : ts.length < 1000) (lu : Lst v (tiesU ts)) :
    ∃ x y, exS (.for (.tp (.cons (.nm 3) (.cons (.nm 4) .nil))) (.wL (.v 1)) (.seq (.expr (.lm .append (.ix (.v 2) (.v 3)) (.cons (.v 4) .nil))) (.seq (.expr (.lm .append (.ix (.v 2) (.v 4)) (.cons (.v 3) .nil))) .skip))) E
      [some (.int n), some v, some (.fl ((List.range n).map .ref)), none, none, none, none] (cells n fun _ => []) = .ok (.nx [some (.int n), some v, some (.fl ((List.range n).map .ref)), x, y, none, none]) (cells n fun i => (prt ts i).map .int) := by
  have it : evI E [some (.int n), some v, some (.fl ((List.range n).map .ref)), none, none, none, none] (.wL (.v 1)) (cells n fun _ => []) = .ok (tiesU ts) (cells n fun _ => []) := by rcases lu with rfl | rfl <;> rfl
  rw [for_eq, it]
  simp only [R.bind]
  obtain ⟨f, hf⟩ : ∃ f : U → Sl → Sto → R Fl, f = forB E (.tp (.cons (.nm 3) (.cons (.nm 4) .nil))) (.seq (.expr (.lm .append (.ix (.v 2) (.v 3)) (.cons (.v 4) .nil))) (.seq (.expr (.lm .append (.ix (.v 2) (.v 4)) (.cons (.v 3) .nil))) .skip)) := ⟨_, rfl⟩
  rw [← hf]
  have step : ∀ (ds : List (Nat × Nat)) (t : Nat × Nat) (x y : Option U), t.1 < t.2 → t.2 < n → ds.length < 1000 → f (tieU t) [some (.int n), some v, some (.fl ((List.range n).map .ref)), x, y, none, none] (cells n fun i => (prt ds i).map .int) =
      .ok (.nx [some (.int n), some v, some (.fl ((List.range n).map .ref)), some (.int t.1), some (.int t.2), none, none]) (cells n fun i => (prt (ds ++ [t]) i).map .int) := by
    intro ds t x y h1 h2 h3
    have tp : (1000 : Nat) < top := by decide
    have l0 := fun i => prt_le ds i
    rw [hf]
    unfold forB
    rw [tie_bind]
    simp only [List.set_cons_succ, List.set_cons_zero]
    rw [exS, app_at (i := t.1) (P := fun i => (prt ds i).map .int) rfl rfl rfl (by omega) (by have := l0 t.1; simp only [List.length_map]; omega)]
    simp only [R.bind]
    rw [exS, app_at (i := t.2) rfl rfl rfl h2 (by have := l0 t.2; have ne : ¬ t.2 = t.1 := (by omega); simp only [if_neg ne, List.length_map]; omega)]
    simp only [R.bind, exS]
    congr 1
    refine congrArg (cells n) (funext fun i => ?_)
    rw [prt_snoc]
    have ne : ¬ t.2 = t.1 := by omega
    by_cases e1 : i = t.1
    · subst e1
      simp [ne, Ne.symm ne]
    · by_cases e2 : i = t.2
      · subst e2
        simp [ne, Ne.symm ne]
      · have e1' : ¬ t.1 = i := fun z => e1 z.symm
        have e2' : ¬ t.2 = i := fun z => e2 z.symm
        simp [e1, e2, e1', e2']
  have all : ∀ (rs ds : List (Nat × Nat)) (x y : Option U), (∀ t ∈ rs, t.1 < t.2 ∧ t.2 < n) → (ds ++ rs).length < 1000 → ∃ x' y', forGo f (tiesU rs) [some (.int n), some v, some (.fl ((List.range n).map .ref)), x, y, none, none] (cells n fun i => (prt ds i).map .int) =
      .ok (.nx [some (.int n), some v, some (.fl ((List.range n).map .ref)), x', y', none, none]) (cells n fun i => (prt (ds ++ rs) i).map .int) := by
    intro rs
    induction rs with
    | nil => intro ds x y _ _; exact ⟨x, y, by rw [List.append_nil]; rfl⟩
    | cons t rs ih =>
      intro ds x y ht hl
      rw [List.length_append, List.length_cons] at hl
      have h := ht t List.mem_cons_self
      obtain ⟨x', y', e⟩ := ih (ds ++ [t]) (some (.int t.1)) (some (.int t.2)) (fun s hs => ht s (List.mem_cons_of_mem _ hs)) (by simp; omega)
      refine ⟨x', y', ?_⟩
      show forGo f (tieU t :: tiesU rs) _ _ = _
      rw [forGo, step ds t x y h.1 h.2 (by omega)]
      simp only [R.bind]
      rw [e, List.append_assoc]
      rfl
  exact all ts [] none none w.lt (by simpa using few)
end TWL
/-! TWp -/
set_option Elab.async false
set_option linter.all false
set_option maxRecDepth 100000
namespace TWL
open TW TWm
def besideU (n : Nat) (ts : List (Nat × Nat)) : List U := (List.range n).map fun i => .fl ((srtI (prt ts i)).map .int)
theorem sorted_ints (ns : List Int) : sortedU (ns.map .int) = some ((srtI ns).map .int) := by
  unfold sortedU
  rw [asInts]
theorem beside_ok (d : Nat) (m : Bool) {n : Nat} {ts : List (Nat × Nat)} {u v : U} (S : Sto) (hl : lend S ldep u = some v) (lu : Lst v (tiesU ts)) (h2 : n ≤ 40) (w : Web n ts) :
    callN Q (d + 1) m 4 [.int n, u] S = .ok (.fl (besideU n ts)) S := by
  rw [call_pm (D := D_beside) rfl rfl rfl (ws := [.int n, v]) (by simp [mapO, hl]; rfl)]
  obtain ⟨E, hE⟩ : ∃ E, E = Q.env (callN Q d) := ⟨_, rfl⟩
  rw [← hE]
  have few := key_ok h2 w
  have st : startU D_beside.ns [.int n, v] = [some (.int n), some v, none, none, none, none, none] := rfl
  rw [st]
  have c0 := made_cells (E := E) (σ := [some (.int n), some v, none, none, none, none, none]) (t := .nm 5) (e := .v 0) (q := .c (.bl true)) (own := [5]) (n := n) rfl (by omega) fun x S => ⟨_, rfl⟩
  obtain ⟨x, y, lp⟩ := pr_loop (E := E) w few lu
  have last : evN E [some (.int n), some v, some (.fl ((List.range n).map .ref)), x, y, none, none] (.comp (.nm 6) (.wL (.v 2)) false (.c (.bl true)) (.newF (.sorted (.v 6))) [6]) (cells n fun i => (prt ts i).map .int) =
      .ok (((List.range n).map U.ref).map fun z => match z with
        | .ref i => U.fl ((srtI (prt ts i)).map .int)
        | _ => .non) (cells n fun i => (prt ts i).map .int) := by
    refine comp_no rfl rfl fun z hz => ⟨[some (.int n), some v, some (.fl ((List.range n).map .ref)), x, y, none, some z], rfl, ?_⟩
    obtain ⟨i, hi, rfl⟩ := List.mem_map.mp hz
    have hi := List.mem_range.mp hi
    simp [evE, evN, R.bind, rdL, cells_get hi, sorted_ints, R.opt]
  have pu : pureL (besideU n ts) = true := pure_map (fun i => by rw [U.pure]; exact pure_map (fun _ => rfl) _) _
  have em : (((List.range n).map U.ref).map fun z => match z with
        | .ref i => U.fl ((srtI (prt ts i)).map .int)
        | _ => .non) = besideU n ts := by
    rw [List.map_map]
    rfl
  rw [em] at last
  unfold D_beside I_beside
  dsimp only
  rw [exS, exS, evE, c0]
  simp only [R.bind, bindT, Option.map_some, R.opt, List.set_cons_succ, List.set_cons_zero]
  rw [exS, lp]
  simp only [R.bind]
  rw [exS, exS, evE, last]
  simp only [R.bind, R.done, R.shut, U.pure, pu]
end TWL
/-! TWr -/
set_option Elab.async false
set_option linter.all false
set_option maxRecDepth 100000
namespace TWL
open TW TWm
/-! ### lists of ints: in, index -/
theorem toDs_int (S : Sto) (k : Nat) : ∀ ns : List Int, mapO (toD S (k + 1)) (ns.map .int) = some (ns.map Dt.int)
  | [] => rfl
  | n :: ns => by
    rw [List.map_cons, mapO, toDs_int S k ns]
    rfl
theorem toD_ints {S : Sto} {v : U} {ns : List Int} (h : Lst v (ns.map .int)) : toD S dep v = some (.lst (ns.map Dt.int)) := by
  have e := toDs_int S 28 ns
  rcases h with rfl | rfl
  · show (match mapO (toD S 29) (ns.map .int) with | some ds => some (Dt.lst ds) | none => none) = _
    rw [e]
  · show (match mapO (toD S 29) (ns.map .int) with | some ds => some (Dt.lst ds) | none => none) = _
    rw [e]
theorem any_pos (v : Int) : ∀ ns : List Int, ((ns.map Dt.int).any fun z => eqv z (.int v)) = (pos v ns).isSome
  | [] => rfl
  | n :: ns => by
    rw [List.map_cons, List.any_cons, any_pos v ns, pos]
    by_cases h : n = v
    · simp [eqv, h]
    · simp [eqv, h]
theorem idx_pos (v : Int) : ∀ ns : List Int, idxOf (.int v) (ns.map Dt.int) = pos v ns
  | [] => rfl
  | n :: ns => by
    rw [List.map_cons, idxOf, idx_pos v ns, pos]
    by_cases h : n = v
    · simp [eqv, h]
    · simp [eqv, h]
theorem in_ints {S : Sto} {w : U} {v : Int} {ns : List Int} (h : Lst w (ns.map .int)) : inU S (.int v) w = some (pos v ns).isSome := by
  unfold inU
  rw [toD_ints h]
  show some ((ns.map Dt.int).any fun z => eqv z (.int v)) = _
  rw [any_pos]
theorem index_ints {S : Sto} {w : U} {v : Int} {ns : List Int} (h : Lst w (ns.map .int)) : indexU S w (.int v) = pos v ns := by
  unfold indexU
  rw [toD_ints h]
  show idxOf (.int v) (ns.map Dt.int) = _
  rw [idx_pos]
/-! ### row_by -/
def lf (l : List Nat) : List U := l.map fun (p : Nat) => U.int p
def rowU (p : Nat × Bool) : U := .tup [.int p.1, .bl p.2]
def rst (left : List Nat) (fnd : List (Nat × Bool)) : Sto := [.lst (lf left), .lst (fnd.map rowU)]
def rsl (v : U) (lost : Int) (x : Option U) : Sl := [some v, some (.ref 0), some (.int lost), some (.ref 1), x, none]
section
variable {E : Env} {v : U} {cs : List Int} {left : List Nat} {lost : Int} {fnd : List (Nat × Bool)} {x : Option U}
abbrev nowOf (cs : List Int) (left : List Nat) (lost : Int) : List Int := left.map fun p => cs.getD p 0 - lost
theorem now_ok (lv : Lst v (cs.map .int)) (hl : ∀ p ∈ left, p < cs.length) :
    evN E (rsl v lost x) (.comp (.nm 5) (.wQ (.v 1)) false (.c (.bl true)) (.bin .sub (.ix (.v 0) (.v 5)) (.v 2)) [5]) (rst left fnd) = .ok ((nowOf cs left lost).map .int) (rst left fnd) := by
  have rq : rdQ (rst left fnd) v = some (cs.map .int) := by rcases lv with rfl | rfl <;> rfl
  have := comp_no (E := E) (σ := rsl v lost x) (t := .nm 5) (it := .wQ (.v 1)) (q := .c (.bl true)) (elt := .bin .sub (.ix (.v 0) (.v 5)) (.v 2)) (own := [5]) (S := rst left fnd) (items := lf left)
    (g := fun u => match u with | .int p => .int (cs.getD p.toNat 0 - lost) | _ => .non) rfl rfl fun u hu => by
      obtain ⟨p, hp, rfl⟩ := List.mem_map.mp hu
      refine ⟨[some v, some (.ref 0), some (.int lost), some (.ref 1), x, some (.int p)], rfl, ?_⟩
      have lt := hl p hp
      simp [evE, R.bind, rq, ixU_nat lt, R.opt, bopU, bopI, List.getElem?_eq_getElem lt]
  rw [this]
  congr 1
  unfold lf nowOf
  rw [List.map_map, List.map_map]
  exact List.map_congr_left fun p _ => by simp
theorem pop_left {i p : Nat} (hi : left[i]? = some p) : lmU (rst left fnd) .popAt [.ref 0, .int i] = .ok (.int p) (rst (left.eraseIdx i) fnd) := by
  have lt := (List.getElem?_eq_some_iff.mp hi).1
  have l1 : (lf left).length = left.length := List.length_map ..
  have g : (lf left)[i]? = some (.int p) := by unfold lf; rw [List.getElem?_map, hi]; rfl
  simp only [lmU, rst, List.getElem?_cons_zero, l1, ixU_nat lt, g, List.set_cons_zero]
  unfold lf
  rw [← erase_map]
theorem app_found {u : Nat × Bool} (hf : fnd.length < 1000) : lmU (rst left fnd) .append [.ref 1, rowU u] = .ok .non (rst left (fnd ++ [u])) := by
  have tp : (fnd.map rowU).length < top := by rw [List.length_map]; exact Nat.lt_trans hf (by decide)
  simp only [lmU, rst, List.getElem?_cons_succ, List.getElem?_cons_zero, if_pos tp, List.set_cons_succ, List.set_cons_zero, List.map_append, List.map_cons, List.map_nil]
def rbLen : IE := .bin .sub (.bi .len (.cons (.v 1) .nil)) (.c (.int 1))
def rbA : IS := .seq (.expr (.lm .append (.v 3) (.cons (.tup (.cons (.lm .popAt (.v 1) (.cons (.mc .index (.v 4) (.c (.int 0))) .nil)) (.cons (.c (.bl false)) .nil))) .nil))) .skip
def rbB : IS := .seq (.expr (.lm .append (.v 3) (.cons (.tup (.cons (.lm .popAt (.v 1) (.cons (.mc .index (.v 4) rbLen) .nil)) (.cons (.c (.bl true)) .nil))) .nil))) (.seq (.aug 2 .add (.c (.int 1))) .skip)
def rbBody : IS := .seq (.asg (.nm 4) (.newF (.comp (.nm 5) (.wQ (.v 1)) false (.c (.bl true)) (.bin .sub (.ix (.v 0) (.v 5)) (.v 2)) [5])))
  (.seq (.iff (.cmp .inn (.c (.int 0)) (.v 4)) rbA (.seq (.iff (.cmp .inn rbLen (.v 4)) rbB (.seq (.ret (.c .non)) .skip)) .skip)) .skip)
def rbTest : IE := .cmp .gt (.bi .len (.cons (.v 1) .nil)) (.c (.int 1))
theorem isL0 : isL (rst left fnd) (.ref 0) = true := rfl
theorem isL1 : isL (rst left fnd) (.ref 1) = true := rfl
theorem rd0 : rdQ (rst left fnd) (.ref 0) = some (lf left) := rfl
theorem lf_len : (lf left).length = left.length := List.length_map ..
theorem len_ok {y : Option U} : evE E (rsl v lost y) rbLen (rst left fnd) = .ok (.int ((left.length : Int) - 1)) (rst left fnd) := by
  simp [rbLen, evE, evL, R.bind, rsl, biU, rd0, lf_len, R.opt, bopU, bopI]
theorem pop_at {e : IE} {k : Int} {i p : Nat} {b : Bool} {ns : List Int} (he : evE E (rsl v lost (some (.fl (ns.map .int)))) e (rst left fnd) = .ok (.int k) (rst left fnd)) (hp : pos k ns = some i) (hi : left[i]? = some p) (hf : fnd.length < 1000) :
    exS (.expr (.lm .append (.v 3) (.cons (.tup (.cons (.lm .popAt (.v 1) (.cons (.mc .index (.v 4) e) .nil)) (.cons (.c (.bl b)) .nil))) .nil))) E (rsl v lost (some (.fl (ns.map .int)))) (rst left fnd) =
      .ok (.nx (rsl v lost (some (.fl (ns.map .int))))) (rst (left.eraseIdx i) (fnd ++ [(p, b)])) := by
  have g1 : (rsl v lost (some (.fl (ns.map .int))))[1]? = some (some (.ref 0)) := rfl
  have g3 : (rsl v lost (some (.fl (ns.map .int))))[3]? = some (some (.ref 1)) := rfl
  have g4 : (rsl v lost (some (.fl (ns.map .int))))[4]? = some (some (.fl (ns.map .int))) := rfl
  have ix : indexU (rst left fnd) (.fl (ns.map .int)) (.int k) = some i := (index_ints (.inl rfl)).trans hp
  have il : isL (rst left fnd) (.fl (ns.map .int)) = true := rfl
  have bi : biU E.P (rst left fnd) .index [.fl (ns.map .int), .int k] = some (.int i) := by
    simp only [biU, ix]
    rfl
  have two : (2 : Nat) < top := by decide
  have ap := app_found (left := left.eraseIdx i) (fnd := fnd) (u := (p, b)) hf
  unfold rowU at ap
  simp only [exS, evE, evL, R.bind, g1, g3, g4, isL0, isL1, il, he, bi, R.opt, pop_left hi, List.length_cons, List.length_nil, if_pos two, ap]
theorem rb_now (lv : Lst v (cs.map .int)) (hl : ∀ p ∈ left, p < cs.length) {s2 : IS} : exS (.seq (.asg (.nm 4) (.newF (.comp (.nm 5) (.wQ (.v 1)) false (.c (.bl true)) (.bin .sub (.ix (.v 0) (.v 5)) (.v 2)) [5]))) s2) E (rsl v lost x) (rst left fnd) =
    exS s2 E (rsl v lost (some (.fl ((nowOf cs left lost).map .int)))) (rst left fnd) := by
  rw [exS, exS, evE, now_ok lv hl]
  simp only [R.bind, bindT, Option.map_some, R.opt]
  rfl
theorem in_now {e : IE} {k : Int} {ns : List Int} (he : evE E (rsl v lost (some (.fl (ns.map .int)))) e (rst left fnd) = .ok (.int k) (rst left fnd)) :
    evE E (rsl v lost (some (.fl (ns.map .int)))) (.cmp .inn e (.v 4)) (rst left fnd) = .ok (.bl (pos k ns).isSome) (rst left fnd) := by
  have g4 : (rsl v lost (some (.fl (ns.map .int))))[4]? = some (some (.fl (ns.map .int))) := rfl
  have ii : inU (rst left fnd) (.int k) (.fl (ns.map .int)) = some (pos k ns).isSome := in_ints (.inl rfl)
  rw [evE, he]
  simp only [R.bind, evE, g4, cmpU, ii, Option.map_some, R.opt]
theorem rb_pop0 (lv : Lst v (cs.map .int)) (hl : ∀ p ∈ left, p < cs.length) {i p : Nat} (hp : pos 0 (nowOf cs left lost) = some i) (hi : left[i]? = some p) (hf : fnd.length < 1000) :
    exS rbBody E (rsl v lost x) (rst left fnd) = .ok (.nx (rsl v lost (some (.fl ((nowOf cs left lost).map .int))))) (rst (left.eraseIdx i) (fnd ++ [(p, false)])) := by
  unfold rbBody
  rw [rb_now lv hl, exS, exS, in_now (e := .c (.int 0)) (k := 0) rfl, hp]
  simp only [R.bind, Option.isSome_some]
  unfold rbA
  rw [exS, pop_at (k := 0) rfl hp hi hf]
  simp only [R.bind, exS]
theorem rb_pop1 (lv : Lst v (cs.map .int)) (hl : ∀ p ∈ left, p < cs.length) {i p : Nat} (h0 : pos 0 (nowOf cs left lost) = none) (hp : pos ((left.length : Int) - 1) (nowOf cs left lost) = some i) (hi : left[i]? = some p) (hf : fnd.length < 1000) :
    exS rbBody E (rsl v lost x) (rst left fnd) = .ok (.nx (rsl v (lost + 1) (some (.fl ((nowOf cs left lost).map .int))))) (rst (left.eraseIdx i) (fnd ++ [(p, true)])) := by
  unfold rbBody
  rw [rb_now lv hl, exS, exS, in_now (e := .c (.int 0)) (k := 0) rfl, h0]
  simp only [R.bind, Option.isSome_none]
  rw [exS, exS, in_now len_ok, hp]
  simp only [R.bind, Option.isSome_some]
  unfold rbB
  rw [exS, pop_at len_ok hp hi hf]
  simp only [R.bind]
  rw [exS, exS]
  simp only [rsl, List.getElem?_cons_succ, List.getElem?_cons_zero, evE, R.bind, exS, List.set_cons_succ, List.set_cons_zero]
theorem rb_none (lv : Lst v (cs.map .int)) (hl : ∀ p ∈ left, p < cs.length) (h0 : pos 0 (nowOf cs left lost) = none) (hp : pos ((left.length : Int) - 1) (nowOf cs left lost) = none) :
    exS rbBody E (rsl v lost x) (rst left fnd) = .ok (.rt .non) (rst left fnd) := by
  unfold rbBody
  rw [rb_now lv hl, exS, exS, in_now (e := .c (.int 0)) (k := 0) rfl, h0]
  simp only [R.bind, Option.isSome_none]
  rw [exS, exS, in_now len_ok, hp]
  simp only [R.bind, Option.isSome_none, exS, evE]
end
end TWL
/-! TWs2 -/
set_option Elab.async false
set_option linter.all false
set_option maxRecDepth 100000
namespace TWL
open TW TWm
/-- row_by's while -/
def rowLp (c : Nat → Int) : Nat → List Nat → Int → Option (List (Nat × Bool) × Nat × Int)
  | 0, left, lost => match left with
    | x :: _ => some ([], x, lost)
    | [] => none
  | k + 1, left, lost => match pos 0 (left.map fun p => c p - lost) with
    | some i => match left[i]? with
      | some x => (rowLp c k (left.eraseIdx i) lost).map fun r => ((x, false) :: r.1, r.2)
      | none => none
    | none => match pos (k + 1) (left.map fun p => c p - lost) with
      | some i => match left[i]? with
        | some x => (rowLp c k (left.eraseIdx i) (lost + 1)).map fun r => ((x, true) :: r.1, r.2)
        | none => none
      | none => none
def rowEnd (c : Nat → Int) (r : List (Nat × Bool) × Nat × Int) : Option (List (Nat × Bool)) := if c r.2.1 = r.2.2 then some (r.1 ++ [(r.2.1, false)]) else none
theorem end_cons {c : Nat → Int} {x : Nat × Bool} : ∀ o : Option (List (Nat × Bool) × Nat × Int), (o.map fun r => (x :: r.1, r.2)).bind (rowEnd c) = (o.bind (rowEnd c)).map (x :: ·)
  | none => rfl
  | some r => by
    simp only [Option.map_some, Option.bind_some, rowEnd]
    split <;> rfl
theorem rowGo_eq (c : Nat → Int) : ∀ k left lost, rowGo c k left lost = (rowLp c k left lost).bind (rowEnd c)
  | 0, [], lost => rfl
  | 0, x :: l, lost => rfl
  | k + 1, left, lost => by
    rw [rowGo, rowLp]
    cases h0 : pos 0 (left.map fun p => c p - lost) with
    | some i =>
      dsimp only
      cases hy : left[i]? with
      | some x =>
        dsimp only
        rw [end_cons, rowGo_eq c k]
      | none => rfl
    | none =>
      dsimp only
      cases h1 : pos (k + 1) (left.map fun p => c p - lost) with
      | some i =>
        dsimp only
        cases hy : left[i]? with
        | some x =>
          dsimp only
          rw [end_cons, rowGo_eq c k]
        | none => rfl
      | none => rfl
theorem whl_eq (k : Nat) (t : IE) (body : IS) (E : Env) (σ : Sl) (S : Sto) : exS (.whl k t body) E σ S = whlGo (fun σ S => evE E σ t S) (fun σ S => exS body E σ S) k σ S := by rw [exS]
section
variable {E : Env} {v : U} {cs : List Int}
theorem rb_test {left : List Nat} {lost : Int} {fnd : List (Nat × Bool)} {x : Option U} : evE E (rsl v lost x) rbTest (rst left fnd) = .ok (.bl (decide (1 < left.length))) (rst left fnd) := by
  have e : decide ((1 : Int) < (left.length : Int)) = decide (1 < left.length) := by
    by_cases h : 1 < left.length
    · rw [decide_eq_true h, decide_eq_true (by omega)]
    · rw [decide_eq_false h, decide_eq_false (by omega)]
  simp [rbTest, evE, evL, R.bind, rsl, biU, rd0, lf_len, R.opt, cmpU]
  omega
theorem rb_loop (lv : Lst v (cs.map .int)) : ∀ (k fuel : Nat) (left : List Nat) (lost : Int) (fnd : List (Nat × Bool)) (x : Option U), left.length = k + 1 → k < fuel → (∀ p ∈ left, p < cs.length) → fnd.length + k < 1000 →
    match rowLp (fun p => cs.getD p 0) k left lost with
    | none => ∃ S', whlGo (fun σ S => evE E σ rbTest S) (fun σ S => exS rbBody E σ S) fuel (rsl v lost x) (rst left fnd) = .ok (.rt .non) S'
    | some r => ∃ x', whlGo (fun σ S => evE E σ rbTest S) (fun σ S => exS rbBody E σ S) fuel (rsl v lost x) (rst left fnd) = .ok (.nx (rsl v r.2.2 x')) (rst [r.2.1] (fnd ++ r.1)) ∧ r.1.length = k ∧ r.2.1 < cs.length
  | 0, fuel + 1, left, lost, fnd, x, hl, _, hp, _ => by
    match left, hl with
    | [y], _ =>
      refine ⟨x, ?_, rfl, hp y List.mem_cons_self⟩
      rw [whlGo, rb_test]
      simp [R.bind]
  | k + 1, fuel + 1, left, lost, fnd, x, hl, hf, hp, hn => by
    have two : decide (1 < left.length) = true := decide_eq_true (by omega)
    have sub : ∀ i, ∀ p ∈ left.eraseIdx i, p < cs.length := fun i p h => hp p (List.mem_of_mem_eraseIdx h)
    unfold rowLp
    split
    · rename_i r1 e
      cases h0 : pos 0 (nowOf cs left lost) with
      | some i =>
        obtain ⟨y, hy, _⟩ := map_at (pos_some h0)
        rw [h0] at e
        simp only [hy] at e
        have ih := rb_loop lv k fuel (left.eraseIdx i) lost (fnd ++ [(y, false)]) (some (.fl ((nowOf cs left lost).map .int))) (by have := len_erase hy; omega) (by omega) (sub i) (by rw [List.length_append, List.length_singleton]; omega)
        cases hr : rowLp (fun p => cs.getD p 0) k (left.eraseIdx i) lost with
        | some r => rw [hr] at e; cases e
        | none =>
          rw [hr] at ih
          obtain ⟨S', h⟩ := ih
          refine ⟨S', ?_⟩
          rw [whlGo, rb_test, two]
          simp only [R.bind]
          rw [rb_pop0 lv hp h0 hy (by omega)]
          exact h
      | none =>
        rw [h0] at e
        dsimp only at e
        have e1 : ((left.length : Int) - 1) = (k : Int) + 1 := by omega
        cases h1 : pos ((k : Int) + 1) (nowOf cs left lost) with
        | none =>
          refine ⟨rst left fnd, ?_⟩
          rw [whlGo, rb_test, two]
          simp only [R.bind]
          rw [rb_none lv hp h0 (by rw [e1]; exact h1)]
        | some i =>
          obtain ⟨y, hy, _⟩ := map_at (pos_some h1)
          rw [h1] at e
          simp only [hy] at e
          have ih := rb_loop lv k fuel (left.eraseIdx i) (lost + 1) (fnd ++ [(y, true)]) (some (.fl ((nowOf cs left lost).map .int))) (by have := len_erase hy; omega) (by omega) (sub i) (by rw [List.length_append, List.length_singleton]; omega)
          cases hr : rowLp (fun p => cs.getD p 0) k (left.eraseIdx i) (lost + 1) with
          | some r => rw [hr] at e; cases e
          | none =>
            rw [hr] at ih
            obtain ⟨S', h⟩ := ih
            refine ⟨S', ?_⟩
            rw [whlGo, rb_test, two]
            simp only [R.bind]
            rw [rb_pop1 lv hp h0 (by rw [e1]; exact h1) hy (by omega)]
            exact h
    · rename_i r0 r e
      cases h0 : pos 0 (nowOf cs left lost) with
      | some i =>
        obtain ⟨y, hy, _⟩ := map_at (pos_some h0)
        rw [h0] at e
        simp only [hy] at e
        have ih := rb_loop lv k fuel (left.eraseIdx i) lost (fnd ++ [(y, false)]) (some (.fl ((nowOf cs left lost).map .int))) (by have := len_erase hy; omega) (by omega) (sub i) (by rw [List.length_append, List.length_singleton]; omega)
        cases hr : rowLp (fun p => cs.getD p 0) k (left.eraseIdx i) lost with
        | none => rw [hr] at e; cases e
        | some r2 =>
          rw [hr] at ih e
          cases e
          obtain ⟨x', h, h3, h4⟩ := ih
          refine ⟨x', ?_, by simp [h3], h4⟩
          rw [whlGo, rb_test, two]
          simp only [R.bind]
          rw [rb_pop0 lv hp h0 hy (by omega)]
          simp only
          rw [h, List.append_assoc]
          rfl
      | none =>
        rw [h0] at e
        dsimp only at e
        have e1 : ((left.length : Int) - 1) = (k : Int) + 1 := by omega
        cases h1 : pos ((k : Int) + 1) (nowOf cs left lost) with
        | none => rw [h1] at e; cases e
        | some i =>
          obtain ⟨y, hy, _⟩ := map_at (pos_some h1)
          rw [h1] at e
          simp only [hy] at e
          have ih := rb_loop lv k fuel (left.eraseIdx i) (lost + 1) (fnd ++ [(y, true)]) (some (.fl ((nowOf cs left lost).map .int))) (by have := len_erase hy; omega) (by omega) (sub i) (by rw [List.length_append, List.length_singleton]; omega)
          cases hr : rowLp (fun p => cs.getD p 0) k (left.eraseIdx i) (lost + 1) with
          | none => rw [hr] at e; cases e
          | some r2 =>
            rw [hr] at ih e
            cases e
            obtain ⟨x', h, h3, h4⟩ := ih
            refine ⟨x', ?_, by simp [h3], h4⟩
            rw [whlGo, rb_test, two]
            simp only [R.bind]
            rw [rb_pop1 lv hp h0 (by rw [e1]; exact h1) hy (by omega)]
            simp only
            rw [h, List.append_assoc]
            rfl
end
end TWL
/-! TWt2 -/
set_option Elab.async false
set_option linter.all false
set_option maxRecDepth 100000
namespace TWL
open TW TWm
theorem lrange0 {E : Env} {σ : Sl} {S S1 : Sto} {e : IE} {i : Int} (he : evE E σ e S = .ok (.int i) S1) (h : i < 1000000 ∧ -1000000 < i) : evN E σ (.lrange e) S = .ok (rangeU 0 1 i.toNat) S1 := by
  rw [evN, he]
  simp only [R.bind]
  rw [if_pos h]
theorem lrangeN {E : Env} {σ : Sl} {S S1 : Sto} {e : IE} {n : Nat} (he : evE E σ e S = .ok (.int n) S1) (hn : n < 1000000) : evN E σ (.lrange e) S = .ok ((List.range n).map fun (i : Nat) => U.int i) S1 := by
  have := lrange0 he ⟨by omega, by omega⟩
  rw [this, ← range0, Int.toNat_natCast]
section
variable {E : Env} {v : U} {cs : List Int}
/-- what follows row_by's while -/
def rbEnd : IS := .frz 1 (.seq (.iff (.cmp .ne (.ix (.v 0) (.ix (.v 1) (.c (.int 0)))) (.v 2)) (.seq (.ret (.c .non)) .skip) .skip)
  (.seq (.expr (.lm .append (.v 3) (.cons (.tup (.cons (.ix (.v 1) (.c (.int 0))) (.cons (.c (.bl false)) .nil))) .nil))) (.frz 3 (.seq (.ret (.newF (.rev (.v 3)))) .skip))))
theorem ix0 : ixU (0 + 1) 0 = some 0 := rfl
def re1 (v : U) (y : Nat) (lost : Int) (x : Option U) : Sl := [some v, some (.fl [.int y]), some (.int lost), some (.ref 1), x, none]
def re2 (fnd : List (Nat × Bool)) : Sto := [.dead, .lst (fnd.map rowU)]
theorem re_ix {y : Nat} {lost : Int} {x : Option U} {fnd : List (Nat × Bool)} : evE E (re1 v y lost x) (.ix (.v 1) (.c (.int 0))) (re2 fnd) = .ok (.int y) (re2 fnd) := rfl
theorem re_test (lv : Lst v (cs.map .int)) {y : Nat} (hy : y < cs.length) {lost : Int} {x : Option U} {fnd : List (Nat × Bool)} :
    evE E (re1 v y lost x) (.cmp .ne (.ix (.v 0) (.ix (.v 1) (.c (.int 0)))) (.v 2)) (re2 fnd) = .ok (.bl (!(cs.getD y 0 == lost))) (re2 fnd) := by
  have cy : (cs.map U.int)[y]? = some (.int (cs.getD y 0)) := by
    rw [List.getElem?_map, List.getElem?_eq_getElem hy, List.getD_eq_getElem?_getD, List.getElem?_eq_getElem hy]
    rfl
  have rq : rdQ (re2 fnd) v = some (cs.map .int) := by rcases lv with rfl | rfl <;> rfl
  have g0 : (re1 v y lost x)[0]? = some (some v) := rfl
  have g2 : (re1 v y lost x)[2]? = some (some (.int lost)) := rfl
  have ne : eqU (re2 fnd) (.int (cs.getD y 0)) (.int lost) = some (cs.getD y 0 == lost) := rfl
  have e0 : evE E (re1 v y lost x) (.v 0) (re2 fnd) = .ok v (re2 fnd) := by rw [evE, g0]
  rw [evE, evE, e0]
  simp only [R.bind]
  rw [re_ix]
  simp only [evE, g2, R.bind, rq, List.length_map, ixU_nat hy, cy, R.opt, cmpU, ne, Option.map_some]
theorem re_app {y : Nat} {lost : Int} {x : Option U} {fnd : List (Nat × Bool)} (hf : fnd.length < 1000) :
    exS (.expr (.lm .append (.v 3) (.cons (.tup (.cons (.ix (.v 1) (.c (.int 0))) (.cons (.c (.bl false)) .nil))) .nil))) E (re1 v y lost x) (re2 fnd) = .ok (.nx (re1 v y lost x)) (re2 (fnd ++ [(y, false)])) := by
  have tp : (fnd.map rowU).length < top := by rw [List.length_map]; exact Nat.lt_trans hf (by decide)
  have t2 : 0 + 1 + 1 < top := by decide
  have g3 : (re1 v y lost x)[3]? = some (some (.ref 1)) := rfl
  have il : isL (re2 fnd) (.ref 1) = true := rfl
  have ap : lmU (re2 fnd) .append [.ref 1, .tup [.int y, .bl false]] = .ok .non (re2 (fnd ++ [(y, false)])) := by
    simp only [lmU, re2, List.getElem?_cons_succ, List.getElem?_cons_zero, if_pos tp, List.set_cons_succ, List.set_cons_zero, List.map_append, List.map_cons, List.map_nil]
    rfl
  rw [exS, evE, evE, g3]
  simp only [R.bind, il]
  rw [evL, evE, evL, re_ix]
  simp only [R.bind, evL, evE, List.length_cons, List.length_nil, if_pos t2, ap]
theorem rb_end (lv : Lst v (cs.map .int)) {y : Nat} (hy : y < cs.length) {lost : Int} {x : Option U} {fnd : List (Nat × Bool)} (hf : fnd.length < 1000) :
    ∃ S', exS rbEnd E (rsl v lost x) (rst [y] fnd) = if cs.getD y 0 = lost then .ok (.rt (.fl ((fnd ++ [(y, false)]).reverse.map rowU))) S' else .ok (.rt .non) S' := by
  have fz : ∀ s, exS (.frz 1 s) E (rsl v lost x) (rst [y] fnd) = exS s E (re1 v y lost x) (re2 fnd) := fun s => by rw [exS]; rfl
  have fz3 : ∀ s f, exS (.frz 3 s) E (re1 v y lost x) (re2 f) = exS s E [some v, some (.fl [.int y]), some (.int lost), some (.fl (f.map rowU)), x, none] [.dead, .dead] := fun s f => by rw [exS]; rfl
  unfold rbEnd
  rw [fz, exS, exS, re_test lv hy]
  by_cases h : cs.getD y 0 = lost
  · refine ⟨[.dead, .dead], ?_⟩
    have eb : (cs.getD y 0 == lost) = true := by rw [h]; exact beq_self_eq_true _
    rw [if_pos h, eb]
    have sk : ∀ σ S, exS .skip E σ S = .ok (.nx σ) S := fun σ S => by rw [exS]
    simp only [R.bind, Bool.not_true, sk]
    rw [show ∀ s, exS (.seq (.expr (.lm .append (.v 3) (.cons (.tup (.cons (.ix (.v 1) (.c (.int 0))) (.cons (.c (.bl false)) .nil))) .nil))) s) E (re1 v y lost x) (re2 fnd) = exS s E (re1 v y lost x) (re2 (fnd ++ [(y, false)])) from fun s => by rw [exS, re_app hf]; rfl] <;> skip
    rw [fz3, exS, exS, evE, evN, evE]
    simp only [R.bind, List.getElem?_cons_succ, List.getElem?_cons_zero, rdL_fl, List.map_reverse]
  · refine ⟨re2 fnd, ?_⟩
    have eb : (cs.getD y 0 == lost) = false := by rw [beq_eq_false_iff_ne]; exact h
    rw [if_neg h, eb]
    simp only [R.bind, Bool.not_false, exS, evE]
end
end TWL
/-! TWu2 -/
set_option Elab.async false
set_option linter.all false
set_option maxRecDepth 100000
namespace TWL
open TW TWm
theorem pure_row (l : List (Nat × Bool)) : pureL (l.map rowU) = true := pure_map (fun _ => rfl) l
/-- row_by, as a function -/
def rowF (cs : List Int) : Option (List (Nat × Bool)) := (rowGo (fun p => cs.getD p 0) (cs.length - 1) (List.range cs.length) 0).map List.reverse
def rowR (cs : List Int) : U := match rowF cs with
  | some f => .fl (f.map rowU)
  | none => .non
theorem row_by_ok (d : Nat) (m : Bool) {cs : List Int} {u v : U} (S : Sto) (hl : lend S ldep u = some v) (lv : Lst v (cs.map .int)) (h1 : 1 ≤ cs.length) (h2 : cs.length ≤ 40) :
    callN Q (d + 1) m 5 [u] S = .ok (rowR cs) S := by
  rw [call_pm (D := D_row_by) rfl rfl rfl (ws := [v]) (by simp [mapO, hl])]
  obtain ⟨E, hE⟩ : ∃ E, E = Q.env (callN Q d) := ⟨_, rfl⟩
  rw [← hE]
  have body : D_row_by.body = .seq (.asg (.nm 1) (.newM (.lrange (.bi .len (.cons (.v 0) .nil))))) (.seq (.asg (.nm 2) (.c (.int 0))) (.seq (.asg (.nm 3) (.newM (.lst .nil))) (.seq (.whl 100 rbTest rbBody) rbEnd))) := rfl
  have st : startU D_row_by.ns [v] = [some v, none, none, none, none, none] := rfl
  rw [body, st]
  have rq : rdQ [] v = some (cs.map .int) := by rcases lv with rfl | rfl <;> rfl
  have len : evE E [some v, none, none, none, none, none] (.bi .len (.cons (.v 0) .nil)) [] = .ok (.int (cs.length : Nat)) [] := by
    simp only [evE, evL, R.bind, List.getElem?_cons_zero, biU, rq, Option.map_some, R.opt, List.length_map]
  have s1 : ∀ s, exS (.seq (.asg (.nm 1) (.newM (.lrange (.bi .len (.cons (.v 0) .nil))))) (.seq (.asg (.nm 2) (.c (.int 0))) (.seq (.asg (.nm 3) (.newM (.lst .nil))) s))) E [some v, none, none, none, none, none] [] = exS s E (rsl v 0 none) (rst (List.range cs.length) []) := by
    intro s
    rw [exS, exS, evE, lrangeN len (by omega)]
    simp only [R.bind, bindT, Option.map_some, R.opt]
    rw [exS, exS, evE]
    simp only [R.bind, bindT, Option.map_some, R.opt]
    rw [exS, exS, evE, evN, evL]
    have tp : (0 : Nat) < top := by decide
    simp only [R.bind, bindT, Option.map_some, R.opt, List.length_nil, if_pos tp]
    rfl
  rw [s1, exS, whl_eq]
  have loop := rb_loop (E := E) lv (cs.length - 1) 100 (List.range cs.length) 0 [] none (by rw [List.length_range]; omega) (by omega) (fun p hp => List.mem_range.mp hp) (by simp; omega)
  have eq := rowGo_eq (fun p => cs.getD p 0) (cs.length - 1) (List.range cs.length) 0
  unfold rowR rowF
  cases hr : rowLp (fun p => cs.getD p 0) (cs.length - 1) (List.range cs.length) 0 with
  | none =>
    rw [hr] at loop eq
    obtain ⟨S', e⟩ := loop
    rw [e, eq]
    rfl
  | some r =>
    rw [hr] at loop eq
    obtain ⟨x', e, h3, h4⟩ := loop
    rw [e, eq]
    simp only [R.bind, List.nil_append, Option.bind_some]
    obtain ⟨S', e2⟩ := rb_end (E := E) lv h4 (lost := r.2.2) (x := x') (fnd := r.1) (by omega)
    rw [e2]
    unfold rowEnd
    by_cases h : cs.getD r.2.1 0 = r.2.2
    · rw [if_pos h, if_pos h]
      simp only [R.done, Option.map_some]
      unfold R.shut
      simp only [U.pure, pure_row]
    · rw [if_neg h, if_neg h]
      rfl
/-! ### row_in -/
def degs (n : Nat) (ts : List (Nat × Nat)) : List Int := (List.range n).map fun i => (tdeg ts i : Int)
theorem degs_len (n : Nat) (ts : List (Nat × Nat)) : (degs n ts).length = n := by unfold degs; simp
theorem isNon {S : Sto} {u : U} : (match u with | .non => true | .fl _ => true | _ => false) = true → ∃ b, isU u .non = some b := by
  intro h
  cases u <;> first | cases h | skip
  · exact ⟨true, rfl⟩
  · exact ⟨false, rfl⟩
theorem row_in_ok (d : Nat) (m : Bool) {n : Nat} {ts : List (Nat × Nat)} {u v : U} (S : Sto) (hl : lend S ldep u = some v) (lu : Lst v (tiesU ts)) (h1 : 1 ≤ n) (h2 : n ≤ 40) (w : Web n ts) (nr : noRefL (tiesU ts) = true) :
    callN Q (d + 4) m 6 [.int n, u] S = match rowF (degs n ts) with
      | some f => .ok (.fl (f.map rowU)) S
      | none => .ex 6 S := by
  rw [call_pm (D := D_row_in) rfl rfl rfl (ws := [.int n, v]) (by simp [mapO, hl]; rfl)]
  have lv : lend [] ldep v = some v := by
    rcases lu with rfl | rfl
    · unfold lend; simp [U.noRef, nr]
    · unfold lend; simp [U.noRef, nr]
  have cw := check_web_ok d false (n := n) (u := v) [] lv lu h1 h2 w
  have bs := beside_ok (d + 2) false (n := n) (u := v) [] lv lu h2 w
  have st : startU D_row_in.ns [.int n, v] = [some (.int n), some v, none, none] := rfl
  rw [st]
  obtain ⟨c, hc⟩ : ∃ c, c = callN Q (d + 3) := ⟨_, rfl⟩
  rw [← hc] at cw bs ⊢
  have lens : evN (Q.env c) [some (.int n), some v, none, none] (.comp (.nm 3) (.wL (.callD false 4 (.cons (.v 0) (.cons (.v 1) .nil)))) false (.c (.bl true)) (.bi .len (.cons (.v 3) .nil)) [3]) [] = .ok ((degs n ts).map .int) [] := by
    have it : evI (Q.env c) [some (.int n), some v, none, none] (.wL (.callD false 4 (.cons (.v 0) (.cons (.v 1) .nil)))) [] = .ok (besideU n ts) [] := by
      simp [evI, evE, evL, R.bind, env_okf, env_call, show (Q.df 4).isSome = true from rfl, bs]
    have := comp_no (q := .c (.bl true)) (own := [3]) (t := .nm 3) (elt := .bi .len (.cons (.v 3) .nil)) (g := fun z => match z with | .fl us => .int us.length | _ => .non) rfl it fun z hz => by
      obtain ⟨i, hi, rfl⟩ := List.mem_map.mp hz
      refine ⟨[some (.int n), some v, none, some (.fl ((srtI (prt ts i)).map .int))], rfl, ?_⟩
      simp [evE, evL, R.bind, biU, rdQ_fl, R.opt]
    rw [this]
    congr 1
    unfold besideU degs
    rw [List.map_map, List.map_map]
    refine List.map_congr_left fun i _ => ?_
    show U.int (((srtI (prt ts i)).map U.int).length : Nat) = U.int (tdeg ts i : Nat)
    rw [List.length_map, (srtI_perm _).length_eq, prt_len]
  have nl : ∀ (l : List Int), noRefL (l.map U.int) = true := by
    intro l
    induction l with
    | nil => rfl
    | cons a l ih => rw [List.map_cons, noRefL, ih]; rfl
  have rb := row_by_ok (d + 2) false (cs := degs n ts) (u := .fl ((degs n ts).map .int)) (v := .fl ((degs n ts).map .int)) [] (by unfold lend; simp [U.noRef, nl]) (.inl rfl) (by rw [degs_len]; exact h1) (by rw [degs_len]; exact h2)
  rw [← hc] at rb
  unfold D_row_in I_row_in
  dsimp only
  have o3 : (Q.df 3).isSome = true := rfl
  have o5 : (Q.df 5).isSome = true := rfl
  unfold rowR at rb
  cases hr : rowF (degs n ts) with
  | none =>
    rw [hr] at rb
    simp [exS, evE, evL, R.bind, env_okf, env_call, o3, o5, cw, lens, rb, bindT, R.opt, cmpU, isU, R.done, R.shut]
  | some f =>
    rw [hr] at rb
    simp [exS, evE, evL, R.bind, env_okf, env_call, o3, o5, cw, lens, rb, bindT, R.opt, cmpU, isU, R.done, R.shut, U.pure, pure_row]
end TWL
/-! TWv2 -/
set_option Elab.async false
set_option linter.all false
set_option maxRecDepth 100000
namespace TWL
open TW TWm
/-! ### number_of -/
def numF : Nat → List (Nat × Bool) → Int
  | _, [] => 0
  | k, p :: r => (if p.2 then 2 ^ (k - 1) else 0) + numF (k + 1) r
theorem shl_ok {E : Env} {σ : Sl} {S : Sto} {a : Nat} {i : Int} (ha : σ[a]? = some (some (.int i))) (h : 0 ≤ i - 1 ∧ i - 1 ≤ 1000000) :
    evE E σ (.bin .shl (.c (.int 1)) (.bin .sub (.v a) (.c (.int 1)))) S = .ok (.int (2 ^ (i - 1).toNat)) S := by
  have g : 0 ≤ i - 1 ∧ i - 1 ≤ 1000000 ∧ (1 : Int).natAbs < 2 ^ 64 := ⟨h.1, h.2, by decide⟩
  simp only [evE, R.bind, ha, bopU, bopI, Option.map_some, R.opt]
  rw [if_pos g]
  simp
theorem en_bind {S : Sto} {k : Nat} {p : Nat × Bool} {a b c d e g : Option U} : bindT S (.tp (.cons (.nm 3) (.cons (.tp (.cons (.nm 4) (.cons (.nm 5) .nil))) .nil))) [.tup [.int k, rowU p]] [a, b, c, d, e, g] = some [a, b, c, some (.int k), some (.int p.1), some (.bl p.2)] := rfl
def noBody : IS := .seq (.iff (.v 5) (.seq (.aug 2 .add (.bin .shl (.c (.int 1)) (.bin .sub (.v 3) (.c (.int 1))))) .skip) .skip) .skip
theorem no_step {E : Env} {S : Sto} {a b d e g : Option U} {k : Nat} {c : Int} {p : Nat × Bool} (h : p.2 = true → 1 ≤ k) (hk : k < 1000) :
    forB E (.tp (.cons (.nm 3) (.cons (.tp (.cons (.nm 4) (.cons (.nm 5) .nil))) .nil))) noBody (.tup [.int k, rowU p]) [a, b, some (.int c), d, e, g] S =
      .ok (.nx [a, b, some (.int (c + if p.2 then 2 ^ (k - 1) else 0)), some (.int k), some (.int p.1), some (.bl p.2)]) S := by
  unfold forB
  rw [en_bind]
  dsimp only
  unfold noBody
  have sk : ∀ σ S, exS .skip E σ S = .ok (.nx σ) S := fun σ S => by rw [exS]
  cases hb : p.2 with
  | true =>
    have k1 := h hb
    have e : ((k : Int) - 1).toNat = k - 1 := by omega
    have sh := shl_ok (E := E) (S := S) (σ := [a, b, some (.int c), some (.int k), some (.int p.1), some (.bl true)]) (a := 3) (i := k) rfl ⟨by omega, by omega⟩
    rw [e] at sh
    rw [exS, exS, evE]
    simp only [List.getElem?_cons_succ, List.getElem?_cons_zero, R.bind]
    rw [exS, exS]
    simp only [List.getElem?_cons_succ, List.getElem?_cons_zero, sh, R.bind, sk, List.set_cons_succ, List.set_cons_zero, if_true]
  | false =>
    rw [exS, exS, evE]
    simp only [List.getElem?_cons_succ, List.getElem?_cons_zero, R.bind, sk, Bool.false_eq_true, if_false, Int.add_zero]
theorem no_loop {E : Env} {S : Sto} {a b : Option U} : ∀ (f : List (Nat × Bool)) (k : Nat) (c : Int) (d e g : Option U), (∀ p r, f = p :: r → p.2 = true → 1 ≤ k) → k + f.length < 1000 → ∃ d' e' g', forGo (forB E (.tp (.cons (.nm 3) (.cons (.tp (.cons (.nm 4) (.cons (.nm 5) .nil))) .nil))) noBody) (enumU k (f.map rowU)) [a, b, some (.int c), d, e, g] S =
    .ok (.nx [a, b, some (.int (c + numF k f)), d', e', g']) S
  | [], k, c, d, e, g, _, _ => ⟨d, e, g, by rw [numF, Int.add_zero]; rfl⟩
  | p :: r, k, c, d, e, g, h, hk => by
    rw [List.length_cons] at hk
    obtain ⟨d', e', g', q⟩ := no_loop (E := E) (S := S) (a := a) (b := b) r (k + 1) (c + if p.2 then 2 ^ (k - 1) else 0) (some (.int k)) (some (.int p.1)) (some (.bl p.2)) (fun _ _ _ _ => by omega) (by omega)
    refine ⟨d', e', g', ?_⟩
    rw [List.map_cons, enumU, forGo, no_step (h p r rfl) (by omega)]
    simp only [R.bind]
    rw [q, numF, Int.add_assoc]
theorem row_first {cs : List Int} {f : List (Nat × Bool)} (h : rowF cs = some f) : ∃ y r, f = (y, false) :: r := by
  unfold rowF at h
  rw [rowGo_eq] at h
  cases e : rowLp (fun p => cs.getD p 0) (cs.length - 1) (List.range cs.length) 0 with
  | none => rw [e] at h; cases h
  | some q =>
    rw [e] at h
    simp only [Option.bind_some, rowEnd] at h
    split at h
    · cases h
      exact ⟨q.2.1, q.1.reverse, by simp⟩
    · cases h
theorem rowGo_len {c : Nat → Int} : ∀ (k : Nat) (left : List Nat) (lost : Int) (f : List (Nat × Bool)), rowGo c k left lost = some f → f.length = k + 1
  | 0, left, lost, f, h => by
    match left with
    | [] => cases h
    | x :: l =>
      have h' : (if c x = lost then some [(x, false)] else none) = some f := h
      split at h'
      · cases h'; rfl
      · cases h'
  | k + 1, left, lost, f, h => by
    unfold rowGo at h
    split at h
    · split at h
      · obtain ⟨g, hg, rfl⟩ := Option.map_eq_some_iff.mp h
        rw [List.length_cons, rowGo_len k _ _ g hg]
      · cases h
    · split at h
      · split at h
        · obtain ⟨g, hg, rfl⟩ := Option.map_eq_some_iff.mp h
          rw [List.length_cons, rowGo_len k _ _ g hg]
        · cases h
      · cases h
theorem number_of_ok (d : Nat) (m : Bool) {n : Nat} {ts : List (Nat × Nat)} {u v : U} (S : Sto) (hl : lend S ldep u = some v) (lu : Lst v (tiesU ts)) (h1 : 1 ≤ n) (h2 : n ≤ 40) (w : Web n ts) (nr : noRefL (tiesU ts) = true) :
    callN Q (d + 5) m 26 [.int n, u] S = match rowF (degs n ts) with
      | some f => .ok (.int (numF 0 f)) S
      | none => .ex 6 S := by
  rw [call_pm (D := D_number_of) rfl rfl rfl (ws := [.int n, v]) (by simp [mapO, hl]; rfl)]
  have lv : lend [] ldep v = some v := by
    rcases lu with rfl | rfl
    · unfold lend; simp [U.noRef, nr]
    · unfold lend; simp [U.noRef, nr]
  have ri := row_in_ok d false (n := n) (u := v) [] lv lu h1 h2 w nr
  have st : startU D_number_of.ns [.int n, v] = [some (.int n), some v, none, none, none, none] := rfl
  have body : D_number_of.body = .seq (.asg (.nm 2) (.c (.int 0))) (.seq (.for (.tp (.cons (.nm 3) (.cons (.tp (.cons (.nm 4) (.cons (.nm 5) .nil))) .nil))) (.wEn (.callD false 6 (.cons (.v 0) (.cons (.v 1) .nil)))) noBody) (.seq (.ret (.v 2)) .skip)) := rfl
  rw [st, body]
  obtain ⟨c, hc⟩ : ∃ c, c = callN Q (d + 4) := ⟨_, rfl⟩
  rw [← hc] at ri ⊢
  have o6 : (Q.df 6).isSome = true := rfl
  rw [exS, exS, evE]
  simp only [R.bind, bindT, Option.map_some, R.opt, List.set_cons_succ, List.set_cons_zero]
  rw [exS, for_eq]
  cases hr : rowF (degs n ts) with
  | none =>
    rw [hr] at ri
    have it : evI (Q.env c) [some (.int n), some v, some (.int 0), none, none, none] (.wEn (.callD false 6 (.cons (.v 0) (.cons (.v 1) .nil)))) [] = .ex 6 [] := by
      simp [evI, evE, evL, R.bind, env_okf, env_call, o6, ri]
    rw [it]
    rfl
  | some f =>
    rw [hr] at ri
    have it : evI (Q.env c) [some (.int n), some v, some (.int 0), none, none, none] (.wEn (.callD false 6 (.cons (.v 0) (.cons (.v 1) .nil)))) [] = .ok (enumU 0 (f.map rowU)) [] := by
      simp [evI, evE, evL, R.bind, env_okf, env_call, o6, ri]
    obtain ⟨y, r, hf⟩ := row_first hr
    have fl : f.length ≤ 40 := by
      unfold rowF at hr
      obtain ⟨g, hg, rfl⟩ := Option.map_eq_some_iff.mp hr
      rw [List.length_reverse, rowGo_len _ _ _ g hg, degs_len]
      omega
    obtain ⟨x1, x2, x3, lp⟩ := no_loop (E := Q.env c) (S := []) (a := some (.int n)) (b := some v) f 0 0 none none none (fun p q e hp => by rw [hf] at e; cases e; cases hp) (by omega)
    rw [it]
    simp only [R.bind]
    rw [lp]
    simp only [exS, evE, R.bind, List.getElem?_cons_succ, List.getElem?_cons_zero, Int.zero_add, R.done, R.shut, U.pure]
end TWL
/-! TWmd -/
set_option linter.all false
namespace TWm
/-! ### kinds -/
def kindT (b : Nat → Bool) : Nat → List (Nat × Nat)
  | 0 => []
  | k + 1 => kindT b k ++ if b k then (List.range k).map fun i => (i, k) else []
theorem kindT_lt {b : Nat → Bool} : ∀ {k : Nat} {t : Nat × Nat}, t ∈ kindT b k → t.1 < t.2 ∧ t.2 < k
  | k + 1, t, h => by
    unfold kindT at h
    rcases List.mem_append.mp h with h | h
    · have := kindT_lt h
      omega
    · split at h
      · obtain ⟨i, hi, rfl⟩ := List.mem_map.mp h
        have := List.mem_range.mp hi
        exact ⟨this, Nat.lt_succ_self _⟩
      · cases h
theorem kindT_web (b : Nat → Bool) : ∀ n, Web n (kindT b n)
  | 0 => ⟨fun t h => (nomatch h), .nil⟩
  | n + 1 => by
    refine ⟨fun t h => kindT_lt h, ?_⟩
    unfold kindT
    refine List.nodup_append.mpr ⟨(kindT_web b n).nd, ?_, fun x hx y hy => ?_⟩
    · split
      · exact List.pairwise_map.mpr (List.nodup_range.imp fun {i j} ne e => ne (by simpa using e))
      · exact .nil
    · have h1 := kindT_lt hx
      split at hy
      · obtain ⟨i, hi, rfl⟩ := List.mem_map.mp hy
        rintro rfl
        simp at h1
      · cases hy
theorem tdeg_append (a b : List (Nat × Nat)) (i : Nat) : tdeg (a ++ b) i = tdeg a i + tdeg b i := List.countP_append
theorem tdeg_star_in {k i : Nat} (h : i < k) : tdeg ((List.range k).map fun j => (j, k)) i = 1 := by
  unfold tdeg
  rw [List.countP_map]
  have e : (List.range k).countP ((fun t : Nat × Nat => decide (t.1 = i) || decide (t.2 = i)) ∘ fun j => (j, k)) = (List.range k).countP (fun j => false) + 1 := by
    refine count_one List.nodup_range (x := i) (List.mem_range.mpr h) rfl (by simp) fun w hw => ?_
    have : ¬ k = i := by omega
    simp [hw, this]
  rw [e]
  simp
theorem tdeg_star_top (k : Nat) : tdeg ((List.range k).map fun j => (j, k)) k = k := by
  unfold tdeg
  rw [List.countP_map]
  have : (List.range k).countP ((fun t : Nat × Nat => decide (t.1 = k) || decide (t.2 = k)) ∘ fun j => (j, k)) = (List.range k).length := List.countP_eq_length.mpr fun x _ => by simp
  rw [this, List.length_range]
theorem tdeg_above {b : Nat → Bool} {k i : Nat} (h : k ≤ i) : tdeg (kindT b k) i = 0 := by
  unfold tdeg
  rw [List.countP_eq_zero]
  intro t ht
  have := kindT_lt ht
  simp
  omega
def dgs (n : Nat) (ts : List (Nat × Nat)) : List Int := (List.range n).map fun i => (tdeg ts i : Int)
theorem kind_E (b : Nat → Bool) : ∀ n, (dgs n (kindT b n)).Perm (E b n)
  | 0 => .nil
  | n + 1 => by
    have ih := kind_E b n
    unfold dgs at ih ⊢
    rw [List.range_succ, List.map_append]
    unfold E kindT
    split
    · rename_i hb
      have e1 : (List.range n).map (fun i => (tdeg (kindT b n ++ (List.range n).map fun i => (i, n)) i : Int)) = ((List.range n).map fun i => (tdeg (kindT b n) i : Int)).map (· + 1) := by
        rw [List.map_map]
        refine List.map_congr_left fun i hi => ?_
        rw [tdeg_append, tdeg_star_in (List.mem_range.mp hi)]
        simp
      have e2 : tdeg (kindT b n ++ (List.range n).map fun i => (i, n)) n = n := by rw [tdeg_append, tdeg_star_top, tdeg_above (Nat.le_refl _)]; omega
      rw [e1, List.map_cons, e2]
      exact (List.perm_append_singleton _ _).trans ((ih.map _).cons _)
    · have e1 : (List.range n).map (fun i => (tdeg (kindT b n ++ []) i : Int)) = (List.range n).map fun i => (tdeg (kindT b n) i : Int) := by rw [List.append_nil]
      have e2 : tdeg (kindT b n ++ []) n = 0 := by rw [List.append_nil]; exact tdeg_above (Nat.le_refl _)
      rw [e1, List.map_cons, e2]
      exact (List.perm_append_singleton _ _).trans (ih.cons _)
theorem tdeg_perm {a b : List (Nat × Nat)} (h : a.Perm b) (i : Nat) : tdeg a i = tdeg b i := h.countP_eq _
/-! ### renumbered -/
def turn (f : Nat → Nat) (t : Nat × Nat) : Nat × Nat := (min (f t.1) (f t.2), max (f t.1) (f t.2))
theorem turn_deg {f : Nat → Nat} {n : Nat} (inj : ∀ i j, i < n → j < n → f i = f j → i = j) {ts : List (Nat × Nat)} (w : ∀ t ∈ ts, t.1 < n ∧ t.2 < n) {i : Nat} (hi : i < n) : tdeg (ts.map (turn f)) (f i) = tdeg ts i := by
  unfold tdeg
  rw [List.countP_map]
  refine List.countP_congr fun t ht => ?_
  obtain ⟨h1, h2⟩ := w t ht
  have k1 : f t.1 = f i ↔ t.1 = i := ⟨inj _ _ h1 hi, fun e => by rw [e]⟩
  have k2 : f t.2 = f i ↔ t.2 = i := ⟨inj _ _ h2 hi, fun e => by rw [e]⟩
  show (decide ((turn f t).1 = f i) || decide ((turn f t).2 = f i)) = true ↔ (decide (t.1 = i) || decide (t.2 = i)) = true
  rw [Bool.or_eq_true, Bool.or_eq_true, decide_eq_true_iff, decide_eq_true_iff, decide_eq_true_iff, decide_eq_true_iff, ← k1, ← k2]
  show min (f t.1) (f t.2) = f i ∨ max (f t.1) (f t.2) = f i ↔ _
  rcases Nat.le_total (f t.1) (f t.2) with h | h
  · rw [Nat.min_eq_left h, Nat.max_eq_right h]
  · rw [Nat.min_eq_right h, Nat.max_eq_left h]
    exact Or.comm
theorem turn_perm {o : List Nat} {n : Nat} (ho : o.Perm (List.range n)) {ts : List (Nat × Nat)} (w : ∀ t ∈ ts, t.1 < n ∧ t.2 < n) : (dgs n (ts.map (turn fun i => o.getD i 0))).Perm (dgs n ts) := by
  have len : o.length = n := by rw [ho.length_eq, List.length_range]
  have nd : o.Nodup := ho.nodup_iff.mpr List.nodup_range
  have gd : ∀ i, (h : i < n) → o.getD i 0 = o[i]'(by omega) := fun i h => by rw [List.getD_eq_getElem?_getD, List.getElem?_eq_getElem (by omega)]; rfl
  have inj : ∀ i j, i < n → j < n → o.getD i 0 = o.getD j 0 → i = j := fun i j hi hj e => by
    rw [gd i hi, gd j hj] at e
    have pw := List.pairwise_iff_getElem.mp nd
    rcases Nat.lt_trichotomy i j with c | c | c
    · exact absurd e (pw i j (by omega) (by omega) c)
    · exact c
    · exact absurd e.symm (pw j i (by omega) (by omega) c)
  have p1 := ho.map fun i => (tdeg (ts.map (turn fun i => o.getD i 0)) i : Int)
  refine p1.symm.trans ?_
  have e : o.map (fun i => (tdeg (ts.map (turn fun i => o.getD i 0)) i : Int)) = dgs n ts := by
    unfold dgs
    refine List.ext_getElem (by simp [len]) fun i h1 h2 => ?_
    simp only [List.length_map, len] at h1
    simp only [List.getElem_map, List.getElem_range]
    rw [← gd i h1, turn_deg inj w h1]
  rw [e]
/-! ### numbers -/
def bit (N p : Nat) : Bool := decide (1 ≤ p) && decide (N / 2 ^ (p - 1) % 2 = 1)
def numB : Nat → List Bool → Int
  | _, [] => 0
  | k, p :: r => (if p then 2 ^ (k - 1) else 0) + numB (k + 1) r
theorem numB_append : ∀ (a b : List Bool) (k : Nat), numB k (a ++ b) = numB k a + numB (k + a.length) b
  | [], b, k => by simp [numB]
  | x :: a, b, k => by
    rw [List.cons_append, numB, numB, numB_append a b (k + 1), List.length_cons]
    rw [show k + 1 + a.length = k + (a.length + 1) by omega]
    omega
theorem numB_bits (N : Nat) : ∀ m, numB 0 ((List.range (m + 1)).map (bit N)) = ((N % 2 ^ m : Nat) : Int)
  | 0 => by simp [numB, bit, Nat.mod_one]
  | m + 1 => by
    rw [List.range_succ, List.map_append, numB_append, numB_bits N m]
    simp only [List.length_map, List.length_range, Nat.zero_add, List.map_cons, List.map_nil, numB, Int.add_zero, Nat.add_sub_cancel]
    have md : N % 2 ^ (m + 1) = N % 2 ^ m + 2 ^ m * (N / 2 ^ m % 2) := by rw [Nat.pow_succ, Nat.mod_mul]
    rw [md]
    unfold bit
    simp only [Nat.add_sub_cancel, Nat.le_add_left, decide_true, Bool.true_and, decide_eq_true_eq]
    rcases Nat.mod_two_eq_zero_or_one (N / 2 ^ m) with h | h
    · rw [h]
      simp
    · rw [h]
      simp
end TWm
/-! TWw2 -/
set_option Elab.async false
set_option linter.all false
set_option maxRecDepth 100000
namespace TWL
open TW TWm
theorem degs_eq (n : Nat) (ts : List (Nat × Nat)) : degs n ts = dgs n ts := rfl
theorem degs_at {n i : Nat} (ts : List (Nat × Nat)) (h : i < n) : (degs n ts).getD i 0 = (tdeg ts i : Int) := by
  unfold degs
  rw [List.getD_eq_getElem?_getD, List.getElem?_map, List.getElem?_range h]
  rfl
theorem degs_map (n : Nat) (ts : List (Nat × Nat)) : (List.range n).map (fun p => (degs n ts).getD p 0 - 0) = degs n ts := by
  have : (List.range n).map (fun p => (degs n ts).getD p 0 - 0) = (List.range n).map fun i => (tdeg ts i : Int) := List.map_congr_left fun i hi => by
    rw [degs_at ts (List.mem_range.mp hi), Int.sub_zero]
  rw [this]
  rfl
theorem numF_B : ∀ (f : List (Nat × Bool)) (k : Nat), numF k f = numB k (f.map (·.2))
  | [], _ => rfl
  | p :: r, k => by rw [numF, List.map_cons, numB, numF_B r (k + 1)]
/-- a web with the counts of a kind has the kind's number -/
theorem kind_number {n N : Nat} {ts : List (Nat × Nat)} (h1 : 1 ≤ n) (hN : N < 2 ^ (n - 1)) (h : (degs n ts).Perm (TWm.E (bit N) n)) : ∃ f, rowF (degs n ts) = some f ∧ numF 0 f = N := by
  have b0 : bit N 0 = false := rfl
  obtain ⟨k, rfl⟩ : ∃ k, n = k + 1 := ⟨n - 1, by omega⟩
  obtain ⟨found, e1, e2⟩ := row_bits b0 (c := fun p => (degs (k + 1) ts).getD p 0) k (List.range (k + 1)) 0 (by rw [degs_map]; exact h)
  refine ⟨found.reverse, ?_, ?_⟩
  · unfold rowF
    rw [degs_len]
    show (rowGo _ k _ 0).map List.reverse = _
    rw [e1]
    rfl
  · rw [numF_B, List.map_reverse, e2, List.reverse_reverse, numB_bits]
    have : N % 2 ^ k = N := Nat.mod_eq_of_lt hN
    rw [this]
/-- whether the law's own test says that it is a tipweb -/
def Tip (n : Nat) (ts : List (Nat × Nat)) (o : List Nat) : Prop := ∀ i, i + 1 < n → Cs (adjT ts) n (o.getD i 0) (o.getD (i + 1) 0)
theorem tip_row {n : Nat} {ts : List (Nat × Nat)} {o : List Nat} (h1 : 1 ≤ n) (w : Web n ts) (ho : o.Perm (List.range n)) (hs : o.Pairwise fun u v => tdeg ts u ≤ tdeg ts v) : Tip n ts o ↔ ∃ f, rowF (degs n ts) = some f := by
  have len : o.length = n := by rw [ho.length_eq, List.length_range]
  have nd : o.Nodup := ho.nodup_iff.mpr List.nodup_range
  have gd : ∀ i, (h : i < n) → o.getD i 0 = o[i]'(by omega) := fun i h => by rw [List.getD_eq_getElem?_getD, List.getElem?_eq_getElem (by omega)]; rfl
  have lt : ∀ i, i < n → o.getD i 0 < n := fun i h => by
    rw [gd i h]
    exact List.mem_range.mp (ho.mem_iff.mp (List.getElem_mem _))
  have inj : ∀ i j, i < n → j < n → o.getD i 0 = o.getD j 0 → i = j := fun i j hi hj e => by
    rw [gd i hi, gd j hj] at e
    have pw := List.pairwise_iff_getElem.mp nd
    rcases Nat.lt_trichotomy i j with c | c | c
    · exact absurd e (pw i j (by omega) (by omega) c)
    · exact c
    · exact absurd e.symm (pw j i (by omega) (by omega) c)
  have iv : Inv (adjT ts) (fun p => (degs n ts).getD p 0) (List.range n) 0 := w.inv fun i hi => degs_at ts hi
  have rl : (List.range n).length = n - 1 + 1 := by rw [List.length_range]; omega
  have rf : (∃ f, rowF (degs n ts) = some f) ↔ ∃ f, rowGo (fun p => (degs n ts).getD p 0) (n - 1) (List.range n) 0 = some f := by
    unfold rowF
    rw [degs_len]
    constructor
    · intro ⟨f, h⟩
      obtain ⟨g, hg, _⟩ := Option.map_eq_some_iff.mp h
      exact ⟨g, hg⟩
    · intro ⟨f, h⟩
      exact ⟨f.reverse, by rw [h]; rfl⟩
  rw [rf]
  constructor
  · intro T
    -- places by their rank
    have rank : ∀ v, v < n → ∃ i, i < n ∧ o.getD i 0 = v := fun v hv => by
      obtain ⟨i, hi, e⟩ := List.getElem_of_mem (ho.mem_iff.mpr (List.mem_range.mpr hv))
      exact ⟨i, by omega, by rw [gd i (by omega)]; exact e⟩
    obtain ⟨r, hr⟩ : ∃ r : Nat → Nat, ∀ v, v < n → r v < n ∧ o.getD (r v) 0 = v :=
      ⟨fun v => if h : v < n then Classical.choose (rank v h) else 0, fun v hv => by
        dsimp only
        rw [dif_pos hv]
        exact Classical.choose_spec (rank v hv)⟩
    refine up_row (adjT_sy ts) w.ir (r := r) (n - 1) (List.range n) 0 rl iv (fun u hu v hv e => ?_) fun u hu v hv lt2 x hx a ne => ?_
    · rw [← (hr u (List.mem_range.mp hu)).2, ← (hr v (List.mem_range.mp hv)).2, e]
    · have e1 := hr u (List.mem_range.mp hu)
      have e2 := hr v (List.mem_range.mp hv)
      have := chain_all (adjT_sy ts) (f := fun i => o.getD i 0) lt inj T lt2 e2.1 (List.mem_range.mp hx) (by show adjT ts (o.getD (r u) 0) x = true; rw [e1.2]; exact a) (by show x ≠ o.getD (r v) 0; rw [e2.2]; exact ne)
      rw [← e2.2]
      exact this
  · intro ⟨f, h⟩ i hi
    have N := row_nest (adjT_sy ts) w.ir (n - 1) (List.range n) 0 f rl iv h
    refine nest_cs (adjT_sy ts) w.ir N (lt i (by omega)) (lt (i + 1) hi) (fun e => ?_) ?_
    · have := inj i (i + 1) (by omega) hi e
      omega
    · have p := List.pairwise_iff_getElem.mp hs i (i + 1) (by omega) (by omega) (Nat.lt_succ_self _)
      rw [← gd i (by omega), ← gd (i + 1) hi] at p
      unfold dg
      rw [w.deg _ (lt i (by omega)), w.deg _ (lt (i + 1) hi)]
      exact Int.ofNat_le.mpr p
end TWL
/-! TWx2 -/
set_option Elab.async false
set_option linter.all false
set_option maxRecDepth 100000
namespace TWL
open TW TWm
theorem nr_ties : ∀ ts : List (Nat × Nat), noRefL (tiesU ts) = true
  | [] => rfl
  | t :: ts => by
    show (noRefL ((tieU t) :: tiesU ts)) = true
    rw [noRefL, nr_ties ts]
    rfl
theorem lend_fl {S : Sto} {k : Nat} {us : List U} (h : noRefL us = true) : lend S k (.fl us) = some (.fl us) := by
  unfold lend
  simp [U.noRef, h]
theorem lend_bo {S : Sto} {k : Nat} {us : List U} (h : noRefL us = true) : lend S k (.bo us) = some (.bo us) := by
  unfold lend
  simp [U.noRef, h]
theorem lend_lst {S : Sto} {v : U} {ts : List (Nat × Nat)} (lu : Lst v (tiesU ts)) : lend S ldep v = some v := by
  rcases lu with rfl | rfl
  · exact lend_fl (nr_ties ts)
  · exact lend_bo (nr_ties ts)
end TWL
/-! TWy2 -/
set_option Elab.async false
set_option linter.all false
set_option maxRecDepth 100000
namespace TWL
open TW TWm
def castP (t : Nat × Nat) : Int × Int := (t.1, t.2)
def natP (p : Int × Int) : Nat × Nat := (p.1.toNat, p.2.toNat)
/-- ties in order -/
def srtT (ts : List (Nat × Nat)) : List (Nat × Nat) := (srtP (ts.map castP)).map natP
theorem srtT_back (ts : List (Nat × Nat)) : (srtT ts).map castP = srtP (ts.map castP) := by
  unfold srtT
  rw [List.map_map]
  refine (List.map_congr_left fun p hp => ?_).trans (List.map_id _)
  obtain ⟨t, _, rfl⟩ := List.mem_map.mp ((srtP_perm _).mem_iff.mp hp)
  rfl
theorem srtT_perm (ts : List (Nat × Nat)) : (srtT ts).Perm ts := by
  have := (srtP_perm (ts.map castP)).map natP
  rw [List.map_map] at this
  have e : ts.map (natP ∘ castP) = ts := (List.map_congr_left fun t _ => rfl).trans (List.map_id _)
  rw [e] at this
  exact this
theorem tiesU_eq (ts : List (Nat × Nat)) : tiesU ts = (ts.map castP).map pairU := by
  unfold tiesU
  rw [List.map_map]
  rfl
theorem sorted_ties (ts : List (Nat × Nat)) : sortedU (tiesU ts) = some (tiesU (srtT ts)) := by
  unfold sortedU
  cases ts with
  | nil => rfl
  | cons t ts =>
    have e : mapO asInt (tiesU (t :: ts)) = none := rfl
    rw [e, asPairs, tiesU_eq (srtT (t :: ts)), srtT_back]
    rfl
theorem walk2 {E : Env} {σ : Sl} {S : Sto} {a b : IE} {l h : Int} (ha : evE E σ a S = .ok (.int l) S) (hb : evE E σ b S = .ok (.int h) S) (g : -1000000 < l ∧ l < 1000000 ∧ -1000000 < h ∧ h < 1000000 ∧ h - l ≤ 1000000) :
    evI E σ (.wR2 a b) S = .ok (rangeU l 1 (h - l).toNat) S := by
  rw [evI, ha]
  simp only [R.bind]
  rw [hb]
  simp only [R.bind]
  rw [if_pos g]
theorem walk_from1 {E : Env} {σ : Sl} {S : Sto} {n : Nat} (hn : σ[0]? = some (some (.int n))) (h : n < 1000) : evI E σ (.wR2 (.c (.int 1)) (.v 0)) S = .ok ((List.range' 1 (n - 1)).map fun (i : Nat) => U.int i) S := by
  rw [walk2 (l := 1) (h := n) (by rw [evE]) (by rw [evE, hn]) ⟨by omega, by omega, by omega, by omega, by omega⟩]
  rw [show ((n : Int) - 1).toNat = n - 1 by omega]
  exact congrArg (R.ok · S) (ranges (n - 1) 1)
theorem fdiv_pow (N p : Nat) (hp : p < 1000) : bopI .fdiv (N : Int) ((2 : Int) ^ p) = some ((N / 2 ^ p : Nat) : Int) := by
  have pos : (0 : Int) < (2 : Int) ^ p := Int.pow_pos (by decide)
  have na : ((2 : Int) ^ p).natAbs = 2 ^ p := by rw [Int.natAbs_pow]; rfl
  have lg : ((2 : Int) ^ p).natAbs.log2 < 9000 := by rw [na, Nat.log2_two_pow]; omega
  unfold bopI
  simp only
  rw [if_pos ⟨pos, lg⟩]
  congr 1
theorem mod2 (a : Nat) : bopI .mod (a : Int) 2 = some ((a % 2 : Nat) : Int) := by
  unfold bopI
  simp only
  rw [if_pos (by decide)]
  rfl
theorem eq1 (S : Sto) (a : Nat) : eqU S (.int (a : Int)) (.int 1) = some (decide (a = 1)) := by
  show some ((a : Int) == 1) = _
  congr 1
  by_cases h : a = 1
  · rw [h]; rfl
  · rw [decide_eq_false h, beq_eq_false_iff_ne]
    omega
theorem bit_law {E : Env} {σ : Sl} {S : Sto} {N p : Nat} (h1 : σ[1]? = some (some (.int N))) (h3 : σ[3]? = some (some (.int p))) (hp : 1 ≤ p) (hl : p < 1000) :
    evE E σ (.cmp .eq (.bin .mod (.bin .fdiv (.v 1) (.bin .shl (.c (.int 1)) (.bin .sub (.v 3) (.c (.int 1))))) (.c (.int 2))) (.c (.int 1))) S = .ok (.bl (bit N p)) S := by
  have sh := shl_ok (E := E) (S := S) h3 ⟨by omega, by omega⟩
  rw [show ((p : Int) - 1).toNat = p - 1 by omega] at sh
  have e1 : evE E σ (.v 1) S = .ok (.int N) S := by rw [evE, h1]
  rw [evE, evE, evE, e1]
  simp only [R.bind]
  rw [sh]
  simp only [R.bind, bopU, fdiv_pow N (p - 1) (by omega), Option.map_some, R.opt, evE, mod2, cmpU, eq1]
  unfold bit
  rw [decide_eq_true hp, Bool.true_and]
end TWL
/-! TWz2 -/
set_option Elab.async false
set_option maxRecDepth 100000
namespace TWL
open TW TWm
theorem t_cm {E : Env} {n N p : Nat} {v : U} (hl : p < n) (hn : n ≤ 40) : evN E [some (.int n), some (.int N), some v, some (.int p), none] (.comp (.nm 4) (.wR1 (.v 3)) false (.c (.bl true)) (.tup (.cons (.v 4) (.cons (.v 3) .nil))) [4]) [] = .ok (tiesU ((List.range p).map fun i => (i, p))) [] := by
  have it := walk_range (E := E) (σ := [some (.int n), some (.int N), some v, some (.int p), none]) (S := []) (e := .v 3) (n := p) (by rw [evE]; rfl) (by omega)
  have := comp_no (q := .c (.bl true)) (own := [4]) (t := .nm 4) (elt := .tup (.cons (.v 4) (.cons (.v 3) .nil))) (g := fun z => .tup [z, .int p]) rfl it fun z hz => by
    refine ⟨[some (.int n), some (.int N), some v, some (.int p), some z], rfl, ?_⟩
    have t2 : 0 + 1 + 1 < top := by decide
    simp only [evE, evL, R.bind, List.getElem?_cons_succ, List.getElem?_cons_zero, List.length_cons, List.length_nil, if_pos t2]
  rw [this]
  have e : ((List.range p).map fun (i : Nat) => U.int i).map (fun z => U.tup [z, .int p]) = tiesU ((List.range p).map fun i => (i, p)) := by
    unfold tiesU
    rw [List.map_map, List.map_map]
    exact List.map_congr_left fun i _ => rfl
  rw [e]
theorem nm_bind {S : Sto} {i : Nat} {u : U} {σ : Sl} : bindT S (.nm i) [u] σ = some (σ.set i (some u)) := rfl
def lkBody : IS := .seq (.iff (.cmp .eq (.bin .mod (.bin .fdiv (.v 1) (.bin .shl (.c (.int 1)) (.bin .sub (.v 3) (.c (.int 1))))) (.c (.int 2))) (.c (.int 1))) (.seq (.asg (.nm 2) (.newF (.cat (.v 2) (.newF (.comp (.nm 4) (.wR1 (.v 3)) false (.c (.bl true)) (.tup (.cons (.v 4) (.cons (.v 3) .nil))) [4]))))) .skip) .skip) .skip
theorem tiesU_add (a b : List (Nat × Nat)) : tiesU a ++ tiesU b = tiesU (a ++ b) := by
  unfold tiesU
  rw [List.map_append]
theorem few_lt {p : Nat} {ts : List (Nat × Nat)} (few : ts.length < 1000) (hp : p ≤ 40) : (tiesU ts).length + (tiesU ((List.range p).map fun i => (i, p))).length < top := by
  unfold tiesU
  simp only [List.length_map, List.length_range]
  have : top = 1000000 := rfl
  omega
theorem cat_ok {E : Env} {σ : Sl} {S S1 S2 : Sto} {a b : IE} {us ws : List U} (ha : evE E σ a S = .ok (.fl us) S1) (hb : evE E σ b S1 = .ok (.fl ws) S2) (h : us.length + ws.length < top) : evN E σ (.cat a b) S = .ok (us ++ ws) S2 := by
  rw [evN, ha]
  show (evE E σ b S1).bind _ = _
  rw [hb]
  show (if us.length + ws.length < top then R.ok (us ++ ws) S2 else .bad) = _
  rw [if_pos h]
theorem lk_cat {E : Env} {n N p : Nat} {ts : List (Nat × Nat)} (few : ts.length < 1000) (hl : p < n) (hn : n ≤ 40) :
    evE E [some (.int n), some (.int N), some (.fl (tiesU ts)), some (.int p), none] (.newF (.cat (.v 2) (.newF (.comp (.nm 4) (.wR1 (.v 3)) false (.c (.bl true)) (.tup (.cons (.v 4) (.cons (.v 3) .nil))) [4])))) [] = .ok (.fl (tiesU (ts ++ (List.range p).map fun i => (i, p)))) [] := by
  have l1 := few_lt few (show p ≤ 40 by omega)
  have g : ∀ (w : U) (i j q : Option U), ([i, j, some w, q, none] : Sl)[2]? = some (some w) := fun w i j q => rfl
  have e2 : evE E [some (.int n), some (.int N), some (.fl (tiesU ts)), some (.int p), none] (.v 2) [] = .ok (.fl (tiesU ts)) [] := by rw [evE, g]
  have e3 : evE E [some (.int n), some (.int N), some (.fl (tiesU ts)), some (.int p), none] (.newF (.comp (.nm 4) (.wR1 (.v 3)) false (.c (.bl true)) (.tup (.cons (.v 4) (.cons (.v 3) .nil))) [4])) [] = .ok (.fl (tiesU ((List.range p).map fun i => (i, p)))) [] := by
    rw [evE, t_cm hl hn, R.bind]
  rw [evE, cat_ok e2 e3 l1, R.bind, tiesU_add]
end TWL
/-! TWz3 -/
set_option Elab.async false
set_option maxRecDepth 100000
namespace TWL
open TW TWm
theorem if_ok {E : Env} {σ : Sl} {S S1 : Sto} {t : IE} {a b : IS} {x : Bool} (h : evE E σ t S = .ok (.bl x) S1) : exS (.iff t a b) E σ S = if x then exS a E σ S1 else exS b E σ S1 := by
  rw [exS, h, R.bind]
  cases x <;> rfl
theorem seq1 {E : Env} {σ σ1 : Sl} {S S1 : Sto} {a b : IS} (h : exS a E σ S = .ok (.nx σ1) S1) : exS (.seq a b) E σ S = exS b E σ1 S1 := by
  rw [exS, h, R.bind]
theorem asg1 {E : Env} {σ : Sl} {S S1 : Sto} {i : Nat} {e : IE} {u : U} (h : evE E σ e S = .ok u S1) : exS (.asg (.nm i) e) E σ S = .ok (.nx (σ.set i (some u))) S1 := by
  rw [exS, h, R.bind]
  rfl
theorem skip1 {E : Env} {σ : Sl} {S : Sto} : exS .skip E σ S = .ok (.nx σ) S := by rw [exS]
theorem lk_body {E : Env} {n N p : Nat} {ts : List (Nat × Nat)} (few : ts.length < 1000) (hp : 1 ≤ p) (hl : p < n) (hn : n ≤ 40) : exS lkBody E [some (.int n), some (.int N), some (.fl (tiesU ts)), some (.int p), none] [] =
    .ok (.nx [some (.int n), some (.int N), some (.fl (tiesU (ts ++ if bit N p then (List.range p).map fun i => (i, p) else []))), some (.int p), none]) [] := by
  have g1 : ∀ (w : U) (i j q : Option U), ([i, some w, j, q, none] : Sl)[1]? = some (some w) := fun w i j q => rfl
  have g3 : ∀ (w : U) (i j q : Option U), ([i, j, q, some w, none] : Sl)[3]? = some (some w) := fun w i j q => rfl
  have st : ∀ (w z : U) (i j k q : Option U), ([i, j, k, q, none] : Sl).set 2 (some z) = [i, j, some z, q, none] := fun w z i j k q => rfl
  have tst := bit_law (E := E) (S := []) (σ := [some (.int n), some (.int N), some (.fl (tiesU ts)), some (.int p), none]) (g1 _ _ _ _) (g3 _ _ _ _) hp (by omega)
  unfold lkBody
  have key : exS (.iff (.cmp .eq (.bin .mod (.bin .fdiv (.v 1) (.bin .shl (.c (.int 1)) (.bin .sub (.v 3) (.c (.int 1))))) (.c (.int 2))) (.c (.int 1))) (.seq (.asg (.nm 2) (.newF (.cat (.v 2) (.newF (.comp (.nm 4) (.wR1 (.v 3)) false (.c (.bl true)) (.tup (.cons (.v 4) (.cons (.v 3) .nil))) [4]))))) .skip) .skip) E [some (.int n), some (.int N), some (.fl (tiesU ts)), some (.int p), none] [] =
      .ok (.nx [some (.int n), some (.int N), some (.fl (tiesU (ts ++ if bit N p then (List.range p).map fun i => (i, p) else []))), some (.int p), none]) [] := by
    rw [if_ok tst]
    cases bit N p with
    | true => rw [if_pos rfl, if_pos rfl, seq1 (asg1 (lk_cat few hl hn)), skip1, st .non]
    | false => rw [if_neg Bool.false_ne_true, if_neg Bool.false_ne_true, skip1, List.append_nil]
  rw [seq1 key, skip1]
end TWL
/-! TWz4 -/
set_option Elab.async false
set_option linter.all false
set_option maxRecDepth 100000
namespace TWL
open TW TWm
def due (n N : Nat) : List (Nat × Nat) := srtT (kindT (bit N) n)
theorem due_perm (n N : Nat) : (due n N).Perm (kindT (bit N) n) := srtT_perm _
theorem due_web (n N : Nat) : Web n (due n N) := by
  have w := kindT_web (bit N) n
  exact ⟨fun t h => w.lt t ((due_perm n N).mem_iff.mp h), (due_perm n N).nodup_iff.mpr w.nd⟩
theorem pure_ties (ts : List (Nat × Nat)) : pureL (tiesU ts) = true := pure_map (fun _ => rfl) ts
theorem lk_turn {E : Env} {n N p : Nat} {x : Option U} (hp : 1 ≤ p) (hl : p < n) (hn : n ≤ 40) : forB E (.nm 3) lkBody (.int p) [some (.int n), some (.int N), some (.fl (tiesU (kindT (bit N) p))), x, none] [] =
    .ok (.nx [some (.int n), some (.int N), some (.fl (tiesU (kindT (bit N) (p + 1)))), some (.int p), none]) [] := by
  have few := key_ok (Nat.le_trans (Nat.le_of_lt hl) hn) (kindT_web (bit N) p)
  have kd : kindT (bit N) (p + 1) = kindT (bit N) p ++ if bit N p then (List.range p).map fun i => (i, p) else [] := by rw [kindT]
  rw [kd]
  have st : ∀ (z : U) (i j k q : Option U), ([i, j, k, q, none] : Sl).set 3 (some z) = [i, j, k, some z, none] := fun z i j k q => rfl
  unfold forB
  rw [nm_bind, st]
  exact lk_body few hp hl hn
theorem lk_loop {E : Env} {n N : Nat} (hn : n ≤ 40) : ∀ (k p : Nat) (x : Option U), 1 ≤ p → p + k = n → ∃ x', forGo (forB E (.nm 3) lkBody) ((List.range' p k).map fun (i : Nat) => U.int i) [some (.int n), some (.int N), some (.fl (tiesU (kindT (bit N) p))), x, none] [] =
    .ok (.nx [some (.int n), some (.int N), some (.fl (tiesU (kindT (bit N) n))), x', none]) []
  | 0, p, x, _, h => ⟨x, by
    have e : p = n := by omega
    rw [e]
    rfl⟩
  | k + 1, p, x, h1, h => by
    obtain ⟨x', e⟩ := lk_loop (E := E) (N := N) hn k (p + 1) (some (.int p)) (by omega) (by omega)
    refine ⟨x', ?_⟩
    rw [List.range'_succ, List.map_cons, forGo, lk_turn h1 (by omega) hn, R.bind]
    exact e
end TWL
/-! TWra -/
set_option Elab.async false
set_option linter.all false
set_option maxRecDepth 100000
namespace TWL
open TW
/-! ### rules by which a run is told -/
section
variable {E : Env} {σ : Sl} {S S1 S2 S3 S4 : Sto} {a b c e es it q elt : IE}
theorem r_c {u : U} : evE E σ (.c u) S = .ok u S := by rw [evE]
theorem r_g {u : U} : evE E σ (.g u) S = .ok u S := by rw [evE]
theorem r_v {i : Nat} {u : U} (h : σ[i]? = some (some u)) : evE E σ (.v i) S = .ok u S := by rw [evE, h]
theorem r_bin {op : BOp} {x y z : U} (ha : evE E σ a S = .ok x S1) (hb : evE E σ b S1 = .ok y S2) (h : bopU op x y = some z) : evE E σ (.bin op a b) S = .ok z S2 := by
  rw [evE, ha, R.bind, hb, R.bind, h]; rfl
theorem r_cmp {op : COp} {x y : U} {z : Bool} (ha : evE E σ a S = .ok x S1) (hb : evE E σ b S1 = .ok y S2) (h : cmpU S2 op x y = some z) : evE E σ (.cmp op a b) S = .ok (.bl z) S2 := by
  rw [evE, ha, R.bind, hb, R.bind, h]; rfl
theorem r_chain {op op' : COp} {x y w : U} {z : Bool} (ha : evE E σ a S = .ok x S1) (hb : evE E σ b S1 = .ok y S2) (h : cmpU S2 op x y = some true) (hc : evE E σ c S2 = .ok w S3) (h2 : cmpU S3 op' y w = some z) : evE E σ (.chain op op' a b c) S = .ok (.bl z) S3 := by
  rw [evE, ha, R.bind, hb, R.bind, h]
  show (evE E σ c S2).bind _ = _
  rw [hc, R.bind, h2]; rfl
theorem r_not {x : Bool} (ha : evE E σ a S = .ok (.bl x) S1) : evE E σ (.not a) S = .ok (.bl (!x)) S1 := by
  rw [evE, ha, R.bind]
theorem r_and {x y : Bool} (ha : evE E σ a S = .ok (.bl x) S1) (hb : x = true → evE E σ b S1 = .ok (.bl y) S1) : evE E σ (.and a b) S = .ok (.bl (x && y)) S1 := by
  rw [evE, ha, R.bind]
  cases x
  · rfl
  · exact hb rfl
theorem r_andT {y : U} (ha : evE E σ a S = .ok (.bl true) S1) (hb : evE E σ b S1 = .ok y S2) : evE E σ (.and a b) S = .ok y S2 := by
  rw [evE, ha, R.bind]
  exact hb
theorem r_andF (ha : evE E σ a S = .ok (.bl false) S1) : evE E σ (.and a b) S = .ok (.bl false) S1 := by
  rw [evE, ha, R.bind]
theorem r_or {x y : Bool} (ha : evE E σ a S = .ok (.bl x) S1) (hb : x = false → evE E σ b S1 = .ok (.bl y) S1) : evE E σ (.or a b) S = .ok (.bl (x || y)) S1 := by
  rw [evE, ha, R.bind]
  cases x
  · exact hb rfl
  · rfl
theorem r_orF {y : U} (ha : evE E σ a S = .ok (.bl false) S1) (hb : evE E σ b S1 = .ok y S2) : evE E σ (.or a b) S = .ok y S2 := by
  rw [evE, ha, R.bind]
  exact hb
theorem r_ife {t : IE} {x : Bool} {r : R U} (ht : evE E σ t S = .ok (.bl x) S1) (h1 : x = true → evE E σ a S1 = r) (h2 : x = false → evE E σ b S1 = r) : evE E σ (.ife t a b) S = r := by
  rw [evE, ht, R.bind]
  cases x
  · exact h2 rfl
  · exact h1 rfl
theorem r_nil : evL E σ .nil S = .ok [] S := by rw [evL]
theorem r_cons {u : U} {us : List U} (h : evE E σ e S = .ok u S1) (hs : evL E σ es S1 = .ok us S2) : evL E σ (.cons e es) S = .ok (u :: us) S2 := by
  rw [evL, h, R.bind, hs, R.bind]
theorem r_tup {us : List U} (h : evL E σ es S = .ok us S1) (hl : us.length < top) : evE E σ (.tup es) S = .ok (.tup us) S1 := by
  rw [evE, h, R.bind, if_pos hl]
theorem r_newF {n : IE} {us : List U} (h : evN E σ n S = .ok us S1) : evE E σ (.newF n) S = .ok (.fl us) S1 := by
  rw [evE, h, R.bind]
theorem r_newM {n : IE} {us : List U} (h : evN E σ n S = .ok us S1) : evE E σ (.newM n) S = .ok (.ref S1.length) (S1 ++ [.lst us]) := by
  rw [evE, h, R.bind]
theorem r_lst {us : List U} (h : evL E σ es S = .ok us S1) (hl : us.length < top) : evN E σ (.lst es) S = .ok us S1 := by
  rw [evN, h, R.bind, if_pos hl]
theorem r_ix {x u : U} {us : List U} {i : Int} {k : Nat} (ha : evE E σ a S = .ok x S1) (hb : evE E σ b S1 = .ok (.int i) S2) (hr : rdQ S2 x = some us) (hi : ixU us.length i = some k) (h : us[k]? = some u) : evE E σ (.ix a b) S = .ok u S2 := by
  rw [evE, ha, R.bind, hb, R.bind, hr]
  simp only [hi, h, R.opt]
theorem r_call {m : Bool} {f : Nat} {us : List U} {r : R U} (hf : E.okf f = true) (h : evL E σ es S = .ok us S1) (hc : E.call m f us S1 = r) : evE E σ (.callD m f es) S = r := by
  rw [evE, hf]
  show (evL E σ es S).bind _ = _
  rw [h, R.bind, hc]
theorem r_bi {f : Bi} {us : List U} {u : U} (h : evL E σ es S = .ok us S1) (hc : biU E.P S1 f us = some u) : evE E σ (.bi f es) S = .ok u S1 := by
  rw [evE, h, R.bind, hc]; rfl
theorem r_mc {f : Bi} {x y u : U} (ha : evE E σ a S = .ok x S1) (hl : isL S1 x = true) (he : evE E σ e S1 = .ok y S2) (hc : biU E.P S2 f [x, y] = some u) : evE E σ (.mc f a e) S = .ok u S2 := by
  rw [evE, ha, R.bind, hl]
  show (evE E σ e S1).bind _ = _
  rw [he, R.bind, hc]; rfl
theorem r_lm {f : LM} {x : U} {us : List U} {r : R U} (ha : evE E σ a S = .ok x S1) (hl : isL S1 x = true) (he : evL E σ es S1 = .ok us S2) (hc : lmU S2 f (x :: us) = r) : evE E σ (.lm f a es) S = r := by
  rw [evE, ha, R.bind, hl]
  show (evL E σ es S1).bind _ = _
  rw [he, R.bind, hc]
theorem r_listOf {x : U} {us : List U} (ha : evE E σ a S = .ok x S1) (h : rdQ S1 x = some us) : evN E σ (.listOf a) S = .ok us S1 := by
  rw [evN, ha, R.bind, h]; rfl
theorem r_sorted {x : U} {us ws : List U} (ha : evE E σ a S = .ok x S1) (h : rdL S1 x = some us) (h2 : sortedU us = some ws) : evN E σ (.sorted a) S = .ok ws S1 := by
  rw [evN, ha, R.bind, h]
  show R.opt (sortedU us) S1 = _
  rw [h2]; rfl
theorem r_rev {x : U} {us : List U} (ha : evE E σ a S = .ok x S1) (h : rdL S1 x = some us) : evN E σ (.rev a) S = .ok us.reverse S1 := by
  rw [evN, ha, R.bind, h]
theorem r_none : evO E σ .none S = .ok .none S := by rw [evO]
theorem r_opt {i : Int} (ha : evE E σ a S = .ok (.int i) S1) : evO E σ (.opt a) S = .ok (some i) S1 := by
  rw [evO, ha, R.bind]
theorem r_slice {x : U} {us : List U} {lo hi : IE} {l h : Option Int} (ha : evE E σ a S = .ok x S1) (hlo : evO E σ lo S1 = .ok l S2) (hhi : evO E σ hi S2 = .ok h S3) (hr : rdL S3 x = some us) : evN E σ (.slice a lo hi) S = .ok (cutU us l h) S3 := by
  rw [evN, ha, R.bind, hlo, R.bind, hhi, R.bind, hr]
theorem r_cat {x y : U} {us ws : List U} (ha : evE E σ a S = .ok x S1) (hb : evE E σ b S1 = .ok y S2) (hx : rdX S2 x = some us) (hy : rdX S2 y = some ws) (h : us.length + ws.length < top) : evN E σ (.cat a b) S = .ok (us ++ ws) S2 := by
  rw [evN, ha, R.bind, hb, R.bind, hx, hy]
  show (if us.length + ws.length < top then R.ok (us ++ ws) S2 else .bad) = _
  rw [if_pos h]
theorem r_rep {x : U} {us : List U} {k : Int} (ha : evE E σ a S = .ok x S1) (hb : evE E σ b S1 = .ok (.int k) S2) (hx : rdX S2 x = some us) (h : -1000000 < k ∧ k < 1000000 ∧ us.length * k.toNat < top) : evN E σ (.rep a b) S = .ok (List.replicate k.toNat us).flatten S2 := by
  rw [evN, ha, R.bind, hb, R.bind, hx]
  show (if -1000000 < k ∧ k < 1000000 ∧ us.length * k.toNat < top then R.ok (List.replicate k.toNat us).flatten S2 else .bad) = _
  rw [if_pos h]
theorem w_fl {us : List U} (ha : evE E σ a S = .ok (.fl us) S1) : evI E σ (.wL a) S = .ok us S1 := by rw [evI, ha, R.bind]
theorem w_bo {us : List U} (ha : evE E σ a S = .ok (.bo us) S1) : evI E σ (.wL a) S = .ok us S1 := by rw [evI, ha, R.bind]
theorem w_enf {us : List U} (ha : evE E σ a S = .ok (.fl us) S1) : evI E σ (.wEn a) S = .ok (enumU 0 us) S1 := by rw [evI, ha, R.bind]
theorem w_enb {us : List U} (ha : evE E σ a S = .ok (.bo us) S1) : evI E σ (.wEn a) S = .ok (enumU 0 us) S1 := by rw [evI, ha, R.bind]
theorem w_zip {us ws : List U} (ha : evE E σ a S = .ok (.fl us) S1) (hb : evE E σ b S1 = .ok (.fl ws) S2) : evI E σ (.wZip a b) S = .ok (zipU us ws) S2 := by
  rw [evI, ha, R.bind, hb, R.bind]
theorem w_q {x : U} {us : List U} (ha : evE E σ a S = .ok x S1) (h : rdL S1 x = some us) : evI E σ (.wQ a) S = .ok us S1 := by
  rw [evI, ha, R.bind, h]; rfl
/-! statements -/
variable {s s' : IS} {r : R Fl} {σ1 σ2 : Sl} {u : U}
theorem x_skip : exS .skip E σ S = .ok (.nx σ) S := by rw [exS]
theorem x_seq (h : exS s E σ S = .ok (.nx σ1) S1) (k : exS s' E σ1 S1 = r) : exS (.seq s s') E σ S = r := by
  rw [exS, h, R.bind]
  exact k
theorem x_seqR {u : U} (h : exS s E σ S = .ok (.rt u) S1) : exS (.seq s s') E σ S = .ok (.rt u) S1 := by
  rw [exS, h, R.bind]
theorem x_asg {i : Nat} (h : evE E σ e S = .ok u S1) : exS (.asg (.nm i) e) E σ S = .ok (.nx (σ.set i (some u))) S1 := by
  rw [exS, h, R.bind]
  rfl
theorem x_asgT {t : IT} (h : evE E σ e S = .ok u S1) (hb : bindT S1 t [u] σ = some σ1) : exS (.asg t e) E σ S = .ok (.nx σ1) S1 := by
  rw [exS, h, R.bind, hb]
  rfl
theorem x_expr (h : evE E σ e S = .ok u S1) : exS (.expr e) E σ S = .ok (.nx σ) S1 := by
  rw [exS, h, R.bind]
theorem x_ret (h : evE E σ e S = .ok u S1) : exS (.ret e) E σ S = .ok (.rt u) S1 := by
  rw [exS, h, R.bind]
theorem x_if {x : Bool} (h : evE E σ e S = .ok (.bl x) S1) (h1 : x = true → exS s E σ S1 = r) (h2 : x = false → exS s' E σ S1 = r) : exS (.iff e s s') E σ S = r := by
  rw [exS, h, R.bind]
  cases x
  · exact h2 rfl
  · exact h1 rfl
theorem x_ifT (h : evE E σ e S = .ok (.bl true) S1) (h1 : exS s E σ S1 = r) : exS (.iff e s s') E σ S = r := by
  rw [exS, h, R.bind]
  exact h1
theorem x_ifF (h : evE E σ e S = .ok (.bl false) S1) (h1 : exS s' E σ S1 = r) : exS (.iff e s s') E σ S = r := by
  rw [exS, h, R.bind]
  exact h1
theorem x_frz {i n : Nat} {us : List U} (h : σ[i]? = some (some (.ref n))) (hS : S[n]? = some (.lst us)) (k : exS s E (σ.set i (some (.fl us))) (S.set n .dead) = r) : exS (.frz i s) E σ S = r := by
  rw [exS, h]
  simp only [hS]
  exact k
theorem x_setix {i e1 : IE} {n k j : Nat} {z : Int} {us : List U} (he : evE E σ e S = .ok u S1) (ha : evE E σ a S1 = .ok (.ref n) S2) (hi : evE E σ i S2 = .ok (.int z) S3) (hS : S3[n]? = some (.lst us)) (hj : ixU us.length z = some j) : exS (.setix a i e) E σ S = .ok (.nx σ) (S3.set n (.lst (us.set j u))) := by
  rw [exS, he, R.bind, ha, R.bind, hi, R.bind]
  simp only [hS, hj]
theorem x_aug {i : Nat} {x y : Int} (h : σ[i]? = some (some (.int x))) (he : evE E σ e S = .ok (.int y) S1) : exS (.aug i .add e) E σ S = .ok (.nx (σ.set i (some (.int (x + y))))) S1 := by
  rw [exS, h]
  simp only [he, R.bind]
/-! plain values -/
theorem b_add {i j : Int} : bopU .add (.int i) (.int j) = some (.int (i + j)) := rfl
theorem b_sub {i j : Int} : bopU .sub (.int i) (.int j) = some (.int (i - j)) := rfl
theorem b_mul {i j : Int} (h : i.natAbs.log2 + j.natAbs.log2 < 100000000) : bopU .mul (.int i) (.int j) = some (.int (i * j)) := by
  unfold bopU bopI
  simp only
  rw [if_pos h]; rfl
theorem b_div {i j : Int} (h : 0 < j ∧ j.natAbs.log2 < 9000) : bopU .fdiv (.int i) (.int j) = some (.int (i / j)) := by
  unfold bopU bopI
  simp only
  rw [if_pos h]; rfl
theorem b_mod {i j : Int} (h : 0 < j) : bopU .mod (.int i) (.int j) = some (.int (i % j)) := by
  unfold bopU bopI
  simp only
  rw [if_pos h]; rfl
theorem b_shl {i j : Int} (h : 0 ≤ j ∧ j ≤ 1000000 ∧ i.natAbs < 2 ^ 64) : bopU .shl (.int i) (.int j) = some (.int (i * 2 ^ j.toNat)) := by
  unfold bopU bopI
  simp only
  rw [if_pos h]; rfl
theorem b_shr {i j : Int} (h : 0 ≤ j) : bopU .shr (.int i) (.int j) = some (.int (i / 2 ^ j.toNat)) := by
  unfold bopU bopI
  simp only
  rw [if_pos h]; rfl
theorem c_eq {i j : Int} : cmpU S .eq (.int i) (.int j) = some (decide (i = j)) := by
  show some (i == j) = _
  by_cases h : i = j
  · rw [decide_eq_true h, h, beq_self_eq_true]
  · rw [decide_eq_false h, beq_eq_false_iff_ne.mpr h]
theorem c_ne {i j : Int} : cmpU S .ne (.int i) (.int j) = some (!decide (i = j)) := by
  have := c_eq (S := S) (i := i) (j := j)
  unfold cmpU at this ⊢
  simp only at this ⊢
  rw [this]; rfl
theorem c_lt {i j : Int} : cmpU S .lt (.int i) (.int j) = some (decide (i < j)) := rfl
theorem c_le {i j : Int} : cmpU S .le (.int i) (.int j) = some (decide (i ≤ j)) := rfl
theorem c_gt {i j : Int} : cmpU S .gt (.int i) (.int j) = some (decide (j < i)) := rfl
theorem c_ge {i j : Int} : cmpU S .ge (.int i) (.int j) = some (decide (j ≤ i)) := rfl
theorem top1 : 0 < top := by decide
theorem top2 : 0 + 1 < top := by decide
theorem top3 : 0 + 1 + 1 < top := by decide
theorem top4 : 0 + 1 + 1 + 1 < top := by decide
end
end TWL
/-! TWka -/
set_option Elab.async false
set_option linter.all false
set_option maxRecDepth 100000
namespace TWL
open TW TWm
theorem x_for {t : IT} {it : IE} {body : IS} {E : Env} {σ : Sl} {S S1 : Sto} {items : List U} {r : R Fl} (hi : evI E σ it S = .ok items S1) (k : forGo (forB E t body) items σ S1 = r) : exS (.for t it body) E σ S = r := by
  rw [for_eq, hi, R.bind]
  exact k
/-- a def that runs apart: a plain value -/
theorem pm_run {f d : Nat} {m : Bool} {us ws : List U} {S S' : Sto} {D : Df} {u : U} (hD : Q.df f = some D) (hp : D.pm = true) (hn : us.length = D.np) (hl : mapO (lend S ldep) us = some ws)
    (h : exS D.body (Q.env (callN Q d)) (startU D.ns ws) [] = .ok (.rt u) S') (pu : u.pure = true) : callN Q (d + 1) m f us S = .ok u S := by
  rw [call_pm hD hp hn hl, h]
  unfold R.done R.shut
  simp only [pu]
/-- a new list, for the caller -/
def newU (m : Bool) (S : Sto) (us : List U) : R U := match m with
  | true => .ok (.ref S.length) (S ++ [.lst us])
  | false => .ok (.fl us) S
theorem pm_new {f d k : Nat} {m : Bool} {us ws ls : List U} {S S' : Sto} {D : Df} (hD : Q.df f = some D) (hp : D.pm = true) (hn : us.length = D.np) (hl : mapO (lend S ldep) us = some ws)
    (h : exS D.body (Q.env (callN Q d)) (startU D.ns ws) [] = .ok (.rt (.ref k)) S') (hk : S'[k]? = some (.lst ls)) (pu : pureL ls = true) : callN Q (d + 1) m f us S = newU m S ls := by
  rw [call_pm hD hp hn hl, h]
  unfold R.done R.shut newU
  cases m <;> simp only [U.pure, hk, pu]
def tiesR : List (Nat × Bool) → List (Nat × Bool) → List (Nat × Nat)
  | _, [] => []
  | pre, p :: r => (if p.2 then pre.map (fun q => (min p.1 q.1, max p.1 q.1)) else []) ++ tiesR (pre ++ [p]) r
def toBody : IS := .seq (.iff (.v 4) (.seq (.expr (.lm .extend (.v 1) (.cons (.newF (.comp (.tp (.cons (.nm 5) (.cons (.nm 6) .nil))) (.wL (.newF (.slice (.v 0) .none (.opt (.v 2))))) false (.c (.bl true)) (.tup (.cons (.bi .min2 (.cons (.v 3) (.cons (.v 5) .nil))) (.cons (.bi .max2 (.cons (.v 3) (.cons (.v 5) .nil))) .nil))) [5, 6])) .nil)))
  .skip) .skip)
  .skip
theorem cut_pre {pre r : List U} : cutU (pre ++ r) .none (some (pre.length : Nat)) = pre := by
  unfold cutU sIx
  simp only [List.drop_zero, Nat.sub_zero]
  rw [if_neg (by omega), Int.toNat_natCast, List.length_append, Nat.min_eq_left (by omega), List.take_left']
  rfl
theorem min_int (a b : Nat) : (if (b : Int) < (a : Int) then (b : Int) else a) = ((min a b : Nat) : Int) := by
  split <;> omega
theorem max_int (a b : Nat) : (if (b : Int) > (a : Int) then (b : Int) else a) = ((max a b : Nat) : Int) := by
  split <;> omega
theorem to_comp {E : Env} {v : U} {pre r : List (Nat × Bool)} {p : Nat × Bool} (lv : Lst v ((pre ++ r).map rowU)) {x y : Option U} {S : Sto} :
    evN E [some v, x, some (.int pre.length), some (.int p.1), y, none, none] (.comp (.tp (.cons (.nm 5) (.cons (.nm 6) .nil))) (.wL (.newF (.slice (.v 0) .none (.opt (.v 2))))) false (.c (.bl true)) (.tup (.cons (.bi .min2 (.cons (.v 3) (.cons (.v 5) .nil))) (.cons (.bi .max2 (.cons (.v 3) (.cons (.v 5) .nil))) .nil))) [5, 6]) S =
      .ok (tiesU (pre.map (fun q => (min p.1 q.1, max p.1 q.1)))) S := by
  have rl : rdL S v = some (pre.map rowU ++ r.map rowU) := by
    rw [← List.map_append]
    rcases lv with rfl | rfl <;> rfl
  have ct : cutU (pre.map rowU ++ r.map rowU) .none (some (pre.length : Nat)) = pre.map rowU := by
    have := cut_pre (pre := pre.map rowU) (r := r.map rowU)
    rw [List.length_map] at this
    exact this
  have it : evI E [some v, x, some (.int pre.length), some (.int p.1), y, none, none] (.wL (.newF (.slice (.v 0) .none (.opt (.v 2))))) S = .ok (pre.map rowU) S := by
    have := w_fl (E := E) (r_newF (r_slice (E := E) (σ := [some v, x, some (.int pre.length), some (.int p.1), y, none, none]) (a := .v 0) (S := S) (r_v rfl) r_none (r_opt (a := .v 2) (r_v rfl)) rl))
    rw [ct] at this
    exact this
  have := comp_no (q := .c (.bl true)) (own := [5, 6]) (t := .tp (.cons (.nm 5) (.cons (.nm 6) .nil))) (elt := .tup (.cons (.bi .min2 (.cons (.v 3) (.cons (.v 5) .nil))) (.cons (.bi .max2 (.cons (.v 3) (.cons (.v 5) .nil))) .nil)))
    (g := fun z => match z with | .tup [.int i, _] => .tup [.int (if i < p.1 then i else p.1), .int (if i > p.1 then i else p.1)] | _ => .non) rfl it fun z hz => by
      obtain ⟨q, hq, rfl⟩ := List.mem_map.mp hz
      refine ⟨[some v, x, some (.int pre.length), some (.int p.1), y, some (.int q.1), some (.bl q.2)], rfl, ?_⟩
      refine r_tup (r_cons (r_bi (r_cons (r_v rfl) (r_cons (r_v rfl) r_nil)) rfl) (r_cons (r_bi (r_cons (r_v rfl) (r_cons (r_v rfl) r_nil)) rfl) r_nil)) top3
  rw [this]
  have e : (pre.map rowU).map (fun (z : U) => match z with | .tup [.int i, _] => U.tup [.int (if i < p.1 then i else p.1), .int (if i > p.1 then i else p.1)] | _ => U.non) = tiesU (pre.map (fun q => (min p.1 q.1, max p.1 q.1))) := by
    unfold tiesU
    rw [List.map_map, List.map_map]
    refine List.map_congr_left fun q _ => ?_
    show U.tup [.int (if (q.1 : Int) < p.1 then q.1 else p.1), .int (if (q.1 : Int) > p.1 then q.1 else p.1)] = U.tup [.int ((min p.1 q.1 : Nat) : Int), .int ((max p.1 q.1 : Nat) : Int)]
    rw [min_int, max_int]
  rw [e]
theorem ext0 {x y : List U} (h : x.length + y.length < top) : lmU [.lst x] .extend [.ref 0, .fl y] = .ok .non [.lst (x ++ y)] := by
  show (if x.length + y.length < top then R.ok U.non [.lst (x ++ y)] else .bad) = _
  rw [if_pos h]
theorem to_bind {S : Sto} {k : Nat} {p : Nat × Bool} {a b c d e g h : Option U} : bindT S (.tp (.cons (.nm 2) (.cons (.tp (.cons (.nm 3) (.cons (.nm 4) .nil))) .nil))) [.tup [.int k, rowU p]] [a, b, c, d, e, g, h] = some [a, b, some (.int k), some (.int p.1), some (.bl p.2), g, h] := rfl
theorem to_step {E : Env} {v : U} {pre r : List (Nat × Bool)} {p : Nat × Bool} (lv : Lst v ((pre ++ r).map rowU)) {x y z : Option U} {ts : List (Nat × Nat)} (hl : ts.length + pre.length < 100000) :
    forB E (.tp (.cons (.nm 2) (.cons (.tp (.cons (.nm 3) (.cons (.nm 4) .nil))) .nil))) toBody (.tup [.int pre.length, rowU p]) [some v, some (.ref 0), x, y, z, none, none] [.lst (tiesU ts)] =
      .ok (.nx [some v, some (.ref 0), some (.int pre.length), some (.int p.1), some (.bl p.2), none, none]) [.lst (tiesU (ts ++ if p.2 then pre.map (fun q => (min p.1 q.1, max p.1 q.1)) else []))] := by
  unfold forB
  rw [to_bind]
  dsimp only
  unfold toBody
  refine x_seq (x_if (x := p.2) (r_v rfl) (fun hp => ?_) (fun hp => ?_)) x_skip
  · rw [hp, if_pos rfl]
    refine x_seq (x_expr (u := .non) (r_lm (r_v rfl) rfl (r_cons (r_newF (to_comp lv)) r_nil) ?_)) x_skip
    have tp : top = 1000000 := rfl
    rw [← tiesU_add]
    refine ext0 ?_
    unfold tiesU
    simp only [List.length_map]
    omega
  · rw [hp, if_neg Bool.false_ne_true, List.append_nil]
    exact x_skip
theorem to_loop {E : Env} {v : U} {row : List (Nat × Bool)} (lv : Lst v (row.map rowU)) (hr : row.length ≤ 100) : ∀ (r pre : List (Nat × Bool)) (x y z : Option U) (ts : List (Nat × Nat)), row = pre ++ r → ts.length ≤ pre.length * 100 →
    ∃ x' y' z', forGo (forB E (.tp (.cons (.nm 2) (.cons (.tp (.cons (.nm 3) (.cons (.nm 4) .nil))) .nil))) toBody) (enumU pre.length (r.map rowU)) [some v, some (.ref 0), x, y, z, none, none] [.lst (tiesU ts)] =
      .ok (.nx [some v, some (.ref 0), x', y', z', none, none]) [.lst (tiesU (ts ++ tiesR pre r))]
  | [], pre, x, y, z, ts, _, _ => ⟨x, y, z, by rw [tiesR, List.append_nil]; rfl⟩
  | p :: r, pre, x, y, z, ts, h, hl => by
    have lr : pre.length + (r.length + 1) ≤ 100 := by
      have := congrArg List.length h
      rw [List.length_append, List.length_cons] at this
      omega
    have st := to_step (E := E) (v := v) (pre := pre) (r := p :: r) (p := p) (by rw [← h]; exact lv) (x := x) (y := y) (z := z) (ts := ts) (by omega)
    have hl2 : (ts ++ if p.2 then pre.map (fun q => (min p.1 q.1, max p.1 q.1)) else []).length ≤ (pre ++ [p]).length * 100 := by
      rw [List.length_append, List.length_append, List.length_singleton]
      split
      · rw [List.length_map]; omega
      · rw [List.length_nil]; omega
    obtain ⟨x', y', z', e⟩ := to_loop (E := E) (v := v) lv hr r (pre ++ [p]) (some (.int pre.length)) (some (.int p.1)) (some (.bl p.2)) (ts ++ if p.2 then pre.map (fun q => (min p.1 q.1, max p.1 q.1)) else []) (by rw [h, List.append_assoc]; rfl) hl2
    refine ⟨x', y', z', ?_⟩
    rw [List.map_cons, enumU, forGo, st, R.bind, tiesR, ← List.append_assoc]
    rw [List.length_append, List.length_singleton] at e
    exact e
theorem ties_of_ok (d : Nat) (m : Bool) {u v : U} {row : List (Nat × Bool)} (S : Sto) (hl : lend S ldep u = some v) (lv : Lst v (row.map rowU)) (hr : row.length ≤ 100) :
    callN Q (d + 1) m 7 [u] S = newU m S (tiesU (srtT (tiesR [] row))) := by
  obtain ⟨E, hE⟩ : ∃ E, E = Q.env (callN Q d) := ⟨_, rfl⟩
  obtain ⟨x', y', z', e⟩ := to_loop (E := E) lv hr row [] none none none [] rfl (by simp)
  refine pm_new (D := D_ties_of) (ws := [v]) (k := 1) (S' := [.dead, .lst (tiesU (srtT (tiesR [] row)))]) rfl rfl rfl (by simp [mapO, hl]) ?_ rfl (pure_ties _)
  rw [← hE]
  show exS I_ties_of E [some v, none, none, none, none, none, none] [] = _
  unfold I_ties_of
  refine x_seq (x_asg (by repeat' (first | exact r_c | exact r_g | exact r_v rfl | exact r_nil | exact r_none | exact b_add | exact b_sub | exact b_div (by decide) | exact b_mod (by decide) | exact c_eq | exact c_ne | exact c_lt | exact c_le | exact c_gt | exact c_ge | exact top1 | exact top2 | exact top3 | exact top4 | apply r_bin | apply r_cmp | apply r_not | apply r_cons | apply r_tup | apply r_newF | apply r_newM | apply r_lst | apply r_bi | apply r_opt | apply r_slice | apply r_rev | apply r_listOf | (apply r_call; exact rfl) | apply x_asg | apply x_ret | apply x_expr | exact x_skip))) ?_
  have it : evI E [some v, some (.ref 0), none, none, none, none, none] (.wEn (.v 0)) [.lst []] = .ok (enumU 0 (row.map rowU)) [.lst []] := by
    rcases lv with rfl | rfl
    · exact w_enf (r_v rfl)
    · exact w_enb (r_v rfl)
  refine x_seq (x_for it e) ?_
  refine x_frz rfl rfl ?_
  exact x_seqR (x_ret (r_newM (r_sorted (r_v rfl) rfl (sorted_ties _))))
end TWL
/-! TWkb -/
set_option Elab.async false
set_option linter.all false
set_option maxRecDepth 100000
namespace TWL
open TW TWm
def kRow (N p : Nat) : Nat × Bool := (p, bit N p)
theorem kRow_ties (N : Nat) : ∀ (m k : Nat), kindT (bit N) (k + m) = kindT (bit N) k ++ tiesR ((List.range k).map (kRow N)) ((List.range' k m).map (kRow N))
  | 0, k => by
    show _ = _ ++ tiesR _ []
    rw [tiesR, List.append_nil]
    rfl
  | m + 1, k => by
    have ih := kRow_ties N m (k + 1)
    rw [show k + (m + 1) = k + 1 + m by omega, ih, List.range'_succ, List.map_cons, tiesR]
    have e1 : kindT (bit N) (k + 1) = kindT (bit N) k ++ if bit N k then (List.range k).map fun i => (i, k) else [] := by rw [kindT]
    have e2 : ((List.range k).map (kRow N)).map (fun q => (min (kRow N k).1 q.1, max (kRow N k).1 q.1)) = (List.range k).map fun i => (i, k) := by
      rw [List.map_map]
      refine List.map_congr_left fun i hi => ?_
      have := List.mem_range.mp hi
      show (min k i, max k i) = (i, k)
      rw [Nat.min_eq_right (by omega), Nat.max_eq_left (by omega)]
    have e3 : (List.range (k + 1)).map (kRow N) = (List.range k).map (kRow N) ++ [kRow N k] := by
      rw [List.range_succ, List.map_append]
      rfl
    rw [e1, e2, e3, List.append_assoc]
    rfl
theorem kRow_all (n N : Nat) : tiesR [] ((List.range n).map (kRow N)) = kindT (bit N) n := by
  have := kRow_ties N n 0
  rw [Nat.zero_add] at this
  rw [this, List.range_eq_range']
  rfl
theorem shr_pow (N p : Nat) : bopU .shr (.int (N : Int)) (.int ((p : Nat) : Int)) = some (.int ((N / 2 ^ p : Nat) : Int)) := by
  rw [b_shr (by omega), Int.toNat_natCast]
  rfl
theorem kb_comp {E : Env} {n N : Nat} {S : Sto} (hn : n ≤ 40) : evN E [some (.int n), some (.int N), none] (.comp (.nm 2) (.wR2 (.c (.int 1)) (.v 0)) false (.c (.bl true)) (.tup (.cons (.v 2) (.cons (.cmp .eq (.bin .mod (.bin .shr (.v 1) (.bin .sub (.v 2) (.c (.int 1)))) (.c (.int 2))) (.c (.int 1))) .nil))) [2]) S =
    .ok (((List.range' 1 (n - 1)).map (kRow N)).map rowU) S := by
  have it := walk_from1 (E := E) (σ := [some (.int n), some (.int N), none]) (S := S) (n := n) rfl (by omega)
  have := comp_no (q := .c (.bl true)) (own := [2]) (t := .nm 2) (elt := .tup (.cons (.v 2) (.cons (.cmp .eq (.bin .mod (.bin .shr (.v 1) (.bin .sub (.v 2) (.c (.int 1)))) (.c (.int 2))) (.c (.int 1))) .nil)))
    (g := fun z => match z with | .int i => rowU (kRow N i.toNat) | _ => .non) rfl it fun z hz => by
      obtain ⟨p, hp, rfl⟩ := List.mem_map.mp hz
      have h1 := (List.mem_range'_1.mp hp).1
      refine ⟨[some (.int n), some (.int N), some (.int p)], rfl, ?_⟩
      have e1 : (p : Int) - 1 = ((p - 1 : Nat) : Int) := by omega
      have b1 : bopU .sub (.int (p : Int)) (.int 1) = some (.int ((p - 1 : Nat) : Int)) := by rw [b_sub, e1]
      have b2 : bopU .mod (.int ((N / 2 ^ (p - 1) : Nat) : Int)) (.int 2) = some (.int ((N / 2 ^ (p - 1) % 2 : Nat) : Int)) := by
        rw [b_mod (by decide)]
        rfl
      have b3 : cmpU S .eq (.int ((N / 2 ^ (p - 1) % 2 : Nat) : Int)) (.int 1) = some (bit N p) := by
        rw [cmpU, eq1]
        unfold bit
        rw [decide_eq_true h1, Bool.true_and]
      exact r_tup (r_cons (r_v rfl) (r_cons (r_cmp (r_bin (r_bin (r_v rfl) (r_bin (r_v rfl) r_c b1) (shr_pow _ _)) r_c b2) r_c b3) r_nil)) top3
  rw [this]
  have e : ((List.range' 1 (n - 1)).map fun (i : Nat) => U.int i).map (fun z => match z with | .int i => rowU (kRow N i.toNat) | _ => U.non) = ((List.range' 1 (n - 1)).map (kRow N)).map rowU := by
    rw [List.map_map, List.map_map]
    exact List.map_congr_left fun i _ => rfl
  rw [e]
theorem kRows {n N : Nat} (h1 : 1 ≤ n) : [U.tup [.int 0, .bl false]] ++ ((List.range' 1 (n - 1)).map (kRow N)).map rowU = ((List.range n).map (kRow N)).map rowU := by
  obtain ⟨k, rfl⟩ : ∃ k, n = k + 1 := ⟨n - 1, by omega⟩
  rw [List.range_eq_range', List.range'_succ]
  rfl
theorem nr_rows : ∀ l : List (Nat × Bool), noRefL (l.map rowU) = true
  | [] => rfl
  | t :: ts => by
    rw [List.map_cons, noRefL, nr_rows ts]
    rfl
theorem kind_by_ok (d : Nat) (m : Bool) {n N : Nat} (S : Sto) (h1 : 1 ≤ n) (hn : n ≤ 40) (hN : N < 2 ^ (n - 1)) : callN Q (d + 3) m 25 [.int n, .int N] S = newU m S (tiesU (due n N)) := by
  have cp := check_places_ok d false n [] (by omega) (by omega)
  have tf := ties_of_ok (d + 1) true (u := .fl (((List.range n).map (kRow N)).map rowU)) [] (lend_fl (nr_rows _)) (.inl rfl) (by simp; omega)
  have inb := is_number_ok (d + 1) false N []
  rw [kRow_all] at tf
  obtain ⟨c, hc⟩ : ∃ c, c = callN Q (d + 2) := ⟨_, rfl⟩
  refine pm_new (D := D_kind_by) (ws := [.int n, .int N]) (k := 0) (S' := [.lst (tiesU (due n N))]) rfl rfl rfl rfl ?_ rfl (pure_ties _)
  rw [← hc] at cp tf inb ⊢
  show exS I_kind_by (Q.env c) [some (.int n), some (.int N), none] [] = _
  unfold I_kind_by
  have o0 : (Q.env c).okf 0 = true := rfl
  have o2 : (Q.env c).okf 2 = true := rfl
  have o7 : (Q.env c).okf 7 = true := rfl
  refine x_seq (x_expr (r_call o2 (by repeat' (first | exact r_c | exact r_g | exact r_v rfl | exact r_nil | exact r_none | exact b_add | exact b_sub | exact b_div (by decide) | exact b_mod (by decide) | exact c_eq | exact c_ne | exact c_lt | exact c_le | exact c_gt | exact c_ge | exact top1 | exact top2 | exact top3 | exact top4 | apply r_bin | apply r_cmp | apply r_not | apply r_cons | apply r_tup | apply r_newF | apply r_newM | apply r_lst | apply r_bi | apply r_opt | apply r_slice | apply r_rev | apply r_listOf | (apply r_call; exact rfl) | apply x_asg | apply x_ret | apply x_expr | exact x_skip)) cp)) ?_
  have sh := shl_ok (E := Q.env c) (S := []) (σ := [some (.int n), some (.int N), none]) (a := 0) (i := n) rfl ⟨by omega, by omega⟩
  have lt : decide ((N : Int) < 2 ^ ((n : Int) - 1).toNat) = true := by
    refine decide_eq_true ?_
    rw [show ((n : Int) - 1).toNat = n - 1 by omega]
    exact_mod_cast hN
  have le : decide ((0 : Int) ≤ (N : Int)) = true := decide_eq_true (by omega)
  have ch : evE (Q.env c) [some (.int n), some (.int N), none] (.chain .le .lt (.c (.int 0)) (.v 1) (.bin .shl (.c (.int 1)) (.bin .sub (.v 0) (.c (.int 1))))) [] = .ok (.bl true) [] := by
    refine r_chain r_c (r_v rfl) ?_ sh ?_
    · rw [c_le, le]
    · rw [c_lt, lt]
  have cond : evE (Q.env c) [some (.int n), some (.int N), none] (.or (.not (.callD false 0 (.cons (.v 1) .nil))) (.not (.chain .le .lt (.c (.int 0)) (.v 1) (.bin .shl (.c (.int 1)) (.bin .sub (.v 0) (.c (.int 1))))))) [] = .ok (.bl false) [] := by
    refine r_orF (r_not (x := true) (r_call o0 (by repeat' (first | exact r_c | exact r_g | exact r_v rfl | exact r_nil | exact r_none | exact b_add | exact b_sub | exact b_div (by decide) | exact b_mod (by decide) | exact c_eq | exact c_ne | exact c_lt | exact c_le | exact c_gt | exact c_ge | exact top1 | exact top2 | exact top3 | exact top4 | apply r_bin | apply r_cmp | apply r_not | apply r_cons | apply r_tup | apply r_newF | apply r_newM | apply r_lst | apply r_bi | apply r_opt | apply r_slice | apply r_rev | apply r_listOf | (apply r_call; exact rfl) | apply x_asg | apply x_ret | apply x_expr | exact x_skip)) inb)) (r_not (x := true) ch)
  refine x_seq (x_ifF cond x_skip) ?_
  refine x_seqR (x_ret (r_call o7 (r_cons (r_newF (r_cat (r_newF (by repeat' (first | exact r_c | exact r_g | exact r_v rfl | exact r_nil | exact r_none | exact b_add | exact b_sub | exact b_div (by decide) | exact b_mod (by decide) | exact c_eq | exact c_ne | exact c_lt | exact c_le | exact c_gt | exact c_ge | exact top1 | exact top2 | exact top3 | exact top4 | apply r_bin | apply r_cmp | apply r_not | apply r_cons | apply r_tup | apply r_newF | apply r_newM | apply r_lst | apply r_bi | apply r_opt | apply r_slice | apply r_rev | apply r_listOf | (apply r_call; exact rfl) | apply x_asg | apply x_ret | apply x_expr | exact x_skip))) (r_newF (kb_comp hn)) rfl rfl ?_)) r_nil) ?_))
  · rw [List.length_map, List.length_map, List.length_range']
    have tp : top = 1000000 := rfl
    show 1 + (n - 1) < top
    omega
  · rw [kRows h1]
    exact tf
/-! ### _law_number -/
def lnum (c a w : Int) : Int := if 1000000000000000000 ≤ c then c else
  let mixed := ((c + 977 * a) * 48271 + w) % 2147483647
  let more := mixed * (mixed + 31 * a + 7) * (mixed + c + 5)
  more * (more + 48271) / 1009
def Bt (k : Nat) (i : Int) : Prop := i.natAbs < 2 ^ k
instance {k : Nat} {i : Int} : Decidable (Bt k i) := inferInstanceAs (Decidable (_ < _))
theorem Bt.lg {k : Nat} {i : Int} (h : Bt k i) : i.natAbs.log2 ≤ k := by
  by_cases z : i.natAbs = 0
  · rw [z]
    exact Nat.zero_le _
  · exact Nat.le_of_lt ((Nat.log2_lt z).mpr h)
theorem pow_sum (k l : Nat) : 2 ^ k + 2 ^ l ≤ 2 ^ (k + l + 1) := by
  have h1 : 2 ^ k ≤ 2 ^ (k + l) := Nat.pow_le_pow_right (by decide) (by omega)
  have h2 : 2 ^ l ≤ 2 ^ (k + l) := Nat.pow_le_pow_right (by decide) (by omega)
  rw [Nat.pow_succ]
  omega
theorem Bt.add {k l : Nat} {i j : Int} (h : Bt k i) (g : Bt l j) : Bt (k + l + 1) (i + j) := by
  unfold Bt at *
  have := Int.natAbs_add_le i j
  have := pow_sum k l
  omega
theorem Bt.mul {k l : Nat} {i j : Int} (h : Bt k i) (g : Bt l j) : Bt (k + l) (i * j) := by
  unfold Bt at *
  rw [Int.natAbs_mul, Nat.pow_add]
  exact Nat.mul_lt_mul'' h g
theorem b_mulB {i j : Int} {k l : Nat} (h : Bt k i) (g : Bt l j) (s : k + l < 100000000) : bopU .mul (.int i) (.int j) = some (.int (i * j)) := by
  refine b_mul ?_
  have := h.lg
  have := g.lg
  omega
end TWL
/-! K10t -/
set_option Elab.async false
set_option linter.all false
set_option maxRecDepth 100000
namespace TWL
open TW
def isT : R U → Bool
  | .ok (.bl true) [] => true
  | _ => false
theorem isT_ok {r : R U} (h : isT r = true) : r = .ok (.bl true) [] := by
  unfold isT at h
  split at h
  · rfl
  · cases h
theorem t42 : isT (callN Q 9 false 42 [] []) = true := by decide +kernel
end TWL
/-! K10a -/
set_option Elab.async false
set_option linter.all false
set_option maxRecDepth 100000
namespace TWL
open TW TWm
theorem eqv_tie (a b : Nat × Nat) : eqv (.tup [.int a.1, .int a.2]) (.tup [.int b.1, .int b.2]) = decide (a = b) := by
  show (((a.1 : Int) == (b.1 : Int)) && (((a.2 : Int) == (b.2 : Int)) && true)) = _
  rw [Bool.and_true]
  by_cases h : a = b
  · rw [decide_eq_true h, h, beq_self_eq_true, beq_self_eq_true]; rfl
  · rw [decide_eq_false h]
    by_cases h1 : a.1 = b.1
    · have h2 : a.2 ≠ b.2 := fun e => h (Prod.ext h1 e)
      rw [show ((a.2 : Int) == (b.2 : Int)) = false by rw [beq_eq_false_iff_ne]; omega, Bool.and_false]
    · rw [show ((a.1 : Int) == (b.1 : Int)) = false by rw [beq_eq_false_iff_ne]; omega, Bool.false_and]
theorem toD_ties (S : Sto) (k : Nat) : ∀ ts : List (Nat × Nat), mapO (toD S (k + 2)) (tiesU ts) = some (ts.map fun t => Dt.tup [.int t.1, .int t.2])
  | [] => rfl
  | t :: ts => by
    show mapO (toD S (k + 2)) (tieU t :: tiesU ts) = _
    rw [mapO, toD_ties S k ts]
    rfl
theorem toD_fl {S : Sto} {us : List U} {ds : List Dt} (h : mapO (toD S 29) us = some ds) : toD S dep (.fl us) = some (.lst ds) := by
  show (match mapO (toD S 29) us with | some ds => some (Dt.lst ds) | none => none) = _
  rw [h]
theorem srtT_eq {a b : List (Nat × Nat)} (p : a.Perm b) (h : a.length ≤ top) : srtT a = srtT b := by
  unfold srtT
  have hb : (b.map castP).length ≤ top := by rw [List.length_map, ← p.length_eq]; exact h
  rw [srtP_unique hb ((srtP_perm (a.map castP)).trans (p.map _)) (srtP_sorted (by rw [List.length_map]; exact h))]
theorem webPerm {n : Nat} {a b : List (Nat × Nat)} (w : Web n a) (p : b.Perm a) : Web n b := ⟨fun t h => w.lt t (p.mem_iff.mp h), p.nodup_iff.mpr w.nd⟩
theorem rev_ties (ts : List (Nat × Nat)) : (tiesU ts).reverse = tiesU ts.reverse := by
  unfold tiesU
  rw [List.map_reverse]
theorem degs_perm {n : Nat} {a b : List (Nat × Nat)} (p : a.Perm b) : degs n a = degs n b := by
  unfold degs
  refine List.map_congr_left fun i _ => ?_
  rw [tdeg_perm p]
theorem num_spec (d : Nat) (m : Bool) {n N : Nat} {ts : List (Nat × Nat)} (S : Sto) (h1 : 1 ≤ n) (hn : n ≤ 40) (hN : N < 2 ^ (n - 1)) (w : Web n ts) (hp : (degs n ts).Perm (TWm.E (bit N) n)) :
    callN Q (d + 5) m 26 [.int n, .fl (tiesU ts)] S = .ok (.int N) S := by
  obtain ⟨f, hf, e⟩ := kind_number h1 hN hp
  rw [number_of_ok d m S (lend_fl (nr_ties ts)) (.inl rfl) h1 hn w (nr_ties ts), hf]
  dsimp only
  rw [e]
theorem due_E (n N : Nat) : (degs n (due n N)).Perm (TWm.E (bit N) n) := by
  rw [degs_perm (due_perm n N), degs_eq]
  exact kind_E (bit N) n
theorem num_due (d : Nat) (m : Bool) {n N : Nat} (S : Sto) (h1 : 1 ≤ n) (hn : n ≤ 40) (hN : N < 2 ^ (n - 1)) : callN Q (d + 5) m 26 [.int n, .fl (tiesU (due n N))] S = .ok (.int N) S :=
  num_spec d m S h1 hn hN (due_web n N) (due_E n N)
theorem turn_web {o : List Nat} {n : Nat} (ho : o.Perm (List.range n)) {ts : List (Nat × Nat)} (w : Web n ts) : Web n (ts.map (turn fun i => o.getD i 0)) := by
  have len : o.length = n := by rw [ho.length_eq, List.length_range]
  have nd : o.Nodup := ho.nodup_iff.mpr List.nodup_range
  have gd : ∀ i, (h : i < n) → o.getD i 0 = o[i]'(by omega) := fun i h => by rw [List.getD_eq_getElem?_getD, List.getElem?_eq_getElem (by omega)]; rfl
  have lt : ∀ i, i < n → o.getD i 0 < n := fun i h => by
    rw [gd i h]
    exact List.mem_range.mp (ho.mem_iff.mp (List.getElem_mem _))
  have inj : ∀ i j, i < n → j < n → o.getD i 0 = o.getD j 0 → i = j := fun i j hi hj e => by
    rw [gd i hi, gd j hj] at e
    have pw := List.pairwise_iff_getElem.mp nd
    rcases Nat.lt_trichotomy i j with c | c | c
    · exact absurd e (pw i j (by omega) (by omega) c)
    · exact c
    · exact absurd e.symm (pw j i (by omega) (by omega) c)
  refine ⟨fun t ht => ?_, ?_⟩
  · obtain ⟨s, hs, rfl⟩ := List.mem_map.mp ht
    have hw := w.lt s hs
    have l1 := lt s.1 (by omega)
    have l2 := lt s.2 hw.2
    have ne : o.getD s.1 0 ≠ o.getD s.2 0 := fun e => by
      have := inj _ _ (by omega) hw.2 e
      omega
    unfold turn
    dsimp only
    omega
  · refine List.pairwise_map.mpr (List.Pairwise.imp_of_mem (fun {x y} hx hy ne e => ne ?_) w.nd)
    have h1 := w.lt x hx
    have h2 := w.lt y hy
    unfold turn at e
    dsimp only at e
    have e1 := (Prod.mk.inj e).1
    have e2 := (Prod.mk.inj e).2
    have i1 := inj x.1 y.1 (by omega) (by omega)
    have i2 := inj x.2 y.2 (by omega) (by omega)
    have i3 := inj x.1 y.2 (by omega) (by omega)
    have i4 := inj x.2 y.1 (by omega) (by omega)
    by_cases a1 : o.getD x.1 0 = o.getD y.1 0
    · have b1 := i1 a1
      have b2 := i2 (by omega)
      exact Prod.ext b1 b2
    · have b1 := i3 (by omega)
      have b2 := i4 (by omega)
      omega
theorem eqvs_ties : ∀ a b : List (Nat × Nat), eqvs (a.map fun t => Dt.tup [.int t.1, .int t.2]) (b.map fun t => Dt.tup [.int t.1, .int t.2]) = decide (a = b)
  | [], [] => rfl
  | [], y :: ys => rfl
  | x :: xs, [] => rfl
  | x :: xs, y :: ys => by
    rw [List.map_cons, List.map_cons, eqvs, eqv_tie, eqvs_ties xs ys]
    by_cases h : x = y
    · by_cases g : xs = ys
      · rw [decide_eq_true h, decide_eq_true g, h, g]; simp
      · rw [decide_eq_false g, Bool.and_false, decide_eq_false fun z => g (List.cons.inj z).2]
    · rw [decide_eq_false h, Bool.false_and, decide_eq_false fun z => h (List.cons.inj z).1]
theorem e_ties {S : Sto} {a b : List (Nat × Nat)} : eqU S (.fl (tiesU a)) (.fl (tiesU b)) = some (decide (a = b)) := by
  unfold eqU
  rw [toD_fl (toD_ties S 27 a), toD_fl (toD_ties S 27 b)]
  show some (eqvs _ _) = _
  rw [eqvs_ties]
theorem c_neT {S : Sto} {u v : U} (h : eqU S u v = some true) : cmpU S .ne u v = some false := by
  unfold cmpU
  dsimp only
  rw [h]; rfl
end TWL
/-! K10b -/
set_option Elab.async false
set_option linter.all false
set_option maxRecDepth 100000
namespace TWL
open TW TWm
def hdS : IS → IS
  | .seq a _ => a
  | s => s
def tlS : IS → IS
  | .seq _ b => b
  | s => s
def nthS (s : IS) : Nat → IS
  | 0 => hdS s
  | k + 1 => nthS (tlS s) k
def frS (s : IS) : Nat → IS
  | 0 => s
  | k + 1 => frS (tlS s) k
def forBody : IS → IS
  | .for _ _ b => b
  | s => s
/-! ### the kinds of forty places -/
def back40 : List Nat := (List.range 40).reverse
theorem back40_perm : back40.Perm (List.range 40) := List.reverse_perm _
theorem back40_at {i : Nat} (h : i < 40) : back40.getD i 0 = 39 - i := by
  unfold back40
  rw [List.getD_eq_getElem?_getD, List.getElem?_reverse (by rw [List.length_range]; exact h), List.length_range, List.getElem?_range (by omega)]
  rfl
theorem back40_turn {t : Nat × Nat} (h1 : t.1 < t.2) (h2 : t.2 < 40) : turn (fun i => back40.getD i 0) t = (39 - t.2, 39 - t.1) := by
  unfold turn
  dsimp only
  rw [back40_at h2, back40_at (by omega)]
  refine Prod.ext ?_ ?_
  · show min _ _ = _
    omega
  · show max _ _ = _
    omega
theorem due_sorted (n N : Nat) (hn : n ≤ 40) : srtT (due n N) = due n N := by
  have l := key_ok hn (due_web n N)
  exact srtT_eq (due_perm n N) (Nat.le_trans (Nat.le_of_lt l) (by decide))
abbrev kE (d : Nat) : Env := Q.env (callN Q d)
theorem turned_ok {d : Nat} {σ : Sl} {ts : List (Nat × Nat)} (w : Web 40 ts) (hs : σ.length = 8) (h3 : σ[3]? = some (some (.fl (tiesU ts)))) :
    evN (kE d) σ (.comp (.tp (.cons (.nm 6) (.cons (.nm 7) .nil))) (.wL (.v 3)) false (.c (.bl true)) (.tup (.cons (.bin .sub (.c (.int 39)) (.v 7)) (.cons (.bin .sub (.c (.int 39)) (.v 6)) .nil))) [6, 7]) [] = .ok (tiesU (ts.map (turn fun i => back40.getD i 0))) [] := by
  rw [evN_comp]
  show ((evI (kE d) σ (.wL (.v 3)) []).bind fun items S1 => compGo _ items S1) = _
  rw [w_fl (r_v h3), R.bind]
  rw [comp_map (g := fun u => match u with
    | .tup [.int a, .int b] => pairU (39 - b, 39 - a)
    | u => u)]
  · unfold tiesU
    rw [List.map_map, List.map_map]
    congr 1
    refine List.map_congr_left fun t ht => ?_
    have := w.lt t ht
    show pairU (39 - (t.2 : Int), 39 - (t.1 : Int)) = tieU (turn _ t)
    rw [back40_turn this.1 this.2]
    unfold tieU
    congr 2
    · show 39 - (t.2 : Int) = ((39 - t.2 : Nat) : Int)
      omega
    · show 39 - (t.1 : Int) = ((39 - t.1 : Nat) : Int)
      omega
  · intro u hu
    obtain ⟨t, ht, rfl⟩ := List.mem_map.mp hu
    match σ, hs with
    | [a0, a1, a2, a3, a4, a5, a6, a7], _ => rfl
abbrev kLoop : IS := nthS I__law_kinds_right 5
/-- one number -/
theorem k_turn {d N : Nat} {a b x y z : Option U} (hN : N < 2 ^ (40 - 1)) : ∃ y' z', forB (kE (d + 5)) (.nm 2) (forBody kLoop) (.int (N : Int)) [a, b, x, y, z, none, none, none] [] = .ok (.nx [a, b, some (.int (N : Int)), y', z', none, none, none]) [] := by
  refine ⟨some (.fl (tiesU (due 40 N))), some (.fl (tiesU ((due 40 N).map (turn fun i => back40.getD i 0)))), ?_⟩
  have w := due_web 40 N
  have wr : Web 40 (due 40 N).reverse := webPerm w (List.reverse_perm _)
  have wt := turn_web back40_perm w
  have e40 : ((40 : Nat) : Int) = 40 := rfl
  have k1 := kind_by_ok (n := 40) (d + 2) false [] (by decide) (by decide) hN
  have n1 := num_spec (n := 40) d false [] (by decide) (by decide) hN wr (by rw [degs_perm (List.reverse_perm _)]; exact due_E 40 N)
  have n2 := num_spec (n := 40) d false [] (by decide) (by decide) hN wt ((turn_perm back40_perm fun t ht => ⟨by have := w.lt t ht; omega, (w.lt t ht).2⟩).trans (due_E 40 N))
  rw [e40] at k1 n1 n2
  have k1 : callN Q (d + 5) false 25 [.int 40, .int (N : Int)] [] = .ok (.fl (tiesU (due 40 N))) [] := k1
  show exS (forBody kLoop) (kE (d + 5)) [a, b, some (.int (N : Int)), y, z, none, none, none] [] = _
  have ec : ∀ f us, (kE (d + 5)).call false f us [] = callN Q (d + 5) false f us [] := fun f us => rfl
  rw [← ec] at k1 n1 n2
  refine x_seq (x_asg (r_call (us := [.int 40, .int (N : Int)]) (S1 := []) rfl (r_cons r_c (r_cons (r_v rfl) r_nil)) k1)) ?_
  refine x_seq (x_asg (r_newF (turned_ok (ts := due 40 N) w rfl rfl))) ?_
  refine x_seq (x_ifF (S1 := []) ?_ x_skip) x_skip
  have ne : ∀ S : Sto, cmpU S .ne (.int (N : Int)) (.int (N : Int)) = some false := fun S => by rw [c_ne, decide_eq_true rfl]; rfl
  refine r_orF (r_cmp (S1 := []) (r_call rfl (r_cons r_c (r_cons (r_newF (r_rev (r_v rfl) rfl)) r_nil)) ?_) (r_v rfl) (ne _)) ?_
  · rw [rev_ties]
    exact n1
  refine r_orF (r_cmp (S1 := []) (r_call rfl (r_cons r_c (r_cons (r_v rfl) r_nil)) n2) (r_v rfl) (ne _)) ?_
  refine r_cmp (r_v rfl) (r_newF (r_sorted (r_v rfl) rfl (sorted_ties _))) ?_
  rw [due_sorted 40 N (by decide)]
  exact c_neT (by rw [e_ties, decide_eq_true rfl])
theorem k_turns {d : Nat} {a b : Option U} : ∀ (Ns : List Nat) (x y z : Option U), (∀ N ∈ Ns, N < 2 ^ (40 - 1)) → ∃ x' y' z', forGo (forB (kE (d + 5)) (.nm 2) (forBody kLoop)) (Ns.map fun (N : Nat) => U.int N) [a, b, x, y, z, none, none, none] [] = .ok (.nx [a, b, x', y', z', none, none, none]) []
  | [], x, y, z, _ => ⟨x, y, z, rfl⟩
  | N :: Ns, x, y, z, h => by
    obtain ⟨y1, z1, e1⟩ := k_turn (d := d) (a := a) (b := b) (x := x) (y := y) (z := z) (h N List.mem_cons_self)
    obtain ⟨x2, y2, z2, e2⟩ := k_turns Ns (some (.int (N : Int))) y1 z1 fun M hM => h M (List.mem_cons_of_mem _ hM)
    refine ⟨x2, y2, z2, ?_⟩
    rw [List.map_cons, forGo, e1]
    exact e2
end TWL
/-! K10c -/
set_option Elab.async false
set_option linter.all false
set_option maxRecDepth 100000
namespace TWL
open TW TWm
def last40 : Int := 549755813887
abbrev s45 (n : Int) : Sl := [some (.int n), none, none, none, none, none, none, none]
theorem p0 (n : Int) : exS (nthS I__law_kinds_right 0) (kE 8) (s45 n) [] = .ok (.nx (s45 n)) [] := by kernel_rfl
theorem p1 (n : Int) : exS (nthS I__law_kinds_right 1) (kE 8) (s45 n) [] = .ok (.nx (s45 n)) [] := by kernel_rfl
theorem p2 (n : Int) : exS (nthS I__law_kinds_right 2) (kE 8) (s45 n) [] = .ok (.nx (s45 n)) [] := by kernel_rfl
theorem p3 (n : Int) : exS (nthS I__law_kinds_right 3) (kE 8) (s45 n) [] = .ok (.nx (s45 n)) [] := by kernel_rfl
theorem p4 (n : Int) : exS (nthS I__law_kinds_right 4) (kE 8) (s45 n) [] = .ok (.nx [some (.int n), some (.int last40), none, none, none, none, none, none]) [] := by kernel_rfl
theorem p6 (n : Int) (x y z : Option U) : exS (nthS I__law_kinds_right 6) (kE 8) [some (.int n), some (.int last40), x, y, z, none, none, none] [] = .ok (.nx [some (.int n), some (.int last40), x, y, z, none, none, none]) [] := by kernel_rfl
theorem p7 (n : Int) (x y z : Option U) : exS (nthS I__law_kinds_right 7) (kE 8) [some (.int n), some (.int last40), x, y, z, none, none, none] [] = .ok (.nx [some (.int n), some (.int last40), x, y, z, none, none, none]) [] := by kernel_rfl
theorem p8 (n : Int) (x y z : Option U) : exS (nthS I__law_kinds_right 8) (kE 8) [some (.int n), some (.int last40), x, y, z, none, none, none] [] = .ok (.nx [some (.int n), some (.int last40), x, y, z, none, none, none]) [] := by kernel_rfl
theorem p9 (n : Int) (x y z : Option U) : exS (nthS I__law_kinds_right 9) (kE 8) [some (.int n), some (.int last40), x, y, z, none, none, none] [] = .ok (.rt (.bl true)) [] := by kernel_rfl
end TWL
/-! K10p -/
set_option Elab.async false
set_option linter.all false
set_option maxRecDepth 100000
namespace TWL
open TW TWm
theorem cut_map (ns : List Int) (lo hi : Option Int) : ∃ l : List Int, cutU (ns.map .int) lo hi = l.map .int ∧ (∀ z ∈ l, z ∈ ns) ∧ l.length ≤ ns.length := by
  refine ⟨(ns.drop (sIx ns.length 0 lo)).take (sIx ns.length ns.length hi - sIx ns.length 0 lo), ?_, fun z h => List.mem_of_mem_drop (List.mem_of_mem_take h), by rw [List.length_take, List.length_drop]; omega⟩
  unfold cutU
  rw [List.length_map, List.map_take, List.map_drop]
theorem Bt.mono {k l : Nat} {i : Int} (h : Bt k i) (g : k ≤ l) : Bt l i := Nat.lt_of_lt_of_le h (Nat.pow_le_pow_right (by decide) g)
theorem Bt.sum {k : Nat} : ∀ {ns : List Int}, (∀ z ∈ ns, Bt k z) → Bt (k + ns.length) ns.sum
  | [], _ => by
    rw [List.sum_nil]
    exact Nat.pow_pos (by decide)
  | a :: l, h => by
    have ih := Bt.sum (k := k) (ns := l) fun z hz => h z (List.mem_cons_of_mem _ hz)
    have ha := h a List.mem_cons_self
    rw [List.sum_cons, List.length_cons]
    unfold Bt at *
    have h1 := Int.natAbs_add_le a l.sum
    have h2 : 2 ^ k ≤ 2 ^ (k + l.length) := Nat.pow_le_pow_right (by decide) (by omega)
    rw [← Nat.add_assoc, Nat.pow_succ]
    omega
theorem bits_Bt {z : Int} {k : Nat} (h : PySem.Builtin.Int.intBits z ≤ k) : Bt k z := by
  unfold PySem.Builtin.Int.intBits at h
  unfold Bt
  by_cases e : z = 0
  · rw [e]
    exact Nat.pow_pos (by decide)
  · rw [if_neg (by simpa using e)] at h
    have : z.natAbs ≠ 0 := by omega
    exact (Nat.log2_lt this).mp (by omega)
end TWL
/-! K10_43 -/
set_option Elab.async false
set_option linter.all false
set_option maxRecDepth 100000
namespace TWL
open TW
theorem t43 : isT (callN Q 9 false 43 [] []) = true := by decide +kernel
end TWL
/-! K10_44 -/
set_option Elab.async false
set_option linter.all false
set_option maxRecDepth 100000
namespace TWL
open TW
theorem t44 : isT (callN Q 9 false 44 [] []) = true := by decide +kernel
end TWL
/-! K10_46 -/
set_option Elab.async false
set_option linter.all false
set_option maxRecDepth 100000
namespace TWL
open TW
theorem t46 : isT (callN Q 9 false 46 [] []) = true := by decide +kernel
end TWL
/-! TWme -/
set_option linter.all false
namespace TWm
section
variable {adj : Nat → Nat → Bool} {c : Nat → Int}
/-- what a row tells of the ties -/
theorem row_adj (sy : ∀ u v, adj u v = adj v u) (ir : ∀ u, adj u u = false) : ∀ (k : Nat) (left : List Nat) (lost : Int) (found : List (Nat × Bool)), left.length = k + 1 → Inv adj c left lost → rowGo c k left lost = some found →
    (found.map (·.1)).Perm left ∧ found.Pairwise (fun p q => adj p.1 q.1 = p.2)
  | 0, left, lost, found, hl, I, h => by
    match left, hl with
    | [x], _ =>
      have h' : (if c x = lost then some [(x, false)] else none) = some found := h
      split at h'
      · cases h'
        exact ⟨List.Perm.refl _, List.pairwise_singleton _ _⟩
      · cases h'
  | k + 1, left, lost, found, hl, I, h => by
    have step : ∀ (i x : Nat) (b : Bool) (f : List (Nat × Bool)), left[i]? = some x → (f.map (·.1)).Perm (left.eraseIdx i) → f.Pairwise (fun p q => adj p.1 q.1 = p.2) → (∀ w ∈ left.eraseIdx i, adj x w = b) →
        ((((x, b) :: f).map (·.1)).Perm left ∧ ((x, b) :: f).Pairwise (fun p q => adj p.1 q.1 = p.2)) := fun i x b f hx p1 p2 z => by
      refine ⟨?_, List.pairwise_cons.mpr ⟨fun q hq => z q.1 (p1.mem_iff.mp (List.mem_map_of_mem hq)), p2⟩⟩
      rw [List.map_cons]
      exact (List.Perm.cons x p1).trans (erase_perm hx)
    unfold rowGo at h
    split at h
    · rename_i i hp
      obtain ⟨x, hx, e⟩ := map_at (pos_some hp)
      rw [hx] at h
      dsimp only at h
      cases hr : rowGo c k (left.eraseIdx i) lost with
      | none => rw [hr] at h; cases h
      | some f =>
        rw [hr] at h
        cases h
        have z := dg_zero (by rw [← I.ct x (List.mem_of_getElem? hx)]; exact e)
        obtain ⟨p1, p2⟩ := row_adj sy ir k _ lost f (by have := len_erase hx; omega) (I.pop0 sy hx z) hr
        exact step i x false f hx p1 p2 fun w hw => z w (List.mem_of_mem_eraseIdx hw)
    · split at h
      · rename_i i hp
        obtain ⟨x, hx, e⟩ := map_at (pos_some hp)
        rw [hx] at h
        dsimp only at h
        cases hr : rowGo c k (left.eraseIdx i) (lost + 1) with
        | none => rw [hr] at h; cases h
        | some f =>
          rw [hr] at h
          cases h
          have z := dg_full (ir x) hx (by rw [← I.ct x (List.mem_of_getElem? hx), hl]; simp; exact e)
          obtain ⟨p1, p2⟩ := row_adj sy ir k _ (lost + 1) f (by have := len_erase hx; omega) (I.pop1 sy hx z) hr
          exact step i x true f hx p1 p2 z
      · cases h
end
theorem pw_mem {α : Type} {R : α → α → Prop} : ∀ {l : List α}, l.Pairwise R → ∀ {a b : α}, a ∈ l → b ∈ l → a = b ∨ R a b ∨ R b a
  | [], _, a, b, ha, _ => by cases ha
  | x :: l, h, a, b, ha, hb => by
    obtain ⟨h1, h2⟩ := List.pairwise_cons.mp h
    rcases List.mem_cons.mp ha with rfl | ha'
    · rcases List.mem_cons.mp hb with rfl | hb'
      · exact .inl rfl
      · exact .inr (.inl (h1 b hb'))
    · rcases List.mem_cons.mp hb with rfl | hb'
      · exact .inr (.inr (h1 a ha'))
      · exact pw_mem h2 ha' hb'
end TWm
/-! K10e -/
set_option Elab.async false
set_option linter.all false
set_option maxRecDepth 100000
namespace TWL
open TW TWm
theorem toD_tie {S : Sto} {k : Nat} (t : Nat × Nat) : toD S (k + 2) (tieU t) = some (.tup [.int t.1, .int t.2]) := rfl
theorem toD_bo {S : Sto} {us : List U} {ds : List Dt} (h : mapO (toD S 29) us = some ds) : toD S dep (.bo us) = some (.lst ds) := by
  show (match mapO (toD S 29) us with | some ds => some (Dt.lst ds) | none => none) = _
  rw [h]
theorem toD_ref {S : Sto} {n : Nat} {us : List U} {ds : List Dt} (hn : S[n]? = some (.lst us)) (h : mapO (toD S 29) us = some ds) : toD S dep (.ref n) = some (.lst ds) := by
  show (match S[n]? with
    | some (.lst us) => match mapO (toD S 29) us with
      | some ds => some (Dt.lst ds)
      | none => none
    | _ => none) = _
  rw [hn]
  simp only [h]
theorem any_tie (t : Nat × Nat) : ∀ ts : List (Nat × Nat), ((ts.map fun t => Dt.tup [.int t.1, .int t.2]).any fun z => eqv z (.tup [.int t.1, .int t.2])) = decide (t ∈ ts)
  | [] => rfl
  | s :: ts => by
    rw [List.map_cons, List.any_cons, any_tie t ts, eqv_tie]
    by_cases h : s = t
    · rw [decide_eq_true h, Bool.true_or, decide_eq_true (by rw [h]; exact List.mem_cons_self)]
    · rw [decide_eq_false h, Bool.false_or]
      by_cases g : t ∈ ts
      · rw [decide_eq_true g, decide_eq_true (List.mem_cons_of_mem _ g)]
      · rw [decide_eq_false g, decide_eq_false fun z => (List.mem_cons.mp z).elim (fun e => h e.symm) g]
theorem c_in {S : Sto} {t : Nat × Nat} {ts : List (Nat × Nat)} : cmpU S .inn (tieU t) (.fl (tiesU ts)) = some (decide (t ∈ ts)) := by
  show inU S (tieU t) (.fl (tiesU ts)) = _
  unfold inU
  rw [toD_fl (toD_ties S 27 ts), show toD S dep (tieU t) = some (.tup [.int t.1, .int t.2]) from rfl]
  show some ((ts.map fun t => Dt.tup [.int t.1, .int t.2]).any fun z => eqv z (.tup [.int t.1, .int t.2])) = _
  rw [any_tie]
theorem comp_if0 {f : U → Sto → R (Option U)} {p : U → Bool} {g : U → U} {S : Sto} : ∀ {items : List U}, (∀ u ∈ items, f u S = .ok (if p u then some (g u) else none) S) → compGo f items S = .ok ((items.filter p).map g) S
  | [], _ => rfl
  | u :: us, h => by
    rw [compGo, h u List.mem_cons_self]
    show (compGo f us S).bind _ = _
    rw [comp_if0 fun x hx => h x (List.mem_cons_of_mem _ hx), List.filter_cons]
    cases p u <;> rfl
theorem comp_if {E : Env} {σ : Sl} {t : IT} {it q elt : IE} {own : List Nat} {S : Sto} {items : List U} {p : U → Bool} {g : U → U} (hq : (it.isQ && !(q.quiet && elt.quiet)) = false) (hi : evI E σ it S = .ok items S)
    (h : ∀ u ∈ items, ∃ σ2, bindT S t [u] (wipeU σ own) = some σ2 ∧ evE E σ2 q S = .ok (.bl (p u)) S ∧ evE E σ2 elt S = .ok (g u) S) : evN E σ (.comp t it true q elt own) S = .ok ((items.filter p).map g) S := by
  rw [evN, hq, hi]
  simp only [Bool.false_eq_true, if_false, R.bind]
  refine comp_if0 fun u hu => ?_
  obtain ⟨σ2, h1, h2, h3⟩ := h u hu
  rw [h1]
  dsimp only
  rw [h2]
  cases p u
  · rfl
  · dsimp only
    rw [h3]
    rfl
theorem at_ok {us : List U} {i : Nat} {u : U} (h : us[i]? = some u) : ixU us.length (i : Int) = some i := ixU_nat (List.getElem?_eq_some_iff.mp h).1
theorem np_run {f d : Nat} {m : Bool} {us : List U} {S S' : Sto} {D : Df} {u : U} (hD : Q.df f = some D) (hp : D.pm = false) (hn : us.length = D.np)
    (h : exS D.body (Q.env (callN Q d)) (startU D.ns us) S = .ok (.rt u) S') : callN Q (d + 1) m f us S = .ok u S' := by
  rw [callN, hD]
  dsimp only
  rw [if_pos hn, hp]
  dsimp only
  rw [h]
  rfl
theorem eqv_ints : ∀ a b : List Int, eqvs (a.map Dt.int) (b.map Dt.int) = decide (a = b)
  | [], [] => rfl
  | [], y :: ys => rfl
  | x :: xs, [] => rfl
  | x :: xs, y :: ys => by
    show ((x == y) && eqvs (xs.map Dt.int) (ys.map Dt.int)) = _
    rw [eqv_ints xs ys]
    by_cases h : x = y
    · rw [h, beq_self_eq_true, Bool.true_and]
      by_cases g : xs = ys
      · rw [g]; simp
      · rw [decide_eq_false g, decide_eq_false fun z => g (List.cons.inj z).2]
    · rw [beq_eq_false_iff_ne.mpr h, Bool.false_and, decide_eq_false fun z => h (List.cons.inj z).1]
theorem e_ints {S : Sto} {a b : List Int} : eqU S (.fl (a.map .int)) (.fl (b.map .int)) = some (decide (a = b)) := by
  unfold eqU
  rw [toD_fl (toDs_int S 28 a), toD_fl (toDs_int S 28 b)]
  show some (eqvs (a.map Dt.int) (b.map Dt.int)) = _
  rw [eqv_ints]
def natI (l : List Nat) : List Int := l.map fun (p : Nat) => (p : Int)
theorem lf_int (l : List Nat) : lf l = (natI l).map .int := by
  unfold lf natI
  rw [List.map_map]
  rfl
theorem natI_inj {a b : List Nat} (h : natI a = natI b) : a = b := by
  have := congrArg (List.map Int.toNat) h
  unfold natI at this
  rw [List.map_map, List.map_map] at this
  have e : ∀ l : List Nat, l.map (Int.toNat ∘ fun (p : Nat) => (p : Int)) = l := fun l => (List.map_congr_left fun x _ => rfl).trans (List.map_id _)
  rw [e, e] at this
  exact this
theorem e_lf {S : Sto} {a b : List Nat} : eqU S (.fl (lf a)) (.fl (lf b)) = some (decide (a = b)) := by
  rw [lf_int, lf_int, e_ints]
  by_cases h : a = b
  · rw [h]; simp
  · rw [decide_eq_false h, decide_eq_false fun z => h (natI_inj z)]
theorem c_neLf {S : Sto} {a b : List Nat} : cmpU S .ne (.fl (lf a)) (.fl (lf b)) = some (!decide (a = b)) := by
  show (eqU S _ _).map (!·) = _
  rw [e_lf]; rfl
theorem asBls {α : Type} (f : α → Bool) : ∀ l : List α, mapO asBl (l.map fun a => U.bl (f a)) = some (l.map f)
  | [] => rfl
  | a :: l => by
    rw [List.map_cons, mapO, asBls f l]
    rfl
end TWL
/-! K10fa -/
set_option Elab.async false
set_option linter.all false
set_option maxRecDepth 100000
namespace TWL
open TW TWm
/-! ### are all of some tied, or all not -/
def prsB (ts : List (Nat × Nat)) (t : Bool) : List Int → List Int → Bool
  | _, [] => true
  | pre, x :: r => pre.all (fun o => adjT ts o.toNat x.toNat == t) && prsB ts t (pre ++ [x]) r
def rngB (n : Nat) (xs : List Int) : Bool := xs.all fun x => decide (0 ≤ x) && decide (x < n)
def allB (n : Nat) (ts : List (Nat × Nat)) (xs : List Int) (t : Bool) : Bool := decide (xs = uniq eqI (srtI xs)) && (rngB n xs && prsB ts t [] xs)
theorem pos_mem {v : Int} {l : List Int} : (pos v l).isSome = true ↔ v ∈ l := by
  cases h : pos v l with
  | none =>
    have := pos_none h
    simp [this]
  | some i =>
    have := List.mem_of_getElem? (pos_some h)
    simp [this]
theorem mem_prt {n : Nat} {ts : List (Nat × Nat)} (w : Web n ts) (j k : Nat) : (j : Int) ∈ prt ts k ↔ adjT ts j k = true := by
  unfold prt adjT
  rw [List.mem_filterMap, Bool.or_eq_true, decide_eq_true_eq, decide_eq_true_eq]
  constructor
  · intro ⟨t, ht, e⟩
    have lt := w.lt t ht
    by_cases h1 : t.1 = k
    · rw [if_pos h1] at e
      have : t = (k, j) := Prod.ext h1 (by simp at e; omega)
      exact .inr (this ▸ ht)
    · rw [if_neg h1] at e
      by_cases h2 : t.2 = k
      · rw [if_pos h2] at e
        have : t = (j, k) := Prod.ext (by simp at e; omega) h2
        exact .inl (this ▸ ht)
      · rw [if_neg h2] at e
        cases e
  · rintro (m | m)
    · have lt := w.lt _ m
      refine ⟨(j, k), m, ?_⟩
      dsimp only at lt ⊢
      rw [if_neg (by omega), if_pos rfl]
    · refine ⟨(k, j), m, ?_⟩
      dsimp only
      rw [if_pos rfl]
theorem in_near {S : Sto} {n : Nat} {ts : List (Nat × Nat)} (w : Web n ts) (j k : Nat) : cmpU S .inn (.int j) (.fl ((srtI (prt ts k)).map .int)) = some (adjT ts j k) := by
  show inU S _ _ = _
  rw [in_ints (.inl rfl)]
  congr 1
  have e : (pos (j : Int) (srtI (prt ts k))).isSome = true ↔ adjT ts j k = true := by rw [pos_mem, (srtI_perm _).mem_iff, mem_prt w]
  cases h : adjT ts j k with
  | true => exact e.mpr h
  | false =>
    cases h2 : (pos (j : Int) (srtI (prt ts k))).isSome with
    | false => rfl
    | true => rw [e.mp h2] at h; cases h
theorem e_intsL {S : Sto} {v : U} {a b : List Int} (h : Lst v (a.map .int)) : eqU S v (.fl (b.map .int)) = some (decide (a = b)) := by
  unfold eqU
  rw [toD_ints h, toD_fl (toDs_int S 28 b)]
  show some (eqvs (a.map Dt.int) (b.map Dt.int)) = _
  rw [eqv_ints]
theorem c_neB {S : Sto} {a b : Bool} : cmpU S .ne (.bl a) (.bl b) = some (!(a == b)) := by
  show (eqU S (.bl a) (.bl b)).map (!·) = _
  cases a <;> cases b <;> rfl
theorem rd_L {S : Sto} {v : U} {us : List U} (h : Lst v us) : rdL S v = some us := by rcases h with rfl | rfl <;> rfl
theorem rd_Q {S : Sto} {v : U} {us : List U} (h : Lst v us) : rdQ S v = some us := by rcases h with rfl | rfl <;> rfl
theorem all_bls {P : Pg} {S : Sto} {α : Type} (f : α → Bool) (l : List α) : biU P S .all [.fl (l.map fun a => .bl (f a))] = some (.bl (l.all f)) := by
  show (mapO asBl (l.map fun a => U.bl (f a))).map (fun bs => U.bl (bs.all id)) = _
  rw [asBls, Option.map_some, List.all_map]
  rfl
theorem any_bls {P : Pg} {S : Sto} {α : Type} (f : α → Bool) (l : List α) : biU P S .any [.fl (l.map fun a => .bl (f a))] = some (.bl (l.any f)) := by
  show (mapO asBl (l.map fun a => U.bl (f a))).map (fun bs => U.bl (bs.any id)) = _
  rw [asBls, Option.map_some, List.any_map]
  rfl
def allBody (elt : IE) : IS := (.seq (.iff (.bi .any (.cons (.newF (.comp (.nm 5) (.wL (.newF (.slice (.v 1) .none (.opt (.v 3))))) false (.c (.bl true)) elt [5])) .nil)) (.seq (.ret (.c (.bl false)))
  .skip) .skip)
  .skip)
section
variable {E : Env} {S : Sto} {n : Nat} {ts : List (Nat × Nat)} {t : Bool} {v0 v1 : U} {xs : List Int} {tl : Sl} {elt : IE}
def asl (v0 v1 : U) (t : Bool) (a b : Option U) (tl : Sl) : Sl := some v0 :: some v1 :: some (.bl t) :: a :: b :: none :: tl
/-- one place against those ahead -/
theorem all_step (l1 : Lst v1 (xs.map .int)) (helt : ∀ (o x : Nat) (a : Option U), o < n → x < n → evE E (some v0 :: some v1 :: some (.bl t) :: a :: some (.int x) :: some (.int o) :: tl) elt S = .ok (.bl (!(adjT ts o x == t))) S) {pre r : List Int} {x : Int} (hx : xs = pre ++ x :: r) (rg : rngB n xs = true) {a b : Option U} :
    forB E (.tp (.cons (.nm 3) (.cons (.nm 4) .nil))) (allBody elt) (.tup [.int pre.length, .int x]) (asl v0 v1 t a b tl) S =
      if pre.all (fun o => adjT ts o.toNat x.toNat == t) then .ok (.nx (asl v0 v1 t (some (.int pre.length)) (some (.int x)) tl)) S else .ok (.rt (.bl false)) S := by
  have inr : ∀ y ∈ xs, ∃ k : Nat, y = k ∧ k < n := fun y hy => by
    unfold rngB at rg
    have := List.all_eq_true.mp rg y hy
    rw [Bool.and_eq_true, decide_eq_true_eq, decide_eq_true_eq] at this
    exact ⟨y.toNat, by omega, by omega⟩
  obtain ⟨kx, ekx, hkx⟩ := inr x (by rw [hx]; simp)
  show exS (allBody elt) E (asl v0 v1 t (some (.int pre.length)) (some (.int x)) tl) S = _
  unfold allBody
  have it : evI E (asl v0 v1 t (some (.int pre.length)) (some (.int x)) tl) (.wL (.newF (.slice (.v 1) .none (.opt (.v 3))))) S = .ok (pre.map .int) S := by
    have ct : cutU (xs.map .int) .none (some (pre.length : Nat)) = pre.map .int := by
      rw [hx, List.map_append]
      have := cut_pre (pre := pre.map U.int) (r := (x :: r).map U.int)
      rw [List.length_map] at this
      exact this
    have := w_fl (r_newF (r_slice (E := E) (σ := asl v0 v1 t (some (.int pre.length)) (some (.int x)) tl) (a := .v 1) (S := S) (r_v rfl) r_none (r_opt (a := .v 3) (r_v rfl)) (rd_L l1)))
    rw [ct] at this
    exact this
  have cm := comp_no (q := .c (.bl true)) (own := [5]) (t := .nm 5) (elt := elt) (g := fun z => match z with | .int i => .bl (!(adjT ts i.toNat x.toNat == t)) | _ => U.non) rfl it fun z hz => by
    obtain ⟨y, hy, rfl⟩ := List.mem_map.mp hz
    obtain ⟨ky, eky, hky⟩ := inr y (by rw [hx]; exact List.mem_append_left _ hy)
    refine ⟨some v0 :: some v1 :: some (.bl t) :: some (.int pre.length) :: some (.int x) :: some (.int y) :: tl, rfl, ?_⟩
    rw [eky, ekx]
    exact helt ky kx _ hky hkx
  have e : (pre.map U.int).map (fun (z : U) => match z with | .int i => .bl (!(adjT ts i.toNat x.toNat == t)) | _ => U.non) = pre.map fun o => U.bl (!(adjT ts o.toNat x.toNat == t)) := by
    rw [List.map_map]
    exact List.map_congr_left fun y _ => rfl
  rw [e] at cm
  have tst : evE E (asl v0 v1 t (some (.int pre.length)) (some (.int x)) tl) (.bi .any (.cons (.newF (.comp (.nm 5) (.wL (.newF (.slice (.v 1) .none (.opt (.v 3))))) false (.c (.bl true)) elt [5])) .nil)) S = .ok (.bl (!(pre.all (fun o => adjT ts o.toNat x.toNat == t)))) S := by
    have a1 := any_bls (P := E.P) (S := S) (fun (o : Int) => !(adjT ts o.toNat x.toNat == t)) pre
    have a2 : pre.any (fun o => !(adjT ts o.toNat x.toNat == t)) = !(pre.all (fun o => adjT ts o.toNat x.toNat == t)) := by
      rw [List.not_all_eq_any_not]
    rw [a2] at a1
    exact r_bi (r_cons (r_newF cm) r_nil) a1
  cases h : pre.all (fun o => adjT ts o.toNat x.toNat == t) with
  | true =>
    rw [h] at tst
    rw [if_pos rfl]
    exact x_seq (x_ifF tst x_skip) x_skip
  | false =>
    rw [h] at tst
    rw [if_neg Bool.false_ne_true]
    exact x_seqR (x_ifT tst (x_seqR (x_ret r_c)))
theorem all_loop (l1 : Lst v1 (xs.map .int)) (helt : ∀ (o x : Nat) (a : Option U), o < n → x < n → evE E (some v0 :: some v1 :: some (.bl t) :: a :: some (.int x) :: some (.int o) :: tl) elt S = .ok (.bl (!(adjT ts o x == t))) S) (rg : rngB n xs = true) :
    ∀ (r pre : List Int) (a b : Option U), xs = pre ++ r → ∃ a' b', forGo (forB E (.tp (.cons (.nm 3) (.cons (.nm 4) .nil))) (allBody elt)) (enumU pre.length (r.map .int)) (asl v0 v1 t a b tl) S =
      if prsB ts t pre r then .ok (.nx (asl v0 v1 t a' b' tl)) S else .ok (.rt (.bl false)) S
  | [], pre, a, b, _ => ⟨a, b, by rw [prsB, if_pos rfl]; rfl⟩
  | x :: r, pre, a, b, h => by
    have st := all_step (E := E) (S := S) (tl := tl) l1 helt h rg (a := a) (b := b)
    obtain ⟨a', b', e⟩ := all_loop l1 helt rg r (pre ++ [x]) (some (.int pre.length)) (some (.int x)) (by rw [h, List.append_assoc]; rfl)
    refine ⟨a', b', ?_⟩
    rw [List.map_cons, enumU, forGo, st, prsB]
    cases hp : pre.all (fun o => adjT ts o.toNat x.toNat == t) with
    | true =>
      rw [if_pos rfl, R.bind, Bool.true_and]
      rw [List.length_append, List.length_singleton] at e
      exact e
    | false =>
      rw [if_neg Bool.false_ne_true, R.bind, Bool.false_and, if_neg Bool.false_ne_true]
/-- the whole test -/
theorem all_body (l1 : Lst v1 (xs.map .int)) (hl : xs.length < 64) (helt : ∀ (o x : Nat) (a : Option U), o < n → x < n → evE E (some v0 :: some v1 :: some (.bl t) :: a :: some (.int x) :: some (.int o) :: tl) elt S = .ok (.bl (!(adjT ts o x == t))) S)
    {rng : IE} (hrng : evE E (asl v0 v1 t none none tl) (.bi .all (.cons (.newF rng) .nil)) S = .ok (.bl (rngB n xs)) S) :
    exS (.seq (.iff (.or (.cmp .ne (.v 1) (.newF (.sortedSet (.v 1)))) (.not (.bi .all (.cons (.newF rng) .nil)))) (.seq (.ret (.c (.bl false))) .skip) .skip)
      (.seq (.for (.tp (.cons (.nm 3) (.cons (.nm 4) .nil))) (.wEn (.v 1)) (allBody elt)) (.seq (.ret (.c (.bl true))) .skip))) E (asl v0 v1 t none none tl) S = .ok (.rt (.bl (allB n ts xs t))) S := by
  have ss : evN E (asl v0 v1 t none none tl) (.sortedSet (.v 1)) S = .ok ((uniq eqI (srtI xs)).map .int) S := by
    rw [evN, r_v (u := v1) rfl, R.bind, rd_L l1]
    have : sortedSetU (xs.map U.int) = some ((uniq eqI (srtI xs)).map .int) := by
      unfold sortedSetU
      rw [asInts]
      dsimp only
      rw [if_pos hl]
    show R.opt (sortedSetU (xs.map U.int)) S = _
    rw [this]
    rfl
  have q1 : cmpU S .ne v1 (.fl ((uniq eqI (srtI xs)).map .int)) = some (!decide (xs = uniq eqI (srtI xs))) := by
    show (eqU S v1 _).map (!·) = _
    rw [e_intsL l1]
    rfl
  have tst := r_or (E := E) (σ := asl v0 v1 t none none tl) (S := S) (b := .not (.bi .all (.cons (.newF rng) .nil))) (r_cmp (a := .v 1) (b := .newF (.sortedSet (.v 1))) (r_v rfl) (r_newF ss) q1) fun _ => r_not hrng
  unfold allB
  cases h1 : decide (xs = uniq eqI (srtI xs)) with
  | false =>
    rw [h1] at tst
    exact x_seqR (x_ifT tst (x_seqR (x_ret r_c)))
  | true =>
    rw [h1] at tst
    cases h2 : rngB n xs with
    | false =>
      rw [h2] at tst
      exact x_seqR (x_ifT tst (x_seqR (x_ret r_c)))
    | true =>
      rw [h2] at tst
      refine x_seq (x_ifF tst x_skip) ?_
      have it : evI E (asl v0 v1 t none none tl) (.wEn (.v 1)) S = .ok (enumU 0 (xs.map .int)) S := by
        rcases l1 with rfl | rfl
        · exact w_enf (r_v rfl)
        · exact w_enb (r_v rfl)
      obtain ⟨a', b', e⟩ := all_loop (E := E) (S := S) (tl := tl) l1 helt h2 xs [] none none rfl
      cases h3 : prsB ts t [] xs with
      | false =>
        rw [h3, if_neg Bool.false_ne_true] at e
        exact x_seqR (x_for it e)
      | true =>
        rw [h3, if_pos rfl] at e
        exact x_seq (x_for it e) (x_seqR (x_ret r_c))
end
end TWL
/-! K10fb -/
set_option Elab.async false
set_option linter.all false
set_option maxRecDepth 100000
namespace TWL
open TW TWm
theorem r_chainB {E : Env} {σ : Sl} {S : Sto} {a b c : IE} {op op' : COp} {x y w : U} {b1 b2 : Bool} (ha : evE E σ a S = .ok x S) (hb : evE E σ b S = .ok y S) (h : cmpU S op x y = some b1) (hc : evE E σ c S = .ok w S) (h2 : cmpU S op' y w = some b2) : evE E σ (.chain op op' a b c) S = .ok (.bl (b1 && b2)) S := by
  cases b1 with
  | true => exact r_chain ha hb h hc h2
  | false =>
    rw [evE, ha, R.bind, hb, R.bind, h]
    rfl
/-- all of them places -/
theorem rng_ok {E : Env} {σ : Sl} {S : Sto} {s n : Nat} {v0 v1 : U} {l0 : List U} {xs : List Int} (h0 : σ[0]? = some (some v0)) (h1 : σ[1]? = some (some v1)) (hs : 1 < s) (hs2 : s < σ.length) (r0 : rdQ S v0 = some l0) (hl : l0.length = n) (l1 : Lst v1 (xs.map .int)) :
    evE E σ (.bi .all (.cons (.newF (.comp (.nm s) (.wL (.v 1)) false (.c (.bl true)) (.chain .le .lt (.c (.int 0)) (.v s) (.bi .len (.cons (.v 0) .nil))) [s])) .nil)) S = .ok (.bl (rngB n xs)) S := by
  have it : evI E σ (.wL (.v 1)) S = .ok (xs.map .int) S := by
    rcases l1 with rfl | rfl
    · exact w_fl (r_v h1)
    · exact w_bo (r_v h1)
  have cm := comp_no (q := .c (.bl true)) (own := [s]) (t := .nm s) (elt := .chain .le .lt (.c (.int 0)) (.v s) (.bi .len (.cons (.v 0) .nil))) (g := fun z => match z with | .int i => .bl (decide (0 ≤ i) && decide (i < n)) | _ => U.non) rfl it fun z hz => by
    obtain ⟨y, hy, rfl⟩ := List.mem_map.mp hz
    have s0 : ((wipeU σ [s]).set s (some (U.int y)))[0]? = some (some v0) := by
      show ((σ.set s none).set s (some (U.int y)))[0]? = _
      rw [List.getElem?_set_ne (by omega), List.getElem?_set_ne (by omega), h0]
    have ss : ((wipeU σ [s]).set s (some (U.int y)))[s]? = some (some (.int y)) := by
      show ((σ.set s none).set s (some (U.int y)))[s]? = _
      rw [List.getElem?_set_self (by rw [List.length_set]; exact hs2)]
    refine ⟨_, nm_bind, ?_⟩
    refine r_chainB r_c (r_v ss) c_le (r_bi (u := .int (n : Nat)) (r_cons (r_v s0) r_nil) ?_) c_lt
    show (rdQ S v0).map _ = _
    rw [r0, Option.map_some, hl]
  have e : (xs.map U.int).map (fun (z : U) => match z with | .int i => .bl (decide (0 ≤ i) && decide (i < n)) | _ => U.non) = xs.map fun x => U.bl (decide (0 ≤ x) && decide (x < (n : Int))) := by
    rw [List.map_map]
    exact List.map_congr_left fun y _ => rfl
  rw [e] at cm
  exact r_bi (r_cons (r_newF cm) r_nil) (all_bls (fun x => decide (0 ≤ x) && decide (x < (n : Int))) xs)
theorem beside_len (n : Nat) (ts : List (Nat × Nat)) : (besideU n ts).length = n := by unfold besideU; simp
theorem beside_at {n k : Nat} (ts : List (Nat × Nat)) (h : k < n) : (besideU n ts)[k]? = some (.fl ((srtI (prt ts k)).map .int)) := by
  unfold besideU
  rw [List.getElem?_map, List.getElem?_range h]
  rfl
theorem are_all_ok (d : Nat) (m : Bool) {n : Nat} {ts : List (Nat × Nat)} {xs : List Int} {t : Bool} {u0 u1 v0 v1 : U} (S : Sto) (hl0 : lend S ldep u0 = some v0) (l0 : Lst v0 (besideU n ts)) (hl1 : lend S ldep u1 = some v1) (l1 : Lst v1 (xs.map .int)) (w : Web n ts) (hx : xs.length < 64) :
    callN Q (d + 1) m 16 [u0, u1, .bl t] S = .ok (.bl (allB n ts xs t)) S := by
  obtain ⟨E, hE⟩ : ∃ E, E = Q.env (callN Q d) := ⟨_, rfl⟩
  refine pm_run (D := D_are_all) (ws := [v0, v1, .bl t]) (S' := []) rfl rfl rfl (by simp [mapO, hl0, hl1]; rfl) ?_ rfl
  rw [← hE]
  show exS I_are_all E (asl v0 v1 t none none []) [] = _
  refine all_body l1 hx (fun o x a ho hx2 => ?_) (rng_ok (n := n) rfl rfl (by decide) (by unfold asl; simp) (rd_Q l0) (beside_len n ts) l1)
  exact r_cmp (r_cmp (r_v rfl) (r_ix (r_v rfl) (r_v rfl) (rd_Q l0) (at_ok (beside_at ts hx2)) (beside_at ts hx2)) (in_near w o x)) (r_v rfl) c_neB
/-! ### groups -/
def GsL : List U → List (List Int) → Prop
  | [], [] => True
  | u :: us, g :: gs => Lst u (g.map .int) ∧ GsL us gs
  | _, _ => False
theorem GsL.len : ∀ {us : List U} {gs : List (List Int)}, GsL us gs → us.length = gs.length
  | [], [], _ => rfl
  | u :: us, g :: gs, h => by rw [List.length_cons, List.length_cons, GsL.len h.2]
  | [], _ :: _, h => h.elim
  | _ :: _, [], h => h.elim
theorem comp_gs {f : U → Sto → R (Option U)} {k : List Int → U} {S : Sto} : ∀ {us : List U} {gs : List (List Int)}, GsL us gs → (∀ u g, g ∈ gs → Lst u (g.map .int) → f u S = .ok (some (k g)) S) → compGo f us S = .ok (gs.map k) S
  | [], [], _, _ => rfl
  | [], _ :: _, h, _ => h.elim
  | _ :: _, [], h, _ => h.elim
  | u :: us, g :: gs, h, q => by
    rw [compGo, q u g List.mem_cons_self h.1]
    show (compGo f us S).bind _ = _
    rw [comp_gs h.2 fun u g hg hl => q u g (List.mem_cons_of_mem _ hg) hl]
    rfl
theorem comp_no_gs {E : Env} {σ : Sl} {t : IT} {it q elt : IE} {own : List Nat} {S : Sto} {items : List U} {gs : List (List Int)} {k : List Int → U} (hq : (it.isQ && !(q.quiet && elt.quiet)) = false) (hi : evI E σ it S = .ok items S) (hg : GsL items gs)
    (h : ∀ u g, g ∈ gs → Lst u (g.map .int) → ∃ σ2, bindT S t [u] (wipeU σ own) = some σ2 ∧ evE E σ2 elt S = .ok (k g) S) : evN E σ (.comp t it false q elt own) S = .ok (gs.map k) S := by
  rw [evN, hq, hi]
  simp only [Bool.false_eq_true, if_false, R.bind]
  refine comp_gs hg fun u g hm hl => ?_
  obtain ⟨σ2, h1, h2⟩ := h u g hm hl
  rw [h1]
  dsimp only
  rw [h2]
theorem nr_ints : ∀ l : List Int, noRefL (l.map U.int) = true
  | [] => rfl
  | a :: l => by rw [List.map_cons, noRefL, nr_ints l]; rfl
theorem lend_L {S : Sto} {v : U} {us : List U} (h : Lst v us) (nr : noRefL us = true) : lend S ldep v = some v := by
  rcases h with rfl | rfl
  · exact lend_fl nr
  · exact lend_bo nr
theorem nr_beside (n : Nat) (ts : List (Nat × Nat)) : noRefL (besideU n ts) = true := by
  unfold besideU
  generalize List.range n = l
  induction l with
  | nil => rfl
  | cons a l ih =>
    rw [List.map_cons, noRefL, ih, U.noRef, nr_ints]
    rfl
def fitB (n : Nat) (gs : List (List Int)) : Bool := decide (srtI gs.flatten = natI (List.range n))
def grpB (n : Nat) (ts : List (Nat × Nat)) (gs : List (List Int)) (t : Bool) : Bool := gs.all (fun g => allB n ts g t && !decide (g = [])) && fitB n gs
theorem rd_X {S : Sto} {v : U} {us : List U} (h : Lst v us) : rdX S v = some us := by rcases h with rfl | rfl <;> rfl
theorem ext_loop {E : Env} {v0 v1 v2 : U} : ∀ {us : List U} {gs : List (List Int)}, GsL us gs → ∀ (acc : List Int) (x : Option U), acc.length + gs.flatten.length < 100000 → ∃ x', forGo (forB E (.nm 4) (.seq (.expr (.lm .extend (.v 3) (.cons (.v 4) .nil))) .skip)) us [some v0, some v1, some v2, some (.ref 0), x] [.lst (acc.map .int)] =
      .ok (.nx [some v0, some v1, some v2, some (.ref 0), x']) [.lst ((acc ++ gs.flatten).map .int)]
  | [], [], _, acc, x, _ => ⟨x, by rw [List.flatten_nil, List.append_nil]; rfl⟩
  | [], _ :: _, h, _, _, _ => h.elim
  | _ :: _, [], h, _, _, _ => h.elim
  | u :: us, g :: gs, h, acc, x, hl => by
    rw [List.flatten_cons, List.length_append] at hl
    obtain ⟨x', e⟩ := ext_loop (E := E) (v0 := v0) (v1 := v1) (v2 := v2) h.2 (acc ++ g) (some u) (by rw [List.length_append]; omega)
    refine ⟨x', ?_⟩
    have tp : top = 1000000 := rfl
    have st : forB E (.nm 4) (.seq (.expr (.lm .extend (.v 3) (.cons (.v 4) .nil))) .skip) u [some v0, some v1, some v2, some (.ref 0), x] [.lst (acc.map .int)] = .ok (.nx [some v0, some v1, some v2, some (.ref 0), some u]) [.lst ((acc ++ g).map .int)] := by
      show exS (.seq (.expr (.lm .extend (.v 3) (.cons (.v 4) .nil))) .skip) E [some v0, some v1, some v2, some (.ref 0), some u] [.lst (acc.map .int)] = _
      refine x_seq (x_expr (u := .non) (r_lm (r_v rfl) rfl (r_cons (r_v rfl) r_nil) ?_)) x_skip
      rw [List.map_append]
      have rx : rdX [.lst (acc.map .int)] u = some (g.map .int) := rd_X h.1
      show (match ([.lst (acc.map .int)] : Sto)[0]?, rdX [.lst (acc.map .int)] u with
        | some (.lst us), some ws => if us.length + ws.length < top then R.ok U.non (([.lst (acc.map .int)] : Sto).set 0 (.lst (us ++ ws))) else .bad
        | _, _ => .bad) = _
      rw [rx]
      show (if (acc.map U.int).length + (g.map U.int).length < top then R.ok U.non [.lst (acc.map .int ++ g.map .int)] else .bad) = _
      rw [if_pos (by rw [List.length_map, List.length_map]; omega)]
    rw [forGo, st, R.bind, List.flatten_cons, ← List.append_assoc]
    exact e
theorem r_lrangeN {E : Env} {σ : Sl} {S : Sto} {a n : Nat} {v0 : U} {l0 : List U} (h0 : σ[a]? = some (some v0)) (r0 : rdQ S v0 = some l0) (hl : l0.length = n) (hn : n ≤ 40) : evE E σ (.newF (.lrange (.bi .len (.cons (.v a) .nil)))) S = .ok (.fl ((natI (List.range n)).map .int)) S := by
  have e : evE E σ (.bi .len (.cons (.v a) .nil)) S = .ok (.int (n : Nat)) S := r_bi (r_cons (r_v h0) r_nil) (by
    show (rdQ S v0).map _ = _
    rw [r0, Option.map_some, hl])
  have := r_newF (lrangeN e (by omega))
  rw [this]
  have z : ((List.range n).map fun (i : Nat) => U.int i) = (natI (List.range n)).map .int := lf_int (List.range n)
  rw [z]
theorem flat_len : ∀ (gs : List (List Int)), (∀ g ∈ gs, g.length < 64) → gs.flatten.length ≤ gs.length * 64
  | [], _ => Nat.zero_le _
  | g :: gs, h => by
    have := flat_len gs fun x hx => h x (List.mem_cons_of_mem _ hx)
    have := h g List.mem_cons_self
    rw [List.flatten_cons, List.length_append, List.length_cons]
    omega
theorem e_nil {S : Sto} {v : U} {g : List Int} (h : Lst v (g.map .int)) : eqU S v (.fl []) = some (decide (g = [])) := e_intsL (b := []) h
theorem are_parted_ok (d : Nat) (m : Bool) {n : Nat} {ts : List (Nat × Nat)} {gs : List (List Int)} {t : Bool} {u0 u1 v0 v1 : U} {us : List U} (S : Sto) (hl0 : lend S ldep u0 = some v0) (l0 : Lst v0 (besideU n ts)) (hl1 : lend S ldep u1 = some v1) (l1 : Lst v1 us) (hg : GsL us gs) (hn : n ≤ 40) (w : Web n ts) (hx : ∀ g ∈ gs, g.length < 64) (hx2 : gs.length < 1000) :
    callN Q (d + 2) m 17 [u0, u1, .bl t] S = .ok (.bl (grpB n ts gs t)) S := by
  have aa := fun (u : U) (g : List Int) (hg : g ∈ gs) (hl : Lst u (g.map .int)) (S : Sto) => are_all_ok d false (n := n) (ts := ts) (xs := g) (t := t) (u0 := v0) (u1 := u) S (lend_L l0 (nr_beside n ts)) l0 (lend_L hl (nr_ints g)) hl w (hx g hg)
  obtain ⟨c, hc⟩ : ∃ c, c = callN Q (d + 1) := ⟨_, rfl⟩
  rw [← hc] at aa
  have key : ∃ S', exS D_are_parted.body (Q.env c) (startU D_are_parted.ns [v0, v1, .bl t]) [] = .ok (.rt (.bl (grpB n ts gs t))) S' := by
    show ∃ S', exS I_are_parted (Q.env c) [some v0, some v1, some (.bl t), none, none] [] = _
    unfold I_are_parted
    have it : ∀ (a b : Option U) (S : Sto), evI (Q.env c) [some v0, some v1, some (.bl t), a, b] (.wL (.v 1)) S = .ok us S := by
      intro a b S
      rcases l1 with rfl | rfl
      · exact w_fl (r_v rfl)
      · exact w_bo (r_v rfl)
    have cm := comp_no_gs (q := .c (.bl true)) (own := [4]) (t := .nm 4) (elt := .and (.callD false 16 (.cons (.v 0) (.cons (.v 4) (.cons (.v 2) .nil)))) (.cmp .ne (.v 4) (.newF (.lst .nil)))) (k := fun g => .bl (allB n ts g t && !decide (g = []))) rfl (it none none []) hg fun u g hm hl => by
      refine ⟨[some v0, some v1, some (.bl t), none, some u], rfl, ?_⟩
      refine r_and (r_call rfl (r_cons (r_v rfl) (r_cons (r_v rfl) (r_cons (r_v rfl) r_nil))) (aa u g hm hl [])) fun _ => r_cmp (r_v rfl) (by repeat' (first | exact r_c | exact r_g | exact r_v rfl | exact r_nil | exact r_none | exact b_add | exact b_sub | exact b_div (by decide) | exact b_mod (by decide) | exact c_eq | exact c_ne | exact c_lt | exact c_le | exact c_gt | exact c_ge | exact top1 | exact top2 | exact top3 | exact top4 | apply r_bin | apply r_cmp | apply r_not | apply r_cons | apply r_tup | apply r_newF | apply r_newM | apply r_lst | apply r_bi | apply r_opt | apply r_slice | apply r_rev | apply r_listOf | (apply r_call; exact rfl) | apply x_asg | apply x_ret | apply x_expr | exact x_skip)) ?_
      show (eqU [] u (.fl [])).map (!·) = _
      rw [e_nil hl]
      rfl
    have tst : evE (Q.env c) [some v0, some v1, some (.bl t), none, none] (.not (.bi .all (.cons (.newF (.comp (.nm 4) (.wL (.v 1)) false (.c (.bl true)) (.and (.callD false 16 (.cons (.v 0) (.cons (.v 4) (.cons (.v 2) .nil)))) (.cmp .ne (.v 4) (.newF (.lst .nil)))) [4])) .nil))) [] = .ok (.bl (!(gs.all (fun g => allB n ts g t && !decide (g = []))))) [] :=
      r_not (r_bi (r_cons (r_newF cm) r_nil) (all_bls (fun g => allB n ts g t && !decide (g = [])) gs))
    unfold grpB
    cases h1 : gs.all (fun g => allB n ts g t && !decide (g = [])) with
    | false =>
      rw [h1] at tst
      exact ⟨[], x_seqR (x_ifT tst (x_seqR (x_ret r_c)))⟩
    | true =>
      rw [h1] at tst
      have fl := flat_len gs hx
      obtain ⟨x', e⟩ := ext_loop (E := Q.env c) (v0 := v0) (v1 := v1) (v2 := .bl t) hg [] none (by rw [List.length_nil]; omega)
      refine ⟨[.dead], x_seq (x_ifF tst x_skip) (x_seq (x_asg (r_newM (r_lst r_nil top1))) (x_seq (x_for (it _ _ _) e) (x_frz rfl rfl (x_seqR (x_ret ?_)))))⟩
      rw [Bool.true_and]
      refine r_cmp (r_newF (r_sorted (r_v rfl) rfl (sorted_ints _))) (r_lrangeN (n := n) rfl (rd_Q l0) (beside_len n ts) hn) ?_
      show eqU _ _ _ = _
      rw [e_ints]
      rfl
  obtain ⟨S', key⟩ := key
  rw [hc] at key
  exact pm_run (D := D_are_parted) (ws := [v0, v1, .bl t]) rfl rfl rfl (by simp [mapO, hl0, hl1]; rfl) key rfl
end TWL
/-! K10fc -/
set_option Elab.async false
set_option linter.all false
set_option maxRecDepth 100000
namespace TWL
open TW TWm
/-! ### the law's own test -/
def dueB (n : Nat) (ts : List (Nat × Nat)) (xs : List Int) (gs : List (List Int)) (t : Bool) : Bool := allB n ts xs t && (decide (gs.length = xs.length) && (gs.all (fun g => !decide (g = []) && allB n ts g (!t)) && fitB n gs))
def showB (n : Nat) (ts : List (Nat × Nat)) (xs : List Int) (gs : List (List Int)) (t : Bool) : Bool := (allB n ts xs t && grpB n ts gs (!t)) && decide (xs.length = gs.length)
theorem show_due (n : Nat) (ts : List (Nat × Nat)) (xs : List Int) (gs : List (List Int)) (t : Bool) : showB n ts xs gs t = dueB n ts xs gs t := by
  unfold showB dueB grpB
  have e1 : gs.all (fun g => allB n ts g (!t) && !decide (g = [])) = gs.all (fun g => !decide (g = []) && allB n ts g (!t)) := by
    congr 1
    funext g
    exact Bool.and_comm _ _
  have e2 : decide (xs.length = gs.length) = decide (gs.length = xs.length) := decide_eq_decide.mpr eq_comm
  rw [e1, e2]
  cases allB n ts xs t <;> cases decide (gs.length = xs.length) <;> cases gs.all (fun g => !decide (g = []) && allB n ts g (!t)) <;> cases fitB n gs <;> rfl
/-! ### objects -/
def GsC (S : Sto) : List Nat → List (List Int) → Prop
  | [], [] => True
  | j :: js, g :: gs => S[j]? = some (.lst (g.map .int)) ∧ GsC S js gs
  | _, _ => False
structure Obj (S : Sto) (c k : Nat) (xs : List Int) (gs : List (List Int)) (i j : Nat) (js : List Nat) : Prop where
  ob : S[k]? = some (.ins c [(3, .ref i), (4, .ref j)])
  so : S[i]? = some (.lst (xs.map .int))
  gr : S[j]? = some (.lst (js.map .ref))
  gi : GsC S js gs
theorem get_app {S T : Sto} {i : Nat} {o : O} (h : S[i]? = some o) : (S ++ T)[i]? = some o := by
  rw [List.getElem?_append_left (List.getElem?_eq_some_iff.mp h).1]
  exact h
theorem GsC.app {S T : Sto} : ∀ {js : List Nat} {gs : List (List Int)}, GsC S js gs → GsC (S ++ T) js gs
  | [], [], _ => trivial
  | j :: js, g :: gs, h => ⟨get_app h.1, GsC.app h.2⟩
  | [], _ :: _, h => h.elim
  | _ :: _, [], h => h.elim
theorem Obj.app {S T : Sto} {c k : Nat} {xs : List Int} {gs : List (List Int)} {i j : Nat} {js : List Nat} (o : Obj S c k xs gs i j js) : Obj (S ++ T) c k xs gs i j js := ⟨get_app o.ob, get_app o.so, get_app o.gr, o.gi.app⟩
theorem mapO_lend {S : Sto} {k : Nat} : ∀ {us : List U}, noRefL us = true → mapO (lend S k) us = some us
  | [], _ => rfl
  | u :: us, h => by
    rw [noRefL, Bool.and_eq_true] at h
    have : lend S k u = some u := by
      unfold lend
      rw [if_pos h.1]
    rw [mapO, this]
    dsimp only
    rw [mapO_lend h.2]
theorem lend_ref {S : Sto} {k i : Nat} {us ws : List U} (h : S[i]? = some (.lst us)) (e : mapO (lend S k) us = some ws) : lend S (k + 1) (.ref i) = some (.bo ws) := by
  unfold lend
  rw [if_neg (by simp [U.noRef])]
  simp only [h, e]
theorem Obj.lendS {S : Sto} {c k : Nat} {xs : List Int} {gs : List (List Int)} {i j : Nat} {js : List Nat} (o : Obj S c k xs gs i j js) : lend S ldep (.ref i) = some (.bo (xs.map .int)) := lend_ref o.so (mapO_lend (nr_ints xs))
def gsU (gs : List (List Int)) : List U := gs.map fun g => .bo (g.map .int)
theorem gsU_L : ∀ gs : List (List Int), GsL (gsU gs) gs
  | [] => trivial
  | g :: gs => ⟨.inr rfl, gsU_L gs⟩
theorem lend_gs {S : Sto} {k : Nat} : ∀ {js : List Nat} {gs : List (List Int)}, GsC S js gs → mapO (lend S (k + 1)) (js.map .ref) = some (gsU gs)
  | [], [], _ => rfl
  | j :: js, g :: gs, h => by
    rw [List.map_cons, mapO, lend_ref h.1 (mapO_lend (nr_ints g))]
    dsimp only
    rw [lend_gs h.2]
    rfl
  | [], _ :: _, h => h.elim
  | _ :: _, [], h => h.elim
theorem Obj.lendG {S : Sto} {c k : Nat} {xs : List Int} {gs : List (List Int)} {i j : Nat} {js : List Nat} (o : Obj S c k xs gs i j js) : lend S ldep (.ref j) = some (.bo (gsU gs)) := lend_ref (k := 19) o.gr (lend_gs o.gi)
theorem r_fld {E : Env} {σ : Sl} {S S1 : Sto} {a : IE} {k c f : Nat} {fs : List (Nat × U)} {u : U} (ha : evE E σ a S = .ok (.ref k) S1) (hS : S1[k]? = some (.ins c fs)) (ok : (E.P.okc c && !E.P.exc c) = true) (hl : fs.lookup f = some u) : evE E σ (.fld a f) S = .ok u S1 := by
  rw [evE, ha, R.bind]
  have : getFld E.P S1 (.ref k) f = some u := by
    unfold getFld
    simp only [hS, ok, if_true]
    exact hl
  rw [this]
  rfl
/-- shows, of crowds and of lonely ones -/
def showI (t : Bool) : IS :=
  (.seq (.asg (.nm 3) (.callD false 4 (.cons (.v 1) (.cons (.v 2) .nil))))
  (.seq (.iff (.or (.not (.callD false 16 (.cons (.v 3) (.cons (.fld (.v 0) 3) (.cons (.c (.bl t)) .nil))))) (.not (.callD false 17 (.cons (.v 3) (.cons (.fld (.v 0) 4) (.cons (.c (.bl (!t))) .nil)))))) (.seq (.ret (.c (.bl false)))
  .skip) .skip)
  (.seq (.ret (.cmp .eq (.bi .len (.cons (.fld (.v 0) 3) .nil)) (.bi .len (.cons (.fld (.v 0) 4) .nil))))
  .skip)))
theorem GsC.len {S : Sto} : ∀ {js : List Nat} {gs : List (List Int)}, GsC S js gs → js.length = gs.length
  | [], [], _ => rfl
  | j :: js, g :: gs, h => by rw [List.length_cons, List.length_cons, GsC.len h.2]
  | [], _ :: _, h => h.elim
  | _ :: _, [], h => h.elim
theorem rd_ref {S : Sto} {i : Nat} {us : List U} (h : S[i]? = some (.lst us)) : rdL S (.ref i) = some us := by
  show (match S[i]? with | some (.lst us) => some us | _ => none) = _
  rw [h]
theorem shows_ok (d : Nat) (t : Bool) {n c k i j : Nat} {js : List Nat} {ts : List (Nat × Nat)} {xs : List Int} {gs : List (List Int)} {u v : U} {S : Sto} (o : Obj S c k xs gs i j js) (ok : (pg.okc c && !pg.exc c) = true) (hl : lend S ldep u = some v) (lu : Lst v (tiesU ts)) (hn : n ≤ 40) (w : Web n ts) (hx : xs.length < 64) (hgx : ∀ g ∈ gs, g.length < 64) (hx2 : gs.length < 1000) :
    exS (showI t) (Q.env (callN Q (d + 2))) [some (.ref k), some (.int n), some u, none] S = .ok (.rt (.bl (showB n ts xs gs t))) S := by
  have b4 := beside_ok (d + 1) false (n := n) S hl lu hn w
  have lb : lend S ldep (.fl (besideU n ts)) = some (.fl (besideU n ts)) := lend_fl (nr_beside n ts)
  have a16 := are_all_ok (d + 1) false (n := n) (ts := ts) (xs := xs) (t := t) S lb (.inl rfl) o.lendS (.inr rfl) w hx
  have a17 := are_parted_ok d false (n := n) (ts := ts) (gs := gs) (t := !t) S lb (.inl rfl) o.lendG (.inr rfl) (gsU_L gs) hn w hgx hx2
  obtain ⟨c0, hc⟩ : ∃ c0, c0 = callN Q (d + 2) := ⟨_, rfl⟩
  rw [← hc] at b4 a16 a17 ⊢
  unfold showI showB
  refine x_seq (x_asg (r_call rfl (by repeat' (first | exact r_c | exact r_g | exact r_v rfl | exact r_nil | exact r_none | exact b_add | exact b_sub | exact b_div (by decide) | exact b_mod (by decide) | exact c_eq | exact c_ne | exact c_lt | exact c_le | exact c_gt | exact c_ge | exact top1 | exact top2 | exact top3 | exact top4 | apply r_bin | apply r_cmp | apply r_not | apply r_cons | apply r_tup | apply r_newF | apply r_newM | apply r_lst | apply r_bi | apply r_opt | apply r_slice | apply r_rev | apply r_listOf | (apply r_call; exact rfl) | apply x_asg | apply x_ret | apply x_expr | exact x_skip)) b4)) ?_
  have f3 : evE (Q.env c0) [some (.ref k), some (.int n), some u, some (.fl (besideU n ts))] (.fld (.v 0) 3) S = .ok (.ref i) S := r_fld (r_v rfl) o.ob ok rfl
  have f4 : evE (Q.env c0) [some (.ref k), some (.int n), some u, some (.fl (besideU n ts))] (.fld (.v 0) 4) S = .ok (.ref j) S := r_fld (r_v rfl) o.ob ok rfl
  have tst := r_or (E := Q.env c0) (σ := [some (.ref k), some (.int n), some u, some (.fl (besideU n ts))]) (S := S) (a := .not (.callD false 16 (.cons (.v 3) (.cons (.fld (.v 0) 3) (.cons (.c (.bl t)) .nil))))) (b := .not (.callD false 17 (.cons (.v 3) (.cons (.fld (.v 0) 4) (.cons (.c (.bl (!t))) .nil)))))
    (r_not (r_call rfl (r_cons (r_v rfl) (r_cons f3 (r_cons r_c r_nil))) a16)) fun _ => r_not (r_call rfl (r_cons (r_v rfl) (r_cons f4 (r_cons r_c r_nil))) a17)
  cases h1 : allB n ts xs t with
  | false =>
    rw [h1] at tst
    exact x_seqR (x_ifT tst (x_seqR (x_ret r_c)))
  | true =>
    rw [h1] at tst
    cases h2 : grpB n ts gs (!t) with
    | false =>
      rw [h2] at tst
      exact x_seqR (x_ifT tst (x_seqR (x_ret r_c)))
    | true =>
      rw [h2] at tst
      refine x_seq (x_ifF tst x_skip) (x_seqR (x_ret (r_cmp (r_bi (u := .int (xs.length : Nat)) (r_cons f3 r_nil) ?_) (r_bi (u := .int (gs.length : Nat)) (r_cons f4 r_nil) ?_) ?_)))
      · show (rdL S (.ref i)).map _ = _
        rw [rd_ref o.so, Option.map_some, List.length_map]
      · show (rdL S (.ref j)).map _ = _
        rw [rd_ref o.gr, Option.map_some, List.length_map, o.gi.len]
      · rw [c_eq]
        congr 1
        rw [Bool.true_and, Bool.true_and]
        exact decide_eq_decide.mpr (by omega)
end TWL
/-! K10fd -/
set_option Elab.async false
set_option linter.all false
set_option maxRecDepth 100000
namespace TWL
open TW TWm
/-! ### the law's matrix, behind what stands -/
theorem np_nx {f d : Nat} {m : Bool} {us : List U} {S S' : Sto} {D : Df} {σ : Sl} (hD : Q.df f = some D) (hp : D.pm = false) (hn : us.length = D.np)
    (h : exS D.body (Q.env (callN Q d)) (startU D.ns us) S = .ok (.nx σ) S') : callN Q (d + 1) m f us S = .ok .non S' := by
  rw [callN, hD]
  dsimp only
  rw [if_pos hn, hp]
  dsimp only
  rw [h]
  rfl
theorem np_ex {f d c : Nat} {m : Bool} {us : List U} {S S' : Sto} {D : Df} (hD : Q.df f = some D) (hp : D.pm = false) (hn : us.length = D.np)
    (h : exS D.body (Q.env (callN Q d)) (startU D.ns us) S = .ex c S') : callN Q (d + 1) m f us S = .ex c S' := by
  rw [callN, hD]
  dsimp only
  rw [if_pos hn, hp]
  dsimp only
  rw [h]
  rfl
theorem pm_ex {f d c : Nat} {m : Bool} {us ws : List U} {S S' : Sto} {D : Df} (hD : Q.df f = some D) (hp : D.pm = true) (hn : us.length = D.np) (hl : mapO (lend S ldep) us = some ws)
    (h : exS D.body (Q.env (callN Q d)) (startU D.ns ws) [] = .ex c S') : callN Q (d + 1) m f us S = .ex c S := by
  rw [call_pm hD hp hn hl, h]
  rfl
theorem x_seqX {E : Env} {σ : Sl} {S S1 : Sto} {s s' : IS} {c : Nat} (h : exS s E σ S = .ex c S1) : exS (.seq s s') E σ S = .ex c S1 := by
  rw [exS, h, R.bind]
theorem x_asgX {E : Env} {σ : Sl} {S S1 : Sto} {t : IT} {e : IE} {c : Nat} (h : evE E σ e S = .ex c S1) : exS (.asg t e) E σ S = .ex c S1 := by
  rw [exS, h, R.bind]
def refsB (b n : Nat) : List U := (List.range n).map fun i => .ref (b + i)
theorem refsB_at {b n i : Nat} (h : i < n) : (refsB b n)[i]? = some (.ref (b + i)) := by
  unfold refsB
  rw [List.getElem?_map, List.getElem?_range h]
  rfl
theorem refs_range (b n : Nat) : (List.range' b n).map U.ref = refsB b n := by
  unfold refsB
  rw [List.range'_eq_map_range, List.map_map]
  rfl
theorem app_at2 {S T : Sto} {i : Nat} {o : O} (h : T[i]? = some o) : (S ++ T)[S.length + i]? = some o := by
  rw [List.getElem?_append_right (by omega), Nat.add_sub_cancel_left]
  exact h
theorem set_app {S T : Sto} {i : Nat} {o : O} : (S ++ T).set (S.length + i) o = S ++ T.set i o := by
  rw [List.set_append_right _ _ (by omega), Nat.add_sub_cancel_left]
/-! ### _law_due -/
end TWL
/-! K10fe -/
set_option Elab.async false
set_option linter.all false
set_option maxRecDepth 100000
namespace TWL
open TW TWm
/-! ### an answer is made -/
theorem r_make {E : Env} {σ : Sl} {S S1 S2 : Sto} {c f : Nat} {es : IE} {us : List U} (hi : E.init c = some f) (hl : evL E σ es S = .ok us S1) (hc : E.call false f (.ref S1.length :: us) (S1 ++ [.ins c []]) = .ok .non S2) : evE E σ (.make c es) S = .ok (.ref S1.length) S2 := by
  rw [evE, hi]
  show (evL E σ es S).bind _ = _
  rw [hl, R.bind, hc, R.bind]
theorem x_setfld {E : Env} {σ : Sl} {S S1 S2 : Sto} {a e : IE} {n c f : Nat} {u : U} {fs : List (Nat × U)} (he : evE E σ e S = .ok u S1) (ha : evE E σ a S1 = .ok (.ref n) S2) (hS : S2[n]? = some (.ins c fs)) (hk : fs.length < 100 ∧ f < 5 ∧ (E.P.okc c && !E.P.exc c) = true) : exS (.setfld a f e) E σ S = .ok (.nx σ) (S2.set n (.ins c (putFld f u fs))) := by
  rw [exS, he, R.bind, ha, R.bind]
  simp only [hS]
  rw [if_pos hk]
theorem comp_cellsG {f : U → Sto → R (Option U)} {h : U → List U} : ∀ {items : List U} {S : Sto}, (∀ u ∈ items, ∀ S, f u S = .ok (some (.ref S.length)) (S ++ [.lst (h u)])) → compGo f items S = .ok (refsB S.length items.length) (S ++ items.map fun u => .lst (h u))
  | [], S, _ => by
    rw [compGo]
    simp [refsB]
  | u :: us, S, hh => by
    rw [compGo, hh u List.mem_cons_self S]
    show (compGo f us (S ++ [.lst (h u)])).bind _ = _
    rw [comp_cellsG fun y hy => hh y (List.mem_cons_of_mem _ hy)]
    have e : U.ref S.length :: refsB (S ++ [O.lst (h u)]).length us.length = refsB S.length (u :: us).length := by
      rw [← refs_range, ← refs_range, List.length_append, List.length_singleton, List.length_cons, List.range'_succ, List.map_cons]
    simp only [R.bind]
    rw [e, List.map_cons, List.append_assoc]
    rfl
/-- what an answer lays down -/
def objS (c b : Nat) (xs : List Int) (gs : List (List Int)) : Sto := [.ins c [(3, .ref (b + 1)), (4, .ref (b + 2 + gs.length))], .lst (xs.map .int)] ++ (gs.map fun g => O.lst (g.map .int)) ++ [.lst (refsB (b + 2) gs.length)]
def initI : IS :=
  (.seq (.setfld (.v 0) 3 (.newM (.listOf (.v 1))))
  (.seq (.setfld (.v 0) 4 (.newM (.comp (.nm 3) (.wL (.v 2)) false (.c (.bl true)) (.newM (.listOf (.v 3))) [3])))
  .skip))
def gsF (gs : List (List Int)) : List U := gs.map fun g => .fl (g.map .int)
theorem init_ok {E : Env} {c : Nat} {xs : List Int} {gs : List (List Int)} {S : Sto} (ok : (E.P.okc c && !E.P.exc c) = true) : ∃ σ', exS initI E [some (.ref S.length), some (.fl (xs.map .int)), some (.fl (gsF gs)), none] (S ++ [.ins c []]) = .ok (.nx σ') (S ++ objS c S.length xs gs) := by
  refine ⟨[some (.ref S.length), some (.fl (xs.map .int)), some (.fl (gsF gs)), none], ?_⟩
  unfold initI
  have l0 : (S ++ [O.ins c []]).length = S.length + 1 := by rw [List.length_append]; rfl
  have g0 : ∀ T : Sto, (S ++ T)[S.length]? = T[0]? := fun T => by rw [List.getElem?_append_right (Nat.le_refl _), Nat.sub_self]
  have s0 : ∀ (T : Sto) (o : O), (S ++ T).set S.length o = S ++ T.set 0 o := fun T o => by rw [List.set_append_right _ _ (Nat.le_refl _), Nat.sub_self]
  have f1 := x_setfld (E := E) (σ := [some (.ref S.length), some (.fl (xs.map .int)), some (.fl (gsF gs)), none]) (S := S ++ [.ins c []]) (a := .v 0) (e := .newM (.listOf (.v 1))) (f := 3) (c := c) (fs := [])
    (r_newM (r_listOf (us := xs.map .int) (r_v rfl) rfl)) (r_v rfl) (by rw [List.append_assoc, g0]; rfl) ⟨by decide, by decide, ok⟩
  rw [l0, List.append_assoc, s0] at f1
  refine x_seq f1 ?_
  have cm : evN E [some (.ref S.length), some (.fl (xs.map .int)), some (.fl (gsF gs)), none] (.comp (.nm 3) (.wL (.v 2)) false (.c (.bl true)) (.newM (.listOf (.v 3))) [3]) (S ++ [.ins c [(3, .ref (S.length + 1))], .lst (xs.map .int)]) = .ok (refsB (S.length + 2) gs.length) (S ++ [.ins c [(3, .ref (S.length + 1))], .lst (xs.map .int)] ++ gs.map fun g => O.lst (g.map .int)) := by
    have it : evI E [some (.ref S.length), some (.fl (xs.map .int)), some (.fl (gsF gs)), none] (.wL (.v 2)) (S ++ [.ins c [(3, .ref (S.length + 1))], .lst (xs.map .int)]) = .ok (gsF gs) (S ++ [.ins c [(3, .ref (S.length + 1))], .lst (xs.map .int)]) := w_fl (r_v rfl)
    rw [evN, it]
    simp only [IE.isQ, Bool.false_and, Bool.false_eq_true, if_false, R.bind]
    refine (comp_cellsG (h := fun u => match u with | .fl us => us | _ => []) fun x hx S2 => ?_).trans ?_
    · obtain ⟨g, hg, rfl⟩ := List.mem_map.mp hx
      have := r_newM (E := E) (S := S2) (r_listOf (a := .v 3) (us := g.map .int) (r_v (σ := [some (.ref S.length), some (.fl (xs.map .int)), some (.fl (gsF gs)), some (.fl (g.map .int))]) rfl) rfl)
      show (match (evE E [some (.ref S.length), some (.fl (xs.map .int)), some (.fl (gsF gs)), some (.fl (g.map .int))] (.newM (.listOf (.v 3))) S2) with
        | .ok r S4 => R.ok (some r) S4
        | .ex c S => .ex c S
        | .bad => .bad) = _
      rw [this]
    · have e1 : (gsF gs).length = gs.length := by unfold gsF; rw [List.length_map]
      have e2 : (gsF gs).map (fun u => O.lst (match u with | .fl us => us | _ => [])) = gs.map fun g => O.lst (g.map .int) := by
        unfold gsF
        rw [List.map_map]
        rfl
      rw [e1, e2, List.length_append]
      rfl
  have l2 : (S ++ [O.ins c [(3, .ref (S.length + 1))], .lst (xs.map .int)] ++ gs.map fun g => O.lst (g.map .int)).length = S.length + 2 + gs.length := by
    rw [List.length_append, List.length_append, List.length_map]
    rfl
  have f2 := x_setfld (E := E) (σ := [some (.ref S.length), some (.fl (xs.map .int)), some (.fl (gsF gs)), none]) (a := .v 0) (f := 4) (c := c) (fs := [(3, .ref (S.length + 1))]) (r_newM cm) (r_v rfl) (by rw [List.append_assoc, List.append_assoc, g0]; rfl) ⟨by simp, by decide, ok⟩
  rw [l2, List.append_assoc, List.append_assoc, s0] at f2
  refine x_seq f2 ?_
  rw [x_skip]
  congr 2
theorem GsC_of {b : Nat} : ∀ (gs : List (List Int)) (S T : Sto), S.length = b → GsC (S ++ (gs.map fun g => O.lst (g.map .int)) ++ T) ((List.range gs.length).map fun i => b + i) gs
  | [], S, T, _ => trivial
  | g :: gs, S, T, hb => by
    have e : (List.range (g :: gs).length).map (fun i => b + i) = b :: (List.range gs.length).map fun i => (b + 1) + i := by
      rw [List.length_cons, List.range_succ_eq_map, List.map_cons, List.map_map]
      congr 1
      refine List.map_congr_left fun i _ => ?_
      show b + (i + 1) = b + 1 + i
      omega
    rw [e]
    refine ⟨?_, ?_⟩
    · rw [List.append_assoc, List.getElem?_append_right (by omega), hb, Nat.sub_self]
      rfl
    · have := GsC_of (b := b + 1) gs (S ++ [O.lst (g.map .int)]) T (by rw [List.length_append, hb]; rfl)
      rw [List.map_cons]
      simpa using this
theorem obj_of (c : Nat) (xs : List Int) (gs : List (List Int)) (S : Sto) : Obj (S ++ objS c S.length xs gs) c S.length xs gs (S.length + 1) (S.length + 2 + gs.length) ((List.range gs.length).map fun i => S.length + 2 + i) := by
  refine ⟨?_, ?_, ?_, ?_⟩
  · unfold objS
    rw [List.getElem?_append_right (Nat.le_refl _), Nat.sub_self]
    rfl
  · unfold objS
    rw [List.getElem?_append_right (by omega), Nat.add_sub_cancel_left]
    rfl
  · unfold objS
    rw [← List.append_assoc, List.getElem?_append_right (by simp; omega), show (S ++ ([O.ins c [(3, U.ref (S.length + 1)), (4, U.ref (S.length + 2 + gs.length))], O.lst (xs.map U.int)] ++ gs.map fun g => O.lst (g.map U.int))).length = S.length + 2 + gs.length by simp; omega, Nat.sub_self]
    show some (O.lst (refsB (S.length + 2) gs.length)) = _
    unfold refsB
    rw [List.map_map]
    rfl
  · have := GsC_of gs (S ++ [O.ins c [(3, U.ref (S.length + 1)), (4, U.ref (S.length + 2 + gs.length))], O.lst (xs.map U.int)]) [.lst (refsB (S.length + 2) gs.length)] (b := S.length + 2) (by simp)
    unfold objS
    rw [← List.append_assoc, ← List.append_assoc]
    exact this
end TWL
/-! K10ff -/
set_option Elab.async false
set_option linter.all false
set_option maxRecDepth 100000
namespace TWL
open TW TWm
/-! ### what a row tells -/
def untd (f : List (Nat × Bool)) : List Nat := (f.filter fun p => !p.2).map (·.1)
def tied (f : List (Nat × Bool)) : List Nat := (f.filter fun p => p.2).map (·.1)
structure RowOk (n : Nat) (ts : List (Nat × Nat)) (y : Nat) (r : List (Nat × Bool)) : Prop where
  pm : ((((y, false) :: r)).map (·.1)).Perm (List.range n)
  pw : ((y, false) :: r).Pairwise fun p q => adjT ts p.1 q.1 = q.2
theorem row_ok {n : Nat} {ts : List (Nat × Nat)} {f : List (Nat × Bool)} (h1 : 1 ≤ n) (w : Web n ts) (h : rowF (degs n ts) = some f) : ∃ y r, f = (y, false) :: r ∧ RowOk n ts y r := by
  obtain ⟨y, r, e⟩ := row_first h
  refine ⟨y, r, e, ?_⟩
  unfold rowF at h
  rw [degs_len] at h
  obtain ⟨g, hg, hf⟩ := Option.map_eq_some_iff.mp h
  have iv : Inv (adjT ts) (fun p => (degs n ts).getD p 0) (List.range n) 0 := w.inv fun i hi => degs_at ts hi
  obtain ⟨p1, p2⟩ := row_adj (adjT_sy ts) w.ir (n - 1) (List.range n) 0 g (by rw [List.length_range]; omega) iv hg
  refine ⟨?_, ?_⟩
  · rw [← e, ← hf, List.map_reverse]
    exact (List.reverse_perm _).trans p1
  · rw [← e, ← hf, List.pairwise_reverse]
    exact p2.imp fun {a b} h => by rw [adjT_sy]; exact h
section
variable {n y : Nat} {ts : List (Nat × Nat)} {r : List (Nat × Bool)}
theorem RowOk.nd (R : RowOk n ts y r) : (((y, false) :: r).map (·.1)).Nodup := R.pm.nodup_iff.mpr List.nodup_range
theorem RowOk.lt (R : RowOk n ts y r) {p : Nat × Bool} (h : p ∈ (y, false) :: r) : p.1 < n := List.mem_range.mp (R.pm.mem_iff.mp (List.mem_map_of_mem h))
theorem RowOk.same (R : RowOk n ts y r) {p q : Nat × Bool} (hp : p ∈ (y, false) :: r) (hq : q ∈ (y, false) :: r) (ne : p.1 ≠ q.1) : adjT ts p.1 q.1 = q.2 ∨ adjT ts p.1 q.1 = p.2 := by
  rcases pw_mem R.pw hp hq with e | h | h
  · rw [e] at ne; exact absurd rfl ne
  · exact .inl h
  · rw [adjT_sy]; exact .inr h
theorem untd_cons : untd ((y, false) :: r) = y :: untd r := rfl
theorem tied_cons : tied ((y, false) :: r) = tied r := rfl
theorem in_untd {f : List (Nat × Bool)} {x : Nat} : x ∈ untd f ↔ (x, false) ∈ f := by
  unfold untd
  rw [List.mem_map]
  constructor
  · rintro ⟨p, hp, rfl⟩
    have := List.mem_filter.mp hp
    have e : p.2 = false := by simpa using this.2
    rw [← e]
    exact this.1
  · intro h
    exact ⟨(x, false), List.mem_filter.mpr ⟨h, rfl⟩, rfl⟩
theorem in_tied {f : List (Nat × Bool)} {x : Nat} : x ∈ tied f ↔ (x, true) ∈ f := by
  unfold tied
  rw [List.mem_map]
  constructor
  · rintro ⟨p, hp, rfl⟩
    have := List.mem_filter.mp hp
    have e : p.2 = true := by simpa using this.2
    rw [← e]
    exact this.1
  · intro h
    exact ⟨(x, true), List.mem_filter.mpr ⟨h, rfl⟩, rfl⟩
theorem halves_perm : ∀ f : List (Nat × Bool), (untd f ++ tied f).Perm (f.map (·.1))
  | [] => List.Perm.refl _
  | (x, false) :: f => by
    show (x :: (untd f ++ tied f)).Perm (x :: f.map (·.1))
    exact (halves_perm f).cons x
  | (x, true) :: f => by
    show (untd f ++ x :: tied f).Perm (x :: f.map (·.1))
    exact List.perm_middle.trans ((halves_perm f).cons x)
/-- the tied ones and the first are a crowd -/
theorem RowOk.crowd (R : RowOk n ts y r) : ∀ a ∈ y :: tied r, ∀ b ∈ y :: tied r, a ≠ b → adjT ts a b = true := by
  have up : ∀ b ∈ tied r, adjT ts y b = true := fun b hb => (List.pairwise_cons.mp R.pw).1 (b, true) (in_tied.mp hb)
  intro a ha b hb ne
  rcases List.mem_cons.mp ha with ea | ha
  · rcases List.mem_cons.mp hb with eb | hb
    · exact absurd (ea.trans eb.symm) ne
    · rw [ea]; exact up b hb
  · rcases List.mem_cons.mp hb with eb | hb
    · rw [adjT_sy, eb]; exact up a ha
    · rcases R.same (List.mem_cons_of_mem _ (in_tied.mp ha)) (List.mem_cons_of_mem _ (in_tied.mp hb)) ne with e | e <;> exact e
/-- the untied ones are lonely -/
theorem RowOk.lone (R : RowOk n ts y r) : ∀ a ∈ y :: untd r, ∀ b ∈ y :: untd r, a ≠ b → adjT ts a b = false := by
  intro a ha b hb ne
  rw [← untd_cons] at ha hb
  rcases R.same (in_untd.mp ha) (in_untd.mp hb) ne with e | e <;> exact e
theorem RowOk.perm (R : RowOk n ts y r) : (y :: untd r ++ tied r).Perm (List.range n) := (halves_perm ((y, false) :: r)).trans R.pm
theorem RowOk.nd2 (R : RowOk n ts y r) : (y :: untd r ++ tied r).Nodup := R.perm.nodup_iff.mpr List.nodup_range
theorem prsB_of {t : Bool} : ∀ (xs pre : List Int), (∀ a ∈ pre, ∀ b ∈ xs, adjT ts a.toNat b.toNat = t) → xs.Pairwise (fun a b => adjT ts a.toNat b.toNat = t) → prsB ts t pre xs = true
  | [], _, _, _ => rfl
  | x :: r, pre, h1, h2 => by
    obtain ⟨p1, p2⟩ := List.pairwise_cons.mp h2
    rw [prsB, Bool.and_eq_true]
    refine ⟨List.all_eq_true.mpr fun a ha => by rw [beq_iff_eq]; exact h1 a ha x List.mem_cons_self, prsB_of r (pre ++ [x]) (fun a ha b hb => ?_) p2⟩
    rcases List.mem_append.mp ha with ha | ha
    · exact h1 a ha b (List.mem_cons_of_mem _ hb)
    · rw [List.mem_singleton.mp ha]
      exact p1 b hb
theorem uniq_id : ∀ {l : List Int}, l.Pairwise (fun a b => leI a b = true) → l.Nodup → uniq eqI l = l
  | [], _, _ => rfl
  | [a], _, _ => rfl
  | a :: b :: r, h, d => by
    have d1 := List.nodup_cons.mp d
    have : eqI a b = false := by
      unfold eqI
      exact decide_eq_false fun e => d1.1 (by rw [e]; exact List.mem_cons_self)
    rw [uniq, this, if_neg Bool.false_ne_true, uniq_id (List.pairwise_cons.mp h).2 d1.2]
theorem in_natI {l : List Nat} {x : Int} : x ∈ natI l ↔ ∃ k ∈ l, x = (k : Int) := by
  unfold natI
  rw [List.mem_map]
  exact ⟨fun ⟨k, h, e⟩ => ⟨k, h, e.symm⟩, fun ⟨k, h, e⟩ => ⟨k, h, e.symm⟩⟩
theorem natI_nd {l : List Nat} (h : l.Nodup) : (natI l).Nodup := List.pairwise_map.mpr (h.imp fun {a b} ne e => ne (by omega))
theorem natI_len (l : List Nat) : (natI l).length = l.length := by unfold natI; rw [List.length_map]
theorem allB_of {t : Bool} {l : List Nat} (nd : l.Nodup) (lt : ∀ a ∈ l, a < n) (pw : ∀ a ∈ l, ∀ b ∈ l, a ≠ b → adjT ts a b = t) (few : l.length ≤ 1000) : allB n ts (srtI (natI l)) t = true := by
  have tp : top = 1000000 := rfl
  have hl : (natI l).length ≤ top := by rw [natI_len]; omega
  have so := srtI_sorted hl
  have pm := srtI_perm (natI l)
  have nd2 : (srtI (natI l)).Nodup := pm.nodup_iff.mpr (natI_nd nd)
  have again : srtI (natI l) = srtI (srtI (natI l)) := srtI_unique (by rw [pm.length_eq]; exact hl) (List.Perm.refl _) so
  have mem : ∀ x ∈ srtI (natI l), ∃ k ∈ l, x = (k : Int) := fun x hx => in_natI.mp (pm.mem_iff.mp hx)
  unfold allB
  rw [← again, uniq_id so nd2, decide_eq_true rfl, Bool.true_and, Bool.and_eq_true]
  refine ⟨List.all_eq_true.mpr fun x hx => ?_, prsB_of _ [] (fun a ha => absurd ha List.not_mem_nil) (List.Pairwise.imp_of_mem (fun {a b} ha hb ne => ?_) nd2)⟩
  · obtain ⟨k, hk, rfl⟩ := mem x hx
    have := lt k hk
    rw [Bool.and_eq_true, decide_eq_true_eq, decide_eq_true_eq]
    omega
  · obtain ⟨k, hk, rfl⟩ := mem a ha
    obtain ⟨j, hj, rfl⟩ := mem b hb
    exact pw k hk j hj fun e => ne (by rw [e])
theorem fit_of {gs : List (List Int)} (hn : n ≤ 40) (h : gs.flatten.Perm (natI (List.range n))) : fitB n gs = true := by
  have tp : top = 1000000 := rfl
  unfold fitB
  refine decide_eq_true ?_
  refine (srtI_unique ?_ h.symm ?_).symm
  · rw [h.length_eq, natI_len, List.length_range]; omega
  · unfold natI
    refine List.pairwise_map.mpr (List.pairwise_lt_range.imp fun {a b} h => ?_)
    exact decide_eq_true (by omega)
def single (l : List Nat) : List (List Int) := l.map fun (p : Nat) => [(p : Int)]
theorem single_flat : ∀ l : List Nat, (single l).flatten = natI l
  | [] => rfl
  | a :: l => by
    show [(a : Int)] ++ (single l).flatten = (a : Int) :: natI l
    rw [single_flat l]
    rfl
theorem single_len (l : List Nat) : (single l).length = l.length := by unfold single; rw [List.length_map]
theorem single_all {t : Bool} {l : List Nat} (lt : ∀ a ∈ l, a < n) : (single l).all (fun g => !decide (g = []) && allB n ts g t) = true := by
  refine List.all_eq_true.mpr fun g hg => ?_
  obtain ⟨p, hp, rfl⟩ := List.mem_map.mp hg
  have := allB_of (n := n) (ts := ts) (t := t) (l := [p]) (List.nodup_cons.mpr ⟨List.not_mem_nil, List.nodup_nil⟩) (fun a ha => by rw [List.mem_singleton.mp ha]; exact lt p hp) (fun a ha b hb ne => absurd ((List.mem_singleton.mp ha).trans (List.mem_singleton.mp hb).symm) ne) (by simp)
  have e : srtI (natI [p]) = [(p : Int)] := rfl
  rw [e] at this
  rw [this]
  rfl
theorem srt_ne {l : List Nat} (h : l ≠ []) : decide (srtI (natI l) = []) = false := by
  refine decide_eq_false fun e => h ?_
  have := (srtI_perm (natI l)).length_eq
  rw [e, natI_len] at this
  exact List.length_eq_zero_iff.mp this.symm
theorem natI_perm {a b : List Nat} (h : a.Perm b) : (natI a).Perm (natI b) := h.map _
theorem natI_app (a b : List Nat) : natI (a ++ b) = natI a ++ natI b := by unfold natI; rw [List.map_append]
theorem RowOk.few (R : RowOk n ts y r) : (y :: untd r).length + (tied r).length = n := by
  have := R.perm.length_eq
  rw [List.length_append, List.length_range] at this
  exact this
def crS (y : Nat) (r : List (Nat × Bool)) : List Int := srtI (natI (y :: tied r))
def crG (y : Nat) (r : List (Nat × Bool)) : List (List Int) := srtI (natI (y :: untd r)) :: single (tied r)
def loS (y : Nat) (r : List (Nat × Bool)) : List Int := srtI (natI (y :: untd r))
def loG (y : Nat) (r : List (Nat × Bool)) : List (List Int) := srtI (natI (y :: tied r)) :: single (untd r)
theorem RowOk.ltU (R : RowOk n ts y r) : ∀ a ∈ y :: untd r, a < n := fun a ha => List.mem_range.mp (R.perm.mem_iff.mp (List.mem_append_left _ ha))
theorem RowOk.ltT (R : RowOk n ts y r) : ∀ a ∈ tied r, a < n := fun a ha => List.mem_range.mp (R.perm.mem_iff.mp (List.mem_append_right _ ha))
theorem RowOk.ndU (R : RowOk n ts y r) : (y :: untd r).Nodup := (List.nodup_append.mp R.nd2).1
theorem RowOk.ndT (R : RowOk n ts y r) : (y :: tied r).Nodup := by
  have h := List.nodup_append.mp R.nd2
  exact List.nodup_cons.mpr ⟨fun m => h.2.2 y List.mem_cons_self y m rfl, h.2.1⟩
theorem RowOk.due1 (R : RowOk n ts y r) (hn : n ≤ 40) : dueB n ts (crS y r) (crG y r) true = true := by
  have few := R.few
  rw [List.length_cons] at few
  have lt : ∀ a ∈ y :: tied r, a < n := fun a ha => by
    rcases List.mem_cons.mp ha with rfl | ha
    · exact R.ltU _ List.mem_cons_self
    · exact R.ltT a ha
  have a1 := allB_of R.ndT lt R.crowd (by rw [List.length_cons]; omega)
  have a2 := allB_of R.ndU R.ltU R.lone (by rw [List.length_cons]; omega)
  have ne := srt_ne (l := y :: untd r) (by simp)
  have fit := fit_of (n := n) (gs := crG y r) hn (by
    unfold crG
    rw [List.flatten_cons, single_flat]
    refine (List.Perm.append_right _ (srtI_perm _)).trans ?_
    rw [← natI_app]
    exact natI_perm R.perm)
  unfold dueB
  rw [fit]
  unfold crS crG
  rw [a1, List.all_cons, ne, Bool.not_true, a2, single_all R.ltT]
  have len : (srtI (natI (y :: untd r)) :: single (tied r)).length = (srtI (natI (y :: tied r))).length := by
    rw [List.length_cons, single_len, (srtI_perm _).length_eq, natI_len, List.length_cons]
  rw [decide_eq_true len]
  rfl
theorem RowOk.due0 (R : RowOk n ts y r) (hn : n ≤ 40) : dueB n ts (loS y r) (loG y r) false = true := by
  have few := R.few
  rw [List.length_cons] at few
  have lt : ∀ a ∈ y :: tied r, a < n := fun a ha => by
    rcases List.mem_cons.mp ha with rfl | ha
    · exact R.ltU _ List.mem_cons_self
    · exact R.ltT a ha
  have a1 := allB_of R.ndT lt R.crowd (by rw [List.length_cons]; omega)
  have a2 := allB_of R.ndU R.ltU R.lone (by rw [List.length_cons]; omega)
  have ne := srt_ne (l := y :: tied r) (by simp)
  have fit := fit_of (n := n) (gs := loG y r) hn (by
    unfold loG
    rw [List.flatten_cons, single_flat]
    refine (List.Perm.append_right _ (srtI_perm _)).trans ?_
    rw [← natI_app]
    refine (natI_perm ?_).trans (natI_perm R.perm)
    show (y :: (tied r ++ untd r)).Perm (y :: (untd r ++ tied r))
    exact List.Perm.cons y List.perm_append_comm)
  unfold dueB
  rw [fit]
  unfold loS loG
  rw [a2, List.all_cons, ne, Bool.not_false, a1, single_all fun a ha => R.ltU a (List.mem_cons_of_mem _ ha)]
  have len : (srtI (natI (y :: tied r)) :: single (untd r)).length = (srtI (natI (y :: untd r))).length := by
    rw [List.length_cons, single_len, (srtI_perm _).length_eq, natI_len, List.length_cons]
  rw [decide_eq_true len]
  rfl
end
end TWL
/-! K10fg -/
set_option Elab.async false
set_option linter.all false
set_option maxRecDepth 100000
namespace TWL
open TW TWm
theorem half_comp {E : Env} {σ : Sl} {S : Sto} {f : List (Nat × Bool)} {q : IE} {b : Bool} (h2 : σ[2]? = some (some (.fl (f.map rowU)))) (hl : σ.length = 6) (hq : ∀ (p : Nat × Bool) (σ' : Sl), σ'[5]? = some (some (.bl p.2)) → evE E σ' q S = .ok (.bl (p.2 == b)) S) :
    evN E σ (.comp (.tp (.cons (.nm 4) (.cons (.nm 5) .nil))) (.wL (.v 2)) true q (.v 4) [4, 5]) S = .ok (lf ((f.filter fun p => p.2 == b).map (·.1))) S := by
  have it : evI E σ (.wL (.v 2)) S = .ok (f.map rowU) S := w_fl (r_v h2)
  have := comp_if (q := q) (own := [4, 5]) (t := .tp (.cons (.nm 4) (.cons (.nm 5) .nil))) (elt := .v 4) (g := fun z => match z with | .tup [x, _] => x | _ => U.non) (p := fun z => match z with | .tup [_, .bl c] => c == b | _ => false) rfl it fun z hz => by
    obtain ⟨p, hp, rfl⟩ := List.mem_map.mp hz
    refine ⟨((wipeU σ [4, 5]).set 4 (some (.int p.1))).set 5 (some (.bl p.2)), rfl, ?_, ?_⟩
    · refine hq p _ ?_
      rw [List.getElem?_set_self]
      show 5 < (((σ.set 5 none).set 4 none).set 4 (some (U.int p.1))).length
      rw [List.length_set, List.length_set, List.length_set, hl]
      decide
    · refine r_v ?_
      have hh : 4 < (wipeU σ [4, 5]).length := by
        show 4 < ((σ.set 5 none).set 4 none).length
        rw [List.length_set, List.length_set, hl]
        decide
      rw [List.getElem?_set_ne (by decide), List.getElem?_set_self hh]
      rfl
  rw [this]
  have e : ((f.map rowU).filter (fun (z : U) => match z with | .tup [_, .bl c] => c == b | _ => false)).map (fun (z : U) => match z with | .tup [x, _] => x | _ => U.non) = lf ((f.filter fun p => p.2 == b).map (·.1)) := by
    rw [List.filter_map, List.map_map]
    unfold lf
    rw [List.map_map]
    have z : (fun p : Nat × Bool => ((fun (z : U) => match z with | .tup [_, .bl c] => c == b | _ => false) ∘ rowU) p) = fun p => p.2 == b := rfl
    show List.map _ (List.filter (fun p : Nat × Bool => p.2 == b) f) = _
    rfl
  rw [e]
theorem halves_ok (d : Nat) (m : Bool) {n : Nat} {ts : List (Nat × Nat)} {u v : U} (S : Sto) (hl : lend S ldep u = some v) (lu : Lst v (tiesU ts)) (h1 : 1 ≤ n) (h2 : n ≤ 40) (w : Web n ts) :
    (∀ y r, rowF (degs n ts) = some ((y, false) :: r) → callN Q (d + 5) m 22 [.int n, u] S = .ok (.tup [.int y, .fl (lf (y :: untd r)), .fl (lf (tied r))]) S) ∧ (rowF (degs n ts) = none → callN Q (d + 5) m 22 [.int n, u] S = .ex 6 S) := by
  have ri := row_in_ok d false (n := n) (u := v) [] (lend_lst lu) lu h1 h2 w (nr_ties ts)
  have ml : mapO (lend S ldep) [U.int n, u] = some [U.int n, v] := by
    simp [mapO, hl]
    rfl
  obtain ⟨c, hc⟩ : ∃ c, c = callN Q (d + 4) := ⟨_, rfl⟩
  constructor
  · intro y r e
    rw [e] at ri
    dsimp only at ri
    refine pm_run (D := D_halves) (ws := [.int n, v]) (S' := []) rfl rfl rfl ml ?_ ?_
    · rw [← hc] at ri ⊢
      show exS I_halves (Q.env c) [some (.int n), some v, none, none, none, none] [] = _
      unfold I_halves
      refine x_seq (x_asg (r_call rfl (r_cons (r_v rfl) (r_cons (r_v rfl) r_nil)) ri)) ?_
      have c1 := half_comp (E := Q.env c) (σ := [some (.int n), some v, some (.fl (((y, false) :: r).map rowU)), none, none, none]) (S := []) (f := (y, false) :: r) (q := .not (.v 5)) (b := false) rfl rfl fun p σ' h => by
        have := r_not (E := Q.env c) (S := []) (r_v (σ := σ') (i := 5) h)
        rw [this]
        cases p.2 <;> rfl
      refine x_seq (x_asg (r_newF c1)) ?_
      have c2 := half_comp (E := Q.env c) (σ := [some (.int n), some v, some (.fl (((y, false) :: r).map rowU)), some (.fl (lf ((((y, false) :: r).filter fun p => p.2 == false).map (·.1)))), none, none]) (S := []) (f := (y, false) :: r) (q := .v 5) (b := true) rfl rfl fun p σ' h => by
        rw [r_v (σ := σ') (i := 5) h]
        cases p.2 <;> rfl
      have e1 : (((y, false) :: r).filter fun p => p.2 == false).map (·.1) = y :: untd r := by
        rw [← untd_cons]
        unfold untd
        congr 2
        funext p
        cases p.2 <;> rfl
      have e2 : (((y, false) :: r).filter fun p => p.2 == true).map (·.1) = tied r := by
        rw [← tied_cons (y := y)]
        unfold tied
        congr 2
        funext p
        cases p.2 <;> rfl
      rw [e1] at c2 ⊢
      rw [e2] at c2
      exact x_seqR (x_ret (r_tup (r_cons (r_ix (us := [.int y, .bl false]) (k := 0) (r_ix (us := ((y, false) :: r).map rowU) (k := 0) (u := rowU (y, false)) (r_v rfl) r_c rfl (at_ok (us := ((y, false) :: r).map rowU) (i := 0) rfl) rfl) r_c rfl rfl rfl) (r_cons (r_v rfl) (r_cons (r_newF c2) r_nil))) top4))
    · have pl : ∀ l : List Nat, pureL (lf l) = true := fun l => pure_map (fun _ => rfl) l
      rw [U.pure, pureL, pureL, pureL, pureL]
      show (true && (pureL _ && (pureL _ && true))) = true
      rw [pl, pl]
      rfl
  · intro e
    rw [e] at ri
    dsimp only at ri
    refine pm_ex (D := D_halves) (ws := [.int n, v]) (S' := []) rfl rfl rfl ml ?_
    rw [← hc] at ri ⊢
    show exS I_halves (Q.env c) [some (.int n), some v, none, none, none, none] [] = _
    unfold I_halves
    exact x_seqX (x_asgX (r_call rfl (r_cons (r_v rfl) (r_cons (r_v rfl) r_nil)) ri))
theorem single_comp {E : Env} {σ : Sl} {S : Sto} {a : Nat} {l : List Nat} (ha : σ[a]? = some (some (.fl (lf l)))) (hl : σ.length = 6) : evN E σ (.comp (.nm 5) (.wL (.v a)) false (.c (.bl true)) (.newF (.lst (.cons (.v 5) .nil))) [5]) S = .ok (gsF (single l)) S := by
  have it : evI E σ (.wL (.v a)) S = .ok (lf l) S := w_fl (r_v ha)
  have := comp_no (q := .c (.bl true)) (own := [5]) (t := .nm 5) (elt := .newF (.lst (.cons (.v 5) .nil))) (g := fun z => .fl [z]) rfl it fun z hz => by
    refine ⟨_, nm_bind, r_newF (r_lst (r_cons (r_v ?_) r_nil) top2)⟩
    show ((σ.set 5 none).set 5 (some z))[5]? = _
    rw [List.getElem?_set_self (by rw [List.length_set, hl]; decide)]
  rw [this]
  have e : (lf l).map (fun z => U.fl [z]) = gsF (single l) := by
    unfold lf gsF single
    rw [List.map_map, List.map_map]
    rfl
  rw [e]
theorem single_compF {E : Env} {σ : Sl} {S : Sto} {l : List Nat} {y : Nat} (h3 : σ[3]? = some (some (.fl (lf (y :: l))))) (h2 : σ[2]? = some (some (.int y))) (hl : σ.length = 6) (ny : y ∉ l) : evN E σ (.comp (.nm 5) (.wL (.v 3)) true (.cmp .ne (.v 5) (.v 2)) (.newF (.lst (.cons (.v 5) .nil))) [5]) S = .ok (gsF (single l)) S := by
  have it : evI E σ (.wL (.v 3)) S = .ok (lf (y :: l)) S := w_fl (r_v h3)
  have := comp_if (q := .cmp .ne (.v 5) (.v 2)) (own := [5]) (t := .nm 5) (elt := .newF (.lst (.cons (.v 5) .nil))) (g := fun z => .fl [z]) (p := fun z => match z with | .int i => !decide (i = (y : Int)) | _ => false) rfl it fun z hz => by
    obtain ⟨k, hk, rfl⟩ := List.mem_map.mp hz
    have s5 : ((σ.set 5 none).set 5 (some (U.int (k : Int))))[5]? = some (some (.int (k : Int))) := by rw [List.getElem?_set_self (by rw [List.length_set, hl]; decide)]
    have s2 : ((σ.set 5 none).set 5 (some (U.int (k : Int))))[2]? = some (some (.int (y : Int))) := by rw [List.getElem?_set_ne (by decide), List.getElem?_set_ne (by decide), h2]
    exact ⟨_, nm_bind, r_cmp (r_v s5) (r_v s2) c_ne, r_newF (r_lst (r_cons (r_v s5) r_nil) top2)⟩
  rw [this]
  have e : ((lf (y :: l)).filter (fun (z : U) => match z with | .int i => !decide (i = (y : Int)) | _ => false)).map (fun z => U.fl [z]) = gsF (single l) := by
    have e0 : (lf (y :: l)).filter (fun (z : U) => match z with | .int i => !decide (i = (y : Int)) | _ => false) = lf l := by
      have e1 : lf (y :: l) = .int (y : Int) :: lf l := rfl
      rw [e1, List.filter_cons]
      simp only [decide_true, Bool.not_true, Bool.false_eq_true, if_false]
      refine List.filter_eq_self.mpr fun z hz => ?_
      obtain ⟨k, hk, rfl⟩ := List.mem_map.mp hz
      have : ¬ ((k : Int) = (y : Int)) := fun e => ny ((show k = y by omega) ▸ hk)
      simp [this]
    rw [e0]
    unfold lf gsF single
    rw [List.map_map, List.map_map]
    rfl
  rw [e]
theorem srt_lf {E : Env} {σ : Sl} {S : Sto} {a : IE} {l : List Nat} (h : evE E σ a S = .ok (.fl (lf l)) S) : evE E σ (.newF (.sorted a)) S = .ok (.fl ((srtI (natI l)).map .int)) S := by
  rw [lf_int] at h
  exact r_newF (r_sorted h rfl (sorted_ints _))
theorem cat1 {E : Env} {σ : Sl} {S : Sto} {a b : Nat} {y : Nat} {l : List Nat} (ha : σ[a]? = some (some (.int (y : Int)))) (hb : σ[b]? = some (some (.fl (lf l)))) (few : l.length < 1000) : evE E σ (.newF (.cat (.newF (.lst (.cons (.v a) .nil))) (.v b))) S = .ok (.fl (lf (y :: l))) S := by
  have tp : top = 1000000 := rfl
  have := r_newF (E := E) (σ := σ) (S := S) (r_cat (a := .newF (.lst (.cons (.v a) .nil))) (b := .v b) (us := [.int (y : Int)]) (ws := lf l) (r_newF (r_lst (r_cons (r_v ha) r_nil) top2)) (r_v hb) rfl rfl (by
    unfold lf
    rw [List.length_map, List.length_singleton]
    omega))
  exact this
theorem gcat {E : Env} {σ : Sl} {S : Sto} {a b : IE} {xs : List Int} {gs : List (List Int)} (ha : evE E σ a S = .ok (.fl (xs.map .int)) S) (hb : evN E σ b S = .ok (gsF gs) S) (few : gs.length < 1000) : evE E σ (.newF (.cat (.newF (.lst (.cons a .nil))) (.newF b))) S = .ok (.fl (gsF (xs :: gs))) S := by
  have tp : top = 1000000 := rfl
  have := r_newF (E := E) (σ := σ) (S := S) (r_cat (a := .newF (.lst (.cons a .nil))) (b := .newF b) (us := [.fl (xs.map .int)]) (ws := gsF gs) (r_newF (r_lst (r_cons ha r_nil) top2)) (r_newF hb) rfl rfl (by
    unfold gsF
    rw [List.length_map, List.length_singleton]
    omega))
  exact this
theorem crowd_ok (d : Nat) (m : Bool) {n : Nat} {ts : List (Nat × Nat)} {u v : U} (S : Sto) (hl : lend S ldep u = some v) (lu : Lst v (tiesU ts)) (h1 : 1 ≤ n) (h2 : n ≤ 40) (w : Web n ts) :
    (∀ y r, rowF (degs n ts) = some ((y, false) :: r) → RowOk n ts y r → callN Q (d + 6) m 23 [.int n, u] S = .ok (.ref S.length) (S ++ objS 10 S.length (crS y r) (crG y r))) ∧ (rowF (degs n ts) = none → callN Q (d + 6) m 23 [.int n, u] S = .ex 6 S) := by
  have hv := halves_ok d false (n := n) S hl lu h1 h2 w
  constructor
  · intro y r e R
    have few := R.few
    rw [List.length_cons] at few
    have h22 := hv.1 y r e
    obtain ⟨σ', ini⟩ := init_ok (E := Q.env (callN Q (d + 4))) (c := 10) (xs := crS y r) (gs := crG y r) (S := S) rfl
    have i18 : callN Q (d + 5) false 18 [.ref S.length, .fl ((crS y r).map .int), .fl (gsF (crG y r))] (S ++ [.ins 10 []]) = .ok .non (S ++ objS 10 S.length (crS y r) (crG y r)) := np_nx (D := D_Crowd___init__) rfl rfl rfl ini
    obtain ⟨c, hc⟩ : ∃ c, c = callN Q (d + 5) := ⟨_, rfl⟩
    refine np_run (D := D_crowd) rfl rfl rfl ?_
    rw [← hc] at h22 i18 ⊢
    show exS I_crowd (Q.env c) [some (.int n), some u, none, none, none, none] S = _
    unfold I_crowd
    refine x_seq (x_asgT (r_call rfl (r_cons (r_v rfl) (r_cons (r_v rfl) r_nil)) h22) rfl) ?_
    refine x_seqR (x_ret (r_make rfl (r_cons (srt_lf (cat1 (y := y) (l := tied r) rfl rfl (by omega))) (r_cons (gcat (srt_lf (l := y :: untd r) (r_v rfl)) (single_comp (l := tied r) rfl rfl) (by rw [single_len]; omega)) r_nil)) i18))
  · intro e
    have h22 := hv.2 e
    obtain ⟨c, hc⟩ : ∃ c, c = callN Q (d + 5) := ⟨_, rfl⟩
    refine np_ex (D := D_crowd) rfl rfl rfl ?_
    rw [← hc] at h22 ⊢
    show exS I_crowd (Q.env c) [some (.int n), some u, none, none, none, none] S = _
    unfold I_crowd
    exact x_seqX (x_asgX (r_call rfl (r_cons (r_v rfl) (r_cons (r_v rfl) r_nil)) h22))
theorem lonely_ok (d : Nat) (m : Bool) {n : Nat} {ts : List (Nat × Nat)} {u v : U} (S : Sto) (hl : lend S ldep u = some v) (lu : Lst v (tiesU ts)) (h1 : 1 ≤ n) (h2 : n ≤ 40) (w : Web n ts) :
    (∀ y r, rowF (degs n ts) = some ((y, false) :: r) → RowOk n ts y r → callN Q (d + 6) m 24 [.int n, u] S = .ok (.ref S.length) (S ++ objS 11 S.length (loS y r) (loG y r))) ∧ (rowF (degs n ts) = none → callN Q (d + 6) m 24 [.int n, u] S = .ex 6 S) := by
  have hv := halves_ok d false (n := n) S hl lu h1 h2 w
  constructor
  · intro y r e R
    have few := R.few
    rw [List.length_cons] at few
    have ny : y ∉ untd r := (List.nodup_cons.mp R.ndU).1
    have h22 := hv.1 y r e
    obtain ⟨σ', ini⟩ := init_ok (E := Q.env (callN Q (d + 4))) (c := 11) (xs := loS y r) (gs := loG y r) (S := S) rfl
    have i20 : callN Q (d + 5) false 20 [.ref S.length, .fl ((loS y r).map .int), .fl (gsF (loG y r))] (S ++ [.ins 11 []]) = .ok .non (S ++ objS 11 S.length (loS y r) (loG y r)) := np_nx (D := D_Lonely___init__) rfl rfl rfl ini
    obtain ⟨c, hc⟩ : ∃ c, c = callN Q (d + 5) := ⟨_, rfl⟩
    refine np_run (D := D_lonely) rfl rfl rfl ?_
    rw [← hc] at h22 i20 ⊢
    show exS I_lonely (Q.env c) [some (.int n), some u, none, none, none, none] S = _
    unfold I_lonely
    refine x_seq (x_asgT (r_call rfl (r_cons (r_v rfl) (r_cons (r_v rfl) r_nil)) h22) rfl) ?_
    refine x_seqR (x_ret (r_make rfl (r_cons (srt_lf (l := y :: untd r) (r_v rfl)) (r_cons (gcat (srt_lf (cat1 (y := y) (l := tied r) rfl rfl (by omega))) (single_compF (l := untd r) rfl rfl rfl ny) (by rw [single_len]; omega)) r_nil)) i20))
  · intro e
    have h22 := hv.2 e
    obtain ⟨c, hc⟩ : ∃ c, c = callN Q (d + 5) := ⟨_, rfl⟩
    refine np_ex (D := D_lonely) rfl rfl rfl ?_
    rw [← hc] at h22 ⊢
    show exS I_lonely (Q.env c) [some (.int n), some u, none, none, none, none] S = _
    unfold I_lonely
    exact x_seqX (x_asgX (r_call rfl (r_cons (r_v rfl) (r_cons (r_v rfl) r_nil)) h22))
end TWL
/-! K10g -/
set_option Elab.async false
set_option linter.all false
set_option maxRecDepth 100000
namespace TWL
open TW TWm
/-! ### the greatest crowds -/
theorem r_meth {E : Env} {σ : Sl} {S S1 S2 : Sto} {a es : IE} {k c m f : Nat} {fs : List (Nat × U)} {us : List U} {r : R U} (ha : evE E σ a S = .ok (.ref k) S1) (hS : S1[k]? = some (.ins c fs)) (hm : E.mt c m = some f) (hl : evL E σ es S1 = .ok us S2) (hc : E.call false f (.ref k :: us) S2 = r) : evE E σ (.meth a m es) S = r := by
  rw [evE, ha, R.bind]
  simp only [hS, hm]
  rw [hl, R.bind, hc]
theorem x_par {is : List Nat} {es : IE} {E : Env} {σ σ1 : Sl} {S S1 : Sto} {us : List U} (h : evL E σ es S = .ok us S1) (hs : setAll is us σ = some σ1) : exS (.par is es) E σ S = .ok (.nx σ1) S1 := by
  rw [exS, h, R.bind, hs]
  rfl
def clsC (t : Bool) : Nat := bif t then 10 else 11
def shwC (t : Bool) : Nat := bif t then 19 else 21
theorem shows_c (d : Nat) (t : Bool) {n k i j : Nat} {js : List Nat} {ts : List (Nat × Nat)} {xs : List Int} {gs : List (List Int)} {u v : U} {S : Sto} (o : Obj S (clsC t) k xs gs i j js) (hl : lend S ldep u = some v) (lu : Lst v (tiesU ts)) (hn : n ≤ 40) (w : Web n ts) (hx : xs.length < 64) (hgx : ∀ g ∈ gs, g.length < 64) (hx2 : gs.length < 1000) :
    callN Q (d + 3) false (shwC t) [.ref k, .int n, u] S = .ok (.bl (dueB n ts xs gs t)) S := by
  rw [← show_due]
  cases t
  · exact np_run (D := D_Lonely_shows) rfl rfl rfl (shows_ok d false o rfl hl lu hn w hx hgx hx2)
  · exact np_run (D := D_Crowd_shows) rfl rfl rfl (shows_ok d true o rfl hl lu hn w hx hgx hx2)
section
variable {n y : Nat} {ts : List (Nat × Nat)} {r : List (Nat × Bool)}
theorem RowOk.lens (R : RowOk n ts y r) : (crS y r).length = (tied r).length + 1 ∧ (loS y r).length = n - (tied r).length ∧ (∀ g ∈ crG y r, g.length ≤ n) ∧ (∀ g ∈ loG y r, g.length ≤ n) ∧ (crG y r).length ≤ n + 1 ∧ (loG y r).length ≤ n + 1 := by
  have few := R.few
  rw [List.length_cons] at few
  have sl : ∀ l : List Nat, (srtI (natI l)).length = l.length := fun l => by rw [(srtI_perm _).length_eq, natI_len]
  have one : ∀ l : List Nat, ∀ g ∈ single l, g.length ≤ 1 := fun l g hg => by
    unfold single at hg
    obtain ⟨a, _, rfl⟩ := List.mem_map.mp hg
    exact Nat.le_refl _
  refine ⟨?_, ?_, fun g hg => ?_, fun g hg => ?_, ?_, ?_⟩
  · unfold crS; rw [sl, List.length_cons]
  · unfold loS; rw [sl, List.length_cons]; omega
  · unfold crG at hg
    rcases List.mem_cons.mp hg with rfl | hg
    · rw [sl, List.length_cons]; omega
    · have := one _ g hg; omega
  · unfold loG at hg
    rcases List.mem_cons.mp hg with rfl | hg
    · rw [sl, List.length_cons]; omega
    · have := one _ g hg; omega
  · unfold crG; rw [List.length_cons, single_len]; omega
  · unfold loG; rw [List.length_cons, single_len]; omega
end
abbrev gI (k : Nat) : IS := nthS I__law_greatest_right k
abbrev gSl (b0 b1 b2 b3 p t m l b8 o1 o2 b11 : Option U) : Sl := [b0, b1, b2, b3, p, t, m, l, b8, o1, o2, b11]
theorem lb_eq {S : Sto} {a b : Nat} {c d : Nat} (h1 : a = c) (h2 : b = d) : eqU S (.fl [.int a, .int b]) (.fl [.int c, .int d]) = some true := by
  subst h1 h2
  show some (eqvs [Dt.int a, Dt.int b] [Dt.int a, Dt.int b]) = _
  rw [eqvs, eqvs, eqvs, eqv, eqv, beq_self_eq_true, beq_self_eq_true]
  rfl
theorem g_turn {b0 b1 b2 b3 p t m l b8 o1 o2 b11 : Option U} {S : Sto} {n many lone : Nat} {ts : List (Nat × Nat)} {k : Nat} (h1 : 1 ≤ n) (hn : n ≤ 40) (w : Web n ts) (hr : (rowF (degs n ts)).map (fun f => (tied f).length) = some k) (e1 : many = k + 1) (e2 : lone = n - k) :
    ∃ p' t' m' l' o1' o2' S', forB (kE 8) (.tp (.cons (.nm 4) (.cons (.nm 5) (.cons (.nm 6) (.cons (.nm 7) .nil))))) (forBody (gI 3)) (.tup [.int n, .fl (tiesU ts), .int many, .int lone]) (gSl b0 b1 b2 b3 p t m l b8 o1 o2 b11) S = .ok (.nx (gSl b0 b1 b2 b3 p' t' m' l' b8 o1' o2' b11)) S' := by
  obtain ⟨f, hf, ek⟩ := Option.map_eq_some_iff.mp hr
  obtain ⟨y, r, rfl, R⟩ := row_ok h1 w hf
  rw [tied_cons] at ek
  obtain ⟨q1, q2, q3, q4, q5, q6⟩ := R.lens
  have few := R.few
  rw [List.length_cons] at few
  have hl : ∀ S : Sto, lend S ldep (.fl (tiesU ts)) = some (.fl (tiesU ts)) := fun S => lend_fl (nr_ties ts)
  have cr := (crowd_ok 2 false (n := n) S (hl S) (.inl rfl) h1 hn w).1 y r hf R
  obtain ⟨S1, hS1⟩ : ∃ S1, S1 = S ++ objS 10 S.length (crS y r) (crG y r) := ⟨_, rfl⟩
  have lo := (lonely_ok 2 false (n := n) S1 (hl S1) (.inl rfl) h1 hn w).1 y r hf R
  obtain ⟨S2, hS2⟩ : ∃ S2, S2 = S1 ++ objS 11 S1.length (loS y r) (loG y r) := ⟨_, rfl⟩
  have oA : Obj S1 10 S.length (crS y r) (crG y r) (S.length + 1) (S.length + 2 + (crG y r).length) ((List.range (crG y r).length).map fun i => S.length + 2 + i) := by rw [hS1]; exact obj_of 10 _ _ S
  have oA2 : Obj S2 10 S.length (crS y r) (crG y r) (S.length + 1) (S.length + 2 + (crG y r).length) ((List.range (crG y r).length).map fun i => S.length + 2 + i) := by rw [hS2]; exact oA.app
  have oB : Obj S2 11 S1.length (loS y r) (loG y r) (S1.length + 1) (S1.length + 2 + (loG y r).length) ((List.range (loG y r).length).map fun i => S1.length + 2 + i) := by rw [hS2]; exact obj_of 11 _ _ S1
  have sA := shows_c 5 true (n := n) (u := .fl (tiesU ts)) oA2 (hl S2) (.inl rfl) hn w (by omega) (fun g hg => by have := q3 g hg; omega) (by omega)
  have sB := shows_c 5 false (n := n) (u := .fl (tiesU ts)) oB (hl S2) (.inl rfl) hn w (by omega) (fun g hg => by have := q4 g hg; omega) (by omega)
  rw [R.due1 hn] at sA
  rw [R.due0 hn] at sB
  rw [← hS1] at cr
  rw [← hS2] at lo
  refine ⟨some (.int n), some (.fl (tiesU ts)), some (.int many), some (.int lone), some (.ref S.length), some (.ref S1.length), S2, ?_⟩
  obtain ⟨c0, hc⟩ : ∃ c0, c0 = callN Q 8 := ⟨_, rfl⟩
  have ec : ∀ f us (S : Sto), callN Q 8 false f us S = c0 false f us S := fun f us S => by rw [hc]
  have cr : c0 false 23 [.int n, .fl (tiesU ts)] S = .ok (.ref S.length) S1 := by rw [← ec]; exact cr
  have lo : c0 false 24 [.int n, .fl (tiesU ts)] S1 = .ok (.ref S1.length) S2 := by rw [← ec]; exact lo
  have sA : c0 false 19 [.ref S.length, .int n, .fl (tiesU ts)] S2 = .ok (.bl true) S2 := by rw [← ec]; exact sA
  have sB : c0 false 21 [.ref S1.length, .int n, .fl (tiesU ts)] S2 = .ok (.bl true) S2 := by rw [← ec]; exact sB
  show exS (forBody (gI 3)) (kE 8) (gSl b0 b1 b2 b3 (some (.int n)) (some (.fl (tiesU ts))) (some (.int many)) (some (.int lone)) b8 o1 o2 b11) S = _
  unfold kE
  rw [← hc]
  refine x_seq (x_par (us := [.ref S.length, .ref S1.length]) (S1 := S2) (r_cons (r_call rfl (r_cons (r_v rfl) (r_cons (r_v rfl) r_nil)) cr) (r_cons (r_call rfl (r_cons (r_v rfl) (r_cons (r_v rfl) r_nil)) lo) r_nil)) rfl) ?_
  refine x_seq (x_ifF (S1 := S2) (r_orF (r_not (x := true) (r_meth (r_v rfl) oA2.ob rfl (r_cons (r_v rfl) (r_cons (r_v rfl) r_nil)) sA)) (r_not (x := true) (r_meth (r_v rfl) oB.ob rfl (r_cons (r_v rfl) (r_cons (r_v rfl) r_nil)) sB))) x_skip) ?_
  have tp2 : ([U.int ((crS y r).length : Nat), U.int ((loS y r).length : Nat)] : List U).length < top := by show 2 < 1000000; decide
  have f1 : biU (Q.env c0).P S2 .len [.ref (S.length + 1)] = some (.int ((crS y r).length : Nat)) := by
    show (rdL S2 (.ref (S.length + 1))).map _ = _
    rw [rd_ref oA2.so, Option.map_some, List.length_map]
  have f2 : biU (Q.env c0).P S2 .len [.ref (S1.length + 1)] = some (.int ((loS y r).length : Nat)) := by
    show (rdL S2 (.ref (S1.length + 1))).map _ = _
    rw [rd_ref oB.so, Option.map_some, List.length_map]
  refine x_seq (x_ifF (S1 := S2) (r_cmp (r_newF (r_lst (r_cons (r_bi (r_cons (r_fld (r_v rfl) oA2.ob rfl rfl) r_nil) f1) (r_cons (r_bi (r_cons (r_fld (r_v rfl) oB.ob rfl rfl) r_nil) f2) r_nil)) tp2)) (r_newF (r_lst (r_cons (r_v rfl) (r_cons (r_v rfl) r_nil)) (by show 2 < 1000000; decide))) (c_neT (lb_eq ?_ ?_))) x_skip) x_skip
  · rw [q1, e1, ek]
  · rw [q2, e2, ek]
/-- a web, the greatest crowd's size, the lonely ones' -/
structure GIt where
  n : Nat
  ts : List (Nat × Nat)
  k : Nat
def GIt.u (g : GIt) : U := .tup [.int g.n, .fl (tiesU g.ts), .int (g.k + 1 : Nat), .int (g.n - g.k : Nat)]
def GIt.ok (g : GIt) : Prop := 1 ≤ g.n ∧ g.n ≤ 40 ∧ Web g.n g.ts ∧ (rowF (degs g.n g.ts)).map (fun f => (tied f).length) = some g.k
theorem g_turns {b0 b1 b2 b3 b8 b11 : Option U} : ∀ (gs : List GIt) (p t m l o1 o2 : Option U) (S : Sto), (∀ g ∈ gs, g.ok) → ∃ p' t' m' l' o1' o2' S', forGo (forB (kE 8) (.tp (.cons (.nm 4) (.cons (.nm 5) (.cons (.nm 6) (.cons (.nm 7) .nil))))) (forBody (gI 3))) (gs.map GIt.u) (gSl b0 b1 b2 b3 p t m l b8 o1 o2 b11) S = .ok (.nx (gSl b0 b1 b2 b3 p' t' m' l' b8 o1' o2' b11)) S'
  | [], p, t, m, l, o1, o2, S, _ => ⟨p, t, m, l, o1, o2, S, rfl⟩
  | g :: gs, p, t, m, l, o1, o2, S, h => by
    obtain ⟨h1, h2, h3, h4⟩ := h g List.mem_cons_self
    obtain ⟨p1, t1, m1, l1, q1, q2, S1, e1⟩ := g_turn (b0 := b0) (b1 := b1) (b2 := b2) (b3 := b3) (p := p) (t := t) (m := m) (l := l) (b8 := b8) (o1 := o1) (o2 := o2) (b11 := b11) (S := S) h1 h2 h3 h4 rfl rfl
    obtain ⟨p2, t2, m2, l2, r1, r2, S2, e2⟩ := g_turns (b0 := b0) (b1 := b1) (b2 := b2) (b3 := b3) (b8 := b8) (b11 := b11) gs p1 t1 m1 l1 q1 q2 S1 fun z hz => h z (List.mem_cons_of_mem _ hz)
    refine ⟨p2, t2, m2, l2, r1, r2, S2, ?_⟩
    rw [List.map_cons, forGo]
    show R.bind (forB _ _ _ (.tup [.int g.n, .fl (tiesU g.ts), .int (g.k + 1 : Nat), .int (g.n - g.k : Nat)]) _ _) _ = _
    rw [e1]
    exact e2
end TWL
/-! K10h -/
set_option Elab.async false
set_option linter.all false
set_option maxRecDepth 100000
namespace TWL
open TW TWm
abbrev lastN : Nat := 549755813887
def gits : List GIt := [⟨4, [(0, 3), (1, 3), (2, 3)], 1⟩, ⟨3, [(0, 1), (0, 2), (1, 2)], 2⟩, ⟨3, [], 0⟩, ⟨1, [], 0⟩, ⟨4, [(0, 1), (0, 2), (1, 2), (2, 3)], 2⟩, ⟨40, [], 0⟩]
def gLast : GIt := ⟨40, due 40 lastN, 39⟩
theorem gLast_row : (rowF (degs 40 (due 40 lastN))).map (fun f => (tied f).length) = some 39 := by decide +kernel
theorem gits_ok : ∀ g ∈ gits, g.ok := by
  intro g hg
  have w : ∀ n ts, (decide (∀ t ∈ ts, t.1 < t.2 ∧ t.2 < n) && decide (ts.Nodup : Prop)) = true → Web n ts := fun n ts h => by
    rw [Bool.and_eq_true, decide_eq_true_eq, decide_eq_true_eq] at h
    exact ⟨h.1, h.2⟩
  unfold gits at hg
  simp only [List.mem_cons, List.not_mem_nil, or_false] at hg
  rcases hg with rfl | rfl | rfl | rfl | rfl | rfl <;> exact ⟨by decide, by decide, w _ _ (by decide), by decide +kernel⟩
theorem gLast_ok : gLast.ok := ⟨by decide, by decide, due_web 40 lastN, gLast_row⟩
theorem g0 : exS (gI 0) (kE 8) (gSl none none none none none none none none none none none none) [] = .ok (.nx (gSl none none (some (.fl (tiesU [(0, 3), (1, 3), (2, 3)]))) (some (.fl (tiesU [(0, 1), (0, 2), (1, 2)]))) none none none none none none none none)) [] := by kernel_rfl
theorem g1 : exS (gI 1) (kE 8) (gSl none none (some (.fl (tiesU [(0, 3), (1, 3), (2, 3)]))) (some (.fl (tiesU [(0, 1), (0, 2), (1, 2)]))) none none none none none none none none) [] = .ok (.nx (gSl (some (.fl ((gits.take 4).map GIt.u))) none (some (.fl (tiesU [(0, 3), (1, 3), (2, 3)]))) (some (.fl (tiesU [(0, 1), (0, 2), (1, 2)]))) none none none none none none none none)) [] := by kernel_rfl
theorem g2 : exS (gI 2) (kE 8) (gSl (some (.fl ((gits.take 4).map GIt.u))) none (some (.fl (tiesU [(0, 3), (1, 3), (2, 3)]))) (some (.fl (tiesU [(0, 1), (0, 2), (1, 2)]))) none none none none none none none none) [] = .ok (.nx (gSl (some (.fl ((gits.take 5).map GIt.u))) none (some (.fl (tiesU [(0, 3), (1, 3), (2, 3)]))) (some (.fl (tiesU [(0, 1), (0, 2), (1, 2)]))) none none none none none none none none)) [] := by kernel_rfl
def g3src : IE := .newF (.cat (.v 0) (.newF (.lst (.cons (.tup (.cons (.c (.int 40)) (.cons (.newF (.lst .nil)) (.cons (.c (.int 1)) (.cons (.c (.int 40)) .nil))))) (.cons (.tup (.cons (.c (.int 40)) (.cons (.callD false 25 (.cons (.c (.int 40)) (.cons (.bin .sub (.bin .pow (.c (.int 2)) (.c (.int 39))) (.c (.int 1))) .nil))) (.cons (.c (.int 40)) (.cons (.c (.int 1)) .nil))))) .nil)))))
theorem g3_src {E : Env} {σ : Sl} {us : List U} (h0 : σ[0]? = some (some (.fl us))) (hl : us.length < 100) (hf : E.okf 25 = true) (kb : E.call false 25 [.int 40, .int 549755813887] [] = .ok (.fl (tiesU (due 40 lastN))) []) :
    evE E σ g3src [] = .ok (.fl (us ++ [.tup [.int 40, .fl [], .int 1, .int 40], .tup [.int 40, .fl (tiesU (due 40 lastN)), .int 40, .int 1]])) [] := by
  unfold g3src
  have pw : bopU .pow (.int 2) (.int 39) = some (.int 549755813888) := by kernel_rfl
  have sb : bopU .sub (.int 549755813888) (.int 1) = some (.int 549755813887) := by kernel_rfl
  have t2 : ∀ a b : U, [a, b].length < top := fun a b => by show 2 < 1000000; decide
  have t4 : ∀ a b c d : U, [a, b, c, d].length < top := fun a b c d => by show 4 < 1000000; decide
  have t0 : ([] : List U).length < top := by show 0 < 1000000; decide
  have ht : top = 1000000 := rfl
  refine r_newF (r_cat (S1 := []) (S2 := []) (r_v h0) (r_newF (r_lst (S1 := []) (r_cons (S1 := []) (r_tup (S1 := []) (r_cons r_c (r_cons (r_newF (r_lst r_nil t0)) (r_cons r_c (r_cons r_c r_nil)))) (t4 _ _ _ _)) (r_cons (S1 := []) (r_tup (S1 := []) (r_cons r_c (r_cons (r_call (us := [.int 40, .int 549755813887]) (S1 := []) hf (r_cons r_c (r_cons (r_bin (r_bin r_c r_c pw) r_c sb) r_nil)) kb) (r_cons r_c (r_cons r_c r_nil)))) (t4 _ _ _ _)) r_nil)) (t2 _ _))) rfl rfl ?_)
  show us.length + 2 < top
  omega
theorem g3_it : evI (kE 8) (gSl (some (.fl ((gits.take 5).map GIt.u))) none (some (.fl (tiesU [(0, 3), (1, 3), (2, 3)]))) (some (.fl (tiesU [(0, 1), (0, 2), (1, 2)]))) none none none none none none none none) (.wL g3src) [] = .ok ((gits ++ [gLast]).map GIt.u) [] := by
  have kb := kind_by_ok (n := 40) (N := lastN) 5 false [] (by decide) (by decide) (by decide)
  have ec : ∀ f us, (kE 8).call false f us [] = callN Q 8 false f us [] := fun f us => rfl
  have kb : (kE 8).call false 25 [.int 40, .int 549755813887] [] = .ok (.fl (tiesU (due 40 lastN))) [] := by rw [ec]; exact kb
  refine (w_fl (g3_src (us := (gits.take 5).map GIt.u) rfl (by decide) rfl kb)).trans ?_
  have e1 : (gits ++ [gLast]).map GIt.u = (gits.take 5).map GIt.u ++ [gits.getLast (by decide) |>.u, gLast.u] := rfl
  have e2 : gLast.u = .tup [.int 40, .fl (tiesU (due 40 lastN)), .int 40, .int 1] := rfl
  rw [e1, e2]
  rfl
theorem g4 (b0 b2 b3 p t m l o1 o2 : Option U) (S : Sto) : exS (gI 4) (kE 8) (gSl b0 none b2 b3 p t m l none o1 o2 none) S = .ok (.nx (gSl b0 (some .non) b2 b3 p t m l (some (.fl [.clo 207 [], .clo 206 [], .clo 209 [], .clo 208 []])) o1 o2 none)) S := by kernel_rfl
theorem g5 (b0 b1 b2 b3 p t m l b8 o1 o2 : Option U) (S : Sto) : exS (gI 5) (kE 8) (gSl b0 b1 b2 b3 p t m l b8 o1 o2 none) S = .ok (.nx (gSl b0 b1 b2 b3 p t m l b8 o1 o2 none)) S := by kernel_rfl
theorem g6 (b0 b1 b2 b3 p t m l b8 o1 o2 : Option U) (S : Sto) : exS (gI 6) (kE 8) (gSl b0 b1 b2 b3 p t m l b8 o1 o2 none) S = .ok (.rt (.bl true)) S := by kernel_rfl
theorem t47 : callN Q 9 false 47 [] [] = .ok (.bl true) [] := by
  rw [call_pm (D := D__law_greatest_right) rfl rfl rfl (ws := []) rfl]
  have run : ∃ S, exS I__law_greatest_right (kE 8) (gSl none none none none none none none none none none none none) [] = .ok (.rt (.bl true)) S := by
    obtain ⟨p, t, m, l, o1, o2, S, lp⟩ := g_turns (b0 := some (.fl ((gits.take 5).map GIt.u))) (b1 := none) (b2 := some (.fl (tiesU [(0, 3), (1, 3), (2, 3)]))) (b3 := some (.fl (tiesU [(0, 1), (0, 2), (1, 2)]))) (b8 := none) (b11 := none) (gits ++ [gLast]) none none none none none none [] fun g hg => by
      rcases List.mem_append.mp hg with h | h
      · exact gits_ok g h
      · rw [List.mem_singleton.mp h]
        exact gLast_ok
    have e4 := g4 (some (.fl ((gits.take 5).map GIt.u))) (some (.fl (tiesU [(0, 3), (1, 3), (2, 3)]))) (some (.fl (tiesU [(0, 1), (0, 2), (1, 2)]))) p t m l o1 o2 S
    exact ⟨S, x_seq g0 (x_seq g1 (x_seq g2 (x_seq (x_for (it := .wL g3src) g3_it lp) (x_seq e4 (x_seq (g5 ..) (x_seqR (g6 ..)))))))⟩
  obtain ⟨S, run⟩ := run
  show ((exS I__law_greatest_right (kE 8) (gSl none none none none none none none none none none none none) []).done).shut false [] = _
  rw [run]
  rfl
end TWL
/-! K10d -/
set_option Elab.async false
set_option linter.all false
set_option maxRecDepth 100000
namespace TWL
open TW TWm
theorem mod_nat {z : Int} : ∃ N : Nat, z % (last40 + 1) = (N : Int) ∧ N < 2 ^ (40 - 1) := by
  have h1 : 0 ≤ z % (last40 + 1) := Int.emod_nonneg _ (by decide)
  have h2 : z % (last40 + 1) < last40 + 1 := Int.emod_lt_of_pos _ (by decide)
  refine ⟨(z % (last40 + 1)).toNat, by omega, ?_⟩
  have : last40 + 1 = 549755813888 := by decide
  have e : (2 : Nat) ^ (40 - 1) = 549755813888 := by decide
  rw [e]
  omega
theorem loop_items {n : Int} (hn : n.natAbs.log2 ≤ 1048640) : ∃ N1 N2 : Nat, N1 < 2 ^ (40 - 1) ∧ N2 < 2 ^ (40 - 1) ∧
    evI (kE 8) [some (.int n), some (.int last40), none, none, none, none, none, none] (match kLoop with | .for _ it _ => it | _ => .none) [] = .ok ([0, 1, 549755813887, 549755813886, 274877906944, N1, N2].map fun (N : Nat) => U.int N) [] := by
  obtain ⟨N1, e1, h1⟩ := mod_nat (z := n)
  obtain ⟨N2, e2, h2⟩ := mod_nat (z := 7 * n)
  refine ⟨N1, N2, h1, h2, ?_⟩
  have m7 : bopU .mul (.int 7) (.int n) = some (.int (7 * n)) := b_mul (by
    have : (7 : Int).natAbs.log2 = 2 := by decide
    omega)
  have md : ∀ z : Int, bopU .mod (.int z) (.int (last40 + 1)) = some (.int (z % (last40 + 1))) := fun z => b_mod (by decide)
  have sm : bopU .sub (.int last40) (.int 1) = some (.int 549755813886) := by kernel_rfl
  have pw : bopU .pow (.int 2) (.int 38) = some (.int 274877906944) := by kernel_rfl
  have q : evL (kE 8) [some (.int n), some (.int last40), none, none, none, none, none, none] (.cons (.c (.int 0)) (.cons (.c (.int 1)) (.cons (.v 1) (.cons (.bin .sub (.v 1) (.c (.int 1))) (.cons (.bin .pow (.c (.int 2)) (.c (.int 38))) (.cons (.bin .mod (.v 0) (.bin .add (.v 1) (.c (.int 1)))) (.cons (.bin .mod (.bin .mul (.c (.int 7)) (.v 0)) (.bin .add (.v 1) (.c (.int 1)))) .nil))))))) [] =
      .ok [.int 0, .int 1, .int last40, .int 549755813886, .int 274877906944, .int (n % (last40 + 1)), .int ((7 * n) % (last40 + 1))] [] :=
    r_cons r_c (r_cons r_c (r_cons (r_v rfl) (r_cons (r_bin (r_v rfl) r_c sm) (r_cons (r_bin r_c r_c pw) (r_cons (r_bin (r_v rfl) (r_bin (r_v rfl) r_c b_add) (md n)) (r_cons (r_bin (r_bin r_c (r_v rfl) m7) (r_bin (r_v rfl) r_c b_add) (md _)) r_nil))))))
  rw [e1, e2] at q
  show evI (kE 8) _ (.wT (.tup _)) [] = _
  rw [evI, r_tup q (by show 7 < top; decide)]
  rfl
theorem k45 {n : Int} (hn : n.natAbs.log2 ≤ 1048640) : callN Q 9 false 45 [.int n] [] = .ok (.bl true) [] := by
  rw [call_pm (D := D__law_kinds_right) rfl rfl rfl (ws := [.int n]) rfl]
  have run : exS I__law_kinds_right (kE 8) (s45 n) [] = .ok (.rt (.bl true)) [] := by
    obtain ⟨N1, N2, h1, h2, it⟩ := loop_items hn
    obtain ⟨x, y, z, lp⟩ := k_turns (d := 3) (a := some (.int n)) (b := some (.int last40)) [0, 1, 549755813887, 549755813886, 274877906944, N1, N2] none none none (fun N hN => by
      have e : (2 : Nat) ^ (40 - 1) = 549755813888 := by decide
      rw [e] at h1 h2 ⊢
      simp only [List.mem_cons, List.not_mem_nil, or_false] at hN
      omega)
    refine x_seq (p0 n) (x_seq (p1 n) (x_seq (p2 n) (x_seq (p3 n) (x_seq (p4 n) (x_seq (x_for it lp) ?_)))))
    exact x_seq (p6 n x y z) (x_seq (p7 n x y z) (x_seq (p8 n x y z) (x_seqR (p9 n x y z))))
  show ((exS I__law_kinds_right (kE 8) (s45 n) []).done).shut false [] = _
  rw [run]
  rfl
theorem law_runs (ns : List Int) (h : ns.length ≤ 63) (hb : ∀ z ∈ ns, PySem.Builtin.Int.intBits z ≤ 1048576) : ∃ S, TW.callN TWL.Q 10 false 48 [.sc (ns.map .int)] [] = .ok (.bl true) S := by
  refine ⟨[], ?_⟩
  obtain ⟨l, hl, hm, hlen⟩ := cut_map ns .none (some (2 : Int))
  have hB : Bt 1048639 l.sum := (Bt.sum fun z hz => bits_Bt (hb z (hm z hz))).mono (by omega)
  obtain ⟨n, en⟩ : ∃ n : Int, n = if l.sum < 0 then -l.sum else l.sum := ⟨_, rfl⟩
  have hn : n.natAbs.log2 ≤ 1048640 := by
    have : n.natAbs = l.sum.natAbs := by rw [en]; split <;> omega
    have b : Bt 1048639 n := by unfold Bt; rw [this]; exact hB
    have := b.lg
    omega
  rw [call_pm (D := D_law) rfl rfl rfl (ws := [.sc (ns.map .int)]) (by
    have nr := nr_ints ns
    show mapO _ _ = _
    simp [mapO, lend, ldep, U.noRef, nr])]
  have c42 := isT_ok t42
  have c43 := isT_ok t43
  have c44 := isT_ok t44
  have c46 := isT_ok t46
  have c47 := t47
  have ec : ∀ f us, (kE 9).call false f us [] = callN Q 9 false f us [] := fun f us => rfl
  have c45 := k45 hn
  rw [← ec] at c42 c43 c44 c45 c46 c47
  have run : exS I_law (kE 9) [some (.sc (ns.map .int)), none] [] = .ok (.rt (.bl true)) [] := by
    have rv : ∀ S, rdL S (.sc (ns.map .int)) = some (ns.map U.int) := fun S => rfl
    have es : evE (kE 9) [some (.sc (ns.map .int)), none] (.bi .sum (.cons (.newF (.slice (.v 0) .none (.opt (.c (.int 2))))) .nil)) [] = .ok (.int l.sum) [] := by
      refine r_bi (r_cons (r_newF (r_slice (r_v rfl) r_none (r_opt r_c) (rv _))) r_nil) ?_
      rw [hl]
      show (mapO asInt (l.map U.int)).map _ = _
      rw [asInts]; rfl
    refine x_seq (x_asg (u := .int n) (r_bi (r_cons es r_nil) (by show some (U.int _) = _; rw [en]))) ?_
    refine x_seq (x_ifF (S1 := []) (r_orF (r_not (r_call rfl r_nil c42)) (r_orF (r_not (r_call rfl r_nil c43)) (r_not (r_call rfl r_nil c44)))) x_skip) ?_
    exact x_seqR (x_ret (r_andT (r_call rfl (r_cons (r_v rfl) r_nil) c45) (r_andT (r_call rfl r_nil c46) (r_call rfl r_nil c47))))
  show ((exS I_law (kE 9) [some (.sc (ns.map .int)), none] []).done).shut false [] = _
  rw [run]
  rfl
end TWL
/-! F10 -/
set_option Elab.async false
set_option linter.all false
set_option maxRecDepth 100000
open PySem PySem.W PyProof.Rows
set_option maxRecDepth 100000 in
set_option maxHeartbeats 0 in
theorem PySem.Challenge.cw_tipwebs_k10_promises_by_hand_holds : PySem.Challenge.rw_tipwebs_k10_promises_by_hand.Holds := by
  w_on; o_law; k_head; (case hw => w_witness2)
  k_fill
  refine TW.walkTW (l := PySem.Challenge.rw_tipwebs_k10_promises_by_hand) (x := (PySem.Str.ofString "_law_script")) (T := TWL.T) (Q := TWL.Q) (lawIx := 48) (dd := 10) rfl rfl (by decide) (ts := [372, 362, 352]) (fun w h Y => ⟨PySem.W.km_in_of Y, PySem.W.km_tabs_of Y⟩) ?F TWL.law_runs
  case F =>
    intro w mg fa h KX G hmg
    refine' TWL.all_mk KX G hmg ?aM ?aC0 ?aC1 ?aC2 ?aC3 ?aC4 ?aC5 ?aC6 ?aC7 ?aC8 ?aC9 ?aC10 ?aC11 ?a0 ?l0 ?c0 ?k0 ?a1 ?l1 ?c1 ?k1 ?a2 ?l2 ?c2 ?k2 ?a3 ?l3 ?c3 ?k3 ?a4 ?l4 ?c4 ?k4 ?a5 ?l5 ?c5 ?k5 ?a6 ?l6 ?c6 ?k6 ?a7 ?l7 ?c7 ?k7 ?a8 ?l8 ?c8 ?k8 ?a9 ?l9 ?c9 ?k9 ?a10 ?l10 ?c10 ?k10 ?a11 ?l11 ?c11 ?k11 ?a12 ?n12 ?l12 ?c12 ?k12 ?a13 ?n13 ?l13 ?c13 ?k13 ?a14 ?n14 ?l14 ?c14 ?k14 ?a15 ?n15 ?l15 ?c15 ?k15 ?a16 ?l16 ?c16 ?k16 ?a17 ?l17 ?c17 ?k17 ?a18 ?n18 ?l18 ?c18 ?k18 ?a19 ?n19 ?l19 ?c19 ?k19 ?a20 ?n20 ?l20 ?c20 ?k20 ?a21 ?n21 ?l21 ?c21 ?k21 ?a22 ?l22 ?c22 ?k22 ?a23 ?l23 ?c23 ?k23 ?a24 ?l24 ?c24 ?k24 ?a25 ?l25 ?c25 ?k25 ?a26 ?l26 ?c26 ?k26 ?a27 ?l27 ?c27 ?k27 ?a28 ?l28 ?c28 ?k28 ?a29 ?l29 ?c29 ?k29 ?a30 ?l30 ?c30 ?k30 ?a31 ?l31 ?c31 ?k31 ?a32 ?l32 ?c32 ?k32 ?a33 ?l33 ?c33 ?k33 ?a34 ?l34 ?c34 ?k34 ?a35 ?l35 ?c35 ?k35 ?a36 ?l36 ?c36 ?k36 ?a37 ?l37 ?c37 ?k37 ?a38 ?l38 ?c38 ?k38 ?m8 ?q8 ?m9 ?q9 ?m10 ?q10 ?m11 ?q11 ?z0 ?z1 ?z2 ?z3 ?z4 ?z5 ?z6 ?z7 ?z8 ?z9 ?z10 ?z11 ?z12 ?z13 ?z14 ?z15 ?tk ?na ?kf
    (case aM => k_is)
    (case aC0 => k_is)
    (case aC1 => k_is)
    (case aC2 => k_is)
    (case aC3 => k_is)
    (case aC4 => k_is)
    (case aC5 => k_is)
    (case aC6 => k_is)
    (case aC7 => k_is)
    (case aC8 => k_is)
    (case aC9 => k_is)
    (case aC10 => k_is)
    (case aC11 => k_is)
    (case a0 => k_is)
    (case l0 => k_is)
    (case c0 => k_is)
    (case k0 => k_is)
    (case a1 => k_is)
    (case l1 => k_is)
    (case c1 => k_is)
    (case k1 => k_is)
    (case a2 => k_is)
    (case l2 => k_is)
    (case c2 => k_is)
    (case k2 => k_is)
    (case a3 => k_is)
    (case l3 => k_is)
    (case c3 => k_is)
    (case k3 => k_is)
    (case a4 => k_is)
    (case l4 => k_is)
    (case c4 => k_is)
    (case k4 => k_is)
    (case a5 => k_is)
    (case l5 => k_is)
    (case c5 => k_is)
    (case k5 => k_is)
    (case a6 => k_is)
    (case l6 => k_is)
    (case c6 => k_is)
    (case k6 => k_is)
    (case a7 => k_is)
    (case l7 => k_is)
    (case c7 => k_is)
    (case k7 => k_is)
    (case a8 => k_is)
    (case l8 => k_is)
    (case c8 => k_is)
    (case k8 => k_is)
    (case a9 => k_is)
    (case l9 => k_is)
    (case c9 => k_is)
    (case k9 => k_is)
    (case a10 => k_is)
    (case l10 => k_is)
    (case c10 => k_is)
    (case k10 => k_is)
    (case a11 => k_is)
    (case l11 => k_is)
    (case c11 => k_is)
    (case k11 => k_is)
    (case a12 => k_is)
    (case n12 => k_is)
    (case l12 => k_is)
    (case c12 => k_is)
    (case k12 => k_is)
    (case a13 => k_is)
    (case n13 => k_is)
    (case l13 => k_is)
    (case c13 => k_is)
    (case k13 => k_is)
    (case a14 => k_is)
    (case n14 => k_is)
    (case l14 => k_is)
    (case c14 => k_is)
    (case k14 => k_is)
    (case a15 => k_is)
    (case n15 => k_is)
    (case l15 => k_is)
    (case c15 => k_is)
    (case k15 => k_is)
    (case a16 => k_is)
    (case l16 => k_is)
    (case c16 => k_is)
    (case k16 => k_is)
    (case a17 => k_is)
    (case l17 => k_is)
    (case c17 => k_is)
    (case k17 => k_is)
    (case a18 => k_is)
    (case n18 => k_is)
    (case l18 => k_is)
    (case c18 => k_is)
    (case k18 => k_is)
    (case a19 => k_is)
    (case n19 => k_is)
    (case l19 => k_is)
    (case c19 => k_is)
    (case k19 => k_is)
    (case a20 => k_is)
    (case n20 => k_is)
    (case l20 => k_is)
    (case c20 => k_is)
    (case k20 => k_is)
    (case a21 => k_is)
    (case n21 => k_is)
    (case l21 => k_is)
    (case c21 => k_is)
    (case k21 => k_is)
    (case a22 => k_is)
    (case l22 => k_is)
    (case c22 => k_is)
    (case k22 => k_is)
    (case a23 => k_is)
    (case l23 => k_is)
    (case c23 => k_is)
    (case k23 => k_is)
    (case a24 => k_is)
    (case l24 => k_is)
    (case c24 => k_is)
    (case k24 => k_is)
    (case a25 => k_is)
    (case l25 => k_is)
    (case c25 => k_is)
    (case k25 => k_is)
    (case a26 => k_is)
    (case l26 => k_is)
    (case c26 => k_is)
    (case k26 => k_is)
    (case a27 => k_is)
    (case l27 => k_is)
    (case c27 => k_is)
    (case k27 => k_is)
    (case a28 => k_is)
    (case l28 => k_is)
    (case c28 => k_is)
    (case k28 => k_is)
    (case a29 => k_is)
    (case l29 => k_is)
    (case c29 => k_is)
    (case k29 => k_is)
    (case a30 => k_is)
    (case l30 => k_is)
    (case c30 => k_is)
    (case k30 => k_is)
    (case a31 => k_is)
    (case l31 => k_is)
    (case c31 => k_is)
    (case k31 => k_is)
    (case a32 => k_is)
    (case l32 => k_is)
    (case c32 => k_is)
    (case k32 => k_is)
    (case a33 => k_is)
    (case l33 => k_is)
    (case c33 => k_is)
    (case k33 => k_is)
    (case a34 => k_is)
    (case l34 => k_is)
    (case c34 => k_is)
    (case k34 => k_is)
    (case a35 => k_is)
    (case l35 => k_is)
    (case c35 => k_is)
    (case k35 => k_is)
    (case a36 => k_is)
    (case l36 => k_is)
    (case c36 => k_is)
    (case k36 => k_is)
    (case a37 => k_is)
    (case l37 => k_is)
    (case c37 => k_is)
    (case k37 => k_is)
    (case a38 => k_is)
    (case l38 => k_is)
    (case c38 => k_is)
    (case k38 => k_is)
    (case m8 => k_is)
    (case q8 => k_is)
    (case m9 => k_is)
    (case q9 => k_is)
    (case m10 => k_is)
    (case q10 => k_is)
    (case m11 => k_is)
    (case q11 => k_is)
    (case z0 => k_is)
    (case z1 => k_is)
    (case z2 => k_is)
    (case z3 => k_is)
    (case z4 => k_is)
    (case z5 => k_is)
    (case z6 => k_is)
    (case z7 => k_is)
    (case z8 => k_is)
    (case z9 => k_is)
    (case z10 => k_is)
    (case z11 => k_is)
    (case z12 => k_is)
    (case z13 => k_is)
    (case z14 => k_is)
    (case z15 => k_is)
    (case tk => kernel_rfl)
    (case na => unfold TW.NoAt; kernel_rfl)
    (case kf => exact ⟨by kernel_rfl, by kernel_rfl, by kernel_rfl, by kernel_rfl, by kernel_rfl, by kernel_rfl, by kernel_rfl, by kernel_rfl, by k_is, by k_is, by kernel_rfl, by kernel_rfl, by kernel_rfl, by kernel_rfl, by kernel_rfl, by kernel_rfl, by kernel_rfl, by kernel_rfl⟩)
